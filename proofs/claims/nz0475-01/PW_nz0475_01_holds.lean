import PyProof.Rows.All
import Wide.All
import OpenK.AllK
import Wide.FinOn
import Lean
import PySem.Challenge.RW_nz0475_01
set_option Elab.async false
set_option linter.unusedVariables false
set_option linter.unusedSimpArgs false
set_option maxRecDepth 100000
set_option maxHeartbeats 8000000
set_option genInjectivity false
set_option genSizeOf false
noncomputable section
open PySem PySem.W PySem.Calls PyProof.Rows PySem.Spec
namespace Mine

def lk {α : Type} (x : Str) : List (Str × α) → Option α
  | [] => none
  | (y, d) :: r => if x = y then some d else lk x r

/-- the values -/
inductive D where
  | none | bool (b : Bool) | int (i : Int) | pair (a b : D) | nil | cons (a b : D) | row

abbrev M := List (Str × D)
abbrev Q2 := Option (Int × Int)
abbrev rat (n d : Int) : D := .pair (.int n) (.int d)
def ofQ : Q2 → D
  | .none => .none
  | .some p => .pair (.int p.1) (.int p.2)
def lst : List D → D
  | [] => .nil
  | a :: l => .cons a (lst l)

mutual
def Rep (R : Addr) (h : Heap) : D → Value → Prop
  | .none, v => v = .none
  | .bool b, v => v = .bool b
  | .int i, v => ∃ t, v = .int i t
  | .pair a b, v => ∃ A x y, v = .ref A ∧ IsTup h A #[x, y] ∧ Rep R h a x ∧ Rep R h b y
  | .nil, v => ∃ A, v = .ref A ∧ A ≠ R ∧ h.IsList A #[]
  | .cons a b, v => ∃ A x r, v = .ref A ∧ A ≠ R ∧ h.IsList A (x :: r).toArray ∧ Rep R h a x ∧ RepS R h b r
  | .row, v => v = .ref R
def RepS (R : Addr) (h : Heap) : D → List Value → Prop
  | .nil, vs => vs = []
  | .cons a b, vs => ∃ x r, vs = x :: r ∧ Rep R h a x ∧ RepS R h b r
  | _, _ => False
end

def RepAll (R : Addr) (h : Heap) : List Value → List D → Prop
  | [], [] => True
  | v :: vs, d :: ds => Rep R h d v ∧ RepAll R h vs ds
  | _, _ => False

def Tape (R : Addr) (h : Heap) (xs : List Int) : Prop := ∃ vs n, h.get? R = some (listOf vs.toArray n) ∧ IntsAre vs xs

/-- sequences stand -/
def Kp (R : Addr) (h h' : Heap) : Prop := ∀ b o, h.get? b = some o → (∃ vs n, o.data = .seq vs n) → (o.cls = .type "tuple" ∨ b ≠ R) → h'.get? b = some o

section
variable {R : Addr} {h h' : Heap}
theorem Kp.of (k : ∀ b o, h.get? b = some o → h'.get? b = some o) : Kp R h h' := fun b o e _ _ => k b o e
theorem Kp.tup (k : Kp R h h') {a : Addr} {its : Array Value} (t : IsTup h a its) : IsTup h' a its :=
  let ⟨o, ho, hc, n, hd⟩ := t; ⟨o, k a o ho ⟨_, _, hd⟩ (.inl hc), hc, n, hd⟩
theorem Kp.lst (k : Kp R h h') {a : Addr} {its : Array Value} (ne : a ≠ R) (l : h.IsList a its) : h'.IsList a its :=
  let ⟨o, ho, hc, n, hd⟩ := l; ⟨o, k a o ho ⟨_, _, hd⟩ (.inr ne), hc, n, hd⟩
mutual
theorem Kp.rep (k : Kp R h h') : ∀ {d : D} {v : Value}, Rep R h d v → Rep R h' d v
  | .none, _, e => e
  | .bool _, _, e => e
  | .int _, _, e => e
  | .pair _ _, _, ⟨A, x, y, e, t, p, q⟩ => ⟨A, x, y, e, k.tup t, Kp.rep k p, Kp.rep k q⟩
  | .nil, _, ⟨A, e, ne, l⟩ => ⟨A, e, ne, k.lst ne l⟩
  | .cons _ _, _, ⟨A, x, r, e, ne, l, p, q⟩ => ⟨A, x, r, e, ne, k.lst ne l, Kp.rep k p, Kp.repS k q⟩
  | .row, _, e => e
theorem Kp.repS (k : Kp R h h') : ∀ {d : D} {vs : List Value}, RepS R h d vs → RepS R h' d vs
  | .nil, _, e => e
  | .cons _ _, _, ⟨x, r, e, p, q⟩ => ⟨x, r, e, Kp.rep k p, Kp.repS k q⟩
  | .none, _, e => e
  | .bool _, _, e => e
  | .int _, _, e => e
  | .pair _ _, _, e => e
  | .row, _, e => e
end
theorem Kp.repAll (k : Kp R h h') : ∀ {vs ds}, RepAll R h vs ds → RepAll R h' vs ds
  | [], [], _ => trivial
  | _ :: _, _ :: _, ⟨a, b⟩ => ⟨k.rep a, k.repAll b⟩
  | [], _ :: _, x => x
  | _ :: _, [], x => x
theorem RepAll.length : ∀ {vs ds}, RepAll R h vs ds → vs.length = ds.length
  | [], [], _ => rfl
  | _ :: _, _ :: _, ⟨_, b⟩ => congrArg (· + 1) b.length
  | [], _ :: _, x => x.elim
  | _ :: _, [], x => x.elim
theorem RepAll.get : ∀ {vs ds}, RepAll R h vs ds → ∀ {i : Nat} {q : D}, ds[i]? = some q → ∃ v, vs[i]? = some v ∧ Rep R h q v
  | v :: _, _ :: _, ⟨a, _⟩, 0, _, e => ⟨v, rfl, by cases e; exact a⟩
  | _ :: _, _ :: _, ⟨_, b⟩, i + 1, _, e => b.get (i := i) e
  | [], [], _, _, _, e => by cases e
  | [], _ :: _, x, _, _, _ => x.elim
  | _ :: _, [], x, _, _, _ => x.elim
theorem repS_lst : ∀ {l : List D} {vs : List Value}, RepS R h (Mine.lst l) vs ↔ RepAll R h vs l
  | [], [] => ⟨fun _ => trivial, fun _ => rfl⟩
  | [], _ :: _ => ⟨fun e => (nomatch (e : _ :: _ = [])), fun e => False.elim e⟩
  | _ :: _, [] => ⟨fun ⟨_, _, e, _⟩ => (nomatch e), fun e => False.elim e⟩
  | _ :: _, _ :: _ => ⟨fun ⟨_, _, e, p, q⟩ => (by cases e; exact ⟨p, repS_lst.mp q⟩), fun ⟨p, q⟩ => ⟨_, _, rfl, p, repS_lst.mpr q⟩⟩
theorem rep_lst : ∀ {l : List D} {v : Value}, Rep R h (Mine.lst l) v ↔ ∃ A vs, v = .ref A ∧ A ≠ R ∧ h.IsList A vs.toArray ∧ RepAll R h vs l
  | [], v => ⟨fun ⟨A, e, ne, l⟩ => ⟨A, [], e, ne, l, trivial⟩, fun ⟨A, vs, e, ne, l, r⟩ => (by
    cases vs with
    | nil => exact ⟨A, e, ne, l⟩
    | cons _ _ => exact False.elim r)⟩
  | a :: l, v => ⟨fun ⟨A, x, r, e, ne, l, p, q⟩ => ⟨A, x :: r, e, ne, l, p, repS_lst.mp q⟩, fun ⟨A, vs, e, ne, l, r⟩ => (by
    cases vs with
    | nil => exact False.elim r
    | cons x r' => exact ⟨A, x, r', e, ne, l, r.1, repS_lst.mpr r.2⟩)⟩
end

/-- a frame's names over what stood -/
structure Fm (h₀ : Heap) (L : Addr) (h : Heap) (m : Str → Option Value) : Prop where
  ns : h.Ns L m
  keep : ∀ b o, h₀.get? b = some o → h.get? b = some o
section
variable {Md : Model} {A : Around} {E : Value → Shared → Prop} {s : Shared} {name : Str} {scope : Scope} {L a : Addr} {cd : Value} {h₀ : Heap} {m mg mb : Str → Option Value} {x : Str} {pos : Pos} {v : Value} {Q : Value → Shared → Prop}
theorem Fm.ld (F : Fm h₀ L s.heap m) (hv : m x = some v) (h : Q v s) (hk : scope.kind = .function) (hl : (envOf name scope L a cd).kindOf x = some .local) (hd : (x == ("__debug__" : Str)) = false) :
    wpAny Md A (eval (.Name x pos) (envOf name scope L a cd)) Q E s := wpAny_Name (wpAny_loadName_local hk hl F.ns hv h) hd
theorem Fm.glob (F : Fm h₀ L s.heap m) (hg : h₀.Ns mainGlobals mg) (hb : mg x = some v) (h : Q v s) (hk : scope.kind = .function) (hx : (envOf name scope L a cd).kindOf x = some .globalImplicit) (hd : (x == ("__debug__" : Str)) = false) :
    wpAny Md A (eval (.Name x pos) (envOf name scope L a cd)) Q E s :=
  Calls.Name_function_global hk hx (Calls.loadGlobal_global (env := envOf name scope L a cd) (hg.keeps F.keep) hb h) hd
theorem Fm.blt (F : Fm h₀ L s.heap m) (hg : h₀.Ns mainGlobals mg) (hmiss : mg x = none) (hb : h₀.Ns builtinsNs mb) (hv : mb x = some v) (h : Q v s) (hk : scope.kind = .function) (hx : (envOf name scope L a cd).kindOf x = some .globalImplicit) (hd : (x == ("__debug__" : Str)) = false) :
    wpAny Md A (eval (.Name x pos) (envOf name scope L a cd)) Q E s :=
  Calls.Name_function_global hk hx (Calls.loadGlobal_builtin (env := envOf name scope L a cd) (hg.keeps F.keep) hmiss (hb.keeps F.keep) hv h) hd
end

/-- the ground: the text's run -/
structure Gx where
  prog : Program
  w : World
  K : Frag
  b0 : Heap
  R : Addr
  mg : Str → Option Value
  mb : Str → Option Value
  inK : K.In b0
  g : b0.Ns mainGlobals mg
  b : b0.Ns builtinsNs mb
  bt : ∀ x : Str, x ≠ "__name__" → mb x = bootBuiltins x
  lim : b0.NoLimit
  r0 : b0.get? R = none

/-- the frame -/
structure Cx (G : Gx) where
  L : Addr
  A : Around
  k : Nat
  qual : Str
  scope : Scope
  fa : Addr
  cd : Value
  hh : A.handled = none
  dep : A.depth + k < recursionLimit
  un : A.units + 10 * k + 100 < cLine
  rl : G.R ≠ L
  l0 : G.b0.get? L = none
  fk : scope.kind = .function

def Cx.env {G : Gx} (C : Cx G) : Env := envOf C.qual C.scope C.L C.fa C.cd
theorem Cx.un64 {G : Gx} (C : Cx G) : C.A.units + 64 < cLine := Nat.lt_of_le_of_lt (Nat.le_trans (Nat.add_le_add_right (Nat.le_add_right _ _) 64) (Nat.add_le_add_left (by decide) _)) C.un

def Ch (R L : Addr) (s s' : Shared) : Prop := (∃ h tk, s' = { s with heap := h, toks := tk }) ∧ ∀ b o, s.heap.get? b = some o → b ≠ R → b ≠ L → s'.heap.get? b = some o

theorem Ch.refl {R L : Addr} {s : Shared} : Ch R L s s := ⟨⟨s.heap, s.toks, rfl⟩, fun _ _ e _ _ => e⟩
theorem Ch.trans {R L : Addr} {s s' s'' : Shared} (x : Ch R L s s') (y : Ch R L s' s'') : Ch R L s s'' := by
  obtain ⟨⟨h, tk, rfl⟩, a⟩ := x
  obtain ⟨⟨h', tk', rfl⟩, b⟩ := y
  exact ⟨⟨h', tk', rfl⟩, fun c o e p q => b c o (a c o e p q) p q⟩
theorem Ch.of {R L : Addr} {s : Shared} {h : Heap} {tk : Nat} (k : ∀ b o, s.heap.get? b = some o → h.get? b = some o) : Ch R L s { s with heap := h, toks := tk } := ⟨⟨h, tk, rfl⟩, fun b o e _ _ => k b o e⟩
theorem Ch.toks {R L : Addr} {s : Shared} {tk : Nat} : Ch R L s { s with toks := tk } := ⟨⟨s.heap, tk, rfl⟩, fun _ _ e _ _ => e⟩
theorem Ch.weak {R L : Addr} {s s' : Shared} (x : Ch R R s s') : Ch R L s s' := ⟨x.1, fun b o e p _ => x.2 b o e p p⟩

/-- a name of the frame -/
def Loc {G : Gx} (C : Cx G) (x : Str) : Prop := C.scope.names.lookup x = some .local ∧ (x == ("__debug__" : Str)) = false

structure St {G : Gx} (C : Cx G) (m : M) (xs : List Int) (s : Shared) : Prop where
  fr : ∃ mv, Fm G.b0 C.L s.heap mv ∧ ∀ x d, lk x m = some d → Loc C x ∧ ∃ v, mv x = some v ∧ Rep G.R s.heap d v
  tape : Tape G.R s.heap xs

theorem push_keep {h : Heap} {o : Obj} : ∀ b x, h.get? b = some x → (h.push o).get? b = some x := fun _ _ e => Heap.get?_push_of_some _ e
theorem Tape.lt {R : Addr} {h : Heap} {xs : List Int} (t : Tape R h xs) : R < h.objs.size := let ⟨_, _, a, _⟩ := t; Heap.lt_size a
theorem Tape.keeps {R : Addr} {h h' : Heap} {xs : List Int} (k : ∀ b o, h.get? b = some o → h'.get? b = some o) (t : Tape R h xs) : Tape R h' xs :=
  let ⟨vs, n, a, b⟩ := t; ⟨vs, n, k _ _ a, b⟩
theorem get_size {h : Heap} : h.get? h.objs.size = none := by
  cases e : h.get? h.objs.size with
  | none => rfl
  | some o => exact absurd (Heap.lt_size e) (Nat.lt_irrefl _)

section
variable {G : Gx} {C : Cx G} {m : M} {xs xs' : List Int} {s s' : Shared}
theorem b0_size (hb : ∀ b o, G.b0.get? b = some o → s.heap.get? b = some o) : G.b0.get? s.heap.objs.size = none := by
  cases e : G.b0.get? s.heap.objs.size with
  | none => rfl
  | some o => exact absurd (Heap.lt_size (hb _ _ e)) (Nat.lt_irrefl _)
theorem St.base (x : St C m xs s) : ∀ b o, G.b0.get? b = some o → s.heap.get? b = some o := let ⟨_, F, _⟩ := x.fr; F.keep
theorem St.ltL (x : St C m xs s) : C.L < s.heap.objs.size := let ⟨_, F, _⟩ := x.fr; F.ns.lt
theorem St.seqNe (x : St C m xs s) {b : Addr} {o : Obj} (e : s.heap.get? b = some o) (hs : ∃ vs n, o.data = .seq vs n) (hc : o.cls = .type "tuple" ∨ b ≠ G.R) : b ≠ G.R ∧ b ≠ C.L := by
  obtain ⟨mv, F, _⟩ := x.fr
  obtain ⟨vs, n, hR, _⟩ := x.tape
  obtain ⟨o1, es, ep, hL, hd, _⟩ := F.ns
  obtain ⟨ws, k, hs⟩ := hs
  refine ⟨?_, ?_⟩
  · rcases hc with hc | hc
    · intro q; subst q
      rw [hR] at e; cases e
      exact absurd hc (by simp)
    · exact hc
  · intro q; subst q
    rw [hL] at e; cases e
    rw [hd] at hs; cases hs
theorem St.kp (x : St C m xs s) (c : Ch G.R C.L s s') : Kp G.R s.heap s'.heap := fun b o e hs hc => c.2 b o e (x.seqNe e hs hc).1 (x.seqNe e hs hc).2
theorem St.rep (x : St C m xs s) (c : Ch G.R C.L s s') {v : Value} {d : D} (r : Rep G.R s.heap d v) : Rep G.R s'.heap d v := (x.kp c).rep r
/-- the frame stands, sequences stand -/
theorem St.by (x : St C m xs s) (kp : Kp G.R s.heap s'.heap) (hb : ∀ b o, G.b0.get? b = some o → s'.heap.get? b = some o) (hL : ∀ o, s.heap.get? C.L = some o → s'.heap.get? C.L = some o) (t : Tape G.R s'.heap xs') : St C m xs' s' := by
  obtain ⟨mv, F, hm⟩ := x.fr
  obtain ⟨o1, es, ep, h1, r⟩ := F.ns
  exact ⟨⟨mv, ⟨⟨o1, es, ep, hL _ h1, r⟩, hb⟩, fun y d e => let ⟨hl, v, hv, rv⟩ := hm y d e; ⟨hl, v, hv, kp.rep rv⟩⟩, t⟩
theorem St.keep {h : Heap} {tk : Nat} (x : St C m xs s) (k : ∀ b o, s.heap.get? b = some o → h.get? b = some o) : St C m xs { s with heap := h, toks := tk } :=
  x.by (Kp.of k) (fun b o e => k b o (x.base b o e)) (fun o e => k _ o e) (x.tape.keeps k)
theorem St.toks {tk : Nat} (x : St C m xs s) : St C m xs { s with toks := tk } := x.keep fun _ _ e => e
theorem St.grown (x : St C m xs s) (c : Ch G.R G.R s s') (t : Tape G.R s'.heap xs') : St C m xs' s' :=
  x.by (x.kp c.weak) (fun b o e => c.2 b o (x.base b o e) (fun q => by rw [q, G.r0] at e; cases e) (fun q => by rw [q, G.r0] at e; cases e)) (fun o e => c.2 _ o e C.rl.symm C.rl.symm) t
/-- an iterator's own change -/
theorem St.ext {I : Addr} {h' : Heap} {tk : Nat} (x : St C m xs s) (he : Heap.ExtBut I s.heap h') (hL : I ≠ C.L) (hR : I ≠ G.R) (h0 : G.b0.get? I = none) (hI : ∀ o, s.heap.get? I = some o → ∀ vs n, o.data ≠ .seq vs n) : St C m xs { s with heap := h', toks := tk } :=
  x.by (fun b o e hs hc => he b o (fun q => by subst q; obtain ⟨ws, k, hd⟩ := hs; exact hI o e ws k hd) e) (fun b o e => he b o (fun q => by rw [q, h0] at e; cases e) (x.base b o e))
    (fun o e => he _ o (Ne.symm hL) e) (let ⟨vs, n, hRR, hi⟩ := x.tape; ⟨vs, n, he _ _ (Ne.symm hR) hRR, hi⟩)

theorem store_ok {x : Str} {v : Value} {d : D} {E : Value → Shared → Prop} {P : Unit → Shared → Prop} (hl : Loc C x) (st : St C m xs s) (rv : Rep G.R s.heap d v) (h : ∀ s', St C ((x, d) :: m) xs s' → Ch G.R C.L s s' → P () s') :
    wpAny (model G.prog G.w) C.A (storeName C.env x v) P E s := by
  obtain ⟨mv, F, hm⟩ := id st.fr
  refine wpAny_storeName_local hl.1 F.ns (fun h' hn hs => ?_) (by show (C.scope.kind == .class || (C.scope.kind == .module && C.L != mainGlobals)) = false; rw [C.fk]; rfl)
  have c : Ch G.R C.L s { s with heap := h', toks := s.toks + 1 } := ⟨⟨h', _, rfl⟩, fun b o e _ hb => hs.extBut b o hb e⟩
  refine h _ ⟨⟨_, ⟨hn, fun b o e => hs.extBut b o (fun (q : b = C.L) => by rw [q, C.l0] at e; cases e) (F.keep b o e)⟩, fun y e he => ?_⟩, let ⟨vs, n, hR, hi⟩ := st.tape; ⟨vs, n, (hs.2 _ C.rl).trans hR, hi⟩⟩ c
  unfold lk at he
  split at he
  · rename_i hy
    cases he
    exact ⟨hy ▸ hl, v, if_pos hy, st.rep c rv⟩
  · rename_i hy
    obtain ⟨h1, u, hu, ru⟩ := hm y e he
    exact ⟨h1, u, (if_neg hy).trans hu, st.rep c ru⟩
end

/- the triples -/
def Res {G : Gx} (C : Cx G) (m : M) (s : Shared) (K : D → List Int → Prop) (v : Value) (s' : Shared) : Prop := ∃ d xs', Rep G.R s'.heap d v ∧ St C m xs' s' ∧ Ch G.R C.L s s' ∧ K d xs'
def EV {G : Gx} (C : Cx G) (e : Expr) (m : M) (xs : List Int) (K : D → List Int → Prop) : Prop :=
  ∀ s, St C m xs s → wpAny (model G.prog G.w) C.A (eval e C.env) (Res C m s K) (fun _ _ => False) s
def ResB {G : Gx} (C : Cx G) (m : M) (s : Shared) (K : Bool → List Int → Prop) (b : Bool) (s' : Shared) : Prop := ∃ xs', St C m xs' s' ∧ Ch G.R C.L s s' ∧ K b xs'
def TR {G : Gx} (C : Cx G) (e : Expr) (m : M) (xs : List Int) (K : Bool → List Int → Prop) : Prop :=
  ∀ s, St C m xs s → wpAny (model G.prog G.w) C.A (isTrue e C.env (eval e C.env)) (ResB C m s K) (fun _ _ => False) s
inductive Fl where
  | next | ret (d : D)
def RepF (R : Addr) (h : Heap) (f : Flow) : Fl → Prop
  | .next => f = .next
  | .ret d => ∃ v, f = .ret v ∧ Rep R h d v
def ResF {G : Gx} (C : Cx G) (s : Shared) (Q : Fl → M → List Int → Prop) (f : Flow) (s' : Shared) : Prop := ∃ fl m' xs', RepF G.R s'.heap f fl ∧ St C m' xs' s' ∧ Ch G.R C.L s s' ∧ Q fl m' xs'
def EX {G : Gx} (C : Cx G) (b : List Stmt) (m : M) (xs : List Int) (Q : Fl → M → List Int → Prop) : Prop :=
  ∀ s, St C m xs s → wpAny (model G.prog G.w) C.A (execs b C.env) (ResF C s Q) (fun _ _ => False) s
def ResS {G : Gx} (C : Cx G) (m : M) (s : Shared) (K : List D → List Int → Prop) (vs : List Value) (s' : Shared) : Prop := ∃ ds xs', RepAll G.R s'.heap vs ds ∧ St C m xs' s' ∧ Ch G.R C.L s s' ∧ K ds xs'
def EVS {G : Gx} (C : Cx G) (es : List Expr) (m : M) (xs : List Int) (K : List D → List Int → Prop) : Prop :=
  ∀ pos s, St C m xs s → wpAny (model G.prog G.w) C.A (spliced (backTo pos (starEach es C.env))) (ResS C m s K) (fun _ _ => False) s
def Fn (G : Gx) (f : Addr) (k : Nat) (ds : List D) (xs : List Int) (r : D) (xs' : List Int) : Prop :=
  ∀ (A : Around) (s : Shared) (vs : List Value), A.handled = none → A.depth + k < recursionLimit → A.units + 10 * k + 100 < cLine →
    (∀ b o, G.b0.get? b = some o → s.heap.get? b = some o) → Tape G.R s.heap xs → RepAll G.R s.heap vs ds →
    wpAny (model G.prog G.w) A (call (.ref f) vs) (fun v s' => Rep G.R s'.heap r v ∧ Tape G.R s'.heap xs' ∧ Ch G.R G.R s s') (fun _ _ => False) s

section
variable {G : Gx} {C : Cx G} {m : M} {xs : List Int} {s s' s'' : Shared}
section
variable {K : D → List Int → Prop}
theorem Res.mk (d : D) {v : Value} {xs' : List Int} (r : Rep G.R s'.heap d v) (st : St C m xs' s') (c : Ch G.R C.L s s') (k : K d xs') : Res C m s K v s' := ⟨d, xs', r, st, c, k⟩
theorem Res.inc {i : Int} {t tk : Tok} {xs' : List Int} (st : St C m xs' s') (c : Ch G.R C.L s s') (k : K (.int i) xs') : Res C m s K (.int i t) { s' with toks := tk } := ⟨.int i, xs', ⟨t, rfl⟩, st.toks, c.trans Ch.toks, k⟩
theorem Res.on {v : Value} (c : Ch G.R C.L s s') (r : Res C m s' K v s'') : Res C m s K v s'' := let ⟨d, xs', a, b, e, k⟩ := r; ⟨d, xs', a, b, c.trans e, k⟩
end
theorem ResB.on {K : Bool → List Int → Prop} {b : Bool} (c : Ch G.R C.L s s') (r : ResB C m s' K b s'') : ResB C m s K b s'' := let ⟨xs', a, e, k⟩ := r; ⟨xs', a, c.trans e, k⟩
theorem ResF.on {Q : Fl → M → List Int → Prop} {f : Flow} (c : Ch G.R C.L s s') (r : ResF C s' Q f s'') : ResF C s Q f s'' := let ⟨fl, m', xs', a, b, e, k⟩ := r; ⟨fl, m', xs', a, b, c.trans e, k⟩
end

/-- small enough for the model's own bounds -/
def Sm (a : Int) : Prop := a.natAbs < 2 ^ 4000
theorem Sm.log2 {a : Int} (h : Sm a) : a.natAbs.log2 < 4000 := by
  unfold Sm at h
  by_cases h0 : a.natAbs = 0
  · rw [h0, Nat.log2_zero]; exact Nat.zero_lt_succ _
  · exact (Nat.log2_lt h0).mpr h
theorem Sm.bits {a : Int} (h : Sm a) : Builtin.Int.intBits a ≤ 4000 := by
  unfold Builtin.Int.intBits
  split
  · exact Nat.zero_le _
  · exact h.log2
theorem Sm.div {a b : Int} (h : Sm b) : Builtin.divisionGoesByPylong a b = false := PyProof.noPylong_of_log2 (Nat.lt_trans h.log2 (by decide))
theorem Sm.mul {a b : Int} (h : Sm a) (k : Sm b) : IntMulOk a b := .of_bits (Nat.le_trans h.bits (by decide)) (Nat.le_trans k.bits (by decide))
theorem Sm.pow {a n : Int} (h : Sm a) (h0 : 0 ≤ n) (hn : n ≤ 1000) : (Builtin.Int.intBits a : Int) * n ≤ 2 ^ 27 :=
  Int.le_trans (Int.mul_le_mul (Int.ofNat_le.mpr h.bits) hn h0 (by decide)) (by decide)

/- the words of the conditions -/
abbrev IfK (b : Bool) (P Q : Prop) : Prop := match b with
  | true => P
  | false => Q
theorem ifB {b : Bool} {P Q : Prop} (h : b = true → P) (k : b = false → Q) : IfK b P Q := by
  cases b with
  | true => exact h rfl
  | false => exact k rfl
theorem ifD {p : Prop} {i : Decidable p} {P Q : Prop} (h : p → P) (k : ¬p → Q) : IfK (decide p) P Q := ifB (fun e => h (of_decide_eq_true e)) fun e => k (of_decide_eq_false e)
theorem ifDT {p : Prop} {i : Decidable p} {P Q : Prop} (hp : p) (h : P) : IfK (decide p) P Q := ifD (fun _ => h) fun n => absurd hp n
theorem ifDF {p : Prop} {i : Decidable p} {P Q : Prop} (hp : ¬p) (h : Q) : IfK (decide p) P Q := ifD (fun n => absurd n hp) fun _ => h
theorem ifN {p : Prop} {i : Decidable p} {P Q : Prop} (h : p → Q) (k : ¬p → P) : IfK (!decide p) P Q := ifB (fun e => k (of_decide_eq_false (by simpa using e))) fun e => h (of_decide_eq_true (by simpa using e))
theorem ifNT {p : Prop} {i : Decidable p} {P Q : Prop} (hp : ¬p) (h : P) : IfK (!decide p) P Q := ifN (fun n => absurd n hp) fun _ => h
theorem ifNF {p : Prop} {i : Decidable p} {P Q : Prop} (hp : p) (h : Q) : IfK (!decide p) P Q := ifN (fun _ => h) fun n => absurd hp n
theorem IfK.imp {b : Bool} {P Q P' Q' : Prop} (h : IfK b P Q) (p : P → P') (q : Q → Q') : IfK b P' Q' := by
  cases b with
  | true => exact p h
  | false => exact q h

def AsI (K : Int → Prop) : D → Prop
  | .int i => K i
  | _ => False
theorem AsI.inv {K : Int → Prop} : ∀ {d : D}, AsI K d → ∃ i, d = .int i ∧ K i
  | .int i, h => ⟨i, rfl, h⟩
def AsB (K : Bool → Prop) : D → Prop
  | .bool b => K b
  | _ => False
theorem AsB.inv {K : Bool → Prop} : ∀ {d : D}, AsB K d → ∃ i, d = .bool i ∧ K i
  | .bool i, h => ⟨i, rfl, h⟩

def BinK : Operator → Int → Int → (Int → Prop) → Prop
  | .Add, a, b, K => K (a + b)
  | .Sub, a, b, K => K (a - b)
  | .Mult, a, b, K => (Sm a ∧ Sm b) ∧ K (a * b)
  | .FloorDiv, a, b, K => (b ≠ 0 ∧ Sm b) ∧ K (a.fdiv b)
  | .Mod, a, b, K => b ≠ 0 ∧ K (a.fmod b)
  | .Pow, a, b, K => (0 ≤ b ∧ b ≤ 1000 ∧ Sm a) ∧ K (a ^ b.toNat)
  | _, _, _, _ => False

def toPy : D → PyData
  | .bool b => .bool b
  | .int i => .int i
  | .pair a b => .tuple [toPy a, toPy b]
  | _ => .none
/-- none, bool, int, a pair of ints -/
inductive Plain : D → Prop
  | none : Plain .none
  | bool (b : Bool) : Plain (.bool b)
  | int (i : Int) : Plain (.int i)
  | pair (a b : Int) : Plain (.pair (.int a) (.int b))
def PlainK (P : Prop) : D → Prop
  | .none => P
  | .bool _ => P
  | .int _ => P
  | .pair (.int _) (.int _) => P
  | _ => False
theorem PlainK.inv {P : Prop} {d : D} (h : PlainK P d) : Plain d ∧ P := by
  cases d with
  | pair a b =>
    cases a with
    | int a => cases b with
      | int b => exact ⟨.pair a b, h⟩
      | _ => exact h.elim
    | _ => exact h.elim
  | none => exact ⟨.none, h⟩
  | bool b => exact ⟨.bool b, h⟩
  | int i => exact ⟨.int i, h⟩
  | _ => exact h.elim
theorem plainQ {P : Prop} {x : Q2} (h : P) : PlainK P (ofQ x) := by cases x <;> exact h
def eqN (K : Bool → Prop) : D → Prop
  | .none => K true
  | .int _ => K false
  | .pair (.int _) (.int _) => K false
  | _ => False
def eqI (K : Bool → Prop) (a : Int) : D → Prop
  | .none => K false
  | .int b => K (decide (a = b))
  | _ => False
def eqB (K : Bool → Prop) (a : Bool) : D → Prop
  | .bool b => K (a == b)
  | _ => False
def eqP (K : Bool → Prop) (a b : Int) : D → Prop
  | .none => K false
  | .pair (.int c) (.int d) => K (decide (a = c ∧ b = d))
  | _ => False
/-- == -/
def eqK (K : Bool → Prop) (e : D) : D → Prop
  | .none => eqN K e
  | .int a => eqI K a e
  | .bool a => eqB K a e
  | .pair (.int a) (.int b) => eqP K a b e
  | _ => False
theorem eqK_inv {K : Bool → Prop} {d e : D} (h : eqK K e d) : Plain d ∧ Plain e ∧ K (PyData.eqv (toPy d) (toPy e)) := by
  unfold eqK at h
  split at h
  · unfold eqN at h
    split at h
    · exact ⟨.none, .none, h⟩
    · exact ⟨.none, .int _, h⟩
    · exact ⟨.none, .pair _ _, h⟩
    · exact h.elim
  · unfold eqI at h
    split at h
    · exact ⟨.int _, .none, h⟩
    · exact ⟨.int _, .int _, h⟩
    · exact h.elim
  · unfold eqB at h
    split at h
    · exact ⟨.bool _, .bool _, h⟩
    · exact h.elim
  · unfold eqP at h
    split at h
    · exact ⟨.pair _ _, .none, h⟩
    · rename_i a b _ c d
      refine ⟨.pair _ _, .pair _ _, ?_⟩
      have e : PyData.eqv (toPy (rat a b)) (toPy (rat c d)) = decide (a = c ∧ b = d) := by
        show (a == c && (b == d && true)) = _
        simp; rfl
      show K (PyData.eqv (toPy (rat a b)) (toPy (rat c d)))
      rw [e]; exact h
    · exact h.elim
  · exact h.elim
/-- a value is what it is -/
theorem eqSelf {K : Bool → Prop} {d : D} (p : Plain d) (h : K true) : eqK K d d := by
  cases p with
  | none => exact h
  | bool b => show K (b == b); rw [beq_self_eq_true]; exact h
  | int i => show K (decide (i = i)); rw [decide_eq_true rfl]; exact h
  | pair a b => show K (decide (a = a ∧ b = b)); rw [decide_eq_true ⟨rfl, rfl⟩]; exact h
def isN : D → Bool
  | .none => true
  | _ => false
def CmpK : CmpOp → D → D → (Bool → Prop) → Prop
  | .Eq, d, e, K => eqK K e d
  | .NotEq, d, e, K => eqK (fun b => K (!b)) e d
  | .Lt, d, e, K => AsI (fun a => AsI (fun b => K (decide (a < b))) e) d
  | .Gt, d, e, K => AsI (fun a => AsI (fun b => K (decide (b < a))) e) d
  | .LtE, d, e, K => AsI (fun a => AsI (fun b => K (decide (a ≤ b))) e) d
  | .GtE, d, e, K => AsI (fun a => AsI (fun b => K (decide (b ≤ a))) e) d
  | .Is, d, .none, K => PlainK (K (isN d)) d
  | .IsNot, d, .none, K => PlainK (K (!isN d)) d
  | _, _, _, _ => False
def OpK (op : CmpOp) (P : Prop) : Prop := match op with
  | .In => False
  | .NotIn => False
  | _ => P
def nth : Nat → D → (D → Prop) → Prop
  | 0, .cons a _, K => K a
  | n + 1, .cons _ b, K => nth n b K
  | _, _, _ => False
def lastK : D → (D → Prop) → Prop
  | .cons a .nil, K => K a
  | .cons _ b, K => lastK b K
  | _, _ => False
def SubK : D → D → (D → Prop) → Prop
  | .pair a _, .int 0, K => K a
  | .pair _ b, .int 1, K => K b
  | .cons a b, .int (.ofNat j), K => j < 1000 ∧ nth j (.cons a b) K
  | .cons a b, .int (-1), K => lastK (.cons a b) K
  | _, _, _ => False
def PairK (K : D → D → Prop) : D → Prop
  | .pair a b => K a b
  | _ => False
theorem PairK.inv {K : D → D → Prop} : ∀ {d : D}, PairK K d → ∃ a b, d = .pair a b ∧ K a b
  | .pair a b, h => ⟨a, b, rfl, h⟩
def seqK {G : Gx} (C : Cx G) (P : M → List Int → Prop) (Q : Fl → M → List Int → Prop) : Fl → M → List Int → Prop
  | .next, m, xs => P m xs
  | .ret d, m, xs => Q (.ret d) m xs

/-- what a name that is no letter of the frame stands for -/
inductive GV where
  | fn (f : Addr) | cst (d : D) | abs | rng | loc
inductive CallK {G : Gx} (C : Cx G) (f : Addr) (ds : List D) (xs : List Int) (K : D → List Int → Prop) : Prop
  | mk (k : Nat) (r : D) (xs' : List Int) (hk : k ≤ C.k) (h : Fn G f k ds xs r xs') (q : K r xs')
theorem callK {G : Gx} {C : Cx G} {f : Addr} {ds : List D} {xs : List Int} {K : D → List Int → Prop} {k : Nat} {r : D} {xs' : List Int} (h : Fn G f k ds xs r xs') (hk : k ≤ C.k) (q : K r xs') : CallK C f ds xs K := ⟨k, r, xs', hk, h, q⟩
/-- names of a scope -/
def gv (sc : Scope) (U : List (Str × GV)) (x : Str) : Option GV := if (x == ("__debug__" : Str)) = true then none else match sc.names.lookup x with
  | some .local => some .loc
  | some .globalImplicit => lk x U
  | _ => none
def LocK (t : Option GV) (P : Prop) : Prop := match t with
  | some .loc => P
  | _ => False
def StarK (e : Expr) (P : Prop) : Prop := match e with
  | .Starred .. => False
  | _ => P
def SliceK (e : Expr) (P : Prop) : Prop := match e with
  | .Slice .. => False
  | _ => P
/-- fewer names -/
def SubM : M → M → Prop
  | [], _ => True
  | (x, d) :: r, m => lk x m = some d ∧ SubM r m
theorem SubM.look : ∀ {m' m : M} {x : Str} {d : D}, SubM m' m → lk x m' = some d → lk x m = some d
  | (y, e) :: r, m, x, d, h, q => by
    unfold lk at q
    split at q
    · rename_i e1; rw [e1, ← q]; exact h.1
    · exact h.2.look q
end Mine
end
noncomputable section
open PySem PySem.W PySem.Calls PyProof.Rows PySem.Spec
namespace Mine

/-- the globals -/
def GU (G : Gx) (x : Str) : GV → Prop
  | .fn f => G.mg x = some (.ref f) ∧ keepIn G.K (.ref f) = true
  | .cst d => ∃ v, G.mg x = some v ∧ Rep G.R G.b0 d v
  | .abs => G.mg x = none ∧ bootBuiltins x = some (.builtin "abs") ∧ x ≠ "__name__"
  | .rng => G.mg x = none ∧ bootBuiltins x = some (.type "range") ∧ x ≠ "__name__"
  | .loc => False
def UOk (G : Gx) (U : List (Str × GV)) : Prop := ∀ x g, lk x U = some g → GU G x g
theorem UOk.nil {G : Gx} : UOk G [] := fun _ _ e => nomatch e
theorem UOk.cons {G : Gx} {y : Str} {g : GV} {U : List (Str × GV)} (h : GU G y g) (k : UOk G U) : UOk G ((y, g) :: U) := fun x g' e => by
  unfold lk at e
  split at e
  · rename_i q; cases e; rw [q]; exact h
  · exact k x g' e
def GOk {G : Gx} (C : Cx G) (x : Str) (g : GV) : Prop := (C.scope.names.lookup x = some .globalImplicit ∧ (x == ("__debug__" : Str)) = false) ∧ GU G x g
theorem gv_ok {G : Gx} {C : Cx G} {sc : Scope} {U : List (Str × GV)} (hs : C.scope = sc) (ok : UOk G U) {x : Str} {g : GV} (h : gv sc U x = some g) : Loc C x ∧ g = .loc ∨ GOk C x g := by
  subst hs
  unfold gv at h
  split at h
  · cases h
  · rename_i hd
    have hd : (x == ("__debug__" : Str)) = false := by simpa using hd
    split at h
    · rename_i e; cases h; exact .inl ⟨⟨e, hd⟩, rfl⟩
    · rename_i e; exact .inr ⟨⟨e, hd⟩, ok x g h⟩
    · cases h
theorem LocK.inv {G : Gx} {C : Cx G} {sc : Scope} {U : List (Str × GV)} (hs : C.scope = sc) (ok : UOk G U) {x : Str} {P : Prop} (h : LocK (gv sc U x) P) : Loc C x ∧ P := by
  unfold LocK at h
  split at h
  · rename_i e
    rcases gv_ok hs ok e with q | q
    · exact ⟨q.1, h⟩
    · exact q.2.elim
  · exact h.elim

def NotStar : Expr → Prop
  | .Starred .. => False
  | _ => True
theorem starEach_cons {e : Expr} {rest : List Expr} {env : Env} (h : NotStar e) : starEach (e :: rest) env = (false, eval e env) :: starEach rest env := by
  cases e <;> first | rfl | exact h.elim

section
variable {G : Gx} {C : Cx G} {m : M} {xs : List Int}

section
variable {s : Shared} {v u : Value} {d e : D}
theorem reads_rep {R : Addr} {h : Heap} {d : D} {v : Value} (p : Plain d) (r : Rep R h d v) : ∃ as, Reads h v (toPy d) as := by
  cases p with
  | none => obtain rfl : _ = Value.none := r; exact ⟨_, Reads.none⟩
  | bool b => obtain rfl : _ = Value.bool b := r; exact ⟨_, Reads.bool b⟩
  | int i => obtain ⟨t, rfl⟩ := r; exact ⟨_, Reads.int i t⟩
  | pair a b =>
    obtain ⟨A, x, y, rfl, ⟨o, ho, hc, k, hd⟩, ⟨t, rfl⟩, u, rfl⟩ := r
    exact ⟨_, reads_tuple_at ho hc hd (.cons (.int a t) (.cons (.int b u) .nil))⟩
theorem shaped_rep {d : D} (p : Plain d) : PySem.SeqAt.shaped (toPy d) = true := by
  cases p with
  | bool b => cases b <;> rfl
  | _ => rfl
theorem rep_isN {R : Addr} {h : Heap} {v : Value} {d : D} (p : Plain d) (r : Rep R h d v) : (v == .none) = isN d := by
  cases p with
  | none => rw [show v = .none from r]; rfl
  | bool b => rw [show v = .bool b from r]; rfl
  | int i => obtain ⟨t, rfl⟩ := r; rfl
  | pair a b => obtain ⟨A, x, y, rfl, _⟩ := r; rfl

theorem ints_of {K : Int → Int → Prop} {R : Addr} {h : Heap} (rv : Rep R h d v) (ru : Rep R h e u) (k : AsI (fun a => AsI (fun b => K a b) e) d) : ∃ a b t w, v = .int a t ∧ u = .int b w ∧ K a b := by
  obtain ⟨a, rfl, k1⟩ := k.inv
  obtain ⟨b, rfl, k2⟩ := k1.inv
  obtain ⟨t, rfl⟩ := rv
  obtain ⟨w, rfl⟩ := ru
  exact ⟨a, b, t, w, rfl, rfl, k2⟩

theorem cmp_ok {op : CmpOp} {Q : Value → Shared → Prop} {P : Bool → Prop} (rv : Rep G.R s.heap d v) (ru : Rep G.R s.heap e u) (k : CmpK op d e P) (h : ∀ b, P b → Q (.bool b) s) :
    wpAny (model G.prog G.w) C.A (compareOp op v u) Q (fun _ _ => False) s := by
  cases op with
  | Eq =>
    obtain ⟨p, q, k⟩ := eqK_inv k
    obtain ⟨_, ra⟩ := reads_rep p rv
    obtain ⟨_, rb⟩ := reads_rep q ru
    exact eq_dataH ra rb (shaped_rep p) (shaped_rep q) C.un64 (h _ k)
  | NotEq =>
    obtain ⟨p, q, k⟩ := eqK_inv k
    obtain ⟨_, ra⟩ := reads_rep p rv
    obtain ⟨_, rb⟩ := reads_rep q ru
    exact ne_dataH ra rb (shaped_rep p) (shaped_rep q) C.un64 (h _ k)
  | Lt => obtain ⟨a, b, t, w, rfl, rfl, k⟩ := ints_of rv ru k; exact PySem.P.lt_int (h _ k)
  | LtE => obtain ⟨a, b, t, w, rfl, rfl, k⟩ := ints_of rv ru k; exact PySem.P.le_int (h _ k)
  | Gt => obtain ⟨a, b, t, w, rfl, rfl, k⟩ := ints_of rv ru k; exact PySem.P.gt_int (h _ k)
  | GtE => obtain ⟨a, b, t, w, rfl, rfl, k⟩ := ints_of rv ru k; exact PySem.P.ge_int (h _ k)
  | Is =>
    cases e <;> try exact False.elim k
    obtain ⟨p, k⟩ := PlainK.inv k
    obtain rfl := ru
    exact is_none_gen (by rw [rep_isN p rv]; exact h _ k)
  | IsNot =>
    cases e <;> try exact False.elim k
    obtain ⟨p, k⟩ := PlainK.inv k
    obtain rfl := ru
    exact isnot_none_gen (by rw [rep_isN p rv]; exact h _ k)
  | In => exact False.elim k
  | NotIn => exact False.elim k

theorem nth_get {K : D → Prop} {R : Addr} {h : Heap} : ∀ {n : Nat} {d : D} {vs : List Value}, nth n d K → RepS R h d vs → ∃ v r, vs[n]? = some v ∧ K r ∧ Rep R h r v
  | 0, .cons a b, _, k, ⟨x, r, e, p, q⟩ => ⟨x, a, by rw [e]; rfl, k, p⟩
  | n + 1, .cons a b, _, k, ⟨x, r, e, p, q⟩ => by rw [e]; exact nth_get (n := n) k q
theorem last_get {K : D → Prop} {R : Addr} {h : Heap} : ∀ {d : D} {vs : List Value}, lastK d K → RepS R h d vs → 0 < vs.length ∧ ∃ v r, vs[vs.length - 1]? = some v ∧ K r ∧ Rep R h r v
  | .cons a .nil, _, k, ⟨x, r, e, p, q⟩ => by
    rw [e, show r = [] from q]; exact ⟨Nat.zero_lt_succ _, x, a, rfl, k, p⟩
  | .cons a (.cons b c), _, k, ⟨x, r, e, p, q⟩ => by
    obtain ⟨h0, v, d, h1, h2⟩ := last_get (d := .cons b c) (vs := r) k q
    rw [e]
    refine ⟨Nat.zero_lt_succ _, v, d, ?_, h2⟩
    show (x :: r)[r.length]? = some v
    obtain ⟨j, hj⟩ : ∃ j, r.length = j + 1 := ⟨r.length - 1, by omega⟩
    rw [hj] at h1 ⊢
    exact h1
  | .cons a .none, _, k, _ => False.elim k
  | .cons a (.bool _), _, k, _ => False.elim k
  | .cons a (.int _), _, k, _ => False.elim k
  | .cons a (.pair _ _), _, k, _ => False.elim k
  | .cons a .row, _, k, _ => False.elim k

theorem sub_ok {value slice : Expr} {A : Around} {P : D → Prop} {Q : Value → Shared → Prop} (hs : ∀ o i, subscripted slice false o i = operate [o, i] (getItem o i)) (rv : Rep G.R s.heap d v) (ru : Rep G.R s.heap e u) (k : SubK d e P)
    (h : ∀ r v, P r → Rep G.R s.heap r v → Q v s) : wpAny (model G.prog G.w) A (subscriptTail value slice v u) Q (fun _ _ => False) s := by
  unfold SubK at k
  split at k
  · obtain ⟨a, x, y, rfl, ht, rx, ry⟩ := rv
    obtain ⟨w, rfl⟩ := ru
    exact item_tupleT (l := [_, _]) ht (by decide) (by decide) rfl rfl (h _ _ k rx) (hs _ _)
  · obtain ⟨a, x, y, rfl, ht, rx, ry⟩ := rv
    obtain ⟨w, rfl⟩ := ru
    exact item_tupleT (l := [_, _]) ht (by decide) (by decide) rfl rfl (h _ _ k ry) (hs _ _)
  · rename_i j
    obtain ⟨a, x, r, rfl, _, hl, rx, ry⟩ := rv
    obtain ⟨w, rfl⟩ := ru
    obtain ⟨v, d, hv, kd, rd⟩ := nth_get k.2 (vs := x :: r) ⟨x, r, rfl, rx, ry⟩
    have hj : ((Int.ofNat j : Int)) < 2 ^ 63 := Int.lt_trans (Int.ofNat_lt.mpr k.1) (by decide)
    exact tail_any hl.typeIs slot_list_getitem.lookup (wpAny_getItem_list hl (Int.natCast_nonneg j) hj (by simpa using hv) (h _ _ kd rd)) (hs _ _)
  · obtain ⟨a, x, r, rfl, _, hl, rx, ry⟩ := rv
    obtain ⟨w, rfl⟩ := ru
    obtain ⟨h0, v, d, hv, kd, rd⟩ := last_get k (vs := x :: r) ⟨x, r, rfl, rx, ry⟩
    refine tail_any hl.typeIs slot_list_getitem.lookup (wpAny_getItem_list_neg hl (by decide) (by simp; omega) (by decide) ?_ (h _ _ kd rd)) (hs _ _)
    have e1 : ((-1 : Int) + ((x :: r).toArray.size : Int)).toNat = (x :: r).length - 1 := by simp; omega
    rw [e1]; simpa using hv
  · exact k.elim
end

theorem notStars {es : List Expr} {pos : Pos} {env : Env} (h : ∀ e ∈ es, NotStar e) : (backTo pos (starEach es env)).any (·.1) = false := by
  induction es with
  | nil => rfl
  | cons e r ih =>
    rw [starEach_cons (h e (.head _))]
    show (false || (backTo pos (starEach r env)).any (·.1)) = false
    rw [ih fun x hx => h x (.tail _ hx)]; rfl

theorem EVS_nil {K : List D → List Int → Prop} (h : K [] xs) : EVS C [] m xs K := fun pos s st => PyProof.Rows.spliced_none ⟨[], xs, trivial, st, Ch.refl, h⟩
theorem EVS_cons {e : Expr} {rest : List Expr} {K : List D → List Int → Prop} (n : NotStar e) (h : EV C e m xs fun d xs1 => EVS C rest m xs1 fun ds xs2 => K (d :: ds) xs2) : EVS C (e :: rest) m xs K := fun pos s st => by
  refine PyProof.Rows.spliced_more (wpAny_mono (h s st) ?_ fun _ _ x => x) (starEach_cons n)
  rintro v s1 ⟨d, xs1, r1, st1, c1, k1⟩
  refine wpAny_mono (k1 pos s1 st1) ?_ fun _ _ x => x
  rintro vs s2 ⟨ds, xs2, r2, st2, c2, k2⟩
  exact ⟨d :: ds, xs2, ⟨st1.rep c2 r1, r2⟩, st2, c1.trans c2, k2⟩

section
variable {K : D → List Int → Prop}
theorem EV_bin {l r : Expr} {op : Operator} {p} (h : EV C l m xs fun d xs1 => EV C r m xs1 fun e xs2 => AsI (fun a => AsI (fun b => BinK op a b fun c => K (.int c) xs2) e) d) :
    EV C (.BinOp l op r p) m xs K := fun s st => by
  refine wpAny_BinOp (wpAny_mono (h s st) ?_ fun _ _ x => x)
  rintro v s1 ⟨d, xs1, r1, st1, c1, k1⟩
  refine wpAny_mono (k1 s1 st1) ?_ fun _ _ x => x
  rintro u s2 ⟨e, xs2, r2, st2, c2, k2⟩
  obtain ⟨a, b, t, w, rfl, rfl, k⟩ := ints_of (st1.rep c2 r1) r2 k2
  have c := c1.trans c2
  cases op <;> first | exact False.elim k | skip
  · exact PyProof.Rows.add_int (Res.inc st2 c k)
  · exact PyProof.Rows.sub_int (Res.inc st2 c k)
  · exact PyProof.Rows.mul_int (Res.inc st2 c k.2) (k.1.1.mul k.1.2)
  · exact PyProof.Rows.mod_int' k.1 (Res.inc st2 c k.2)
  · exact PyProof.Rows.pow_int k.1.1 (k.1.2.2.pow k.1.1 k.1.2.1) (Res.inc st2 c k.2)
  · exact PyProof.Rows.floordiv_int k.1.1 (Res.inc st2 c k.2) (.inl k.1.2.div)

theorem EV_neg {x : Expr} {p} (h : EV C x m xs fun d xs1 => AsI (fun a => K (.int (-a)) xs1) d) : EV C (.UnaryOp .USub x p) m xs K := fun s st => by
  refine PyProof.Rows.UnaryOp_ (wpAny_mono (h s st) ?_ fun _ _ x => x)
  rintro v s1 ⟨d, xs1, r1, st1, c1, k1⟩
  obtain ⟨a, rfl, k⟩ := k1.inv
  obtain ⟨t, rfl⟩ := r1
  exact PyProof.Rows.neg_int (Res.inc st1 c1 k)

theorem EV_ite {t b o : Expr} {p} (h : TR C t m xs fun c xs1 => IfK c (EV C b m xs1 K) (EV C o m xs1 K)) : EV C (.IfExp t b o p) m xs K := fun s st => by
  refine PyProof.Rows.IfExp_ (wpAny_mono (h s st) ?_ fun _ _ x => x)
  rintro b s1 ⟨xs1, st1, c1, k1⟩
  cases b with
  | true => exact wpAny_mono (k1 s1 st1) (fun _ _ r => r.on c1) fun _ _ x => x
  | false => exact wpAny_mono (k1 s1 st1) (fun _ _ r => r.on c1) fun _ _ x => x

theorem EV_and {e₁ e₂ : Expr} {rest p} (h : EV C e₁ m xs fun d xs1 => AsB (fun b => IfK b (EV C (.BoolOp .And (e₂ :: rest) p) m xs1 K) (K (.bool false) xs1)) d) :
    EV C (.BoolOp .And (e₁ :: e₂ :: rest) p) m xs K := fun s st => by
  refine BoolOp_and (wpAny_mono (h s st) ?_ fun _ _ x => x)
  rintro v s1 ⟨d, xs1, r1, st1, c1, k1⟩
  obtain ⟨b, rfl, k⟩ := k1.inv
  obtain rfl := r1
  refine wpAny_truthy_bool ?_
  cases b with
  | true => exact wpAny_mono (k s1 st1) (fun _ _ r => r.on c1) fun _ _ x => x
  | false => exact Res.mk (.bool false) rfl st1 c1 (k)
theorem EV_or {e₁ e₂ : Expr} {rest p} (h : EV C e₁ m xs fun d xs1 => AsB (fun b => IfK b (K (.bool true) xs1) (EV C (.BoolOp .Or (e₂ :: rest) p) m xs1 K)) d) :
    EV C (.BoolOp .Or (e₁ :: e₂ :: rest) p) m xs K := fun s st => by
  refine BoolOp_or (wpAny_mono (h s st) ?_ fun _ _ x => x)
  rintro v s1 ⟨d, xs1, r1, st1, c1, k1⟩
  obtain ⟨b, rfl, k⟩ := k1.inv
  obtain rfl := r1
  refine wpAny_truthy_bool ?_
  cases b with
  | true => exact Res.mk (.bool true) rfl st1 c1 (k)
  | false => exact wpAny_mono (k s1 st1) (fun _ _ r => r.on c1) fun _ _ x => x

theorem OpK.inv {op : CmpOp} {P : Prop} (h : OpK op P) (r : Expr) : P ∧ behindInMarks op r = false := by
  have k : ∀ op : CmpOp, OpK op True → behindInMarks op r = false := fun op h => by
    unfold behindInMarks
    rw [show ((op == .In || op == .NotIn) = false) by cases op <;> first | rfl | exact False.elim h]
    split
    · rw [Bool.and_false]; rfl
    · rfl
  exact ⟨by cases op <;> first | exact False.elim h | exact h, k op (by cases op <;> first | exact False.elim h | trivial)⟩
theorem EV_cmp {l r : Expr} {op : CmpOp} {p} (h : OpK op (EV C l m xs fun d xs1 => EV C r m xs1 fun e xs2 => CmpK op d e fun b => K (.bool b) xs2)) : EV C (.Compare l [op] [r] p) m xs K := fun s st => by
  obtain ⟨h, hm⟩ := h.inv r
  refine wpAny_Compare1 (wpAny_mono (h s st) ?_ fun _ _ x => x) hm
  rintro v s1 ⟨d, xs1, r1, st1, c1, k1⟩
  refine wpAny_mono (k1 s1 st1) ?_ fun _ _ x => x
  rintro u s2 ⟨e, xs2, r2, st2, c2, k2⟩
  exact cmp_ok (st1.rep c2 r1) r2 k2 fun b kb => Res.mk (.bool b) rfl st2 (c1.trans c2) kb
end
end
end Mine
end
noncomputable section
open PySem PySem.W PySem.Calls PyProof.Rows PySem.Spec
namespace Mine
section
variable {G : Gx} {C : Cx G} {m : M} {xs : List Int}
section
variable {K : D → List Int → Prop}
theorem EV_tup {a b : Expr} {k p} (n1 : NotStar a) (n2 : NotStar b) (h : EV C a m xs fun d xs1 => EV C b m xs1 fun e xs2 => K (.pair d e) xs2) : EV C (.Tuple [a, b] k p) m xs K := fun s st => by
  refine Tuple_ (PyProof.Rows.spliced_more (wpAny_mono (h s st) ?_ fun _ _ x => x) (starEach_cons n1))
  rintro v s1 ⟨d, xs1, r1, st1, c1, k1⟩
  refine PyProof.Rows.spliced_more (wpAny_mono (k1 s1 st1) ?_ fun _ _ x => x) (starEach_cons n2)
  rintro u s2 ⟨e, xs2, r2, st2, c2, k2⟩
  have kp : Kp G.R s2.heap (s2.heap.push { cls := .type "tuple", data := .seq #[v, u] }) := Kp.of push_keep
  exact PyProof.Rows.spliced_none (wpAny_newObj_type (Res.mk (.pair d e) ⟨_, v, u, rfl, .new _ _, kp.rep (st1.rep c2 r1), kp.rep r2⟩ (st2.keep push_keep) ((c1.trans c2).trans (Ch.of push_keep)) k2))

theorem EV_list {es : List Expr} {p} (h : EVS C es m xs fun ds xs1 => ds.length ≤ 1000 ∧ K (lst ds) xs1) : EV C (.List es p) m xs K := fun s st => by
  refine List_ (wpAny_mono (h p s st) ?_ fun _ _ x => x)
  rintro vs s1 ⟨ds, xs1, r1, st1, c1, hlen, k1⟩
  refine wpAny_newObj_type ?_ (show vs.toArray.size ≤ sizeLine by rw [List.size_toArray, r1.length]; exact Nat.le_trans hlen (by decide))
  have kp : Kp G.R s1.heap (s1.heap.push { cls := .type "list", data := .seq vs.toArray }) := Kp.of push_keep
  exact Res.mk (lst ds) (rep_lst.mpr ⟨_, vs, rfl, Nat.ne_of_gt st1.tape.lt, ⟨_, Heap.get?_push_size _ rfl, rfl, _, rfl⟩, kp.repAll r1⟩) (st1.keep push_keep) (c1.trans (Ch.of push_keep)) k1

theorem EV_sub {value slice : Expr} {p} (h : EV C value m xs fun d xs1 => EV C slice m xs1 fun j xs2 => SubK d j fun r => K r xs2) (hs : ∀ o i, subscripted slice false o i = operate [o, i] (getItem o i)) : EV C (.Subscript value slice p) m xs K := fun s st => by
  refine Subscript_ (wpAny_mono (h s st) ?_ fun _ _ x => x)
  rintro v s1 ⟨d, xs1, r1, st1, c1, k1⟩
  refine wpAny_mono (k1 s1 st1) ?_ fun _ _ x => x
  rintro u s2 ⟨e, xs2, r2, st2, c2, k2⟩
  exact sub_ok hs (st1.rep c2 r1) r2 k2 fun r w kr rr => Res.mk r rr st2 (c1.trans c2) kr

theorem EV_call {x : Str} {f : Addr} {e : Expr} {es : List Expr} {p pos} (hg : GOk C x (.fn f)) (n : NotStar e) (ns : ∀ e ∈ es, NotStar e) (h : EVS C (e :: es) m xs fun ds xs1 => CallK C f ds xs1 K) :
    EV C (.Call (.Name x p) (e :: es) [] pos) m xs K := fun s st => by
  obtain ⟨mv, F, _⟩ := st.fr
  refine Call_ (F.glob G.g hg.2.1 ?_ C.fk hg.1.1 hg.1.2)
  refine callWith_K (first := []) G.inK hg.2.2 (wpAny_mono (h pos s st) ?_ fun _ _ x => x) (starEach_cons n) (notStars ns)
  rintro vs s1 ⟨ds, xs1, r1, st1, c1, k, r, xs', hk, hf, kr⟩
  refine ⟨G.inK.keeps st1.base, wpAny_mono (hf C.A s1 vs C.hh (Nat.lt_of_le_of_lt (Nat.add_le_add_left hk _) C.dep) (Nat.lt_of_le_of_lt (by omega) C.un) st1.base st1.tape r1) ?_ fun _ _ x => x⟩
  rintro v s2 ⟨rv, t2, c2⟩
  exact Res.mk r rv (st1.grown c2 t2) (c1.trans c2.weak) kr

theorem EV_abs {x : Str} {e : Expr} {p pos} (hg : GOk C x .abs) (n : NotStar e) (h : EV C e m xs fun d xs1 => AsI (fun a => K (.int a.natAbs) xs1) d) : EV C (.Call (.Name x p) [e] [] pos) m xs K := fun s st => by
  obtain ⟨mv, F, _⟩ := st.fr
  refine Call_ (F.blt G.g hg.2.1 G.b ((G.bt _ hg.2.2.2).trans hg.2.2.1) ?_ C.fk hg.1.1 hg.1.2)
  rw [starEach_cons n]
  refine Calls.callWith_builtin rfl (Calls.evalArgs_plain ?_)
  show wpAny _ _ (spliced (backTo pos ((false, eval e C.env) :: starEach [] C.env))) _ _ _
  rw [← starEach_cons n]
  refine PyProof.Rows.spliced_more (wpAny_mono (h s st) ?_ fun _ _ x => x) (starEach_cons n)
  rintro v s1 ⟨d, xs1, r1, st1, c1, k1⟩
  obtain ⟨a, rfl, k⟩ := k1.inv
  obtain ⟨t, rfl⟩ := r1
  refine PyProof.Rows.spliced_none (call_abs_int fun u tk => ?_)
  have e : (if a < 0 then -a else a) = (a.natAbs : Int) := by split <;> omega
  rw [e]
  exact Res.inc st1 c1 k
end

section
variable {K : Bool → List Int → Prop}
theorem TR_and {x : Expr} {rest p} (h : TR C x m xs fun b xs1 => IfK b (TR C (.BoolOp .And rest p) m xs1 K) (K false xs1)) : TR C (.BoolOp .And (x :: rest) p) m xs K := fun s st => by
  refine isTrue_and (wpAny_mono (h s st) ?_ fun _ _ x => x)
  rintro b s1 ⟨xs1, st1, c1, k1⟩
  cases b with
  | true => exact wpAny_mono (k1 s1 st1) (fun _ _ r => ResB.on c1 r) fun _ _ x => x
  | false => exact ⟨xs1, st1, c1, k1⟩
theorem TR_or {x : Expr} {rest p} (h : TR C x m xs fun b xs1 => IfK b (K true xs1) (TR C (.BoolOp .Or rest p) m xs1 K)) : TR C (.BoolOp .Or (x :: rest) p) m xs K := fun s st => by
  refine isTrue_or (wpAny_mono (h s st) ?_ fun _ _ x => x)
  rintro b s1 ⟨xs1, st1, c1, k1⟩
  cases b with
  | true => exact ⟨xs1, st1, c1, k1⟩
  | false => exact wpAny_mono (k1 s1 st1) (fun _ _ r => ResB.on c1 r) fun _ _ x => x
theorem TR_plain {e : Expr} (h : EV C e m xs fun d xs1 => AsB (fun b => K b xs1) d) (he : ∀ env whole, isTrue e env whole = (do let v ← whole; standAt e.pos; holding [v] (truthy v))) : TR C e m xs K := fun s st => by
  refine isTrue_plain (wpAny_mono (h s st) ?_ fun _ _ x => x) (he _ _)
  rintro v s1 ⟨d, xs1, r1, st1, c1, k1⟩
  obtain ⟨b, rfl, k⟩ := k1.inv
  obtain rfl := r1
  exact wpAny_truthy_bool ⟨xs1, st1, c1, k⟩
theorem TR_cmp {l r : Expr} {op : CmpOp} {p} (h : OpK op (EV C l m xs fun d xs1 => EV C r m xs1 fun e xs2 => CmpK op d e fun b => K b xs2)) : TR C (.Compare l [op] [r] p) m xs K := fun s st => by
  obtain ⟨h, hm⟩ := h.inv r
  refine wpAny_isTrue_Compare1 (wpAny_mono (h s st) ?_ fun _ _ x => x) hm
  rintro v s1 ⟨d, xs1, r1, st1, c1, k1⟩
  refine wpAny_mono (k1 s1 st1) ?_ fun _ _ x => x
  rintro u s2 ⟨e, xs2, r2, st2, c2, k2⟩
  exact cmp_ok (st1.rep c2 r1) r2 k2 fun b kb => wpAny_truthy_bool ⟨xs2, st2, c1.trans c2, kb⟩
end
theorem EV_mono {e : Expr} {K K' : D → List Int → Prop} (h : EV C e m xs K) (k : ∀ d xs, K d xs → K' d xs) : EV C e m xs K' := fun s st =>
  wpAny_mono (h s st) (fun _ _ ⟨d, xs', a, b, c, e⟩ => ⟨d, xs', a, b, c, k _ _ e⟩) fun _ _ x => x
theorem TR_mono {e : Expr} {K K' : Bool → List Int → Prop} (h : TR C e m xs K) (k : ∀ d xs, K d xs → K' d xs) : TR C e m xs K' := fun s st =>
  wpAny_mono (h s st) (fun _ _ ⟨xs', b, c, e⟩ => ⟨xs', b, c, k _ _ e⟩) fun _ _ x => x
theorem EVS_mono {e : List Expr} {K K' : List D → List Int → Prop} (h : EVS C e m xs K) (k : ∀ d xs, K d xs → K' d xs) : EVS C e m xs K' := fun p s st =>
  wpAny_mono (h p s st) (fun _ _ ⟨d, xs', a, b, c, e⟩ => ⟨d, xs', a, b, c, k _ _ e⟩) fun _ _ x => x
theorem AsI.imp {K K' : Int → Prop} {d : D} (h : AsI K d) (k : ∀ a, K a → K' a) : AsI K' d := by obtain ⟨a, rfl, h⟩ := h.inv; exact k a h
theorem AsB.imp {K K' : Bool → Prop} {d : D} (h : AsB K d) (k : ∀ a, K a → K' a) : AsB K' d := by obtain ⟨a, rfl, h⟩ := h.inv; exact k a h
theorem OpK.imp {op : CmpOp} {P P' : Prop} (h : OpK op P) (k : P → P') : OpK op P' := by cases op <;> first | exact False.elim h | exact k h
theorem OpK.out {op : CmpOp} {P : Prop} (h : OpK op P) : P := by cases op <;> first | exact False.elim h | exact h

theorem StarK.inv {e : Expr} {P : Prop} (h : StarK e P) : NotStar e ∧ P := by
  cases e <;> first | exact False.elim h | exact ⟨trivial, h⟩
theorem SliceK.inv {e : Expr} {P : Prop} (h : SliceK e P) : (∀ o i, subscripted e false o i = operate [o, i] (getItem o i)) ∧ P := by
  cases e <;> first | exact False.elim h | exact ⟨fun _ _ => rfl, h⟩
end
end Mine
end
noncomputable section
open PySem PySem.W PySem.Calls PyProof.Rows PySem.Spec
namespace Mine
section
variable {G : Gx} {C : Cx G} {m : M} {xs : List Int} {Q : Fl → M → List Int → Prop} {rest : List Stmt}
theorem EX_mono {b : List Stmt} {Q' : Fl → M → List Int → Prop} (h : EX C b m xs Q) (k : ∀ f m xs, Q f m xs → Q' f m xs) : EX C b m xs Q' := fun s st =>
  wpAny_mono (h s st) (fun _ _ ⟨f, m', xs', a, b, c, e⟩ => ⟨f, m', xs', a, b, c, k _ _ _ e⟩) fun _ _ x => x
theorem seqK_mono {P P' : M → List Int → Prop} (h : ∀ m xs, P m xs → P' m xs) : ∀ f m xs, seqK C P Q f m xs → seqK C P' Q f m xs
  | .next, m, xs, k => h m xs k
  | .ret _, _, _, k => k
theorem EX_of {st : Stmt} (h : ∀ s, St C m xs s → wpAny (model G.prog G.w) C.A (exec st C.env) (ResF C s (seqK C (fun m xs => EX C rest m xs Q) Q)) (fun _ _ => False) s) : EX C (st :: rest) m xs Q := fun s hs => by
  refine wpAny_execs_cons (wpAny_mono (h s hs) ?_ fun _ _ x => x)
  rintro f s1 ⟨fl, m', xs', rf, st1, c1, k⟩
  cases fl with
  | next =>
    obtain rfl := rf
    exact wpAny_mono (k s1 st1) (fun _ _ r => ResF.on c1 r) fun _ _ x => x
  | ret d =>
    obtain ⟨v, rfl, rv⟩ := rf
    exact ⟨.ret d, m', xs', ⟨v, rfl, rv⟩, st1, c1, k⟩
theorem EX_nil (h : Q .next m xs) : EX C [] m xs Q := fun s st => wpAny_execs_nil ⟨.next, m, xs, rfl, st, Ch.refl, h⟩
theorem EX_ret {e : Expr} {p} (h : EV C e m xs fun d xs1 => Q (.ret d) m xs1) : EX C (.Return (some e) p :: rest) m xs Q := EX_of fun s st =>
  wpAny_Return_some (wpAny_mono (h s st) (fun v s1 ⟨d, xs1, r1, st1, c1, k1⟩ => ⟨.ret d, m, xs1, ⟨v, rfl, r1⟩, st1, c1, k1⟩) fun _ _ x => x)
theorem EX_if {test : Expr} {body orelse : List Stmt} {p} (h : TR C test m xs fun b xs1 => IfK b (EX C body m xs1 (seqK C (fun m xs => EX C rest m xs Q) Q)) (EX C orelse m xs1 (seqK C (fun m xs => EX C rest m xs Q) Q))) : EX C (.If test body orelse p :: rest) m xs Q := EX_of fun s st => by
  refine wpAny_If (wpAny_mono (h s st) ?_ fun _ _ x => x)
  rintro b s1 ⟨xs1, st1, c1, k1⟩
  cases b with
  | true => exact wpAny_mono (k1 s1 st1) (fun _ _ r => ResF.on c1 r) fun _ _ x => x
  | false => exact wpAny_mono (k1 s1 st1) (fun _ _ r => ResF.on c1 r) fun _ _ x => x
theorem EX_asg {x : Str} {px pos} {value : Expr} (hl : Loc C x) (h : EV C value m xs fun d xs1 => EX C rest ((x, d) :: m) xs1 Q)
    (hs : ∀ env, swapsWith value (some (.Name (x) px)) pos.line env = pure false) : EX C (.Assign [.Name (x) px] value pos :: rest) m xs Q := EX_of fun s st => by
  refine wpAny_Assign_Name (wpAny_mono (h s st) ?_ fun _ _ x => x) (hs _)
  rintro v s1 ⟨d, xs1, r1, st1, c1, k1⟩
  exact store_ok hl st1 r1 fun s2 st2 c2 => ⟨.next, _, xs1, rfl, st2, c1.trans c2, k1⟩
theorem assign2_ok {x y : Str} {px py tp : Pos} {k : Nat} {a : Addr} {v u : Value} {d e : D} {s : Shared} {P : Unit → Shared → Prop} (hx : Loc C x) (hy : Loc C y) (st : St C m xs s) (ht : IsTup s.heap a #[v, u]) (rv : Rep G.R s.heap d v) (ru : Rep G.R s.heap e u)
    (h : ∀ s', St C ((y, e) :: (x, d) :: m) xs s' → Ch G.R C.L s s' → P () s') : wpAny (model G.prog G.w) C.A (assign (.Tuple [.Name (x) px, .Name (y) py] k tp) C.env (.ref a)) P (fun _ _ => False) s := by
  refine assign_Tuple_tuple C.hh ht rfl rfl fun h' he => ?_
  have hk : ∀ b o, s.heap.get? b = some o → h'.get? b = some o := fun b o q => he b o (Nat.ne_of_lt (Heap.lt_size q)) q
  have st1 := st.keep (tk := s.toks) hk
  have kp : Kp G.R s.heap h' := Kp.of hk
  show wpAny _ _ (do holding [u] (assign (.Name (x) px) C.env v); (do holding [] (assign (.Name (y) py) C.env u); pure ())) _ _ _
  refine wpAny_bind (wpAny_holding (PySem.wpAny_assign_Name (store_ok hx st1 (kp.rep rv) fun s2 st2 c2 => ?_)))
  refine wpAny_bind (wpAny_holding (PySem.wpAny_assign_Name (store_ok hy st2 (st1.rep c2 (kp.rep ru)) fun s3 st3 c3 => ?_)))
  exact wpAny_pure (h s3 st3 ((Ch.of (tk := s.toks) hk).trans (c2.trans c3)))
theorem EX_unp {x y : Str} {px py tp pos : Pos} {k : Nat} {value : Expr} (hx : Loc C x) (hy : Loc C y) (h : EV C value m xs fun d xs1 => PairK (fun a b => EX C rest ((y, b) :: (x, a) :: m) xs1 Q) d)
    (hw : ∀ env, swappedStores [.Tuple [.Name (x) px, .Name (y) py] k tp] value env = pure none)
    (hs : ∀ env, swapsWithSole [.Tuple [.Name (x) px, .Name (y) py] k tp] value pos.line env = pure false) :
    EX C (.Assign [.Tuple [.Name (x) px, .Name (y) py] k tp] value pos :: rest) m xs Q := EX_of fun s st => by
  refine PyProof.Rows.Assign_Tuple (wpAny_mono (h s st) ?_ fun _ _ x => x) (hs _) (hw _)
  rintro v s1 ⟨d, xs1, r1, st1, c1, k⟩
  obtain ⟨a, b, rfl, k1⟩ := k.inv
  obtain ⟨t, u, w, rfl, ht, ru, rw⟩ := r1
  exact assign2_ok hx hy st1 ht ru rw fun s2 st2 c2 => ⟨.next, _, xs1, rfl, st2, c1.trans c2, k1⟩
theorem EX_swap {x y : Str} {px py tp pos : Pos} {k : Nat} {value : Expr} {sc : Scope} (hsc : C.scope = sc) (hx : Loc C x) (hy : Loc C y) (h : EV C value m xs fun d xs1 => PairK (fun a b => EX C rest ((x, a) :: (y, b) :: m) xs1 Q) d)
    (hw : ∀ q L fa cd, swappedStores [.Tuple [.Name (x) px, .Name (y) py] k tp] value (envOf q sc L fa cd) = pure (some [x, y]))
    (hs : ∀ env, swapsWithSole [.Tuple [.Name (x) px, .Name (y) py] k tp] value pos.line env = pure false) :
    EX C (.Assign [.Tuple [.Name (x) px, .Name (y) py] k tp] value pos :: rest) m xs Q := EX_of fun s st => by
  refine PyProof.Rows.Assign_Tuple_swapped (names := [x, y]) (wpAny_mono (h s st) ?_ fun _ _ x => x) (hs _) (by have := hw C.qual C.L C.fa C.cd; rw [← hsc] at this; exact this)
  rintro v s1 ⟨d, xs1, r1, st1, c1, k⟩
  obtain ⟨a, b, rfl, k1⟩ := k.inv
  obtain ⟨t, u, w, rfl, ht, ru, rw⟩ := r1
  refine unpackItems_tuple (items := #[_, _]) C.hh ht fun h' he => ?_
  have hk : ∀ b o, s1.heap.get? b = some o → h'.get? b = some o := fun b o q => he b o (Nat.ne_of_lt (Heap.lt_size q)) q
  have st2 := st1.keep (tk := s1.toks) hk
  have kp : Kp G.R s1.heap h' := Kp.of hk
  show wpAny _ _ (do holding [_] (bindName C.env y w); (do holding [] (bindName C.env x u); pure ())) _ _ _
  refine wpAny_bind (wpAny_holding (wpAny_bindName (store_ok hy st2 (kp.rep rw) fun s3 st3 c3 => ?_)))
  refine wpAny_bind (wpAny_holding (wpAny_bindName (store_ok hx st3 (st2.rep c3 (kp.rep ru)) fun s4 st4 c4 => ?_)))
  exact wpAny_pure ⟨.next, _, xs1, rfl, st4, c1.trans ((Ch.of (tk := s1.toks) hk).trans (c3.trans c4)), k1⟩
theorem St.sub {m' : M} {s : Shared} (hs : SubM m' m) (st : St C m xs s) : St C m' xs s := ⟨let ⟨mv, F, hm⟩ := st.fr; ⟨mv, F, fun x d e => hm x d (hs.look e)⟩, st.tape⟩

abbrev XT := List Stmt → M → List Int → (Fl → M → List Int → Prop) → Prop
def WhileI {G : Gx} (C : Cx G) (Y : M → List Int → (Bool → List Int → Prop) → Prop) (X : XT) (body rest : List Stmt) (Q : Fl → M → List Int → Prop) (m : M) (xs : List Int) : Prop :=
  ∃ (α : Type) (J : α → Prop) (mc : α → M) (μ : α → Nat) (a : α), J a ∧ SubM (mc a) m ∧ ∀ a, J a → Y (mc a) xs fun c xs1 => IfK c (X body (mc a) xs1 (seqK C (fun m' xs' => xs' = xs ∧ ∃ a', μ a' < μ a ∧ J a' ∧ SubM (mc a') m') Q)) (X rest (mc a) xs1 Q)
theorem EX_while {test : Expr} {body : List Stmt} {p} (h : WhileI C (TR C test) (EX C) body rest Q m xs) : EX C (.While test body [] p :: rest) m xs Q := EX_of fun s st => by
  obtain ⟨α, J, mc, μ, a, ja, sa, step⟩ := h
  refine wpAny_While (codeAny_whileLoop (R := fun r s' => match r with | .ok f => ResF C s (seqK C (fun m xs => EX C rest m xs Q) Q) f s' | .error e => cameBackBy (model G.prog G.w) C.A C.env (fun _ _ => False) e s')
    (fun n s' => ∃ a, n = μ a ∧ J a ∧ St C (mc a) xs s' ∧ Ch G.R C.L s s') ?_ (μ a) ⟨a, rfl, ja, st.sub sa, Ch.refl⟩)
  rintro n s' ⟨a, rfl, ja, st', c'⟩
  refine wpAny_mono (step a ja s' st') ?_ fun _ _ x => x.elim
  rintro b s2 ⟨xs2, st2, c2, k2⟩
  cases b with
  | true =>
    refine wpAny_mono (k2 s2 st2) ?_ fun _ _ x => x.elim
    rintro f s3 ⟨fl, m3, xs3, rf, st3, c3, k3⟩
    cases fl with
    | next => obtain rfl := rf; obtain ⟨rfl, a', hl, ja', sa'⟩ := k3; exact ⟨_, hl, a', rfl, ja', st3.sub sa', c'.trans (c2.trans c3)⟩
    | ret d => obtain ⟨v, rfl, rv⟩ := rf; exact ⟨.ret d, m3, xs3, ⟨v, rfl, rv⟩, st3, c'.trans (c2.trans c3), k3⟩
  | false => exact wpAny_execs_nil ⟨.next, _, xs2, rfl, st2, c'.trans c2, k2⟩

def ForI {G : Gx} (C : Cx G) (X : XT) (B : D → M → (M → Prop) → Prop) (body rest : List Stmt) (Q : Fl → M → List Int → Prop) (l : List D) (m : M) (xs : List Int) : Prop :=
  ∃ (mc : Nat → M) (xf : Nat → List Int), SubM (mc 0) m ∧ xf 0 = xs ∧ (∀ i a, l[i]? = some a → B a (mc i) fun m1 => X body m1 (xf i) (seqK C (fun m' xs' => xs' = xf (i + 1) ∧ SubM (mc (i + 1)) m') Q)) ∧ X rest (mc l.length) (xf l.length) Q
def B1 (x : Str) (a : D) (m : M) (P : M → Prop) : Prop := P ((x, a) :: m)
def B2 (x y : Str) (a : D) (m : M) (P : M → Prop) : Prop := PairK (fun u w => P ((y, w) :: (x, u) :: m)) a

/-- what an iterator does -/
structure Itr {G : Gx} (C : Cx G) (I : Addr) (l : List D) (It : Nat → Heap → Prop) (tgt : Expr) (B : D → M → (M → Prop) → Prop) : Prop where
  next : ∀ i a (s' : Shared) (P : Option Value → Shared → Prop) E, l[i]? = some a → It i s'.heap → (∀ v h' tk, It (i + 1) h' → Heap.ExtBut I s'.heap h' → Rep G.R h' a v → P (some v) { s' with heap := h', toks := tk }) → wpAny (model G.prog G.w) C.A (pyNext (.ref I)) P E s'
  stop : ∀ (s' : Shared) (P : Option Value → Shared → Prop) E, It l.length s'.heap → (∀ h', Heap.ExtBut I s'.heap h' → P none { s' with heap := h' }) → wpAny (model G.prog G.w) C.A (pyNext (.ref I)) P E s'
  stand : ∀ i (s' s'' : Shared), It i s'.heap → Ch G.R C.L s' s'' → It i s''.heap
  notSeq : ∀ i h, It i h → ∀ o, h.get? I = some o → ∀ vs n, o.data ≠ .seq vs n
  go : ∀ i (a : D) v (s' : Shared) (P : Unit → Shared → Prop) E, It i s'.heap → Rep G.R s'.heap a v → (∃ m R, B a m R) → P () s' → wpAny (model G.prog G.w) C.A (letOwnedTupleGo tgt (.ref I) v) P E s'
def Asg {G : Gx} (C : Cx G) (tgt : Expr) (B : D → M → (M → Prop) → Prop) : Prop :=
  ∀ a v m xs s' (R : M → Prop) (P : Unit → Shared → Prop), St C m xs s' → Rep G.R s'.heap a v → B a m R → (∀ m1 s'', R m1 → St C m1 xs s'' → Ch G.R C.L s' s'' → P () s'') → wpAny (model G.prog G.w) C.A (assign tgt C.env v) P (fun _ _ => False) s'
theorem asg1 {x : Str} {p} (hx : Loc C x) : Asg C (.Name x p) (B1 x) := fun a v m xs s' R P st r b k => PySem.wpAny_assign_Name (store_ok hx st r fun s'' st2 c => k _ s'' b st2 c)
theorem asg2 {x y : Str} {px py k tp} (hx : Loc C x) (hy : Loc C y) : Asg C (.Tuple [.Name x px, .Name y py] k tp) (B2 x y) := fun a v m xs s' R P st r b k => by
  obtain ⟨c, d, rfl, b⟩ := b.inv
  obtain ⟨T, u, w, rfl, ht, ru, rw⟩ := r
  exact assign2_ok hx hy st ht ru rw fun s'' st2 c => k _ s'' b st2 c

theorem for_any {target : Expr} {B : D → M → (M → Prop) → Prop} {body : List Stmt} {I : Addr} {l : List D} {It : Nat → Heap → Prop} {s s₀ : Shared}
    (it : Itr C I l It target B) (asg : Asg C target B)
    (hL : I ≠ C.L) (hR : I ≠ G.R) (h0 : G.b0.get? I = none) (hI : s₀.heap.get? I = none)
    (hc : ∃ h tk, s = { s₀ with heap := h, toks := tk }) (hk : ∀ b o, s₀.heap.get? b = some o → b ≠ G.R → b ≠ C.L → s.heap.get? b = some o) (hit : It 0 s.heap) (hst : St C m xs s) (k : ForI C (EX C) B body rest Q l m xs) :
    codeAny (model G.prog G.w) C.A (.forLoop target (.ref I) body [] C.env) (fun r s' => match r with | .ok f => ResF C s₀ (seqK C (fun m xs => EX C rest m xs Q) Q) f s' | .error e => cameBackBy (model G.prog G.w) C.A C.env (fun _ _ => False) e s') s := by
  obtain ⟨mc, xf, hsub, rfl, step, fin⟩ := k
  refine codeAny_forLoop_any (fun n s' => ∃ i, It i s'.heap ∧ i ≤ l.length ∧ n = l.length - i ∧ St C (mc i) (xf i) s' ∧ (∃ h tk, s' = { s₀ with heap := h, toks := tk }) ∧ ∀ b o, s₀.heap.get? b = some o → b ≠ G.R → b ≠ C.L → s'.heap.get? b = some o)
    ?_ l.length ⟨0, hit, Nat.zero_le _, rfl, hst.sub hsub, hc, hk⟩
  rintro n s' ⟨i, hit', hi, rfl, st', hc', hk'⟩
  have ne : ∀ b o, s₀.heap.get? b = some o → b ≠ I := fun b o e q => by rw [q, hI] at e; cases e
  by_cases hlt : i < l.length
  · have hw := step i _ (List.getElem?_eq_getElem hlt)
    refine it.next i _ s' _ _ (List.getElem?_eq_getElem hlt) hit' fun v h₁ tk₁ hit₁ he₁ hv => ?_
    have st1 := st'.ext (tk := tk₁) he₁ hL hR h0 (it.notSeq i _ hit')
    refine it.go (i + 1) _ v _ _ _ hit₁ hv ⟨_, _, hw⟩ ?_
    refine wpAny_mono (asg _ v _ _ _ _ (fun _ s'' => wpAny (model G.prog G.w) C.A (execs body C.env) _ _ s'') st1 hv hw fun m1 s2 hw st2 c2 => wpAny_mono (hw s2 st2) (fun f s3 h3 => ?_) fun _ _ x => x.elim) (fun _ _ x => x) fun _ _ x => x.elim
    obtain ⟨fl, m3, xs3, rf, st3, c3, k3⟩ := h3
    have c23 := c2.trans c3
    have hk3 : ∀ b o, s₀.heap.get? b = some o → b ≠ G.R → b ≠ C.L → s3.heap.get? b = some o := fun b o e p q => c23.2 b o (he₁ b o (ne b o e) (hk' b o e p q)) p q
    have hc3 : ∃ h tk, s3 = { s₀ with heap := h, toks := tk } := by
      obtain ⟨h, tk, rfl⟩ := hc'
      obtain ⟨⟨h2, tk2, rfl⟩, _⟩ := c23
      exact ⟨h2, tk2, rfl⟩
    cases fl with
    | next => obtain rfl := rf; obtain ⟨rfl, sb⟩ := k3; exact ⟨l.length - (i + 1), by omega, i + 1, it.stand _ _ _ hit₁ c23, hlt, rfl, st3.sub sb, hc3, hk3⟩
    | ret d => obtain ⟨u, rfl, ru⟩ := rf; exact ⟨.ret d, m3, xs3, ⟨u, rfl, ru⟩, st3, ⟨hc3, hk3⟩, k3⟩
  · have hin : i = l.length := by omega
    subst hin
    refine it.stop s' _ _ hit' fun h₁ he₁ => wpAny_execs_nil ?_
    have st1 := st'.ext (tk := s'.toks) he₁ hL hR h0 (it.notSeq _ _ hit')
    refine ⟨.next, _, _, rfl, st1, ⟨?_, fun b o e p q => he₁ b o (ne b o e) (hk' b o e p q)⟩, fin⟩
    obtain ⟨h, tk, rfl⟩ := hc'
    exact ⟨h₁, tk, rfl⟩

/-- over a list that stands -/
theorem EX_for {target iter : Expr} {B : D → M → (M → Prop) → Prop} {body : List Stmt} {p : Pos} (asg : Asg C target B)
    (go : ∀ I ax i (a : D) v (s' : Shared) (P : Unit → Shared → Prop) E, s'.heap.IsListIter I ax i → Rep G.R s'.heap a v → (∃ m R, B a m R) → P () s' → wpAny (model G.prog G.w) C.A (letOwnedTupleGo target (.ref I) v) P E s')
    (hs : ∀ env v, foldedSetIterable iter env v = pure v)
    (h : EV C iter m xs fun d xs1 => ∃ l, d = lst l ∧ ForI C (EX C) B body rest Q l m xs1) : EX C (.For target iter body [] p :: rest) m xs Q := EX_of fun s0 st0 => by
  refine wpAny_For (wpAny_mono (h s0 st0) ?_ fun _ _ x => x) (hs _)
  rintro v s ⟨d, xs1, r1, hst, c1, l, rfl, k⟩
  obtain ⟨ax, vs, rfl, hax, hl, hvs⟩ := rep_lst.mp r1
  refine wpAny_pyIter_list hl (codeAny_mono (R := fun r s' => match r with | .ok f => ResF C s (seqK C (fun m xs => EX C rest m xs Q) Q) f s' | .error e => cameBackBy (model G.prog G.w) C.A C.env (fun _ _ => False) e s') ?_ fun r s' hr => by
    cases r with
    | ok f => exact ResF.on c1 hr
    | error e => exact hr)
  obtain ⟨mv, F, _⟩ := id hst.fr
  have hlen := hvs.length
  obtain ⟨ol, hol, hlc, nl, hld⟩ := id hl
  have hLne : ax ≠ C.L := fun q => by
    obtain ⟨oL, es, ep, h1, h2, _⟩ := F.ns
    rw [q, h1] at hol; cases hol; rw [h2] at hld; cases hld
  have key : ∀ i h, (h.IsListIter s.heap.objs.size ax i ∧ h.IsList ax vs.toArray ∧ Kp G.R s.heap h) → ∀ o, h.get? s.heap.objs.size = some o → ∀ ws n, o.data ≠ .seq ws n := by
    rintro i h ⟨⟨o, ho, _, hd⟩, _⟩ o' ho' ws n e
    rw [ho] at ho'; cases ho'; rw [hd] at e; cases e
  refine for_any (It := fun i h => h.IsListIter s.heap.objs.size ax i ∧ h.IsList ax vs.toArray ∧ Kp G.R s.heap h) (s₀ := s) ⟨?_, ?_, ?_, key, fun i a v s' P E hi hv hb hp => go _ _ i a v s' P E hi.1 hv hb hp⟩
    asg (Ne.symm (Nat.ne_of_lt F.ns.lt)) (Nat.ne_of_gt hst.tape.lt) (b0_size hst.base) get_size ⟨_, s.toks, rfl⟩ (fun b o e _ _ => Heap.get?_push_of_some _ e)
    ⟨⟨_, Heap.get?_push_size _ rfl, rfl, rfl⟩, hl.push _, Kp.of push_keep⟩ (hst.keep (tk := s.toks) push_keep) k
  · rintro i a s' P E ha ⟨hit, hl', kp⟩ hP
    obtain ⟨v, hv, rv⟩ := hvs.get ha
    refine wpAny_pyNext_list_item hit hl' (by simpa using hv) fun h₁ hit₁ hs₁ => ?_
    have kp1 : Kp G.R s'.heap h₁ := fun b o e hs _ => hs₁.extBut b o (fun q => by subst q; obtain ⟨ws, n, hd⟩ := hs; exact key i _ ⟨hit, hl', kp⟩ o e ws n hd) e
    have kp2 : Kp G.R s.heap h₁ := fun b o e hs hc => kp1 b o (kp b o e hs hc) hs hc
    exact hP v h₁ s'.toks ⟨hit₁, kp1.lst hax hl', kp2⟩ hs₁.extBut (kp2.rep rv)
  · rintro s' P E ⟨hit, hl', kp⟩ hP
    exact wpAny_pyNext_list_end C.hh hit hl' (by simp [hlen]) hP
  · rintro i s' s'' ⟨hit, hl', kp⟩ c
    have hIL : s.heap.objs.size ≠ C.L := Ne.symm (Nat.ne_of_lt F.ns.lt)
    have hIR : s.heap.objs.size ≠ G.R := Nat.ne_of_gt hst.tape.lt
    exact ⟨hit.at fun o e => c.2 _ o e hIR hIL, hl'.at fun o e => c.2 _ o e hax hLne, fun b o e hs hc => c.2 b o (kp b o e hs hc) (hst.seqNe e hs hc).1 (hst.seqNe e hs hc).2⟩

def upto (n : Int) : List D := (List.range n.toNat).map fun (i : Nat) => .int i
/-- range(n), n not below nought and small -/
theorem EX_range {x f : Str} {px pf pos p : Pos} {e : Expr} {body : List Stmt} (hg : GOk C f .rng) (hx : Loc C x)
    (h : EV C e m xs fun d xs1 => AsI (fun n => (0 ≤ n ∧ n ≤ 1000) ∧ ForI C (EX C) (B1 x) body rest Q (upto n) m xs1) d)
    (n : NotStar e) : EX C (.For (.Name x px) (.Call (.Name f pf) [e] [] pos) body [] p :: rest) m xs Q := EX_of fun s st => by
  obtain ⟨mv, F, _⟩ := st.fr
  refine wpAny_For ?_ (fun v => rfl)
  refine Call_ (F.blt G.g hg.2.1 G.b ((G.bt _ hg.2.2.2).trans hg.2.2.1) ?_ C.fk hg.1.1 hg.1.2)
  refine PyProof.Rows.callWith_type1 (PyProof.Rows.spliced_more (wpAny_mono (h s st) ?_ fun _ _ x => x) (starEach_cons n)) (starEach_cons n)
  rintro v s1 ⟨d, xs1, r1, st1, c1, k1⟩
  refine PyProof.Rows.spliced_none ?_
  obtain ⟨n, rfl, ⟨h0, h1⟩, k1⟩ := k1.inv
  obtain ⟨t, rfl⟩ := r1
  refine call_range_1 ?_
  have hsz : Builtin.Range.rangeSize 0 n 1 = n := by rw [rangeSize_one]; split <;> omega
  obtain ⟨o1, es, ep, hLo, _⟩ := (id st1.fr.choose_spec.1).ns
  generalize hs2 : ({ s1 with heap := s1.heap.push { cls := .type "range", data := .fields #[.int 0 s1.toks, .int n t, .int 1 (s1.toks + 1)] }, toks := s1.toks + 1 + 1 } : Shared) = s2
  have st2 : St C m xs1 s2 := by rw [← hs2]; exact st1.keep push_keep
  have c2 : Ch G.R C.L s1 s2 := by rw [← hs2]; exact Ch.of push_keep
  refine wpAny_pyIter_range (a := 0) (b := n) (c := 1) (by rw [← hs2]; exact IsRange.new _ _ _ _ _ _ _) (small_one (by decide) (by decide) (by omega) (by omega)) ?_
  rw [hsz]
  obtain ⟨mv2, F2, _⟩ := id st2.fr
  have hlen : (upto n).length = n.toNat := by simp [upto]
  refine codeAny_mono (for_any (It := fun (i : Nat) h => IsRangeIter h s2.heap.objs.size (i : Int) (n - i) 1) (s₀ := s2) ⟨?_, ?_, ?_, ?_, fun i a v s' P E hi hv _ hp => wpAny_pure hp⟩ (asg1 hx)
    (Ne.symm (Nat.ne_of_lt F2.ns.lt)) (Nat.ne_of_gt st2.tape.lt) (b0_size st2.base) get_size ⟨_, s2.toks, rfl⟩ (fun b o e _ _ => Heap.get?_push_of_some _ e)
    (by show IsRangeIter _ _ ((0 : Nat) : Int) (n - ((0 : Nat) : Int)) 1; rw [show n - ((0 : Nat) : Int) = n by omega]; exact Heap.get?_push_size _ rfl) (st2.keep (tk := s2.toks) push_keep) k1) ?_
  · rintro i a s' P E ha hit hP
    unfold upto at ha
    rw [List.getElem?_map] at ha
    have hlt : i < n.toNat := by
      rcases Nat.lt_or_ge i n.toNat with q | q
      · exact q
      · rw [List.getElem?_eq_none (by simpa using q)] at ha; cases ha
    rw [List.getElem?_range hlt] at ha
    cases ha
    refine wpAny_pyNext_range_item hit (by omega) fun h₁ hit₁ hs₁ => ?_
    refine hP _ h₁ _ ?_ hs₁.extBut ⟨_, rfl⟩
    rw [show ((i + 1 : Nat) : Int) = (i : Int) + 1 by omega, show n - ((i : Int) + 1) = n - (i : Int) - 1 by omega]
    exact hit₁
  · rintro s' P E hit hP
    refine wpAny_pyNext_range_end C.hh hit ?_ hP
    rw [hlen]; omega
  · rintro i s' s'' hit c
    exact c.2 _ _ hit (Nat.ne_of_gt st2.tape.lt) (Ne.symm (Nat.ne_of_lt F2.ns.lt))
  · intro i h hi o ho ws k e
    rw [hi] at ho; cases ho; cases e
  · intro r s' hr
    cases r with
    | ok f => exact ResF.on (c1.trans c2) hr
    | error e => exact hr
end
end Mine
end
noncomputable section
open PySem PySem.W PySem.Calls PyProof.Rows PySem.Spec
namespace Mine

/-- the conditions, each with what it is good for -/
structure Wp {G : Gx} (C : Cx G) where
  ev : ∀ (e : Expr) (m : M) (xs : List Int) (K : D → List Int → Prop), {P : Prop // P → EV C e m xs K}
  es : ∀ (e : List Expr) (m : M) (xs : List Int) (K : List D → List Int → Prop), {P : Prop // P → EVS C e m xs K ∧ ∀ x ∈ e, NotStar x}
  tr : ∀ (e : Expr) (m : M) (xs : List Int) (K : Bool → List Int → Prop), {P : Prop // P → TR C e m xs K}
  ex : ∀ (b : List Stmt) (m : M) (xs : List Int) (Q : Fl → M → List Int → Prop), {P : Prop // P → EX C b m xs Q}

section
variable {G : Gx} {C : Cx G}
def Wp.vE (W : Wp C) (e : Expr) (m : M) (xs : List Int) (K : D → List Int → Prop) : Prop := (W.ev e m xs K).1
def Wp.vS (W : Wp C) (e : List Expr) (m : M) (xs : List Int) (K : List D → List Int → Prop) : Prop := (W.es e m xs K).1
def Wp.vT (W : Wp C) (e : Expr) (m : M) (xs : List Int) (K : Bool → List Int → Prop) : Prop := (W.tr e m xs K).1
def Wp.vX (W : Wp C) (b : List Stmt) (m : M) (xs : List Int) (Q : Fl → M → List Int → Prop) : Prop := (W.ex b m xs Q).1
end
section
variable {G : Gx} {C : Cx G} {sc : Scope} {U : List (Str × GV)}

theorem name_ok (hs : C.scope = sc) (ok : UOk G U) {x : Str} {p : Pos} {m : M} {xs : List Int} {K : D → List Int → Prop} (h : match lk x m with
      | some d => K d xs
      | none => match gv sc U x with
        | some (.cst d) => K d xs
        | _ => False) : EV C (.Name x p) m xs K := fun s st => by
  obtain ⟨mv, F, hm⟩ := st.fr
  split at h
  · rename_i d hd
    obtain ⟨⟨hl, hb⟩, v, hv, rv⟩ := hm _ _ hd
    exact F.ld hv (Res.mk d rv st Ch.refl h) C.fk hl hb
  · split at h
    · rename_i d hd
      rcases gv_ok hs ok hd with q | ⟨⟨hx, hb⟩, v, hv, rv⟩
      · cases q.2
      · exact F.glob G.g hv (Res.mk d ((Kp.of F.keep).rep rv) st Ch.refl h) C.fk hx hb
    · exact h.elim
theorem call_ok (hs : C.scope = sc) (ok : UOk G U) {x : Str} {a : Expr} {as : List Expr} {q p : Pos} {m : M} {xs : List Int} {K : D → List Int → Prop} (W : Wp C) (h : match gv sc U x with
      | some (.fn f) => (W.vS (a :: as) m xs fun ds xs1 => CallK C f ds xs1 K)
      | some .abs => match as with
        | [] => StarK a (W.vE a m xs fun d xs1 => AsI (fun a => K (.int a.natAbs) xs1) d)
        | _ => False
      | _ => False) : EV C (.Call (.Name x q) (a :: as) [] p) m xs K := by
  split at h
  · rename_i f hf
    rcases gv_ok hs ok hf with q | hg
    · cases q.2
    · have h := (W.es ..).2 h
      exact EV_call hg (h.2 _ (.head _)) (fun e he => h.2 e (.tail _ he)) h.1
  · rename_i hf
    split at h
    · rcases gv_ok hs ok hf with q | hg
      · cases q.2
      · exact EV_abs hg h.inv.1 ((W.ev ..).2 h.inv.2)
    · exact h.elim
  · exact h.elim
theorem imp_while {W : Wp C} {Y Y' : M → List Int → (Bool → List Int → Prop) → Prop} {body rest : List Stmt} {Q : Fl → M → List Int → Prop} {m : M} {xs : List Int} (hy : ∀ m xs (K K' : Bool → List Int → Prop), Y m xs K → (∀ b xs, K b xs → K' b xs) → Y' m xs K')
    (h : WhileI C Y W.vX body rest Q m xs) : WhileI C Y' (EX C) body rest Q m xs := by
  obtain ⟨α, J, mc, μ, a, ja, sa, step⟩ := h
  exact ⟨α, J, mc, μ, a, ja, sa, fun a ja => hy _ _ _ _ (step a ja) fun c xs1 h => h.imp (W.ex ..).2 (W.ex ..).2⟩
theorem imp_for {W : Wp C} {B : D → M → (M → Prop) → Prop} (hB : ∀ a m {P P' : M → Prop}, (∀ m, P m → P' m) → B a m P → B a m P') {body rest : List Stmt} {Q : Fl → M → List Int → Prop} {l : List D} {m : M} {xs : List Int}
    (h : ForI C W.vX B body rest Q l m xs) : ForI C (EX C) B body rest Q l m xs := by
  obtain ⟨mc, xf, sa, e, step, fin⟩ := h
  exact ⟨mc, xf, sa, e, fun i a h => hB _ _ (fun m h => (W.ex ..).2 h) (step i a h), (W.ex ..).2 fin⟩
theorem PairK.imp {K K' : D → D → Prop} {d : D} (h : PairK K d) (k : ∀ a b, K a b → K' a b) : PairK K' d := by obtain ⟨a, b, rfl, h⟩ := h.inv; exact k _ _ h
theorem hB1 {x : Str} (a : D) (m : M) {P P' : M → Prop} (h : ∀ m, P m → P' m) (k : B1 x a m P) : B1 x a m P' := h _ k
theorem hB2 {x y : Str} (a : D) (m : M) {P P' : M → Prop} (h : ∀ m, P m → P' m) (k : B2 x y a m P) : B2 x y a m P' := k.imp fun _ _ => h _

theorem go2 {x y : Str} {px py k tp} {I ax : Addr} {i : Nat} {a : D} {v : Value} {s' : Shared} {P : Unit → Shared → Prop} {E} (hi : s'.heap.IsListIter I ax i) (hr : Rep G.R s'.heap a v) (hb : ∃ m R, B2 x y a m R) (hp : P () s') :
    wpAny (model G.prog G.w) C.A (letOwnedTupleGo (.Tuple [.Name x px, .Name y py] k tp) (.ref I) v) P E s' := by
  obtain ⟨m, R, h⟩ := hb
  obtain ⟨c, d, rfl, _⟩ := h.inv
  obtain ⟨T, _, _, rfl, _⟩ := hr
  exact wpAny_letOwnedTupleGo_listiter hi hp

def NoComp (v : Expr) (P : Prop) : Prop := match v with
  | .Call .. => P
  | .Name .. => P
  | .Constant .. => P
  | .BinOp .. => P
  | .IfExp .. => P
  | .BoolOp .. => P
  | .Tuple .. => P
  | .List .. => P
  | .Subscript .. => P
  | _ => False
theorem NoComp.inv {v : Expr} {P : Prop} (h : NoComp v P) : P ∧ ∀ t l env, swapsWith v t l env = pure false := by
  cases v <;> first | exact False.elim h | exact ⟨h, fun _ _ _ => rfl⟩
def NoSet (v : Expr) (P : Prop) : Prop := match v with
  | .Set .. => False
  | _ => P
theorem NoSet.inv {v : Expr} {P : Prop} (h : NoSet v P) : P ∧ ∀ env x, foldedSetIterable v env x = pure x := by
  cases v <;> first | exact False.elim h | exact ⟨h, fun _ _ => rfl⟩

theorem range_ok (hs : C.scope = sc) (ok : UOk G U) {x f : Str} {px pf pos p : Pos} {e : Expr} {b rest : List Stmt} {m : M} {xs : List Int} {Q : Fl → M → List Int → Prop} (W : Wp C) (h : LocK (gv sc U x) (match gv sc U f with
      | some .rng => StarK e (W.vE e m xs fun d xs1 => AsI (fun n => (0 ≤ n ∧ n ≤ 1000) ∧ ForI C W.vX (B1 x) b rest Q (upto n) m xs1) d)
      | _ => False)) : EX C (.For (.Name x px) (.Call (.Name f pf) [e] [] pos) b [] p :: rest) m xs Q := by
  obtain ⟨hl, h⟩ := LocK.inv hs ok h
  split at h
  · rename_i hf
    rcases gv_ok hs ok hf with q | hg
    · cases q.2
    · exact EX_range hg hl (EV_mono ((W.ev ..).2 h.inv.2) fun d xs1 h => h.imp fun n h => ⟨h.1, imp_for hB1 h.2⟩) h.inv.1
  · exact h.elim
theorem nilNS : ∀ x ∈ ([] : List Expr), NotStar x := fun _ h => nomatch h
theorem consNS {e : Expr} {r : List Expr} (h : NotStar e) (k : ∀ x ∈ r, NotStar x) : ∀ x ∈ e :: r, NotStar x
  | _, .head _ => h
  | x, .tail _ hx => k x hx
def nsK (P : Prop) : List Expr → Prop
  | [] => P
  | e :: r => StarK e (nsK P r)
theorem nsK.inv {P : Prop} : ∀ {l : List Expr}, nsK P l → (∀ x ∈ l, NotStar x) ∧ P
  | [], h => ⟨nilNS, h⟩
  | e :: r, h => ⟨consNS (StarK.inv h).1 (nsK.inv (StarK.inv h).2).1, (nsK.inv (StarK.inv h).2).2⟩
theorem for1_ok (hs : C.scope = sc) (ok : UOk G U) {x : Str} {px p : Pos} {it : Expr} {b rest : List Stmt} {m : M} {xs : List Int} {Q : Fl → M → List Int → Prop} (W : Wp C)
    (h : LocK (gv sc U x) (NoSet it (W.vE it m xs fun d xs1 => ∃ l, d = lst l ∧ ForI C W.vX (B1 x) b rest Q l m xs1))) : EX C (.For (.Name x px) it b [] p :: rest) m xs Q := by
  obtain ⟨hx, h⟩ := LocK.inv hs ok h
  obtain ⟨h, hf⟩ := h.inv
  exact EX_for (asg1 hx) (fun I ax i a v s' P E _ _ _ hp => wpAny_pure hp) hf (EV_mono ((W.ev ..).2 h) fun d xs1 ⟨l, e, h⟩ => ⟨l, e, imp_for hB1 h⟩)
theorem for2_ok (hs : C.scope = sc) (ok : UOk G U) {x y : Str} {px py k tp p} {it : Expr} {b rest : List Stmt} {m : M} {xs : List Int} {Q : Fl → M → List Int → Prop} (W : Wp C)
    (h : LocK (gv sc U x) (LocK (gv sc U y) (NoSet it (W.vE it m xs fun d xs1 => ∃ l, d = lst l ∧ ForI C W.vX (B2 x y) b rest Q l m xs1)))) : EX C (.For (.Tuple [.Name x px, .Name y py] k tp) it b [] p :: rest) m xs Q := by
  obtain ⟨hx, h⟩ := LocK.inv hs ok h
  obtain ⟨hy, h⟩ := LocK.inv hs ok h
  obtain ⟨h, hf⟩ := h.inv
  exact EX_for (asg2 hx hy) (fun I ax i a v s' P E hi hr hb hp => go2 hi hr hb hp) hf (EV_mono ((W.ev ..).2 h) fun d xs1 ⟨l, e, h⟩ => ⟨l, e, imp_for hB2 h⟩)
theorem asg_ok (hs : C.scope = sc) (ok : UOk G U) {x : Str} {px p : Pos} {v : Expr} {rest : List Stmt} {m : M} {xs : List Int} {Q : Fl → M → List Int → Prop} (W : Wp C)
    (h : LocK (gv sc U x) (NoComp v (W.vE v m xs fun d xs1 => (W.vX rest ((x, d) :: m) xs1 Q)))) : EX C (.Assign [.Name x px] v p :: rest) m xs Q := by
  obtain ⟨hx, h⟩ := LocK.inv hs ok h
  obtain ⟨h, hf⟩ := h.inv
  exact EX_asg hx (EV_mono ((W.ev ..).2 h) fun d xs1 h => (W.ex ..).2 h) fun _ => hf _ _ _
theorem unp_ok (hs : C.scope = sc) (ok : UOk G U) {x y : Str} {px py k tp p fp} {f : Expr} {as ks} {rest : List Stmt} {m : M} {xs : List Int} {Q : Fl → M → List Int → Prop} (W : Wp C)
    (h : LocK (gv sc U x) (LocK (gv sc U y) (W.vE (.Call f as ks fp) m xs fun d xs1 => PairK (fun a b => (W.vX rest ((y, b) :: (x, a) :: m) xs1 Q)) d))) : EX C (.Assign [.Tuple [.Name x px, .Name y py] k tp] (.Call f as ks fp) p :: rest) m xs Q := by
  obtain ⟨hx, h⟩ := LocK.inv hs ok h
  obtain ⟨hy, h⟩ := LocK.inv hs ok h
  exact EX_unp hx hy (EV_mono ((W.ev ..).2 h) fun d xs1 h => h.imp fun a b h => (W.ex ..).2 h) (fun _ => rfl) fun _ => rfl

def wpS (hs : C.scope = sc) (ok : UOk G U) (W : Wp C) : Wp C :=
    { ev := fun e m xs K => match e with
        | .Constant (.int i) _ _ => ⟨K (.int i) xs, fun h s st => wpAny_Constant_int (Res.inc st Ch.refl h)⟩
        | .Constant (.bool b) _ _ => ⟨K (.bool b) xs, fun h s st => Constant_bool (Res.mk (.bool _) rfl st Ch.refl h)⟩
        | .Constant .none _ _ => ⟨K .none xs, fun h s st => Constant_none (Res.mk .none rfl st Ch.refl h)⟩
        | .Name x _ => ⟨match lk x m with
            | some d => K d xs
            | none => match gv sc U x with
              | some (.cst d) => K d xs
              | _ => False, name_ok hs ok⟩
        | .BinOp l op r _ => ⟨(W.vE l m xs fun d xs1 => (W.vE r m xs1 fun e xs2 => AsI (fun a => AsI (fun b => BinK op a b fun c => K (.int c) xs2) e) d)), fun h => EV_bin (EV_mono ((W.ev ..).2 h) fun d xs1 h => (W.ev ..).2 h)⟩
        | .UnaryOp .USub x _ => ⟨(W.vE x m xs fun d xs1 => AsI (fun a => K (.int (-a)) xs1) d), fun h => EV_neg ((W.ev ..).2 h)⟩
        | .IfExp t b o _ => ⟨(W.vT t m xs fun c xs1 => IfK c (W.vE b m xs1 K) (W.vE o m xs1 K)), fun h => EV_ite (TR_mono ((W.tr ..).2 h) fun c xs1 h => h.imp (W.ev ..).2 (W.ev ..).2)⟩
        | .BoolOp _ [x] _ => ⟨(W.vE x m xs K), fun h s st => BoolOp_one ((W.ev ..).2 h s st)⟩
        | .BoolOp .And (x :: y :: r) p => ⟨(W.vE x m xs fun d xs1 => AsB (fun b => IfK b (W.vE (.BoolOp .And (y :: r) p) m xs1 K) (K (.bool false) xs1)) d), fun h => EV_and (EV_mono ((W.ev ..).2 h) fun d xs1 h => h.imp fun b h => h.imp (W.ev ..).2 id)⟩
        | .BoolOp .Or (x :: y :: r) p => ⟨(W.vE x m xs fun d xs1 => AsB (fun b => IfK b (K (.bool true) xs1) (W.vE (.BoolOp .Or (y :: r) p) m xs1 K)) d), fun h => EV_or (EV_mono ((W.ev ..).2 h) fun d xs1 h => h.imp fun b h => h.imp id (W.ev ..).2)⟩
        | .Compare l [op] [r] _ => ⟨OpK op (W.vE l m xs fun d xs1 => (W.vE r m xs1 fun e xs2 => CmpK op d e fun b => K (.bool b) xs2)), fun h => EV_cmp (h.imp fun h => EV_mono ((W.ev ..).2 h) fun d xs1 h => (W.ev ..).2 h)⟩
        | .Tuple [a, b] _ _ => ⟨StarK a (StarK b (W.vE a m xs fun d xs1 => (W.vE b m xs1 fun e xs2 => K (.pair d e) xs2))), fun h => EV_tup h.inv.1 h.inv.2.inv.1 (EV_mono ((W.ev ..).2 h.inv.2.inv.2) fun d xs1 h => (W.ev ..).2 h)⟩
        | .List es _ => ⟨(W.vS es m xs fun ds xs1 => ds.length ≤ 1000 ∧ K (lst ds) xs1), fun h => EV_list ((W.es ..).2 h).1⟩
        | .Subscript v (.Slice a b c q) p => ⟨EV C (.Subscript v (.Slice a b c q) p) m xs K, id⟩
        | .Call (.Attribute o x q) as ks p => ⟨EV C (.Call (.Attribute o x q) as ks p) m xs K, id⟩
        | .Subscript v i _ => ⟨SliceK i (W.vE v m xs fun d xs1 => (W.vE i m xs1 fun j xs2 => SubK d j fun r => K r xs2)), fun h => EV_sub (EV_mono ((W.ev ..).2 h.inv.2) fun d xs1 h => (W.ev ..).2 h) h.inv.1⟩
        | .Call (.Name f _) (a :: as) [] _ => ⟨match gv sc U f with
            | some (.fn f) => (W.vS (a :: as) m xs fun ds xs1 => CallK C f ds xs1 K)
            | some .abs => match as with
              | [] => StarK a (W.vE a m xs fun d xs1 => AsI (fun a => K (.int a.natAbs) xs1) d)
              | _ => False
            | _ => False, call_ok hs ok W⟩
        | _ => ⟨False, False.elim⟩
      es := fun es m xs K => match es with
        | [] => ⟨K [] xs, fun h => ⟨EVS_nil h, nilNS⟩⟩
        | e :: r => ⟨StarK e (nsK (W.vE e m xs fun d xs1 => (W.vS r m xs1 fun ds xs2 => K (d :: ds) xs2)) r), fun h => ⟨EVS_cons h.inv.1 (EV_mono ((W.ev ..).2 (nsK.inv h.inv.2).2) fun d xs1 h => ((W.es ..).2 h).1), consNS h.inv.1 (nsK.inv h.inv.2).1⟩⟩
      tr := fun e m xs K => match e with
        | .Compare (.Name x p) [.NotEq] [.List [] q] r => ⟨TR C (.Compare (.Name x p) [.NotEq] [.List [] q] r) m xs K, id⟩
        | .UnaryOp .Not x _ => ⟨(W.vT x m xs fun b xs1 => K (!b) xs1), fun h s st => isTrue_not ((W.tr ..).2 h s st)⟩
        | .BoolOp .And [] _ => ⟨K true xs, fun h s st => isTrue_and_nil ⟨xs, st, Ch.refl, h⟩⟩
        | .BoolOp .Or [] _ => ⟨K false xs, fun h s st => isTrue_or_nil ⟨xs, st, Ch.refl, h⟩⟩
        | .BoolOp .And (x :: r) p => ⟨(W.vT x m xs fun b xs1 => IfK b (W.vT (.BoolOp .And r p) m xs1 K) (K false xs1)), fun h => TR_and (TR_mono ((W.tr ..).2 h) fun c xs1 h => h.imp (W.tr ..).2 id)⟩
        | .BoolOp .Or (x :: r) p => ⟨(W.vT x m xs fun b xs1 => IfK b (K true xs1) (W.vT (.BoolOp .Or r p) m xs1 K)), fun h => TR_or (TR_mono ((W.tr ..).2 h) fun c xs1 h => h.imp id (W.tr ..).2)⟩
        | .Compare l [op] [r] _ => ⟨OpK op (W.vE l m xs fun d xs1 => (W.vE r m xs1 fun e xs2 => CmpK op d e fun b => K b xs2)), fun h => TR_cmp (h.imp fun h => EV_mono ((W.ev ..).2 h) fun d xs1 h => (W.ev ..).2 h)⟩
        | .Name x p => ⟨(W.vE (.Name x p) m xs fun d xs1 => AsB (fun b => K b xs1) d), fun h => TR_plain ((W.ev ..).2 h) fun _ _ => rfl⟩
        | .Subscript x i p => ⟨(W.vE (.Subscript x i p) m xs fun d xs1 => AsB (fun b => K b xs1) d), fun h => TR_plain ((W.ev ..).2 h) fun _ _ => rfl⟩
        | .Call f as ks p => ⟨(W.vE (.Call f as ks p) m xs fun d xs1 => AsB (fun b => K b xs1) d), fun h => TR_plain ((W.ev ..).2 h) fun _ _ => rfl⟩
        | _ => ⟨False, False.elim⟩
      ex := fun b m xs Q => match b with
        | [] => ⟨Q .next m xs, EX_nil⟩
        | .Return (some e) _ :: _ => ⟨(W.vE e m xs fun d xs1 => Q (.ret d) m xs1), fun h => EX_ret ((W.ev ..).2 h)⟩
        | .If t b o _ :: rest => ⟨(W.vT t m xs fun c xs1 => IfK c (W.vX b m xs1 (seqK C (fun m xs => (W.vX rest m xs Q)) Q)) (W.vX o m xs1 (seqK C (fun m xs => (W.vX rest m xs Q)) Q))),
            fun h => EX_if (TR_mono ((W.tr ..).2 h) fun c xs1 h => h.imp (fun h => EX_mono ((W.ex ..).2 h) (seqK_mono fun _ _ h => (W.ex ..).2 h)) fun h => EX_mono ((W.ex ..).2 h) (seqK_mono fun _ _ h => (W.ex ..).2 h))⟩
        | .Assign [.Name x p] (.ListComp e g s q) pos :: rest => ⟨EX C (.Assign [.Name x p] (.ListComp e g s q) pos :: rest) m xs Q, id⟩
        | .Assign [.Name x _] v _ :: rest => ⟨LocK (gv sc U x) (NoComp v (W.vE v m xs fun d xs1 => (W.vX rest ((x, d) :: m) xs1 Q))), asg_ok hs ok W⟩
        | .Assign [.Tuple [.Name x _, .Name y _] _ _] (.Call f as ks p) _ :: rest => ⟨LocK (gv sc U x) (LocK (gv sc U y) (W.vE (.Call f as ks p) m xs fun d xs1 => PairK (fun a b => (W.vX rest ((y, b) :: (x, a) :: m) xs1 Q)) d)), unp_ok hs ok W⟩
        | .While t b [] _ :: rest => ⟨WhileI C (W.vT t) W.vX b rest Q m xs, fun h => EX_while (imp_while (fun m xs K K' h k => TR_mono ((W.tr ..).2 h) k) h)⟩
        | .For (.Name x _) (.Call (.Name f _) [e] [] _) b [] _ :: rest => ⟨LocK (gv sc U x) (match gv sc U f with
            | some .rng => StarK e (W.vE e m xs fun d xs1 => AsI (fun n => (0 ≤ n ∧ n ≤ 1000) ∧ ForI C W.vX (B1 x) b rest Q (upto n) m xs1) d)
            | _ => False), range_ok hs ok W⟩
        | .For (.Name x _) it b [] _ :: rest => ⟨LocK (gv sc U x) (NoSet it (W.vE it m xs fun d xs1 => ∃ l, d = lst l ∧ ForI C W.vX (B1 x) b rest Q l m xs1)), for1_ok hs ok W⟩
        | .For (.Tuple [.Name x _, .Name y _] _ _) it b [] _ :: rest => ⟨LocK (gv sc U x) (LocK (gv sc U y) (NoSet it (W.vE it m xs fun d xs1 => ∃ l, d = lst l ∧ ForI C W.vX (B2 x y) b rest Q l m xs1))), for2_ok hs ok W⟩
        | b => ⟨EX C b m xs Q, id⟩ }
def wp0 : Wp C := ⟨fun _ _ _ _ => ⟨False, False.elim⟩, fun _ _ _ _ => ⟨False, False.elim⟩, fun _ _ _ _ => ⟨False, False.elim⟩, fun _ _ _ _ => ⟨False, False.elim⟩⟩
def wp (hs : C.scope = sc) (ok : UOk G U) (n : Nat) : Wp C := Nat.rec wp0 (fun _ => wpS hs ok) n
end
end Mine
end
noncomputable section
open PySem PySem.W PySem.Calls PyProof.Rows PySem.Spec
namespace Mine
section
variable {G : Gx} {C : Cx G} {m : M} {xs : List Int}
/- contracts -/
def Done (r : D) (xs' : List Int) : Fl → M → List Int → Prop := fun fl _ xs'' => fl = .ret r ∧ xs'' = xs'
theorem done {r : D} : Done r xs (.ret r) m xs := ⟨rfl, rfl⟩

inductive Mt (R : Addr) (h : Heap) : M → List (Str × Value) → Prop
  | nil : Mt R h [] []
  | cons {x : Str} {d : D} {v : Value} {l : M} {k : List (Str × Value)} : Rep R h d v → Mt R h l k → Mt R h ((x, d) :: l) ((x, v) :: k)
theorem Mt.append {R : Addr} {h : Heap} {a c : M} {b e : List (Str × Value)} (x : Mt R h a b) (y : Mt R h c e) : Mt R h (a ++ c) (b ++ e) := by
  induction x with
  | nil => exact y
  | cons r _ ih => exact .cons r ih
theorem Mt.reverse {R : Addr} {h : Heap} {a : M} {b : List (Str × Value)} (x : Mt R h a b) : Mt R h a.reverse b.reverse := by
  induction x with
  | nil => exact .nil
  | cons r _ ih => rw [List.reverse_cons, List.reverse_cons]; exact ih.append (.cons r .nil)
theorem Mt.look {R : Addr} {h : Heap} {a : M} {b : List (Str × Value)} (m : Mt R h a b) {x : Str} {d : D} (e : lk x a = some d) : (∃ q, (x, q) ∈ a) ∧ ∃ v, b.lookup (x) = some v ∧ Rep R h d v := by
  induction m with
  | nil => cases e
  | @cons y d' v l k r _ ih =>
    by_cases hy : x = y
    · subst hy
      rw [lk, if_pos rfl] at e; cases e
      exact ⟨⟨_, .head _⟩, v, by rw [List.lookup_cons, beq_self_eq_true], r⟩
    · rw [lk, if_neg hy] at e
      obtain ⟨⟨q, hq⟩, w, hw, rw'⟩ := ih e
      refine ⟨⟨q, .tail _ hq⟩, w, ?_, rw'⟩
      have : (x == y) = false := by
        cases hb : (x == y) with
        | false => rfl
        | true => exact absurd (beq_iff_eq.mp hb) hy
      rw [List.lookup_cons, this]; exact hw
theorem mt_zip {R : Addr} {h : Heap} : ∀ {ps : List Str} {ds : List D} {vs : List Value}, ps.length = ds.length → RepAll R h vs ds → Mt R h (ps.zip ds) (ps.zip vs)
  | [], _, _, _, _ => .nil
  | _ :: _, [], _, e, _ => by cases e
  | _ :: _, _ :: _, [], _, r => r.elim
  | _ :: _, _ :: _, _ :: _, e, ⟨a, b⟩ => .cons a (mt_zip (by simpa using e) b)

/-- a scope that a call is plain in -/
def chk (sc : Scope) (ps : List Str) : Bool := (ps.all fun p => match sc.names.lookup p with | some .local => !(p == ("__debug__" : Str)) | _ => false) && (sc.names.all fun x => match x.2 with | .cell => false | _ => true) && !sc.isCoroutine && !sc.isGenerator && (match sc.kind with | .function => true | _ => false)
theorem chk_inv {sc : Scope} {ps : List Str} (h : chk sc ps = true) : (∀ p ∈ ps, sc.names.lookup p = some .local ∧ (p == ("__debug__" : Str)) = false) ∧ (∀ x ∈ sc.names, x.2 ≠ .cell) ∧ sc.isCoroutine = false ∧ sc.isGenerator = false ∧ sc.kind = .function := by
  unfold chk at h
  rw [Bool.and_eq_true, Bool.and_eq_true, Bool.and_eq_true, Bool.and_eq_true, List.all_eq_true, List.all_eq_true] at h
  obtain ⟨⟨⟨⟨h1, h2⟩, h3⟩, h4⟩, h5⟩ := h
  refine ⟨fun p hp => ?_, fun x hx e => ?_, by simpa using h3, by simpa using h4, ?_⟩
  · have := h1 p hp
    split at this
    · rename_i e; exact ⟨e, by simpa using this⟩
    · cases this
  · have := h2 x hx
    rw [e] at this; cases this
  · split at h5
    · rename_i e; exact e
    · cases h5

theorem fn_intro {f : Addr} {k : Nat} {K : Frag} {name qual : Str} {params : Arguments} {body : List Stmt} {scope : Scope} {dV kV doc pm cdv ct oc : Value} {an od : Option Addr} {osl : Array (Option Value)} {ps : List Str} {ds : List D} {xs xs' : List Int} {r : D} {U : List (Str × GV)} (ok : UOk G U) (n : Nat) (hK : G.K = K)
    (ho : K.lookup f = some ⟨oc, od, .func (fnOf name qual params body scope dV kV doc pm an cdv ct), osl⟩) (hcd : codeIn K cdv qual = true)
    (hbind : ∀ (s : Shared) (vs : List Value), vs.length = ds.length → BindsTo s (fnOf name qual params body scope dV kV doc pm an cdv ct) ⟨vs, []⟩ (ps.zip vs))
    (hps : chk scope ps = true)
    (hlen : ps.length = ds.length)
    (h : ∀ C : Cx G, (hs : C.scope = scope) → C.k = k → ((wp hs ok n).vX body (ps.zip ds).reverse xs (Done r xs'))) : Fn G f (k + 1) ds xs r xs' := by
  intro A s vs hh hd hu hb tp rp
  subst hK
  obtain ⟨hps, hcell, hco, hgen, hk⟩ := chk_inv hps
  have hvl := rp.length
  refine wpAny_call (codeAny_call_def (fd := fnOf name qual params body scope dV kV doc pm an cdv ct) (body := body) (binds := ps.zip vs) (by omega) (hb _ _ (G.inK _ _ ho)) rfl (G.lim.keeps hb) (codeRec_of (G.inK.keeps hb) hcd) rfl (hbind s vs hvl) hcell ?_ ?_ hco hgen hk)
  · intro x hx
    have := List.of_mem_zip hx
    exact (hps _ this.1).1
  intro h₁ hn hk₁
  let C : Cx G := { L := s.heap.objs.size, A := A.deeper (envOf qual scope s.heap.objs.size f cdv), k := k, qual := qual, scope := scope, fa := f, cd := cdv, hh := hh, dep := (by show A.depth + 1 + k < recursionLimit; omega), un := (by show A.units + 3 + 10 * k + 100 < cLine; omega), rl := Nat.ne_of_lt tp.lt, l0 := b0_size hb, fk := hk }
  have st : St C (ps.zip ds).reverse xs { s with heap := h₁, toks := s.toks + (ps.zip vs).length } := by
    refine ⟨⟨_, ⟨hn, fun b o e => hk₁ b o (hb b o e)⟩, fun x d e => ?_⟩, tp.keeps hk₁⟩
    obtain ⟨⟨q, hq⟩, v, hv, rv⟩ := (mt_zip hlen rp).reverse.look e
    exact ⟨hps x (List.of_mem_zip (List.mem_reverse.mp hq)).1, v, hv, (Kp.of hk₁).rep rv⟩
  refine wpAny_mono (show wpAny _ _ (execs body C.env) _ _ _ from ((wp (C := C) rfl ok n).ex body (ps.zip ds).reverse xs (Done r xs')).2 (h C rfl rfl) _ st) ?_ fun _ _ x => x.elim
  rintro fl s2 ⟨fl, m', xs2, rf, st2, c2, rfl, rfl⟩
  obtain ⟨v, rfl, rv⟩ := rf
  refine ⟨rv, st2.tape, ?_⟩
  obtain ⟨⟨h2, tk2, rfl⟩, c2⟩ := c2
  exact ⟨⟨h2, tk2, rfl⟩, fun b o e p _ => c2 b o (hk₁ b o e) p (Nat.ne_of_lt (Heap.lt_size e))⟩

theorem len1 {α : Type} {l : List α} (h : l.length = 1) : ∃ a, l = [a] := List.length_eq_one_iff.mp h
theorem len2 {α : Type} {l : List α} (h : l.length = 2) : ∃ a b, l = [a, b] := by
  cases l with
  | nil => cases h
  | cons a l => obtain ⟨b, rfl⟩ := len1 (Nat.succ.inj h); exact ⟨a, b, rfl⟩
theorem fn1 {f : Addr} {k : Nat} {K : Frag} {name qual : Str} {params : Arguments} {body : List Stmt} {scope : Scope} {dV kV doc pm cdv ct oc : Value} {an od : Option Addr} {osl : Array (Option Value)} {p : Str} {d : D} {xs xs' : List Int} {r : D} {U : List (Str × GV)} (ok : UOk G U) (n : Nat) (hK : G.K = K)
    (ho : K.lookup f = some ⟨oc, od, .func (fnOf name qual params body scope dV kV doc pm an cdv ct), osl⟩) (hcd : codeIn K cdv qual = true)
    (hbind : ∀ v, bindArgs (fnOf name qual params body scope dV kV doc pm an cdv ct) ⟨[v], []⟩ = pure [(p, v)]) (hps : chk scope [p] = true)
    (h : ∀ C : Cx G, (hs : C.scope = scope) → C.k = k → ((wp hs ok n).vX body [(p, d)] xs (Done r xs'))) : Fn G f (k + 1) [d] xs r xs' :=
  fn_intro (ps := [p]) ok n hK ho hcd (fun s vs h => by obtain ⟨v, rfl⟩ := len1 h; exact BindsTo.of_eq (hbind v)) hps rfl h
theorem fn2 {f : Addr} {k : Nat} {K : Frag} {name qual : Str} {params : Arguments} {body : List Stmt} {scope : Scope} {dV kV doc pm cdv ct oc : Value} {an od : Option Addr} {osl : Array (Option Value)} {p q : Str} {d e : D} {xs xs' : List Int} {r : D} {U : List (Str × GV)} (ok : UOk G U) (n : Nat) (hK : G.K = K)
    (ho : K.lookup f = some ⟨oc, od, .func (fnOf name qual params body scope dV kV doc pm an cdv ct), osl⟩) (hcd : codeIn K cdv qual = true)
    (hbind : ∀ v u, bindArgs (fnOf name qual params body scope dV kV doc pm an cdv ct) ⟨[v, u], []⟩ = pure [(p, v), (q, u)]) (hps : chk scope [p, q] = true)
    (h : ∀ C : Cx G, (hs : C.scope = scope) → C.k = k → ((wp hs ok n).vX body [(q, e), (p, d)] xs (Done r xs'))) : Fn G f (k + 1) [d, e] xs r xs' :=
  fn_intro (ps := [p, q]) ok n hK ho hcd (fun s vs h => by obtain ⟨v, u, rfl⟩ := len2 h; exact BindsTo.of_eq (hbind v u)) hps rfl h
end
end Mine
end
noncomputable section
open PySem PySem.W PySem.Calls PyProof.Rows PySem.Spec
namespace Mine
section
variable {G : Gx} {C : Cx G} {m : M} {xs : List Int} {Q : Fl → M → List Int → Prop} {rest : List Stmt}
theorem paired_eq {l k : List Value} (h : Paired (fun v y => y = v) l k) : k = l := by
  induction h with
  | nil => rfl
  | cons e _ ih => rw [e, ih]
theorem filter2 {p : Value → Bool} {v u : Value} {b d : Int} (h : p v = decide (b = 0)) (k : p u = decide (d = 0)) : List.filter p [v, u] = (if b = 0 then [v] else []) ++ (if d = 0 then [u] else []) := by
  rw [List.filter_cons, List.filter_cons, List.filter_nil, h, k]
  by_cases hb : b = 0
  · by_cases hd : d = 0
    · rw [if_pos hb, if_pos hd, decide_eq_true hb, decide_eq_true hd]; rfl
    · rw [if_pos hb, if_neg hd, decide_eq_true hb, decide_eq_false hd]; rfl
  · by_cases hd : d = 0
    · rw [if_neg hb, if_pos hd, decide_eq_false hb, decide_eq_true hd]; rfl
    · rw [if_neg hb, if_neg hd, decide_eq_false hb, decide_eq_false hd]; rfl
def zeros (a b c d : Int) : List D := (if b = 0 then [rat a b] else []) ++ (if d = 0 then [rat c d] else [])
/-- y = [z for z in [x1, x2] if z[1] == 0] -/
theorem EX_zeros {y z x1 x2 : Str} {py p1 p2 p3 p4 p5 p6 p7 p8 p9 pl pos spos : Pos} {sc : Scope} {a b c d : Int} {csc : Scope} (hcs : C.scope = csc) (hy : Loc C y) (h1 : lk x1 m = some (rat a b)) (h2 : lk x2 m = some (rat c d))
    (hsw : ∀ q L fa cd, swapsWith (.ListComp (.Name z p3) [⟨.Name z p4, .List [.Name x1 p1, .Name x2 p2] pl, [.Compare (.Subscript (.Name z p5) (.Constant (.int 1) 0 p6) p7) [.Eq] [.Constant (.int 0) 0 p8] p9], 0⟩] sc pos) (some (.Name y py)) spos.line (envOf q csc L fa cd) = pure true)
    (hsc : chk sc [z] = true) (hfree : ∀ z ∈ sc.names, z.2 ≠ .free) (hnames : ∀ z ∈ sc.names, z.2 = .local → sc.names.lookup z.1 = some .local)
    (h : EX C rest ((y, lst (zeros a b c d)) :: m) xs Q) :
    EX C (.Assign [.Name y py] (.ListComp (.Name z p3) [⟨.Name z p4, .List [.Name x1 p1, .Name x2 p2] pl, [.Compare (.Subscript (.Name z p5) (.Constant (.int 1) 0 p6) p7) [.Eq] [.Constant (.int 0) 0 p8] p9], 0⟩] sc pos) spos :: rest) m xs Q := EX_of fun s st => by
  obtain ⟨mv, F, hm⟩ := id st.fr
  obtain ⟨⟨hl1, hd1⟩, w1, hv1, A1, u1, u2, rfl, t1, ⟨ta, rfl⟩, tb, rfl⟩ := hm _ _ h1
  obtain ⟨⟨hl2, hd2⟩, w2, hv2, A2, u3, u4, rfl, t2, ⟨tc, rfl⟩, td, rfl⟩ := hm _ _ h2
  obtain ⟨hps, hcell, _, _, hkind⟩ := chk_inv hsc
  obtain ⟨hz, hzd⟩ := hps z (.head _)
  have hbd : A1 = A2 → b = d := by
    rintro rfl
    obtain ⟨o, ho, _, n, hd⟩ := t1
    obtain ⟨o', ho', _, n', hd'⟩ := t2
    rw [ho] at ho'; cases ho'; rw [hd] at hd'; cases hd'; rfl
  have pA2 : (if A2 = A1 then decide (b = 0) else decide (d = 0)) = decide (d = 0) := by
    split
    · rename_i e; rw [hbd e.symm]
    · rfl
  refine wpAny_Assign_ListComp_map (fun v => match v with | .ref A => if A = A1 then decide (b = 0) else decide (d = 0) | _ => false) (fun v y => y = v) (by have := hsw C.qual C.L C.fa C.cd; rw [← hcs] at this; exact this) C.hh hfree hcell hkind hnames hz hy.1
    (by show (C.scope.kind == .class || (C.scope.kind == .module && C.L != mainGlobals)) = false; rw [C.fk]; rfl) ?_ (fun _ => rfl)
  refine List_ (PyProof.Rows.spliced_more (F.ld hv1 ?_ C.fk hl1 hd1) (starEach_cons trivial))
  refine PyProof.Rows.spliced_more (F.ld hv2 ?_ C.fk hl2 hd2) (starEach_cons trivial)
  refine PyProof.Rows.spliced_none (wpAny_newObj_type ?_)
  have t1' := (Kp.of (R := G.R) (push_keep (h := s.heap) (o := { cls := .type "list", data := .seq #[.ref A1, .ref A2] }))).tup t1
  have t2' := (Kp.of (R := G.R) (push_keep (h := s.heap) (o := { cls := .type "list", data := .seq #[.ref A1, .ref A2] }))).tup t2
  have sub : ∀ {C2 v s₂ m₂ E'}, Heap.Ns (Shared.heap s₂) C2 m₂ → m₂ z = some v → ∀ {A : Addr} {p q : Int} {t u}, v = .ref A → IsTup (Shared.heap s₂) A #[.int p t, .int q u] → ∀ ok, decide (q = 0) = ok →
      wpAny (model G.prog G.w) C.A (isTrue (.Compare (.Subscript (.Name z p5) (.Constant (.int 1) 0 p6) p7) [.Eq] [.Constant (.int 0) 0 p8] p9) (compEnv sc C2 C.env) (eval (.Compare (.Subscript (.Name z p5) (.Constant (.int 1) 0 p6) p7) [.Eq] [.Constant (.int 0) 0 p8] p9) (compEnv sc C2 C.env))) (fun ok' s₃ => ok' = ok ∧ Keeps s₂ s₃) E' s₂ := by
    intro C2 v s₂ m₂ E' hn hm2 A p q t u hv ht ok hok
    subst hv
    refine wpAny_isTrue_Compare1 (Subscript_ (wpAny_Name (wpAny_loadName_local hkind hz hn hm2 ?_) hzd)) rfl
    refine wpAny_Constant_int ?_
    refine item_tupleT (l := [_, _]) ht (by decide) (by decide) rfl rfl ?_ rfl
    refine wpAny_Constant_int (PySem.P.eq_int (wpAny_truthy_bool ⟨?_, s₂.heap, _, rfl, fun _ _ e => e⟩))
    rw [← hok]; rfl
  refine ⟨_, #[.ref A1, .ref A2], mv, rfl, ⟨_, Heap.get?_push_size _ rfl, rfl, _, rfl⟩, (show 2 ≤ sizeLine by decide), F.ns.keeps push_keep, ?_, ?_, ?_⟩
  · intro C2 v s₂ m₂ E' hmem hn hm2 hk
    refine wpAny_tests_one ?_
    have hv : v = .ref A1 ∨ v = .ref A2 := by simpa using hmem
    rcases hv with rfl | rfl
    · exact sub hn hm2 rfl ((Kp.of (R := G.R) hk).tup t1') _ (if_pos rfl).symm
    · exact sub hn hm2 rfl ((Kp.of (R := G.R) hk).tup t2') _ pA2.symm
  · intro C2 v s₂ m₂ E' hmem _ hn hm2 hk
    exact wpAny_Name (wpAny_loadName_local hkind hz hn hm2 ⟨rfl, s₂.heap, s₂.toks, rfl, fun _ _ e => e⟩) hzd
  · intro D' h' tk ys hD hl hF hn hk
    have hR := push_keep (o := { cls := .type "list", data := .seq #[.ref A1, .ref A2] }) _ _ st.tape.choose_spec.choose_spec.1
    have ch : Ch G.R C.L s { s with heap := h', toks := tk } := ⟨⟨h', tk, rfl⟩, fun b o e _ hb => hk b o hb (push_keep b o e)⟩
    have hys := paired_eq hF
    have e1 : ys.toList = (if b = 0 then [Value.ref A1] else []) ++ (if d = 0 then [Value.ref A2] else []) := by
      rw [hys]
      exact filter2 (if_pos rfl) pA2
    refine ⟨.next, _, xs, rfl, ⟨⟨_, ⟨hn, fun b o e => hk b o (fun (q : b = C.L) => by rw [q, C.l0] at e; cases e) (push_keep b o (F.keep b o e))⟩, fun n e he => ?_⟩, let ⟨vs, n, hRR, hi⟩ := st.tape; ⟨vs, n, hk _ _ C.rl (push_keep _ _ hRR), hi⟩⟩, ch, h⟩
    unfold lk at he
    split at he
    · rename_i hy'
      cases he
      refine ⟨hy' ▸ hy, _, if_pos hy', rep_lst.mpr ⟨D', ys.toList, rfl, fun q => (by rw [q, hR] at hD; cases hD), hl, ?_⟩⟩
      rw [e1]
      have r1 : Rep G.R h' (rat a b) (.ref A1) := st.rep ch ⟨A1, _, _, rfl, t1, ⟨ta, rfl⟩, tb, rfl⟩
      have r2 : Rep G.R h' (rat c d) (.ref A2) := st.rep ch ⟨A2, _, _, rfl, t2, ⟨tc, rfl⟩, td, rfl⟩
      unfold zeros
      by_cases hb : b = 0
      · by_cases hd : d = 0
        · rw [if_pos hb, if_pos hd, if_pos hb, if_pos hd]; exact ⟨r1, r2, trivial⟩
        · rw [if_pos hb, if_neg hd, if_pos hb, if_neg hd]; exact ⟨r1, trivial⟩
      · by_cases hd : d = 0
        · rw [if_neg hb, if_pos hd, if_neg hb, if_pos hd]; exact ⟨r2, trivial⟩
        · rw [if_neg hb, if_neg hd, if_neg hb, if_neg hd]; trivial
    · rename_i hy'
      obtain ⟨l1, u, hu, ru⟩ := hm n e he
      exact ⟨l1, u, (if_neg hy').trans hu, st.rep ch ru⟩
end
end Mine
end
noncomputable section
open PySem PySem.W PySem.Calls PyProof.Rows PySem.Spec
namespace Mine
section
variable {G : Gx} {C : Cx G} {m : M} {xs ys : List Int} {s : Shared}

theorem IntsAre.pop {vs : List Value} {a : Int} (h : IntsAre vs (ys ++ [a])) : ∃ ws t, vs = ws ++ [.int a t] ∧ IntsAre ws ys := by
  induction ys generalizing vs with
  | nil =>
    cases h with
    | cons _ t r => cases r; exact ⟨[], t, rfl, .nil⟩
  | cons n l ih =>
    cases h with
    | cons _ u r => obtain ⟨ws, t, rfl, hw⟩ := ih r; exact ⟨_ :: ws, t, rfl, .cons _ u hw⟩

/-- the tape changed -/
theorem St.upd (st : St C m xs s) (f : Array Value → Array Value) {vs : List Value} {n : Nat} (hR : IsL s.heap G.R vs.toArray n) (hf : IntsAre (f vs.toArray).toList ys) :
    St C m ys { s with heap := s.heap.update G.R (Obj.mapSeq f) } ∧ Ch G.R C.L s { s with heap := s.heap.update G.R (Obj.mapSeq f) } := by
  have o : ∀ b ob, s.heap.get? b = some ob → b ≠ G.R → (s.heap.update G.R (Obj.mapSeq f)).get? b = some ob := fun b ob e hb => (Heap.get?_update_other _ _ (Ne.symm hb)).trans e
  refine ⟨st.by (fun b ob e hs hc => o b ob e (st.seqNe e hs hc).1) (fun b ob e => o b ob (st.base b ob e) fun q => by rw [q, G.r0] at e; cases e) (fun ob e => o _ ob e C.rl.symm) ⟨(f vs.toArray).toList, (if (f vs.toArray).size == vs.toArray.size then n else n + 1), ?_, hf⟩, ⟨_, s.toks, rfl⟩, fun b ob e p _ => o b ob e p⟩
  rw [Array.toArray_toList]
  exact hR.update f

theorem TR_rowne {r : Str} {p1 p2 p3 : Pos} {K : Bool → List Int → Prop} (hr : lk r m = some .row) (k : K (!decide (xs = [])) xs) : TR C (.Compare (.Name r p1) [.NotEq] [.List [] p2] p3) m xs K := fun s st => by
  obtain ⟨mv, F, hm⟩ := id st.fr
  obtain ⟨⟨hl, hd⟩, v, hv, rv⟩ := hm _ _ hr
  obtain rfl : v = .ref G.R := rv
  obtain ⟨vs, n, hR, hi⟩ := id st.tape
  refine wpAny_isTrue_Compare1 (F.ld hv ?_ C.fk hl hd) rfl
  refine List_ (PyProof.Rows.spliced_none (wpAny_newObj_type ?_))
  have st2 := st.keep (tk := s.toks) (push_keep (o := { cls := .type "list", data := .seq #[] }))
  have ra : Reads (s.heap.push { cls := .type "list", data := .seq #[] }) (.ref G.R) (.list (xs.map .int)) _ := reads_list_at (push_keep _ _ hR) rfl rfl (hi.reads _)
  have rb : Reads (s.heap.push { cls := .type "list", data := .seq #[] }) (.ref s.heap.objs.size) (.list []) _ := reads_list_at (Heap.get?_push_size _ rfl) rfl rfl .nil
  refine ne_dataH ra rb (shaped_ints xs) (shaped_ints []) C.un64 (wpAny_truthy_bool ⟨xs, st2, Ch.of push_keep, ?_⟩)
  have e : PyData.eqv (.list (xs.map .int)) (.list []) = decide (xs = []) := by cases xs <;> rfl
  rw [e]; exact k

theorem EV_pop {r : Str} {p1 p2 p3 : Pos} {a : Int} {K : D → List Int → Prop} (hr : lk r m = some .row) (hx : xs = ys ++ [a]) (hlen : xs.length ≤ 5000) (hl : (p2.endLine == p3.line) = true) (k : K (.int a) ys) : EV C (.Call (.Attribute (.Name r p1) "pop" p2) [] [] p3) m xs K := fun s st => by
  obtain ⟨mv, F, hm⟩ := id st.fr
  obtain ⟨⟨hl', hd⟩, v, hv, rv⟩ := hm _ _ hr
  obtain rfl : v = .ref G.R := rv
  obtain ⟨vs, n, hR, hi⟩ := id st.tape
  have hvl := hi.length
  rw [hx] at hi
  obtain ⟨ws, t, rfl, hw⟩ := IntsAre.pop hi
  refine wpAny_Call_method rfl rfl hl PySem.F.plainAttrs_list PySem.F.slot_list_pop PySem.F.type_list_pop (F.ld hv ⟨⟨_, hR, rfl⟩, fun a e => by cases e; exact ⟨_, hR, rfl⟩, ?_⟩ C.fk hl' hd)
  have up := st.upd (ys := ys) (fun xs => xs.eraseIdxIfInBounds ((ws ++ [Value.int a t]).toArray.size - 1)) hR (by
    have e : ((ws ++ [Value.int a t]).toArray.eraseIdxIfInBounds ((ws ++ [Value.int a t]).toArray.size - 1)).toList = ws := by
      have h1 : (ws ++ [Value.int a t]).toArray.size - 1 = ws.length := by simp
      rw [h1]; unfold Array.eraseIdxIfInBounds
      rw [dif_pos (by simp), Array.toList_eraseIdx, List.eraseIdx_append_of_length_le (Nat.le_refl _), Nat.sub_self]
      exact List.append_nil ws
    rw [e]; exact hw)
  exact PySem.P.pop_list hR (by simp) (Res.mk (.int a) ⟨t, rfl⟩ up.1 up.2 k) (by rw [List.size_toArray, hvl]; exact Nat.le_trans hlen (by decide))

theorem EX_append {Q : Fl → M → List Int → Prop} {rest : List Stmt} {r : Str} {p1 p2 p3 p : Pos} {e : Expr} (hr : lk r m = some .row) (ne : NotStar e) (hl : (p2.endLine == p3.line) = true) (hs : ∀ env, swapsWith (.Call (.Attribute (.Name r p1) "append" p2) [e] [] p3) none p.line env = pure false)
    (k : EV C e m xs fun d xs1 => AsI (fun i => xs1.length ≤ 5000 ∧ EX C rest m (xs1 ++ [i]) Q) d) : EX C (.Expr (.Call (.Attribute (.Name r p1) "append" p2) [e] [] p3) p :: rest) m xs Q := EX_of fun s st => by
  obtain ⟨mv, F, hm⟩ := id st.fr
  obtain ⟨⟨hl', hd⟩, v, hv, rv⟩ := hm _ _ hr
  obtain rfl : v = .ref G.R := rv
  obtain ⟨vs, n, hR, hi⟩ := id st.tape
  refine wpAny_Expr ?_ (by show (C.scope.kind == .module && _) = false; rw [C.fk]; rfl) (hs _)
  refine wpAny_Call_method rfl (by rw [starEach_cons ne]; rfl) hl PySem.F.plainAttrs_list PySem.F.slot_list_append PySem.F.type_list_append (F.ld hv ⟨⟨_, hR, rfl⟩, fun a e => by cases e; exact ⟨_, hR, rfl⟩, ?_⟩ C.fk hl' hd)
  rw [starEach_cons ne]
  refine PySem.P.append_list (wpAny_mono (k s st) ?_ fun _ _ x => x)
  rintro u s1 ⟨d, xs1, r1, st1, c1, k1⟩
  obtain ⟨i, rfl, hlen, k1⟩ := k1.inv
  obtain ⟨t, rfl⟩ := r1
  obtain ⟨vs1, n1, hR1, hi1⟩ := id st1.tape
  have up := st1.upd (ys := xs1 ++ [i]) (fun xs => xs.push (.int i t)) hR1 (by rw [Array.toList_push]; exact IntsAre.append hi1 (.cons i t .nil))
  exact ⟨vs1.toArray, n1, by rw [List.size_toArray, hi1.length]; exact Nat.le_trans hlen (by decide), hR1, .next, m, _, rfl, up.1, c1.trans up.2, k1⟩

theorem EX_reverse {Q : Fl → M → List Int → Prop} {rest : List Stmt} {r : Str} {p1 p2 p3 p : Pos} (hr : lk r m = some .row) (hl : (p2.endLine == p3.line) = true) (hs : ∀ env, swapsWith (.Call (.Attribute (.Name r p1) "reverse" p2) [] [] p3) none p.line env = pure false) (hlen : xs.length ≤ 5000)
    (k : EX C rest m xs.reverse Q) : EX C (.Expr (.Call (.Attribute (.Name r p1) "reverse" p2) [] [] p3) p :: rest) m xs Q := EX_of fun s st => by
  obtain ⟨mv, F, hm⟩ := id st.fr
  obtain ⟨⟨hl', hd⟩, v, hv, rv⟩ := hm _ _ hr
  obtain rfl : v = .ref G.R := rv
  obtain ⟨vs, n, hR, hi⟩ := id st.tape
  refine wpAny_Expr ?_ (by show (C.scope.kind == .module && _) = false; rw [C.fk]; rfl) (hs _)
  refine wpAny_Call_method rfl rfl hl PySem.F.plainAttrs_list PySem.F.slot_list_reverse PySem.F.type_list_reverse (F.ld hv ⟨⟨_, hR, rfl⟩, fun a e => by cases e; exact ⟨_, hR, rfl⟩, ?_⟩ C.fk hl' hd)
  have up := st.upd (ys := xs.reverse) (fun xs => xs.reverse) hR (by rw [Array.toList_reverse]; exact IntsAre.reverse hi)
  exact PySem.P.reverse_list hR ⟨.next, m, _, rfl, up.1, up.2, k⟩ (by rw [List.size_toArray, hi.length]; exact Nat.le_trans hlen (by decide))
end
end Mine
end
noncomputable section
open PySem PySem.W PySem.Calls PyProof.Rows PySem.Spec
namespace Mine
section
variable {M : Model} {A : Around} {E : Value → Shared → Prop} {s : Shared} {env : Env}
theorem execs_append : ∀ l rest : List Stmt, execs (l ++ rest) env = (execs l env >>= fun f => match f with | .next => execs rest env | f => pure f)
  | [], _ => rfl
  | a :: l, rest => by
    rw [List.cons_append, execs_cons, execs_cons, bind_assoc]
    refine congrArg _ (funext fun f => ?_)
    cases f <;> first | exact execs_append l rest | rfl
theorem wpAny_execs_app {l rest : List Stmt} {Q : Flow → Shared → Prop} (h : wpAny M A (execs l env) (fun f s' => match f with | .next => wpAny M A (execs rest env) Q E s' | f => Q f s') E s) : wpAny M A (execs (l ++ rest) env) Q E s := by
  rw [execs_append]
  refine wpAny_bind (wpAny_mono h (fun f s' h => ?_) fun _ _ x => x)
  cases f <;> first | exact h | exact wpAny_pure h
end

def Gx.at (G : Gx) (R : Addr) (h : G.b0.get? R = none) : Gx := { G with R := R, r0 := h }

def intL (l : List Int) : D := lst (l.map .int)
theorem repAll_ints {R : Addr} {h : Heap} : ∀ {l : List Int} {vs : List Value}, RepAll R h vs (l.map .int) ↔ IntsAre vs l
  | [], [] => ⟨fun _ => .nil, fun _ => trivial⟩
  | [], _ :: _ => ⟨fun e => False.elim e, fun e => nomatch e⟩
  | _ :: _, [] => ⟨fun e => False.elim e, fun e => nomatch e⟩
  | a :: l, v :: vs => ⟨fun ⟨⟨t, e⟩, r⟩ => e ▸ .cons a t (repAll_ints.mp r), fun e => by
    cases e with
    | cons _ t r => exact ⟨⟨t, rfl⟩, repAll_ints.mpr r⟩⟩

section
variable {G : Gx} {C : Cx G} {m : M} {xs : List Int}
theorem EV_slice {x : Str} {p1 p2 p3 p4 : Pos} {n : Int} {l : List Int} {K : D → List Int → Prop} (hr : lk x m = some (intL l)) (h0 : 0 ≤ n) (hlen : l.length ≤ 5000) (k : K (intL (l.take n.toNat)) xs) :
    EV C (.Subscript (.Name x p1) (.Slice none (some (.Constant (.int n) 0 p2)) none p3) p4) m xs K := fun s st => by
  obtain ⟨mv, F, hm⟩ := id st.fr
  obtain ⟨⟨hl, hd⟩, v, hv, rv⟩ := hm _ _ hr
  obtain ⟨A, vs, rfl, ne, hA, hvs⟩ := rep_lst.mp rv
  have hI := repAll_ints.mp hvs
  refine wpAny_Subscript_list_slice (F.ld hv ?_ C.fk hl hd)
  rw [evalPart_none, evalPart_some]
  refine wpAny_pure (wpAny_Constant_int ⟨A, vs.toArray, none, some n, rfl, hA, ?_, .none, .int n _, ?_⟩)
  · rw [List.size_toArray, hI.length]; exact Nat.le_trans hlen (by decide)
  have k2 : ∀ b o, s.heap.get? b = some o → ((s.heap.push { cls := .type "slice", data := .fields #[.none, .int n s.toks, .none] }).push { cls := .type "list", data := .seq (slicePick vs.toArray none (some n) none) }).get? b = some o := fun b o e => push_keep _ _ (push_keep _ _ e)
  refine Res.mk (intL (l.take n.toNat)) (rep_lst.mpr ⟨_, (slicePick vs.toArray none (some n) none).toList, rfl, ?_, ?_, repAll_ints.mpr (slice_ints_uptoW hI h0)⟩) (st.keep k2) (Ch.of k2) k
  · exact Nat.ne_of_gt (Nat.lt_succ_of_lt st.tape.lt)
  · have e := Heap.get?_push_size (s.heap.push { cls := .type "slice", data := .fields #[.none, .int n s.toks, .none] }) (o := { cls := .type "list", data := .seq (slicePick vs.toArray none (some n) none) }) rfl
    rw [Heap.size_push] at e
    have hL : ((s.heap.push { cls := .type "slice", data := .fields #[.none, .int n s.toks, .none] }).push { cls := .type "list", data := .seq (slicePick vs.toArray none (some n) none) }).IsList (s.heap.objs.size + 1) (slicePick vs.toArray none (some n) none) := ⟨_, e, rfl, _, rfl⟩
    have e0 : (slicePick vs.toArray none (some n) none).toList.toArray = slicePick vs.toArray none (some n) none := Array.toArray_toList
    exact e0.symm ▸ hL

/-- a def's frame -/
theorem fn_enter {f : Addr} {K : Frag} {name qual : Str} {params : Arguments} {body : List Stmt} {scope : Scope} {dV kV doc pm cdv ct oc : Value} {an od : Option Addr} {osl : Array (Option Value)} {ps : List Str} {A : Around} {s : Shared} {vs : List Value} {Z : Value → Shared → Prop} (hK : G.K = K)
    (ho : K.lookup f = some ⟨oc, od, .func (fnOf name qual params body scope dV kV doc pm an cdv ct), osl⟩) (hcd : codeIn K cdv qual = true)
    (hbind : bindArgs (fnOf name qual params body scope dV kV doc pm an cdv ct) ⟨vs, []⟩ = pure (ps.zip vs)) (hps : chk scope ps = true) (hd : A.depth < recursionLimit)
    (hb : ∀ b o, G.b0.get? b = some o → s.heap.get? b = some o)
    (h : ∀ h₁, h₁.Ns s.heap.objs.size (fun x => (ps.zip vs).reverse.lookup x) → (∀ b o, s.heap.get? b = some o → h₁.get? b = some o) →
      wpAny (model G.prog G.w) (A.deeper (envOf qual scope s.heap.objs.size f cdv)) (execs body (envOf qual scope s.heap.objs.size f cdv)) (fun fl s' => ∃ v, fl = .ret v ∧ Z v s') (fun _ _ => False) { s with heap := h₁, toks := s.toks + (ps.zip vs).length }) :
    wpAny (model G.prog G.w) A (call (.ref f) vs) Z (fun _ _ => False) s := by
  subst hK
  obtain ⟨hps, hcell, hco, hgen, hk⟩ := chk_inv hps
  refine wpAny_call (codeAny_call_def (fd := fnOf name qual params body scope dV kV doc pm an cdv ct) (body := body) (binds := ps.zip vs) hd (hb _ _ (G.inK _ _ ho)) rfl (G.lim.keeps hb) (codeRec_of (G.inK.keeps hb) hcd) rfl (BindsTo.of_eq hbind) hcell ?_ ?_ hco hgen hk)
  · intro x hx
    exact (hps _ (List.of_mem_zip hx).1).1
  intro h₁ hn hk₁
  refine wpAny_mono (show wpAny _ _ (execs body (envOf qual scope s.heap.objs.size f cdv)) _ _ _ from h h₁ hn hk₁) ?_ fun _ _ x => x.elim
  rintro fl s2 ⟨v, rfl, z⟩
  exact z
end
end Mine
end
noncomputable section
open PySem PySem.W PySem.Calls PyProof.Rows PySem.Challenge
namespace Mine
def st (i : Nat) : Stmt := pw_nz0475_01.main.body.getD i (.Pass ⟨0, 0, 0, 0⟩)
def init : Stmt := match st 2 with
  | .ClassDef _ _ _ (s :: _) _ _ _ _ _ _ _ => s
  | s => s
def fo (s : Stmt) (q m : Str) (t c : Nat) : Obj := match s with
  | .FunctionDef n a b _ _ _ sc _ _ _ => { cls := .type "function", data := .func { name := n, qualname := q, params := a, body := .stmts b, scope := sc, globals := 3, closure := [], defaults := .none, kwdefaults := .none, pyModule := .str m t, code := .ref c } }
  | _ => default
def co (n q : Str) (t : Nat) (l k : Int) (b u : Nat) : Obj := { cls := .type "code", data := .fields #[.str n t, .str q (t + 1), .str "/claim/cut.py" (t + 2), .int l 0, .int k 0, .int 0 0, .int 0 0, .int 3 0, .ref b, .bool true, .int 181 0, .ref (b + 1), .none, .ref (b + 2), .ref (b + 3), .ref (b + 4), .int u 0, .int l 0, .str "/claim/cut.py" (u + 1)] }
def ke (P : Params) (k : Str) (t : Nat) (v : Value) : DictEntry := { hash := PyData.keyHash P k, key := .str k t, val := v }
/-- the objects that the top leaves -/
def KF (P : Params) : Frag := [
  (2, { cls := .none, data := .dict #[ke P "type.__subclasses__.Exception.0" 205 (.int 24 0), ke P "type.__subclasses__.Exception.n" 206 (.int 1 0)] 2 }),
  (3, { cls := .type "dict", data := .dict #[ke P "__name__" 165 (.str "law_nz0475_01" 439), ke P "__doc__" 166 (.none), ke P "__package__" 167 (.none), ke P "__loader__" 168 (.builtin "__main__.__loader__#opaque"), ke P "__spec__" 169 (.none), ke P "__annotations__" 170 (.ref 6), ke P "__builtins__" 171 (.ref 4), ke P "__file__" 173 (.str "/claim/cut.py" 172), ke P "__cached__" 174 (.none), ke P "CoveError" 208 (.ref 24), ke P "Refusal" 233 (.ref 44), ke P "NAN" 238 (.ref 47), ke P "INF" 241 (.ref 48), ke P "ZERO" 244 (.ref 49), ke P "ONE" 247 (.ref 50), ke P "MOST_POWER" 249 (.int 4096 248), ke P "gcd" 257 (.ref 57), ke P "make" 266 (.ref 64), ke P "from_int" 273 (.ref 71), ke P "is_na" 280 (.ref 78), ke P "is_nan" 287 (.ref 85), ke P "is_finite" 294 (.ref 92), ke P "sign" 301 (.ref 99), ke P "marked" 309 (.ref 106), ke P "neg" 316 (.ref 113), ke P "add" 324 (.ref 120), ke P "sub" 332 (.ref 127), ke P "mul" 340 (.ref 134), ke P "div" 348 (.ref 141), ke P "isqrt" 357 (.ref 148), ke P "root" 366 (.ref 155), ke P "power" 374 (.ref 162), ke P "endless_power" 383 (.ref 169), ke P "infinite_power" 391 (.ref 176), ke P "whole_power" 399 (.ref 183), ke P "floor" 406 (.ref 190), ke P "ceiling" 413 (.ref 197), ke P "trunc" 420 (.ref 204), ke P "to_whole" 428 (.ref 211), ke P "compare" 438 (.ref 218), ke P "_law_row" 451 (.ref 225), ke P "_law_next" 458 (.ref 232), ke P "_law_reduced" 468 (.ref 239), ke P "_law_double" 478 (.ref 246), ke P "_law_mark" 486 (.ref 253), ke P "_law_side" 493 (.ref 260), ke P "_law_sum" 499 (.ref 265), ke P "_law_product" 509 (.ref 272), ke P "_law_quotient" 519 (.ref 279), ke P "_law_order" 529 (.ref 286), ke P "_law_power" 539 (.ref 293), ke P "law" 562 (.ref 300)] 52 }),
  (15, { cls := .type "tuple", data := .seq #[.type "Exception"] }),
  (22, { cls := .type "tuple", data := .seq #[] }),
  (23, { cls := .type "dict", data := .dict #[ke P "__module__" 196 (.str "vectorcove.errors" 187), ke P "__firstlineno__" 200 (.int 2 199), ke P "__static_attributes__" 201 (.ref 22), ke P "__weakref__" 203 (.ref 25), ke P "__doc__" 204 (.none)] 3 }),
  (24, { cls := .type "type", data := .cls { name := "CoveError", bases := [.type "Exception"], mro := [.ref 24, .type "Exception", .type "BaseException", .type "object"], ns := 23, qualname := "CoveError", subclasses := [.ref 44] }, slots := #[some (.ref 15), none, some (.str "CoveError" 189), some (.str "CoveError" 197), some (.builtin "Exception.__new__"), some (.bool true)] }),
  (25, { cls := .type "getset_descriptor", data := .fields #[.str "__weakref__" 202, .ref 24, .builtin "ExceptionGroup.__weakref__", .none] }),
  (28, { cls := .type "tuple", data := .seq #[.ref 24] }),
  (35, { cls := .type "tuple", data := .seq #[] }),
  (37, { cls := .type "tuple", data := .seq #[.str "self" 224, .str "message" 225] }),
  (38, { cls := .type "tuple", data := .seq #[] }),
  (40, co "__init__" "Refusal.__init__" 221 6 2 35 226),
  (41, fo init "Refusal.__init__" "vectorcove.errors" 187 40),
  (42, { cls := .type "tuple", data := .seq #[.str "message" 229] }),
  (43, { cls := .type "dict", data := .dict #[ke P "__module__" 216 (.str "vectorcove.errors" 187), ke P "__firstlineno__" 220 (.int 4 219), ke P "__init__" 228 (.ref 41), ke P "__static_attributes__" 230 (.ref 42), ke P "__doc__" 231 (.none)] 2 }),
  (44, { cls := .type "type", data := .cls { name := "Refusal", bases := [.ref 24], mro := [.ref 44, .ref 24, .type "Exception", .type "BaseException", .type "object"], ns := 43, qualname := "Refusal" }, slots := #[some (.ref 28), none, some (.str "Refusal" 209), some (.str "Refusal" 217), some (.builtin "Exception.__new__"), some (.bool true)] }),
  (47, { cls := .type "tuple", data := .seq #[.int 0 236, .int 0 237] }),
  (48, { cls := .type "tuple", data := .seq #[.int 1 239, .int 0 240] }),
  (49, { cls := .type "tuple", data := .seq #[.int 0 242, .int 1 243] }),
  (50, { cls := .type "tuple", data := .seq #[.int 1 245, .int 1 246] }),
  (56, co "gcd" "gcd" 250 14 2 51 255),
  (57, fo (st 9) "gcd" "vectorcove.rational" 234 56),
  (63, co "make" "make" 258 18 2 58 264),
  (64, fo (st 10) "make" "vectorcove.rational" 234 63),
  (70, co "from_int" "from_int" 267 28 1 65 271),
  (71, fo (st 11) "from_int" "vectorcove.rational" 234 70),
  (77, co "is_na" "is_na" 274 32 1 72 278),
  (78, fo (st 12) "is_na" "vectorcove.rational" 234 77),
  (84, co "is_nan" "is_nan" 281 34 1 79 285),
  (85, fo (st 13) "is_nan" "vectorcove.rational" 234 84),
  (91, co "is_finite" "is_finite" 288 36 1 86 292),
  (92, fo (st 14) "is_finite" "vectorcove.rational" 234 91),
  (98, co "sign" "sign" 295 38 1 93 299),
  (99, fo (st 15) "sign" "vectorcove.rational" 234 98),
  (105, co "marked" "marked" 302 44 2 100 307),
  (106, fo (st 16) "marked" "vectorcove.rational" 234 105),
  (112, co "neg" "neg" 310 48 1 107 314),
  (113, fo (st 17) "neg" "vectorcove.rational" 234 112),
  (119, co "add" "add" 317 52 2 114 322),
  (120, fo (st 18) "add" "vectorcove.rational" 234 119),
  (126, co "sub" "sub" 325 62 2 121 330),
  (127, fo (st 19) "sub" "vectorcove.rational" 234 126),
  (133, co "mul" "mul" 333 64 2 128 338),
  (134, fo (st 20) "mul" "vectorcove.rational" 234 133),
  (140, co "div" "div" 341 68 2 135 346),
  (141, fo (st 21) "div" "vectorcove.rational" 234 140),
  (147, co "isqrt" "isqrt" 349 76 1 142 355),
  (148, fo (st 22) "isqrt" "vectorcove.rational" 234 147),
  (154, co "root" "root" 358 87 1 149 364),
  (155, fo (st 23) "root" "vectorcove.rational" 234 154),
  (161, co "power" "power" 367 97 2 156 372),
  (162, fo (st 24) "power" "vectorcove.rational" 234 161),
  (168, co "endless_power" "endless_power" 375 115 2 163 381),
  (169, fo (st 25) "endless_power" "vectorcove.rational" 234 168),
  (175, co "infinite_power" "infinite_power" 384 120 2 170 389),
  (176, fo (st 26) "infinite_power" "vectorcove.rational" 234 175),
  (182, co "whole_power" "whole_power" 392 128 2 177 397),
  (183, fo (st 27) "whole_power" "vectorcove.rational" 234 182),
  (189, co "floor" "floor" 400 138 1 184 404),
  (190, fo (st 28) "floor" "vectorcove.rational" 234 189),
  (196, co "ceiling" "ceiling" 407 142 1 191 411),
  (197, fo (st 29) "ceiling" "vectorcove.rational" 234 196),
  (203, co "trunc" "trunc" 414 144 1 198 418),
  (204, fo (st 30) "trunc" "vectorcove.rational" 234 203),
  (210, co "to_whole" "to_whole" 421 148 1 205 426),
  (211, fo (st 31) "to_whole" "vectorcove.rational" 234 210),
  (217, co "compare" "compare" 429 153 2 212 436),
  (218, fo (st 32) "compare" "vectorcove.rational" 234 217),
  (224, co "_law_row" "_law_row" 441 172 1 219 449),
  (225, fo (st 34) "_law_row" "law_nz0475_01" 439 224),
  (231, co "_law_next" "_law_next" 452 185 1 226 456),
  (232, fo (st 35) "_law_next" "law_nz0475_01" 439 231),
  (238, co "_law_reduced" "_law_reduced" 459 187 2 233 466),
  (239, fo (st 36) "_law_reduced" "law_nz0475_01" 439 238),
  (245, co "_law_double" "_law_double" 469 193 1 240 476),
  (246, fo (st 37) "_law_double" "law_nz0475_01" 439 245),
  (252, co "_law_mark" "_law_mark" 479 202 2 247 484),
  (253, fo (st 38) "_law_mark" "law_nz0475_01" 439 252),
  (259, co "_law_side" "_law_side" 487 208 1 254 491),
  (260, fo (st 39) "_law_side" "law_nz0475_01" 439 259),
  (264, { cls := .type "code", data := .fields #[.str "_law_sum" 494, .str "_law_sum" 495, .str "/claim/cut.py" 496, .int 210 0, .int 2 0, .int 0 0, .int 0 0, .int 3 0, .ref 261, .bool true, .int 181 0, .ref 262, .none, .none, .none, .ref 263, .int 497 0, .int 210 0, .str "/claim/cut.py" 498] }),
  (265, fo (st 40) "_law_sum" "law_nz0475_01" 439 264),
  (271, co "_law_product" "_law_product" 500 218 2 266 507),
  (272, fo (st 41) "_law_product" "law_nz0475_01" 439 271),
  (278, co "_law_quotient" "_law_quotient" 510 225 2 273 517),
  (279, fo (st 42) "_law_quotient" "law_nz0475_01" 439 278),
  (285, co "_law_order" "_law_order" 520 236 2 280 527),
  (286, fo (st 43) "_law_order" "law_nz0475_01" 439 285),
  (292, co "_law_power" "_law_power" 530 242 2 287 537),
  (293, fo (st 44) "_law_power" "law_nz0475_01" 439 292),
  (299, co "law" "law" 540 257 1 294 560),
  (300, fo (st 45) "law" "law_nz0475_01" 439 299)]
def vw : Program := { pw_nz0475_01 with main := { pw_nz0475_01.main with body := [st 45] } }
def loose : List Str := [("CoveError" : Str), ("Refusal" : Str), ("NAN" : Str), ("INF" : Str), ("ZERO" : Str), ("ONE" : Str), ("MOST_POWER" : Str), ("gcd" : Str), ("make" : Str), ("from_int" : Str), ("is_na" : Str), ("is_nan" : Str), ("is_finite" : Str), ("sign" : Str), ("marked" : Str), ("neg" : Str), ("add" : Str), ("sub" : Str), ("mul" : Str), ("div" : Str), ("isqrt" : Str), ("root" : Str), ("power" : Str), ("endless_power" : Str), ("infinite_power" : Str), ("whole_power" : Str), ("floor" : Str), ("ceiling" : Str), ("trunc" : Str), ("to_whole" : Str), ("compare" : Str), ("_law_row" : Str), ("_law_next" : Str), ("_law_reduced" : Str), ("_law_double" : Str), ("_law_mark" : Str), ("_law_side" : Str), ("_law_sum" : Str), ("_law_product" : Str), ("_law_quotient" : Str), ("_law_order" : Str), ("_law_power" : Str)]
def H : Hook := kHook KF [2, 3, 15, 22, 23, 24, 25, 28, 35, 37, 38, 40, 41, 42, 43, 44, 47, 48, 49, 50, 56, 57, 63, 64, 70, 71, 77, 78, 84, 85, 91, 92, 98, 99, 105, 106, 112, 113, 119, 120, 126, 127, 133, 134, 140, 141, 147, 148, 154, 155, 161, 162, 168, 169, 175, 176, 182, 183, 189, 190, 196, 197, 203, 204, 210, 211, 217, 218, 224, 225, 231, 232, 238, 239, 245, 246, 252, 253, 259, 260, 264, 265, 271, 272, 278, 279, 285, 286, 292, 293, 299, 300] (fun _ => by kernel_rfl)
def fz (s : Stmt) (q : Str) : Obj := match s with
  | .FunctionDef n a b _ _ _ sc _ _ _ => { cls := .none, data := .func { name := n, qualname := q, params := a, body := .stmts b, scope := sc, globals := 0, closure := [], defaults := .none, kwdefaults := .none } }
  | _ => default
def ho_45 (P : Params) : Obj := { cls := .type "code", data := .fields #[.str "<module>" 182, .str "<module>" 183, .str "/claim/cut.py" 184, .int 1 0, .int 0 0, .int 0 0, .int 0 0, .int 0 0, .ref 11, .bool false, .int 181 0, .ref 12, .none, .none, .none, .none, .int 185 0, .int 1 0, .str "/claim/cut.py" 186] }
def ho_46 (P : Params) : Obj := { cls := .type "frame", slots := #[some (.ref 13), some (.ref 3), some (.ref 3), none, some (.str "__main__" 164), none, some (.ref 0)] }
def ho_49 (P : Params) : Obj := { cls := .none, data := .dict #[ke P "type.__subclasses__.Exception.0" 205 (.int 24 0), ke P "type.__subclasses__.Exception.n" 206 (.int 1 0)] 2 }
def ho_50 (P : Params) : Obj := { cls := .type "dict", data := .dict #[ke P "__name__" 165 (.str "vectorcove.errors" 187), ke P "__doc__" 166 (.none), ke P "__package__" 167 (.none), ke P "__loader__" 168 (.builtin "__main__.__loader__#opaque"), ke P "__spec__" 169 (.none), ke P "__annotations__" 170 (.ref 6), ke P "__builtins__" 171 (.ref 4), ke P "__file__" 173 (.str "/claim/cut.py" 172), ke P "__cached__" 174 (.none), ke P "CoveError" 208 (.ref 24)] 10 }
def ho_51 (P : Params) : Obj := { cls := .none, data := .fields #[.int 2 0, .int 0 0, .ref 20] }
def ho_52 (P : Params) : Obj := { cls := .type "tuple", data := .seq #[.type "Exception"] }
def ho_53 (P : Params) : Obj := { cls := .type "builtin_function_or_method", data := .fields #[.builtin "type.__prepare__", .type "type"] }
def ho_54 (P : Params) : Obj := { cls := .type "dict", data := .dict #[ke P "__module__" 196 (.str "vectorcove.errors" 187), ke P "__qualname__" 198 (.str "CoveError" 197), ke P "__firstlineno__" 200 (.int 2 199), ke P "__static_attributes__" 201 (.ref 22)] 4 }
def ho_57 (P : Params) : Obj := { cls := .type "code", data := .fields #[.str "CoveError" 191, .str "CoveError" 192, .str "/claim/cut.py" 193, .int 2 0, .int 0 0, .int 0 0, .int 0 0, .int 0 0, .ref 18, .bool false, .int 181 0, .ref 19, .none, .none, .none, .none, .int 194 0, .int 2 0, .str "/claim/cut.py" 195] }
def ho_58 (P : Params) : Obj := { cls := .type "frame", slots := #[some (.ref 20), some (.ref 3), some (.ref 17), none, some (.str "vectorcove.errors" 187), none, some (.ref 0)] }
def ho_60 (P : Params) : Obj := { cls := .type "dict", data := .dict #[ke P "__module__" 196 (.str "vectorcove.errors" 187), ke P "__firstlineno__" 200 (.int 2 199), ke P "__static_attributes__" 201 (.ref 22), ke P "__weakref__" 203 (.ref 25), ke P "__doc__" 204 (.none)] 3 }
def ho_61 (P : Params) : Obj := { cls := .type "type", data := .cls { name := "CoveError", bases := [.type "Exception"], mro := [.ref 24, .type "Exception", .type "BaseException", .type "object"], ns := 23, qualname := "CoveError" }, slots := #[some (.ref 15), none, some (.str "CoveError" 189), some (.str "CoveError" 197), some (.builtin "Exception.__new__"), some (.bool true)] }
def ho_62 (P : Params) : Obj := { cls := .type "getset_descriptor", data := .fields #[.str "__weakref__" 202, .ref 24, .builtin "ExceptionGroup.__weakref__", .none] }
def ho_63 (P : Params) : Obj := { cls := .type "super", data := .fields #[.ref 24, .ref 24, .ref 24] }
def ho_64 (P : Params) : Obj := { cls := .type "builtin_function_or_method", data := .fields #[.builtin "object.__init_subclass__", .ref 24] }
def ho_65 (P : Params) : Obj := { cls := .type "dict", data := .dict #[ke P "__name__" 165 (.str "vectorcove.rational" 234), ke P "__doc__" 166 (.none), ke P "__package__" 167 (.none), ke P "__loader__" 168 (.builtin "__main__.__loader__#opaque"), ke P "__spec__" 169 (.none), ke P "__annotations__" 170 (.ref 6), ke P "__builtins__" 171 (.ref 4), ke P "__file__" 173 (.str "/claim/cut.py" 172), ke P "__cached__" 174 (.none), ke P "CoveError" 208 (.ref 24), ke P "Refusal" 233 (.ref 44), ke P "NAN" 238 (.ref 47), ke P "INF" 241 (.ref 48), ke P "ZERO" 244 (.ref 49), ke P "ONE" 247 (.ref 50), ke P "MOST_POWER" 249 (.int 4096 248), ke P "gcd" 257 (.ref 57), ke P "make" 266 (.ref 64)] 18 }
def ho_66 (P : Params) : Obj := { cls := .none, data := .fields #[.int 2 0, .int 0 0, .ref 20, .int 4 0, .int 0 0, .ref 33, .int 14 0, .int 0 0, .ref 56, .int 18 0, .int 0 0, .ref 63] }
def ho_67 (P : Params) : Obj := { cls := .type "type", data := .cls { name := "CoveError", bases := [.type "Exception"], mro := [.ref 24, .type "Exception", .type "BaseException", .type "object"], ns := 23, qualname := "CoveError", subclasses := [.ref 44] }, slots := #[some (.ref 15), none, some (.str "CoveError" 189), some (.str "CoveError" 197), some (.builtin "Exception.__new__"), some (.bool true)] }
def ho_68 (P : Params) : Obj := { cls := .type "tuple", data := .seq #[.ref 24] }
def ho_69 (P : Params) : Obj := { cls := .type "builtin_function_or_method", data := .fields #[.builtin "type.__prepare__", .type "type"] }
def ho_70 (P : Params) : Obj := { cls := .type "dict", data := .dict #[ke P "__module__" 216 (.str "vectorcove.errors" 187), ke P "__qualname__" 218 (.str "Refusal" 217), ke P "__firstlineno__" 220 (.int 4 219), ke P "__init__" 228 (.ref 41), ke P "__static_attributes__" 230 (.ref 42)] 5 }
def ho_72 (P : Params) : Obj := { cls := .none, data := .fields #[.int 6 0, .int 4 0, .ref 40] }
def ho_73 (P : Params) : Obj := { cls := .type "code", data := .fields #[.str "Refusal" 211, .str "Refusal" 212, .str "/claim/cut.py" 213, .int 4 0, .int 0 0, .int 0 0, .int 0 0, .int 0 0, .ref 31, .bool false, .int 181 0, .ref 32, .none, .none, .none, .none, .int 214 0, .int 4 0, .str "/claim/cut.py" 215] }
def ho_74 (P : Params) : Obj := { cls := .type "frame", slots := #[some (.ref 33), some (.ref 3), some (.ref 30), none, some (.str "vectorcove.errors" 187), none, some (.ref 0)] }
def ho_77 (P : Params) : Obj := { cls := .type "tuple", data := .seq #[.str "self" 224, .str "message" 225] }
def ho_79 (P : Params) : Obj := fz init "Refusal.__init__"
def ho_80 (P : Params) : Obj := co "__init__" "Refusal.__init__" 221 6 2 35 226
def ho_81 (P : Params) : Obj := fo init "Refusal.__init__" "vectorcove.errors" 187 40
def ho_82 (P : Params) : Obj := { cls := .type "tuple", data := .seq #[.str "message" 229] }
def ho_83 (P : Params) : Obj := { cls := .type "dict", data := .dict #[ke P "__module__" 216 (.str "vectorcove.errors" 187), ke P "__firstlineno__" 220 (.int 4 219), ke P "__init__" 228 (.ref 41), ke P "__static_attributes__" 230 (.ref 42), ke P "__doc__" 231 (.none)] 2 }
def ho_84 (P : Params) : Obj := { cls := .type "type", data := .cls { name := "Refusal", bases := [.ref 24], mro := [.ref 44, .ref 24, .type "Exception", .type "BaseException", .type "object"], ns := 43, qualname := "Refusal" }, slots := #[some (.ref 28), none, some (.str "Refusal" 209), some (.str "Refusal" 217), some (.builtin "Exception.__new__"), some (.bool true)] }
def ho_85 (P : Params) : Obj := { cls := .type "super", data := .fields #[.ref 44, .ref 44, .ref 44] }
def ho_86 (P : Params) : Obj := { cls := .type "builtin_function_or_method", data := .fields #[.builtin "object.__init_subclass__", .ref 44] }
def ho_87 (P : Params) : Obj := { cls := .type "tuple", data := .seq #[.int 0 236, .int 0 237] }
def ho_88 (P : Params) : Obj := { cls := .type "tuple", data := .seq #[.int 1 239, .int 0 240] }
def ho_89 (P : Params) : Obj := { cls := .type "tuple", data := .seq #[.int 0 242, .int 1 243] }
def ho_90 (P : Params) : Obj := { cls := .type "tuple", data := .seq #[.int 1 245, .int 1 246] }
def ho_93 (P : Params) : Obj := { cls := .type "tuple", data := .seq #[.str "a" 253, .str "b" 254] }
def ho_95 (P : Params) : Obj := fz (st 9) "gcd"
def ho_96 (P : Params) : Obj := co "gcd" "gcd" 250 14 2 51 255
def ho_97 (P : Params) : Obj := fo (st 9) "gcd" "vectorcove.rational" 234 56
def ho_100 (P : Params) : Obj := { cls := .type "tuple", data := .seq #[.str "n" 261, .str "d" 262, .str "common" 263] }
def ho_102 (P : Params) : Obj := fz (st 10) "make"
def ho_103 (P : Params) : Obj := co "make" "make" 258 18 2 58 264
def ho_104 (P : Params) : Obj := fo (st 10) "make" "vectorcove.rational" 234 63
def ho_105 (P : Params) : Obj := { cls := .type "dict", data := .dict #[ke P "__name__" 165 (.str "vectorcove.rational" 234), ke P "__doc__" 166 (.none), ke P "__package__" 167 (.none), ke P "__loader__" 168 (.builtin "__main__.__loader__#opaque"), ke P "__spec__" 169 (.none), ke P "__annotations__" 170 (.ref 6), ke P "__builtins__" 171 (.ref 4), ke P "__file__" 173 (.str "/claim/cut.py" 172), ke P "__cached__" 174 (.none), ke P "CoveError" 208 (.ref 24), ke P "Refusal" 233 (.ref 44), ke P "NAN" 238 (.ref 47), ke P "INF" 241 (.ref 48), ke P "ZERO" 244 (.ref 49), ke P "ONE" 247 (.ref 50), ke P "MOST_POWER" 249 (.int 4096 248), ke P "gcd" 257 (.ref 57), ke P "make" 266 (.ref 64), ke P "from_int" 273 (.ref 71), ke P "is_na" 280 (.ref 78), ke P "is_nan" 287 (.ref 85), ke P "is_finite" 294 (.ref 92), ke P "sign" 301 (.ref 99), ke P "marked" 309 (.ref 106), ke P "neg" 316 (.ref 113), ke P "add" 324 (.ref 120), ke P "sub" 332 (.ref 127), ke P "mul" 340 (.ref 134), ke P "div" 348 (.ref 141), ke P "isqrt" 357 (.ref 148), ke P "root" 366 (.ref 155)] 31 }
def ho_106 (P : Params) : Obj := { cls := .none, data := .fields #[.int 2 0, .int 0 0, .ref 20, .int 4 0, .int 0 0, .ref 33, .int 14 0, .int 0 0, .ref 56, .int 18 0, .int 0 0, .ref 63, .int 28 0, .int 0 0, .ref 70, .int 32 0, .int 0 0, .ref 77, .int 34 0, .int 0 0, .ref 84, .int 36 0, .int 0 0, .ref 91, .int 38 0, .int 0 0, .ref 98, .int 44 0, .int 0 0, .ref 105, .int 48 0, .int 0 0, .ref 112, .int 52 0, .int 0 0, .ref 119, .int 62 0, .int 0 0, .ref 126, .int 64 0, .int 0 0, .ref 133, .int 68 0, .int 0 0, .ref 140, .int 76 0, .int 0 0, .ref 147, .int 87 0, .int 0 0, .ref 154] }
def ho_109 (P : Params) : Obj := { cls := .type "tuple", data := .seq #[.str "n" 270] }
def ho_111 (P : Params) : Obj := fz (st 11) "from_int"
def ho_112 (P : Params) : Obj := co "from_int" "from_int" 267 28 1 65 271
def ho_113 (P : Params) : Obj := fo (st 11) "from_int" "vectorcove.rational" 234 70
def ho_116 (P : Params) : Obj := { cls := .type "tuple", data := .seq #[.str "x" 277] }
def ho_118 (P : Params) : Obj := fz (st 12) "is_na"
def ho_119 (P : Params) : Obj := co "is_na" "is_na" 274 32 1 72 278
def ho_120 (P : Params) : Obj := fo (st 12) "is_na" "vectorcove.rational" 234 77
def ho_123 (P : Params) : Obj := { cls := .type "tuple", data := .seq #[.str "x" 284] }
def ho_125 (P : Params) : Obj := fz (st 13) "is_nan"
def ho_126 (P : Params) : Obj := co "is_nan" "is_nan" 281 34 1 79 285
def ho_127 (P : Params) : Obj := fo (st 13) "is_nan" "vectorcove.rational" 234 84
def ho_130 (P : Params) : Obj := { cls := .type "tuple", data := .seq #[.str "x" 291] }
def ho_132 (P : Params) : Obj := fz (st 14) "is_finite"
def ho_133 (P : Params) : Obj := co "is_finite" "is_finite" 288 36 1 86 292
def ho_134 (P : Params) : Obj := fo (st 14) "is_finite" "vectorcove.rational" 234 91
def ho_137 (P : Params) : Obj := { cls := .type "tuple", data := .seq #[.str "x" 298] }
def ho_139 (P : Params) : Obj := fz (st 15) "sign"
def ho_140 (P : Params) : Obj := co "sign" "sign" 295 38 1 93 299
def ho_141 (P : Params) : Obj := fo (st 15) "sign" "vectorcove.rational" 234 98
def ho_144 (P : Params) : Obj := { cls := .type "tuple", data := .seq #[.str "x" 305, .str "y" 306] }
def ho_146 (P : Params) : Obj := fz (st 16) "marked"
def ho_147 (P : Params) : Obj := co "marked" "marked" 302 44 2 100 307
def ho_148 (P : Params) : Obj := fo (st 16) "marked" "vectorcove.rational" 234 105
def ho_151 (P : Params) : Obj := { cls := .type "tuple", data := .seq #[.str "x" 313] }
def ho_153 (P : Params) : Obj := fz (st 17) "neg"
def ho_154 (P : Params) : Obj := co "neg" "neg" 310 48 1 107 314
def ho_155 (P : Params) : Obj := fo (st 17) "neg" "vectorcove.rational" 234 112
def ho_158 (P : Params) : Obj := { cls := .type "tuple", data := .seq #[.str "x" 320, .str "y" 321] }
def ho_160 (P : Params) : Obj := fz (st 18) "add"
def ho_161 (P : Params) : Obj := co "add" "add" 317 52 2 114 322
def ho_162 (P : Params) : Obj := fo (st 18) "add" "vectorcove.rational" 234 119
def ho_165 (P : Params) : Obj := { cls := .type "tuple", data := .seq #[.str "x" 328, .str "y" 329] }
def ho_167 (P : Params) : Obj := fz (st 19) "sub"
def ho_168 (P : Params) : Obj := co "sub" "sub" 325 62 2 121 330
def ho_169 (P : Params) : Obj := fo (st 19) "sub" "vectorcove.rational" 234 126
def ho_172 (P : Params) : Obj := { cls := .type "tuple", data := .seq #[.str "x" 336, .str "y" 337] }
def ho_174 (P : Params) : Obj := fz (st 20) "mul"
def ho_175 (P : Params) : Obj := co "mul" "mul" 333 64 2 128 338
def ho_176 (P : Params) : Obj := fo (st 20) "mul" "vectorcove.rational" 234 133
def ho_179 (P : Params) : Obj := { cls := .type "tuple", data := .seq #[.str "x" 344, .str "y" 345] }
def ho_181 (P : Params) : Obj := fz (st 21) "div"
def ho_182 (P : Params) : Obj := co "div" "div" 341 68 2 135 346
def ho_183 (P : Params) : Obj := fo (st 21) "div" "vectorcove.rational" 234 140
def ho_186 (P : Params) : Obj := { cls := .type "tuple", data := .seq #[.str "n" 352, .str "guess" 353, .str "better" 354] }
def ho_188 (P : Params) : Obj := fz (st 22) "isqrt"
def ho_189 (P : Params) : Obj := co "isqrt" "isqrt" 349 76 1 142 355
def ho_190 (P : Params) : Obj := fo (st 22) "isqrt" "vectorcove.rational" 234 147
def ho_193 (P : Params) : Obj := { cls := .type "tuple", data := .seq #[.str "x" 361, .str "n" 362, .str "d" 363] }
def ho_195 (P : Params) : Obj := fz (st 23) "root"
def ho_196 (P : Params) : Obj := co "root" "root" 358 87 1 149 364
def ho_197 (P : Params) : Obj := fo (st 23) "root" "vectorcove.rational" 234 154
def ho_198 (P : Params) : Obj := { cls := .type "dict", data := .dict #[ke P "__name__" 165 (.str "law_nz0475_01" 439), ke P "__doc__" 166 (.none), ke P "__package__" 167 (.none), ke P "__loader__" 168 (.builtin "__main__.__loader__#opaque"), ke P "__spec__" 169 (.none), ke P "__annotations__" 170 (.ref 6), ke P "__builtins__" 171 (.ref 4), ke P "__file__" 173 (.str "/claim/cut.py" 172), ke P "__cached__" 174 (.none), ke P "CoveError" 208 (.ref 24), ke P "Refusal" 233 (.ref 44), ke P "NAN" 238 (.ref 47), ke P "INF" 241 (.ref 48), ke P "ZERO" 244 (.ref 49), ke P "ONE" 247 (.ref 50), ke P "MOST_POWER" 249 (.int 4096 248), ke P "gcd" 257 (.ref 57), ke P "make" 266 (.ref 64), ke P "from_int" 273 (.ref 71), ke P "is_na" 280 (.ref 78), ke P "is_nan" 287 (.ref 85), ke P "is_finite" 294 (.ref 92), ke P "sign" 301 (.ref 99), ke P "marked" 309 (.ref 106), ke P "neg" 316 (.ref 113), ke P "add" 324 (.ref 120), ke P "sub" 332 (.ref 127), ke P "mul" 340 (.ref 134), ke P "div" 348 (.ref 141), ke P "isqrt" 357 (.ref 148), ke P "root" 366 (.ref 155), ke P "power" 374 (.ref 162), ke P "endless_power" 383 (.ref 169), ke P "infinite_power" 391 (.ref 176), ke P "whole_power" 399 (.ref 183), ke P "floor" 406 (.ref 190), ke P "ceiling" 413 (.ref 197), ke P "trunc" 420 (.ref 204), ke P "to_whole" 428 (.ref 211), ke P "compare" 438 (.ref 218), ke P "_law_row" 451 (.ref 225), ke P "_law_next" 458 (.ref 232), ke P "_law_reduced" 468 (.ref 239)] 43 }
def ho_199 (P : Params) : Obj := { cls := .none, data := .fields #[.int 2 0, .int 0 0, .ref 20, .int 4 0, .int 0 0, .ref 33, .int 14 0, .int 0 0, .ref 56, .int 18 0, .int 0 0, .ref 63, .int 28 0, .int 0 0, .ref 70, .int 32 0, .int 0 0, .ref 77, .int 34 0, .int 0 0, .ref 84, .int 36 0, .int 0 0, .ref 91, .int 38 0, .int 0 0, .ref 98, .int 44 0, .int 0 0, .ref 105, .int 48 0, .int 0 0, .ref 112, .int 52 0, .int 0 0, .ref 119, .int 62 0, .int 0 0, .ref 126, .int 64 0, .int 0 0, .ref 133, .int 68 0, .int 0 0, .ref 140, .int 76 0, .int 0 0, .ref 147, .int 87 0, .int 0 0, .ref 154, .int 97 0, .int 0 0, .ref 161, .int 115 0, .int 0 0, .ref 168, .int 120 0, .int 0 0, .ref 175, .int 128 0, .int 0 0, .ref 182, .int 138 0, .int 0 0, .ref 189, .int 142 0, .int 0 0, .ref 196, .int 144 0, .int 0 0, .ref 203, .int 148 0, .int 0 0, .ref 210, .int 153 0, .int 0 0, .ref 217, .int 172 0, .int 0 0, .ref 224, .int 185 0, .int 0 0, .ref 231, .int 187 0, .int 0 0, .ref 238] }
def ho_202 (P : Params) : Obj := { cls := .type "tuple", data := .seq #[.str "x" 370, .str "y" 371] }
def ho_204 (P : Params) : Obj := fz (st 24) "power"
def ho_205 (P : Params) : Obj := co "power" "power" 367 97 2 156 372
def ho_206 (P : Params) : Obj := fo (st 24) "power" "vectorcove.rational" 234 161
def ho_209 (P : Params) : Obj := { cls := .type "tuple", data := .seq #[.str "x" 378, .str "side" 379, .str "large" 380] }
def ho_211 (P : Params) : Obj := fz (st 25) "endless_power"
def ho_212 (P : Params) : Obj := co "endless_power" "endless_power" 375 115 2 163 381
def ho_213 (P : Params) : Obj := fo (st 25) "endless_power" "vectorcove.rational" 234 168
def ho_216 (P : Params) : Obj := { cls := .type "tuple", data := .seq #[.str "x" 387, .str "y" 388] }
def ho_218 (P : Params) : Obj := fz (st 26) "infinite_power"
def ho_219 (P : Params) : Obj := co "infinite_power" "infinite_power" 384 120 2 170 389
def ho_220 (P : Params) : Obj := fo (st 26) "infinite_power" "vectorcove.rational" 234 175
def ho_223 (P : Params) : Obj := { cls := .type "tuple", data := .seq #[.str "x" 395, .str "n" 396] }
def ho_225 (P : Params) : Obj := fz (st 27) "whole_power"
def ho_226 (P : Params) : Obj := co "whole_power" "whole_power" 392 128 2 177 397
def ho_227 (P : Params) : Obj := fo (st 27) "whole_power" "vectorcove.rational" 234 182
def ho_230 (P : Params) : Obj := { cls := .type "tuple", data := .seq #[.str "x" 403] }
def ho_232 (P : Params) : Obj := fz (st 28) "floor"
def ho_233 (P : Params) : Obj := co "floor" "floor" 400 138 1 184 404
def ho_234 (P : Params) : Obj := fo (st 28) "floor" "vectorcove.rational" 234 189
def ho_237 (P : Params) : Obj := { cls := .type "tuple", data := .seq #[.str "x" 410] }
def ho_239 (P : Params) : Obj := fz (st 29) "ceiling"
def ho_240 (P : Params) : Obj := co "ceiling" "ceiling" 407 142 1 191 411
def ho_241 (P : Params) : Obj := fo (st 29) "ceiling" "vectorcove.rational" 234 196
def ho_244 (P : Params) : Obj := { cls := .type "tuple", data := .seq #[.str "x" 417] }
def ho_246 (P : Params) : Obj := fz (st 30) "trunc"
def ho_247 (P : Params) : Obj := co "trunc" "trunc" 414 144 1 198 418
def ho_248 (P : Params) : Obj := fo (st 30) "trunc" "vectorcove.rational" 234 203
def ho_251 (P : Params) : Obj := { cls := .type "tuple", data := .seq #[.str "x" 424, .str "found" 425] }
def ho_253 (P : Params) : Obj := fz (st 31) "to_whole"
def ho_254 (P : Params) : Obj := co "to_whole" "to_whole" 421 148 1 205 426
def ho_255 (P : Params) : Obj := fo (st 31) "to_whole" "vectorcove.rational" 234 210
def ho_258 (P : Params) : Obj := { cls := .type "tuple", data := .seq #[.str "x" 432, .str "y" 433, .str "left" 434, .str "right" 435] }
def ho_260 (P : Params) : Obj := fz (st 32) "compare"
def ho_261 (P : Params) : Obj := co "compare" "compare" 429 153 2 212 436
def ho_262 (P : Params) : Obj := fo (st 32) "compare" "vectorcove.rational" 234 217
def ho_265 (P : Params) : Obj := { cls := .type "tuple", data := .seq #[.str "script" 444, .str "row" 445, .str "cell" 446, .str "figure" 447, .str "lap" 448] }
def ho_267 (P : Params) : Obj := fz (st 34) "_law_row"
def ho_268 (P : Params) : Obj := co "_law_row" "_law_row" 441 172 1 219 449
def ho_269 (P : Params) : Obj := fo (st 34) "_law_row" "law_nz0475_01" 439 224
def ho_272 (P : Params) : Obj := { cls := .type "tuple", data := .seq #[.str "row" 455] }
def ho_274 (P : Params) : Obj := fz (st 35) "_law_next"
def ho_275 (P : Params) : Obj := co "_law_next" "_law_next" 452 185 1 226 456
def ho_276 (P : Params) : Obj := fo (st 35) "_law_next" "law_nz0475_01" 439 231
def ho_279 (P : Params) : Obj := { cls := .type "tuple", data := .seq #[.str "n" 462, .str "d" 463, .str "a" 464, .str "b" 465] }
def ho_281 (P : Params) : Obj := fz (st 36) "_law_reduced"
def ho_282 (P : Params) : Obj := co "_law_reduced" "_law_reduced" 459 187 2 233 466
def ho_283 (P : Params) : Obj := fo (st 36) "_law_reduced" "law_nz0475_01" 439 238
def ho_284 (P : Params) : Obj := { cls := .type "dict", data := .dict #[ke P "__name__" 165 (.str "law_nz0475_01" 439), ke P "__doc__" 166 (.none), ke P "__package__" 167 (.none), ke P "__loader__" 168 (.builtin "__main__.__loader__#opaque"), ke P "__spec__" 169 (.none), ke P "__annotations__" 170 (.ref 6), ke P "__builtins__" 171 (.ref 4), ke P "__file__" 173 (.str "/claim/cut.py" 172), ke P "__cached__" 174 (.none), ke P "CoveError" 208 (.ref 24), ke P "Refusal" 233 (.ref 44), ke P "NAN" 238 (.ref 47), ke P "INF" 241 (.ref 48), ke P "ZERO" 244 (.ref 49), ke P "ONE" 247 (.ref 50), ke P "MOST_POWER" 249 (.int 4096 248), ke P "gcd" 257 (.ref 57), ke P "make" 266 (.ref 64), ke P "from_int" 273 (.ref 71), ke P "is_na" 280 (.ref 78), ke P "is_nan" 287 (.ref 85), ke P "is_finite" 294 (.ref 92), ke P "sign" 301 (.ref 99), ke P "marked" 309 (.ref 106), ke P "neg" 316 (.ref 113), ke P "add" 324 (.ref 120), ke P "sub" 332 (.ref 127), ke P "mul" 340 (.ref 134), ke P "div" 348 (.ref 141), ke P "isqrt" 357 (.ref 148), ke P "root" 366 (.ref 155), ke P "power" 374 (.ref 162), ke P "endless_power" 383 (.ref 169), ke P "infinite_power" 391 (.ref 176), ke P "whole_power" 399 (.ref 183), ke P "floor" 406 (.ref 190), ke P "ceiling" 413 (.ref 197), ke P "trunc" 420 (.ref 204), ke P "to_whole" 428 (.ref 211), ke P "compare" 438 (.ref 218), ke P "_law_row" 451 (.ref 225), ke P "_law_next" 458 (.ref 232), ke P "_law_reduced" 468 (.ref 239), ke P "_law_double" 478 (.ref 246), ke P "_law_mark" 486 (.ref 253), ke P "_law_side" 493 (.ref 260), ke P "_law_sum" 499 (.ref 265), ke P "_law_product" 509 (.ref 272), ke P "_law_quotient" 519 (.ref 279), ke P "_law_order" 529 (.ref 286), ke P "_law_power" 539 (.ref 293), ke P "law" 562 (.ref 300)] 52 }
def ho_285 (P : Params) : Obj := { cls := .none, data := .fields #[.int 2 0, .int 0 0, .ref 20, .int 4 0, .int 0 0, .ref 33, .int 14 0, .int 0 0, .ref 56, .int 18 0, .int 0 0, .ref 63, .int 28 0, .int 0 0, .ref 70, .int 32 0, .int 0 0, .ref 77, .int 34 0, .int 0 0, .ref 84, .int 36 0, .int 0 0, .ref 91, .int 38 0, .int 0 0, .ref 98, .int 44 0, .int 0 0, .ref 105, .int 48 0, .int 0 0, .ref 112, .int 52 0, .int 0 0, .ref 119, .int 62 0, .int 0 0, .ref 126, .int 64 0, .int 0 0, .ref 133, .int 68 0, .int 0 0, .ref 140, .int 76 0, .int 0 0, .ref 147, .int 87 0, .int 0 0, .ref 154, .int 97 0, .int 0 0, .ref 161, .int 115 0, .int 0 0, .ref 168, .int 120 0, .int 0 0, .ref 175, .int 128 0, .int 0 0, .ref 182, .int 138 0, .int 0 0, .ref 189, .int 142 0, .int 0 0, .ref 196, .int 144 0, .int 0 0, .ref 203, .int 148 0, .int 0 0, .ref 210, .int 153 0, .int 0 0, .ref 217, .int 172 0, .int 0 0, .ref 224, .int 185 0, .int 0 0, .ref 231, .int 187 0, .int 0 0, .ref 238, .int 193 0, .int 0 0, .ref 245, .int 202 0, .int 0 0, .ref 252, .int 208 0, .int 0 0, .ref 259, .int 210 0, .int 0 0, .ref 264, .int 218 0, .int 0 0, .ref 271, .int 225 0, .int 0 0, .ref 278, .int 236 0, .int 0 0, .ref 285, .int 242 0, .int 0 0, .ref 292, .int 257 0, .int 0 0, .ref 299] }
def ho_288 (P : Params) : Obj := { cls := .type "tuple", data := .seq #[.str "row" 472, .str "kind" 473, .str "n" 474, .str "d" 475] }
def ho_290 (P : Params) : Obj := fz (st 37) "_law_double"
def ho_291 (P : Params) : Obj := co "_law_double" "_law_double" 469 193 1 240 476
def ho_292 (P : Params) : Obj := fo (st 37) "_law_double" "law_nz0475_01" 439 245
def ho_295 (P : Params) : Obj := { cls := .type "tuple", data := .seq #[.str "x" 482, .str "y" 483] }
def ho_297 (P : Params) : Obj := fz (st 38) "_law_mark"
def ho_298 (P : Params) : Obj := co "_law_mark" "_law_mark" 479 202 2 247 484
def ho_299 (P : Params) : Obj := fo (st 38) "_law_mark" "law_nz0475_01" 439 252
def ho_302 (P : Params) : Obj := { cls := .type "tuple", data := .seq #[.str "x" 490] }
def ho_304 (P : Params) : Obj := fz (st 39) "_law_side"
def ho_305 (P : Params) : Obj := co "_law_side" "_law_side" 487 208 1 254 491
def ho_306 (P : Params) : Obj := fo (st 39) "_law_side" "law_nz0475_01" 439 259
def ho_309 (P : Params) : Obj := fz (st 40) "_law_sum"
def ho_310 (P : Params) : Obj := { cls := .type "code", data := .fields #[.str "_law_sum" 494, .str "_law_sum" 495, .str "/claim/cut.py" 496, .int 210 0, .int 2 0, .int 0 0, .int 0 0, .int 3 0, .ref 261, .bool true, .int 181 0, .ref 262, .none, .none, .none, .ref 263, .int 497 0, .int 210 0, .str "/claim/cut.py" 498] }
def ho_311 (P : Params) : Obj := fo (st 40) "_law_sum" "law_nz0475_01" 439 264
def ho_314 (P : Params) : Obj := { cls := .type "tuple", data := .seq #[.str "x" 503, .str "y" 504, .str "found" 505, .str "marked_so" 506] }
def ho_316 (P : Params) : Obj := fz (st 41) "_law_product"
def ho_317 (P : Params) : Obj := co "_law_product" "_law_product" 500 218 2 266 507
def ho_318 (P : Params) : Obj := fo (st 41) "_law_product" "law_nz0475_01" 439 271
def ho_321 (P : Params) : Obj := { cls := .type "tuple", data := .seq #[.str "x" 513, .str "y" 514, .str "found" 515, .str "marked_so" 516] }
def ho_323 (P : Params) : Obj := fz (st 42) "_law_quotient"
def ho_324 (P : Params) : Obj := co "_law_quotient" "_law_quotient" 510 225 2 273 517
def ho_325 (P : Params) : Obj := fo (st 42) "_law_quotient" "law_nz0475_01" 439 278
def ho_328 (P : Params) : Obj := { cls := .type "tuple", data := .seq #[.str "x" 523, .str "y" 524, .str "left" 525, .str "right" 526] }
def ho_330 (P : Params) : Obj := fz (st 43) "_law_order"
def ho_331 (P : Params) : Obj := co "_law_order" "_law_order" 520 236 2 280 527
def ho_332 (P : Params) : Obj := fo (st 43) "_law_order" "law_nz0475_01" 439 285
def ho_335 (P : Params) : Obj := { cls := .type "tuple", data := .seq #[.str "x" 533, .str "n" 534, .str "found" 535, .str "lap" 536] }
def ho_337 (P : Params) : Obj := fz (st 44) "_law_power"
def ho_338 (P : Params) : Obj := co "_law_power" "_law_power" 530 242 2 287 537
def ho_339 (P : Params) : Obj := fo (st 44) "_law_power" "law_nz0475_01" 439 292
def ho_342 (P : Params) : Obj := { cls := .type "tuple", data := .seq #[.str "script" 543, .str "row" 544, .str "x" 545, .str "y" 546, .str "z" 547, .str "n" 548, .str "one" 549, .str "two" 550, .str "minus" 551, .str "finite" 552, .str "real" 553, .str "down" 554, .str "up" 555, .str "cut" 556, .str "square" 557, .str "due" 558, .str "error" 559] }
def ho_344 (P : Params) : Obj := fz (st 45) "law"
def ho_345 (P : Params) : Obj := co "law" "law" 540 257 1 294 560
def ho_346 (P : Params) : Obj := fo (st 45) "law" "law_nz0475_01" 439 299
def tr0 (P : Params) : BT := (.node (boot_o_0 P) (.node (boot_o_1 P) (.node (boot_o_3 P) (.node (boot_o_7 P) .nil .nil) (.node (boot_o_7 P) .nil .nil)) (.node (boot_o_5 P) (.node (boot_o_9 P) .nil .nil) (.node (ho_45 P) .nil .nil))) (.node (boot_o_2 P) (.node (boot_o_4 P) (.node (boot_o_8 P) .nil .nil) (.node (boot_o_8 P) .nil .nil)) (.node (boot_o_6 P) (.node (boot_o_10 P) .nil .nil) (.node (ho_46 P) .nil .nil))))
def tr1 (P : Params) : BT := (.node (boot_o_0 P) (.node (boot_o_1 P) (.node (ho_50 P) (.node (boot_o_7 P) (.node (ho_52 P) .nil .nil) (.node (ho_60 P) .nil .nil)) (.node (boot_o_7 P) (.node (boot_o_8 P) .nil .nil) (.node (ho_64 P) .nil .nil))) (.node (boot_o_5 P) (.node (boot_o_9 P) (.node (ho_54 P) .nil .nil) (.node (ho_62 P) .nil .nil)) (.node (ho_45 P) (.node (ho_58 P) .nil .nil) .nil))) (.node (ho_49 P) (.node (boot_o_4 P) (.node (boot_o_8 P) (.node (ho_53 P) .nil .nil) (.node (ho_61 P) .nil .nil)) (.node (ho_51 P) (.node (ho_57 P) .nil .nil) .nil)) (.node (boot_o_6 P) (.node (boot_o_10 P) (.node (boot_o_7 P) .nil .nil) (.node (ho_63 P) .nil .nil)) (.node (ho_46 P) (.node (boot_o_7 P) .nil .nil) .nil))))
def tr2 (P : Params) : BT := (.node (boot_o_0 P) (.node (boot_o_1 P) (.node (ho_65 P) (.node (boot_o_7 P) (.node (ho_52 P) (.node (boot_o_7 P) (.node (ho_103 P) .nil .nil) .nil) (.node (ho_87 P) .nil .nil)) (.node (ho_60 P) (.node (ho_79 P) .nil .nil) (.node (ho_95 P) .nil .nil))) (.node (boot_o_7 P) (.node (boot_o_8 P) (.node (boot_o_7 P) .nil .nil) (.node (boot_o_7 P) .nil .nil)) (.node (ho_64 P) (.node (ho_83 P) .nil .nil) (.node (boot_o_8 P) .nil .nil)))) (.node (boot_o_5 P) (.node (boot_o_9 P) (.node (ho_54 P) (.node (ho_73 P) .nil .nil) (.node (ho_89 P) .nil .nil)) (.node (ho_62 P) (.node (ho_81 P) .nil .nil) (.node (ho_97 P) .nil .nil))) (.node (ho_45 P) (.node (ho_58 P) (.node (ho_77 P) .nil .nil) (.node (ho_93 P) .nil .nil)) (.node (ho_69 P) (.node (ho_85 P) .nil .nil) (.node (boot_o_7 P) .nil .nil))))) (.node (ho_49 P) (.node (boot_o_4 P) (.node (boot_o_8 P) (.node (ho_53 P) (.node (ho_72 P) (.node (ho_104 P) .nil .nil) .nil) (.node (ho_88 P) .nil .nil)) (.node (ho_67 P) (.node (ho_80 P) .nil .nil) (.node (ho_96 P) .nil .nil))) (.node (ho_66 P) (.node (ho_57 P) (.node (boot_o_8 P) .nil .nil) (.node (boot_o_8 P) .nil .nil)) (.node (ho_68 P) (.node (ho_84 P) .nil .nil) (.node (ho_100 P) .nil .nil)))) (.node (boot_o_6 P) (.node (boot_o_10 P) (.node (boot_o_7 P) (.node (ho_74 P) .nil .nil) (.node (ho_90 P) .nil .nil)) (.node (ho_63 P) (.node (ho_82 P) .nil .nil) (.node (boot_o_7 P) .nil .nil))) (.node (ho_46 P) (.node (boot_o_7 P) (.node (boot_o_7 P) .nil .nil) (.node (boot_o_7 P) .nil .nil)) (.node (ho_70 P) (.node (ho_86 P) .nil .nil) (.node (ho_102 P) .nil .nil))))))
def tr3 (P : Params) : BT := (.node (boot_o_0 P) (.node (boot_o_1 P) (.node (ho_105 P) (.node (boot_o_7 P) (.node (ho_52 P) (.node (boot_o_7 P) (.node (ho_103 P) (.node (ho_169 P) .nil .nil) .nil) (.node (ho_137 P) .nil .nil)) (.node (ho_87 P) (.node (boot_o_7 P) (.node (boot_o_8 P) .nil .nil) .nil) (.node (ho_153 P) .nil .nil))) (.node (ho_60 P) (.node (ho_79 P) (.node (ho_113 P) (.node (boot_o_7 P) .nil .nil) .nil) (.node (boot_o_7 P) .nil .nil)) (.node (ho_95 P) (.node (boot_o_8 P) (.node (ho_193 P) .nil .nil) .nil) (.node (ho_161 P) .nil .nil)))) (.node (boot_o_7 P) (.node (boot_o_8 P) (.node (boot_o_7 P) (.node (ho_109 P) (.node (boot_o_7 P) .nil .nil) .nil) (.node (ho_141 P) .nil .nil)) (.node (boot_o_7 P) (.node (ho_125 P) (.node (ho_189 P) .nil .nil) .nil) (.node (boot_o_8 P) .nil .nil))) (.node (ho_64 P) (.node (ho_83 P) (.node (boot_o_7 P) (.node (ho_181 P) .nil .nil) .nil) (.node (boot_o_7 P) .nil .nil)) (.node (boot_o_8 P) (.node (ho_133 P) (.node (ho_197 P) .nil .nil) .nil) (.node (ho_165 P) .nil .nil))))) (.node (boot_o_5 P) (.node (boot_o_9 P) (.node (ho_54 P) (.node (ho_73 P) (.node (boot_o_7 P) (.node (boot_o_8 P) .nil .nil) .nil) (.node (ho_139 P) .nil .nil)) (.node (ho_89 P) (.node (ho_123 P) (.node (boot_o_7 P) .nil .nil) .nil) (.node (ho_155 P) .nil .nil))) (.node (ho_62 P) (.node (ho_81 P) (.node (boot_o_8 P) (.node (ho_179 P) .nil .nil) .nil) (.node (ho_147 P) .nil .nil)) (.node (ho_97 P) (.node (boot_o_7 P) (.node (ho_195 P) .nil .nil) .nil) (.node (boot_o_7 P) .nil .nil)))) (.node (ho_45 P) (.node (ho_58 P) (.node (ho_77 P) (.node (ho_111 P) (.node (ho_175 P) .nil .nil) .nil) (.node (boot_o_8 P) .nil .nil)) (.node (ho_93 P) (.node (ho_127 P) (.node (boot_o_7 P) .nil .nil) .nil) (.node (boot_o_7 P) .nil .nil))) (.node (ho_69 P) (.node (ho_85 P) (.node (ho_119 P) (.node (ho_183 P) .nil .nil) .nil) (.node (ho_151 P) .nil .nil)) (.node (boot_o_7 P) (.node (boot_o_7 P) .nil .nil) (.node (ho_167 P) .nil .nil)))))) (.node (ho_49 P) (.node (boot_o_4 P) (.node (boot_o_8 P) (.node (ho_53 P) (.node (ho_72 P) (.node (ho_104 P) (.node (boot_o_7 P) .nil .nil) .nil) (.node (boot_o_7 P) .nil .nil)) (.node (ho_88 P) (.node (boot_o_8 P) (.node (ho_186 P) .nil .nil) .nil) (.node (ho_154 P) .nil .nil))) (.node (ho_67 P) (.node (ho_80 P) (.node (boot_o_7 P) (.node (boot_o_8 P) .nil .nil) .nil) (.node (ho_146 P) .nil .nil)) (.node (ho_96 P) (.node (ho_130 P) (.node (boot_o_7 P) .nil .nil) .nil) (.node (ho_162 P) .nil .nil)))) (.node (ho_106 P) (.node (ho_57 P) (.node (boot_o_8 P) (.node (boot_o_7 P) (.node (ho_174 P) .nil .nil) .nil) (.node (boot_o_7 P) .nil .nil)) (.node (boot_o_8 P) (.node (ho_126 P) (.node (ho_190 P) .nil .nil) .nil) (.node (ho_158 P) .nil .nil))) (.node (ho_68 P) (.node (ho_84 P) (.node (ho_118 P) (.node (ho_182 P) .nil .nil) .nil) (.node (boot_o_8 P) .nil .nil)) (.node (ho_100 P) (.node (ho_134 P) .nil .nil) (.node (boot_o_7 P) .nil .nil))))) (.node (boot_o_6 P) (.node (boot_o_10 P) (.node (boot_o_7 P) (.node (ho_74 P) (.node (boot_o_8 P) (.node (ho_172 P) .nil .nil) .nil) (.node (ho_140 P) .nil .nil)) (.node (ho_90 P) (.node (boot_o_7 P) (.node (ho_188 P) .nil .nil) .nil) (.node (boot_o_7 P) .nil .nil))) (.node (ho_63 P) (.node (ho_82 P) (.node (ho_116 P) (.node (boot_o_7 P) .nil .nil) .nil) (.node (ho_148 P) .nil .nil)) (.node (boot_o_7 P) (.node (ho_132 P) (.node (ho_196 P) .nil .nil) .nil) (.node (boot_o_8 P) .nil .nil)))) (.node (ho_46 P) (.node (boot_o_7 P) (.node (boot_o_7 P) (.node (ho_112 P) (.node (ho_176 P) .nil .nil) .nil) (.node (ho_144 P) .nil .nil)) (.node (boot_o_7 P) (.node (boot_o_7 P) (.node (boot_o_8 P) .nil .nil) .nil) (.node (ho_160 P) .nil .nil))) (.node (ho_70 P) (.node (ho_86 P) (.node (ho_120 P) (.node (boot_o_7 P) .nil .nil) .nil) (.node (boot_o_7 P) .nil .nil)) (.node (ho_102 P) (.node (boot_o_8 P) .nil .nil) (.node (ho_168 P) .nil .nil)))))))
def tr4 (P : Params) : BT := (.node (boot_o_0 P) (.node (boot_o_1 P) (.node (ho_198 P) (.node (boot_o_7 P) (.node (ho_52 P) (.node (boot_o_7 P) (.node (ho_103 P) (.node (ho_169 P) .nil .nil) (.node (boot_o_7 P) .nil .nil)) (.node (ho_137 P) (.node (boot_o_7 P) .nil .nil) (.node (ho_267 P) .nil .nil))) (.node (ho_87 P) (.node (boot_o_7 P) (.node (boot_o_8 P) .nil .nil) (.node (ho_251 P) .nil .nil)) (.node (ho_153 P) (.node (ho_219 P) .nil .nil) (.node (ho_283 P) .nil .nil)))) (.node (ho_60 P) (.node (ho_79 P) (.node (ho_113 P) (.node (boot_o_7 P) .nil .nil) (.node (boot_o_8 P) .nil .nil)) (.node (boot_o_7 P) (.node (ho_211 P) .nil .nil) (.node (ho_275 P) .nil .nil))) (.node (ho_95 P) (.node (boot_o_8 P) (.node (ho_193 P) .nil .nil) (.node (boot_o_7 P) .nil .nil)) (.node (ho_161 P) (.node (ho_227 P) .nil .nil) .nil)))) (.node (boot_o_7 P) (.node (boot_o_8 P) (.node (boot_o_7 P) (.node (ho_109 P) (.node (boot_o_7 P) .nil .nil) (.node (ho_239 P) .nil .nil)) (.node (ho_141 P) (.node (boot_o_7 P) .nil .nil) (.node (boot_o_8 P) .nil .nil))) (.node (boot_o_7 P) (.node (ho_125 P) (.node (ho_189 P) .nil .nil) (.node (ho_255 P) .nil .nil)) (.node (boot_o_8 P) (.node (ho_223 P) .nil .nil) .nil))) (.node (ho_64 P) (.node (ho_83 P) (.node (boot_o_7 P) (.node (ho_181 P) .nil .nil) (.node (ho_247 P) .nil .nil)) (.node (boot_o_7 P) (.node (boot_o_8 P) .nil .nil) (.node (ho_279 P) .nil .nil))) (.node (boot_o_8 P) (.node (ho_133 P) (.node (ho_197 P) .nil .nil) (.node (boot_o_7 P) .nil .nil)) (.node (ho_165 P) (.node (boot_o_7 P) .nil .nil) .nil))))) (.node (boot_o_5 P) (.node (boot_o_9 P) (.node (ho_54 P) (.node (ho_73 P) (.node (boot_o_7 P) (.node (boot_o_8 P) .nil .nil) (.node (ho_237 P) .nil .nil)) (.node (ho_139 P) (.node (ho_205 P) .nil .nil) (.node (ho_269 P) .nil .nil))) (.node (ho_89 P) (.node (ho_123 P) (.node (boot_o_7 P) .nil .nil) (.node (ho_253 P) .nil .nil)) (.node (ho_155 P) (.node (boot_o_7 P) .nil .nil) .nil))) (.node (ho_62 P) (.node (ho_81 P) (.node (boot_o_8 P) (.node (ho_179 P) .nil .nil) (.node (boot_o_7 P) .nil .nil)) (.node (ho_147 P) (.node (ho_213 P) .nil .nil) (.node (boot_o_7 P) .nil .nil))) (.node (ho_97 P) (.node (boot_o_7 P) (.node (ho_195 P) .nil .nil) (.node (ho_261 P) .nil .nil)) (.node (boot_o_7 P) (.node (boot_o_8 P) .nil .nil) .nil)))) (.node (ho_45 P) (.node (ho_58 P) (.node (ho_77 P) (.node (ho_111 P) (.node (ho_175 P) .nil .nil) (.node (ho_241 P) .nil .nil)) (.node (boot_o_8 P) (.node (ho_209 P) .nil .nil) (.node (boot_o_7 P) .nil .nil))) (.node (ho_93 P) (.node (ho_127 P) (.node (boot_o_7 P) .nil .nil) (.node (boot_o_8 P) .nil .nil)) (.node (boot_o_7 P) (.node (ho_225 P) .nil .nil) .nil))) (.node (ho_69 P) (.node (ho_85 P) (.node (ho_119 P) (.node (ho_183 P) .nil .nil) (.node (boot_o_7 P) .nil .nil)) (.node (ho_151 P) (.node (boot_o_7 P) .nil .nil) (.node (ho_281 P) .nil .nil))) (.node (boot_o_7 P) (.node (boot_o_7 P) (.node (boot_o_8 P) .nil .nil) (.node (ho_265 P) .nil .nil)) (.node (ho_167 P) (.node (ho_233 P) .nil .nil) .nil)))))) (.node (ho_49 P) (.node (boot_o_4 P) (.node (boot_o_8 P) (.node (ho_53 P) (.node (ho_72 P) (.node (ho_104 P) (.node (boot_o_7 P) .nil .nil) (.node (boot_o_8 P) .nil .nil)) (.node (boot_o_7 P) (.node (ho_204 P) .nil .nil) (.node (ho_268 P) .nil .nil))) (.node (ho_88 P) (.node (boot_o_8 P) (.node (ho_186 P) .nil .nil) (.node (boot_o_7 P) .nil .nil)) (.node (ho_154 P) (.node (ho_220 P) .nil .nil) .nil))) (.node (ho_67 P) (.node (ho_80 P) (.node (boot_o_7 P) (.node (boot_o_8 P) .nil .nil) (.node (ho_244 P) .nil .nil)) (.node (ho_146 P) (.node (ho_212 P) .nil .nil) (.node (ho_276 P) .nil .nil))) (.node (ho_96 P) (.node (ho_130 P) (.node (boot_o_7 P) .nil .nil) (.node (ho_260 P) .nil .nil)) (.node (ho_162 P) (.node (boot_o_7 P) .nil .nil) .nil)))) (.node (ho_199 P) (.node (ho_57 P) (.node (boot_o_8 P) (.node (boot_o_7 P) (.node (ho_174 P) .nil .nil) (.node (ho_240 P) .nil .nil)) (.node (boot_o_7 P) (.node (boot_o_8 P) .nil .nil) (.node (ho_272 P) .nil .nil))) (.node (boot_o_8 P) (.node (ho_126 P) (.node (ho_190 P) .nil .nil) (.node (boot_o_7 P) .nil .nil)) (.node (ho_158 P) (.node (boot_o_7 P) .nil .nil) .nil))) (.node (ho_68 P) (.node (ho_84 P) (.node (ho_118 P) (.node (ho_182 P) .nil .nil) (.node (ho_248 P) .nil .nil)) (.node (boot_o_8 P) (.node (ho_216 P) .nil .nil) (.node (boot_o_7 P) .nil .nil))) (.node (ho_100 P) (.node (ho_134 P) (.node (boot_o_7 P) .nil .nil) (.node (boot_o_8 P) .nil .nil)) (.node (boot_o_7 P) (.node (ho_232 P) .nil .nil) .nil))))) (.node (boot_o_6 P) (.node (boot_o_10 P) (.node (boot_o_7 P) (.node (ho_74 P) (.node (boot_o_8 P) (.node (ho_172 P) .nil .nil) (.node (boot_o_7 P) .nil .nil)) (.node (ho_140 P) (.node (ho_206 P) .nil .nil) (.node (boot_o_7 P) .nil .nil))) (.node (ho_90 P) (.node (boot_o_7 P) (.node (ho_188 P) .nil .nil) (.node (ho_254 P) .nil .nil)) (.node (boot_o_7 P) (.node (boot_o_8 P) .nil .nil) .nil))) (.node (ho_63 P) (.node (ho_82 P) (.node (ho_116 P) (.node (boot_o_7 P) .nil .nil) (.node (ho_246 P) .nil .nil)) (.node (ho_148 P) (.node (boot_o_7 P) .nil .nil) (.node (boot_o_8 P) .nil .nil))) (.node (boot_o_7 P) (.node (ho_132 P) (.node (ho_196 P) .nil .nil) (.node (ho_262 P) .nil .nil)) (.node (boot_o_8 P) (.node (ho_230 P) .nil .nil) .nil)))) (.node (ho_46 P) (.node (boot_o_7 P) (.node (boot_o_7 P) (.node (ho_112 P) (.node (ho_176 P) .nil .nil) (.node (boot_o_7 P) .nil .nil)) (.node (ho_144 P) (.node (boot_o_7 P) .nil .nil) (.node (ho_274 P) .nil .nil))) (.node (boot_o_7 P) (.node (boot_o_7 P) (.node (boot_o_8 P) .nil .nil) (.node (ho_258 P) .nil .nil)) (.node (ho_160 P) (.node (ho_226 P) .nil .nil) .nil))) (.node (ho_70 P) (.node (ho_86 P) (.node (ho_120 P) (.node (boot_o_7 P) .nil .nil) (.node (boot_o_8 P) .nil .nil)) (.node (boot_o_7 P) (.node (ho_218 P) .nil .nil) (.node (ho_282 P) .nil .nil))) (.node (ho_102 P) (.node (boot_o_8 P) (.node (ho_202 P) .nil .nil) (.node (boot_o_7 P) .nil .nil)) (.node (ho_168 P) (.node (ho_234 P) .nil .nil) .nil)))))))
def tr5 (P : Params) : BT := (.node (boot_o_0 P) (.node (boot_o_1 P) (.node (ho_284 P) (.node (boot_o_7 P) (.node (ho_52 P) (.node (boot_o_7 P) (.node (ho_103 P) (.node (ho_169 P) (.node (boot_o_8 P) .nil .nil) .nil) (.node (boot_o_7 P) .nil .nil)) (.node (ho_137 P) (.node (boot_o_7 P) (.node (boot_o_7 P) .nil .nil) .nil) (.node (ho_267 P) .nil .nil))) (.node (ho_87 P) (.node (boot_o_7 P) (.node (boot_o_8 P) (.node (ho_317 P) .nil .nil) .nil) (.node (ho_251 P) .nil .nil)) (.node (ho_153 P) (.node (ho_219 P) .nil .nil) (.node (ho_283 P) .nil .nil)))) (.node (ho_60 P) (.node (ho_79 P) (.node (ho_113 P) (.node (boot_o_7 P) (.node (ho_309 P) .nil .nil) .nil) (.node (boot_o_8 P) .nil .nil)) (.node (boot_o_7 P) (.node (ho_211 P) (.node (boot_o_8 P) .nil .nil) .nil) (.node (ho_275 P) .nil .nil))) (.node (ho_95 P) (.node (boot_o_8 P) (.node (ho_193 P) (.node (ho_325 P) .nil .nil) .nil) (.node (boot_o_7 P) .nil .nil)) (.node (ho_161 P) (.node (ho_227 P) .nil .nil) (.node (boot_o_7 P) .nil .nil))))) (.node (boot_o_7 P) (.node (boot_o_8 P) (.node (boot_o_7 P) (.node (ho_109 P) (.node (boot_o_7 P) (.node (ho_305 P) .nil .nil) .nil) (.node (ho_239 P) .nil .nil)) (.node (ho_141 P) (.node (boot_o_7 P) (.node (ho_337 P) .nil .nil) .nil) (.node (boot_o_8 P) .nil .nil))) (.node (boot_o_7 P) (.node (ho_125 P) (.node (ho_189 P) (.node (ho_321 P) .nil .nil) .nil) (.node (ho_255 P) .nil .nil)) (.node (boot_o_8 P) (.node (ho_223 P) .nil .nil) (.node (boot_o_7 P) .nil .nil)))) (.node (ho_64 P) (.node (ho_83 P) (.node (boot_o_7 P) (.node (ho_181 P) (.node (boot_o_8 P) .nil .nil) .nil) (.node (ho_247 P) .nil .nil)) (.node (boot_o_7 P) (.node (boot_o_8 P) (.node (ho_345 P) .nil .nil) .nil) (.node (ho_279 P) .nil .nil))) (.node (boot_o_8 P) (.node (ho_133 P) (.node (ho_197 P) (.node (boot_o_7 P) .nil .nil) .nil) (.node (boot_o_7 P) .nil .nil)) (.node (ho_165 P) (.node (boot_o_7 P) .nil .nil) (.node (ho_297 P) .nil .nil)))))) (.node (boot_o_5 P) (.node (boot_o_9 P) (.node (ho_54 P) (.node (ho_73 P) (.node (boot_o_7 P) (.node (boot_o_8 P) (.node (boot_o_7 P) .nil .nil) .nil) (.node (ho_237 P) .nil .nil)) (.node (ho_139 P) (.node (ho_205 P) (.node (ho_335 P) .nil .nil) .nil) (.node (ho_269 P) .nil .nil))) (.node (ho_89 P) (.node (ho_123 P) (.node (boot_o_7 P) (.node (boot_o_7 P) .nil .nil) .nil) (.node (ho_253 P) .nil .nil)) (.node (ho_155 P) (.node (boot_o_7 P) .nil .nil) (.node (boot_o_8 P) .nil .nil)))) (.node (ho_62 P) (.node (ho_81 P) (.node (boot_o_8 P) (.node (ho_179 P) (.node (ho_311 P) .nil .nil) .nil) (.node (boot_o_7 P) .nil .nil)) (.node (ho_147 P) (.node (ho_213 P) (.node (boot_o_7 P) .nil .nil) .nil) (.node (boot_o_7 P) .nil .nil))) (.node (ho_97 P) (.node (boot_o_7 P) (.node (ho_195 P) (.node (boot_o_8 P) .nil .nil) .nil) (.node (ho_261 P) .nil .nil)) (.node (boot_o_7 P) (.node (boot_o_8 P) .nil .nil) (.node (ho_295 P) .nil .nil))))) (.node (ho_45 P) (.node (ho_58 P) (.node (ho_77 P) (.node (ho_111 P) (.node (ho_175 P) (.node (boot_o_7 P) .nil .nil) .nil) (.node (ho_241 P) .nil .nil)) (.node (boot_o_8 P) (.node (ho_209 P) (.node (ho_339 P) .nil .nil) .nil) (.node (boot_o_7 P) .nil .nil))) (.node (ho_93 P) (.node (ho_127 P) (.node (boot_o_7 P) (.node (ho_323 P) .nil .nil) .nil) (.node (boot_o_8 P) .nil .nil)) (.node (boot_o_7 P) (.node (ho_225 P) .nil .nil) (.node (ho_291 P) .nil .nil)))) (.node (ho_69 P) (.node (ho_85 P) (.node (ho_119 P) (.node (ho_183 P) (.node (boot_o_7 P) .nil .nil) .nil) (.node (boot_o_7 P) .nil .nil)) (.node (ho_151 P) (.node (boot_o_7 P) .nil .nil) (.node (ho_281 P) .nil .nil))) (.node (boot_o_7 P) (.node (boot_o_7 P) (.node (boot_o_8 P) (.node (ho_331 P) .nil .nil) .nil) (.node (ho_265 P) .nil .nil)) (.node (ho_167 P) (.node (ho_233 P) .nil .nil) (.node (ho_299 P) .nil .nil))))))) (.node (ho_49 P) (.node (boot_o_4 P) (.node (boot_o_8 P) (.node (ho_53 P) (.node (ho_72 P) (.node (ho_104 P) (.node (boot_o_7 P) (.node (ho_302 P) .nil .nil) .nil) (.node (boot_o_8 P) .nil .nil)) (.node (boot_o_7 P) (.node (ho_204 P) (.node (boot_o_8 P) .nil .nil) .nil) (.node (ho_268 P) .nil .nil))) (.node (ho_88 P) (.node (boot_o_8 P) (.node (ho_186 P) (.node (ho_318 P) .nil .nil) .nil) (.node (boot_o_7 P) .nil .nil)) (.node (ho_154 P) (.node (ho_220 P) .nil .nil) (.node (boot_o_7 P) .nil .nil)))) (.node (ho_67 P) (.node (ho_80 P) (.node (boot_o_7 P) (.node (boot_o_8 P) (.node (ho_310 P) .nil .nil) .nil) (.node (ho_244 P) .nil .nil)) (.node (ho_146 P) (.node (ho_212 P) (.node (ho_342 P) .nil .nil) .nil) (.node (ho_276 P) .nil .nil))) (.node (ho_96 P) (.node (ho_130 P) (.node (boot_o_7 P) (.node (boot_o_7 P) .nil .nil) .nil) (.node (ho_260 P) .nil .nil)) (.node (ho_162 P) (.node (boot_o_7 P) .nil .nil) (.node (boot_o_8 P) .nil .nil))))) (.node (ho_285 P) (.node (ho_57 P) (.node (boot_o_8 P) (.node (boot_o_7 P) (.node (ho_174 P) (.node (ho_306 P) .nil .nil) .nil) (.node (ho_240 P) .nil .nil)) (.node (boot_o_7 P) (.node (boot_o_8 P) (.node (ho_338 P) .nil .nil) .nil) (.node (ho_272 P) .nil .nil))) (.node (boot_o_8 P) (.node (ho_126 P) (.node (ho_190 P) (.node (boot_o_7 P) .nil .nil) .nil) (.node (boot_o_7 P) .nil .nil)) (.node (ho_158 P) (.node (boot_o_7 P) .nil .nil) (.node (ho_290 P) .nil .nil)))) (.node (ho_68 P) (.node (ho_84 P) (.node (ho_118 P) (.node (ho_182 P) (.node (ho_314 P) .nil .nil) .nil) (.node (ho_248 P) .nil .nil)) (.node (boot_o_8 P) (.node (ho_216 P) (.node (ho_346 P) .nil .nil) .nil) (.node (boot_o_7 P) .nil .nil))) (.node (ho_100 P) (.node (ho_134 P) (.node (boot_o_7 P) (.node (ho_330 P) .nil .nil) .nil) (.node (boot_o_8 P) .nil .nil)) (.node (boot_o_7 P) (.node (ho_232 P) .nil .nil) (.node (ho_298 P) .nil .nil)))))) (.node (boot_o_6 P) (.node (boot_o_10 P) (.node (boot_o_7 P) (.node (ho_74 P) (.node (boot_o_8 P) (.node (ho_172 P) (.node (ho_304 P) .nil .nil) .nil) (.node (boot_o_7 P) .nil .nil)) (.node (ho_140 P) (.node (ho_206 P) (.node (boot_o_7 P) .nil .nil) .nil) (.node (boot_o_7 P) .nil .nil))) (.node (ho_90 P) (.node (boot_o_7 P) (.node (ho_188 P) (.node (boot_o_8 P) .nil .nil) .nil) (.node (ho_254 P) .nil .nil)) (.node (boot_o_7 P) (.node (boot_o_8 P) .nil .nil) (.node (ho_288 P) .nil .nil)))) (.node (ho_63 P) (.node (ho_82 P) (.node (ho_116 P) (.node (boot_o_7 P) (.node (boot_o_7 P) .nil .nil) .nil) (.node (ho_246 P) .nil .nil)) (.node (ho_148 P) (.node (boot_o_7 P) (.node (ho_344 P) .nil .nil) .nil) (.node (boot_o_8 P) .nil .nil))) (.node (boot_o_7 P) (.node (ho_132 P) (.node (ho_196 P) (.node (ho_328 P) .nil .nil) .nil) (.node (ho_262 P) .nil .nil)) (.node (boot_o_8 P) (.node (ho_230 P) .nil .nil) (.node (boot_o_7 P) .nil .nil))))) (.node (ho_46 P) (.node (boot_o_7 P) (.node (boot_o_7 P) (.node (ho_112 P) (.node (ho_176 P) (.node (boot_o_8 P) .nil .nil) .nil) (.node (boot_o_7 P) .nil .nil)) (.node (ho_144 P) (.node (boot_o_7 P) (.node (boot_o_7 P) .nil .nil) .nil) (.node (ho_274 P) .nil .nil))) (.node (boot_o_7 P) (.node (boot_o_7 P) (.node (boot_o_8 P) (.node (ho_324 P) .nil .nil) .nil) (.node (ho_258 P) .nil .nil)) (.node (ho_160 P) (.node (ho_226 P) .nil .nil) (.node (ho_292 P) .nil .nil)))) (.node (ho_70 P) (.node (ho_86 P) (.node (ho_120 P) (.node (boot_o_7 P) (.node (ho_316 P) .nil .nil) .nil) (.node (boot_o_8 P) .nil .nil)) (.node (boot_o_7 P) (.node (ho_218 P) .nil .nil) (.node (ho_282 P) .nil .nil))) (.node (ho_102 P) (.node (boot_o_8 P) (.node (ho_202 P) (.node (ho_332 P) .nil .nil) .nil) (.node (boot_o_7 P) .nil .nil)) (.node (ho_168 P) (.node (ho_234 P) .nil .nil) (.node (boot_o_7 P) .nil .nil))))))))
abbrev bod : List Stmt := behindTheImports pw_nz0475_01
def ev : Env := { scope := pw_nz0475_01.main.scope, locals := mainNs, globals := mainNs, cells := [], code := .ref 13, frame := some 14 }
abbrev p0 : Pos := ⟨0, 0, 0, 0⟩
abbrev cdb : Code := .body bod ev
abbrev sT (T : Params → BT) (n k : Nat) (w : World) (os : OsState) : SharedT := ⟨T w.params, n, {}, Array.mk [], {}, k, os⟩
abbrev go (w : World) (n : Nat) (s : SharedT) (i m : Nat) (p : Pos) : Option (Flow × SharedT × Code × Pos) := segRunT treeTable pw_nz0475_01 w 11 (some (.ref 6)) 1 n s (piecesOf ((bod.drop i).take m) ev cdb p [topFrame p0])
theorem c0 (w : World) (os : OsState) : topGo treeTable pw_nz0475_01 w 11 (some (.ref 6)) 12 ⟨boot_heap w.params, Array.mk [], boot_drawn, boot_toks, os⟩ (topStub pw_nz0475_01) = some ((sT tr0 15 187 w os).abs, ⟨denote treeTable (.body bod ev), cdb, p0, [topFrame p0]⟩) := by kernel_rfl
theorem cb (w : World) (os : OsState) : segRun treeTable pw_nz0475_01 w 11 (some (.ref 6)) 1 1 (sT tr0 15 187 w os).abs (blockOf bod ev cdb p0 [topFrame p0]) = some (.next, (sT tr0 15 187 w os).abs, cdb, p0) := by kernel_rfl
theorem c1 (w : World) (os : OsState) : go w 206 (sT tr0 15 187 w os) 0 2 p0 = some (.next, sT tr1 28 209 w os, cdb, ⟨2, 0, 3, 8⟩) := by kernel_rfl
theorem c2 (w : World) (os : OsState) : go w 373 (sT tr1 28 209 w os) 2 9 ⟨2, 0, 3, 8⟩ = some (.next, sT tr2 65 267 w os, cdb, ⟨18, 0, 27, 37⟩) := by kernel_rfl
theorem c3 (w : World) (os : OsState) : go w 387 (sT tr2 65 267 w os) 11 13 ⟨18, 0, 27, 37⟩ = some (.next, sT tr3 156 367 w os, cdb, ⟨87, 0, 96, 17⟩) := by kernel_rfl
theorem c4 (w : World) (os : OsState) : go w 374 (sT tr3 156 367 w os) 24 13 ⟨87, 0, 96, 17⟩ = some (.next, sT tr4 240 469 w os, cdb, ⟨187, 0, 192, 27⟩) := by kernel_rfl
theorem c5 (w : World) (os : OsState) : go w 291 (sT tr4 240 469 w os) 37 9 ⟨187, 0, 192, 27⟩ = some (.next, sT tr5 301 563 w os, cdb, ⟨257, 0, 309, 15⟩) := by kernel_rfl
theorem ce (w : World) (os : OsState) : topRun treeTable pw_nz0475_01 w 11 (some (.ref 6)) 2 (sT tr5 301 563 w os).abs (restOf (bod.drop 46) ev cdb ⟨257, 0, 309, 15⟩ [topFrame p0]) = some (sT tr5 301 563 w os).abs := by kernel_rfl
theorem seg {tb : String → Option Builtin} {p : Program} {w : World} {n₀ : Nat} {ann : Option Value} {env : Env} {q : Pos} {n N i m : Nat} {s s' : SharedT} {r : Shared} {b : List Stmt} {c : Code} {pos p' : Pos}
    (h : segRunT tb p w n₀ ann 1 n s (piecesOf ((b.drop i).take m) env c pos [topFrame q]) = some (.next, s', c, p')) (k : topRun tb p w n₀ ann N s'.abs (restOf (b.drop (i + m)) env c p' [topFrame q]) = some r) :
    topRun tb p w n₀ ann (n + N) s.abs (restOf (b.drop i) env c pos [topFrame q]) = some r := by
  have e := piece_app (segRun_of h) k
  rwa [← List.drop_drop, List.take_append_drop] at e
theorem run_all (w : World) (os : OsState) : topRun treeTable pw_nz0475_01 w 11 (some (.ref 6)) (12 + (1 + (206 + (373 + (387 + (374 + (291 + 2))))))) ⟨boot_heap w.params, Array.mk [], boot_drawn, boot_toks, os⟩ (topStub pw_nz0475_01) = some (sT tr5 301 563 w os).abs :=
  go_top (c0 w os) (piece_block (cb w os) (seg (i := 0) (c1 w os) (seg (i := 2) (c2 w os) (seg (i := 11) (c3 w os) (seg (i := 24) (c4 w os) (seg (i := 37) (c5 w os) (ce w os)))))))
def hE (P : Params) : Heap := absHeap (tr5 P) 301 {}
abbrev sE (w : World) (os : OsState) : Shared := ⟨hE w.params, Array.mk [], {}, 563, os⟩
theorem look1 (w : World) (os : OsState) : (staticsOk (importedModules pw_nz0475_01.main.body) (boot_heap w.params) (hE w.params) && namesBound pw_nz0475_01 (hE w.params) && gensDone (sE w os) && laidKept (boot_heap w.params) (hE w.params)) = true := by kernel_rfl
theorem look2 (w : World) (os : OsState) : openSeen vw loose (importedModules pw_nz0475_01.main.body) (fun s => xlAt vw [] s && recOk [] s) true (sE w os) = openGood vw loose := by kernel_rfl
theorem look3 (w : World) (os : OsState) : H.obs (sE w os) = H.val w := by kernel_rfl
theorem left : LeftO pw_nz0475_01 vw loose (fun s => xlAt vw [] s && recOk [] s) H.obs H.val 3378 :=
  LeftO.of_pieces (H₁ := hE) (boot_open (by kernel_rfl) (by decide) fun _ => by kernel_rfl) (fun _ => by kernel_rfl) run_all (by decide) fun w => funext fun os => looks_pair (look1 w os) (looks_pair (look2 w os) (look3 w os))
end Mine
end
noncomputable section
open PySem PySem.W PySem.Calls PyProof.Rows PySem.Challenge
namespace Mine
def lawD : DefRec := match st 45 with
  | .FunctionDef n a b _ _ _ sc _ _ p => ⟨n, a, b, sc, p⟩
  | _ => ⟨"", ⟨[], [], none, [], [], none, []⟩, [], ⟨.function, [], false, false, []⟩, ⟨0, 0, 0, 0⟩⟩

theorem h1 : defOf vw rw_nz0475_01.row.name = some (lawD, []) := by kernel_rfl
theorem h2 : rw_nz0475_01.row.prog.theDef rw_nz0475_01.row.name = some (lawD.params, lawD.body, lawD.scope) := by kernel_rfl
theorem h3 : kwWritten? lawD.params.kwonlyargs lawD.params.kw_defaults = some [] := by kernel_rfl
theorem h4 : (chainsOk vw && opensWell rw_nz0475_01.row.prog && (frees rw_nz0475_01.row.toRowW && rw_nz0475_01.row.within.isEmpty)) = true := by kernel_rfl
theorem h5 : rw_nz0475_01.row.prog.bare := ⟨rfl, rfl, rfl, rfl, rfl, by decide +kernel⟩
theorem h6 : rw_nz0475_01.row.toRowW.promised := ⟨[.list []], by decide +kernel, by decide +kernel⟩
theorem h7 : (!rw_nz0475_01.row.writes || rw_nz0475_01.row.records.isEmpty) = true := by kernel_rfl
theorem h8 : LeftO rw_nz0475_01.row.prog vw loose (fun s => xlAt vw [] s && recOk (RowW.records rw_nz0475_01.row.toRowW) s) H.obs H.val 3378 := left
theorem head (hc : WalkO vw loose (XL vw []) H.says rw_nz0475_01.row.toRowW lawD [] fun f vs => PySem.call f vs) : rw_nz0475_01.Holds := by
  w_on
  o_law
  refine holds_open (q := vw) (loose := loose) (Xt := fun s => xlAt vw [] s && recOk (RowW.records rw_nz0475_01.row.toRowW) s) (XP := XL vw []) (Yf := Hook.obs H) (Ya := Hook.val H) (YP := Hook.says H) (N := 3378) h8 (Hook.of H) (Hook.keeps H) (fun s e => xl_of s (Bool.and_eq_true_iff.mp e).1) XL.keeps (d := lawD) h1 h2 h3 (fun s e => recFacts_of (Bool.and_eq_true_iff.mp e).2) h7 (by assumption) h4 h5 h6 hc
end Mine
end
noncomputable section
open PySem PySem.W PySem.Calls PyProof.Rows PySem.Spec
namespace Mine
variable {G : Gx} {P : Params}
def U : List (Str × GV) := [(("NAN" : Str), GV.cst (rat 0 0)), (("ONE" : Str), GV.cst (rat 1 1)), (("INF" : Str), GV.cst (rat 1 0)), (("ZERO" : Str), GV.cst (rat 0 1)), (("abs" : Str), GV.abs), (("is_na" : Str), GV.fn 78), (("make" : Str), GV.fn 64), (("_law_mark" : Str), GV.fn 253), (("_law_reduced" : Str), GV.fn 239), (("_law_next" : Str), GV.fn 232), (("_law_product" : Str), GV.fn 272), (("_law_sum" : Str), GV.fn 265), (("_law_side" : Str), GV.fn 260), (("neg" : Str), GV.fn 113), (("add" : Str), GV.fn 120), (("mul" : Str), GV.fn 134), (("is_finite" : Str), GV.fn 92), (("whole_power" : Str), GV.fn 183), (("root" : Str), GV.fn 155), (("isqrt" : Str), GV.fn 148), (("gcd" : Str), GV.fn 57), (("from_int" : Str), GV.fn 71), (("is_nan" : Str), GV.fn 85), (("sign" : Str), GV.fn 99), (("marked" : Str), GV.fn 106), (("sub" : Str), GV.fn 127), (("div" : Str), GV.fn 141), (("power" : Str), GV.fn 162), (("endless_power" : Str), GV.fn 169), (("infinite_power" : Str), GV.fn 176), (("floor" : Str), GV.fn 190), (("ceiling" : Str), GV.fn 197), (("trunc" : Str), GV.fn 204), (("to_whole" : Str), GV.fn 211), (("compare" : Str), GV.fn 218), (("_law_double" : Str), GV.fn 246), (("_law_quotient" : Str), GV.fn 279), (("_law_order" : Str), GV.fn 286), (("_law_power" : Str), GV.fn 293), (("range" : Str), GV.rng), (("MOST_POWER" : Str), GV.cst (.int 4096))]
theorem gfn (hK : G.K = KF P) {x : Str} {f : Addr} (e : nsIn (KF P) mainGlobals x = some (some (.ref f))) (hk : keepIn (KF P) (.ref f) = true) : GU G x (.fn f) := ⟨mg_of G.inK G.g (by rw [hK]; exact e), by rw [hK]; exact hk⟩
theorem gtup (hK : G.K = KF P) {x : Str} {f : Addr} {a b : Int} {t u : Tok} (e : nsIn (KF P) mainGlobals x = some (some (.ref f))) (o : (KF P).lookup f = some { cls := .type "tuple", data := .seq #[.int a t, .int b u] }) : GU G x (.cst (rat a b)) :=
  ⟨_, mg_of G.inK G.g (by rw [hK]; exact e), _, _, _, rfl, ⟨_, G.inK _ _ (by rw [hK]; exact o), rfl, _, rfl⟩, ⟨_, rfl⟩, ⟨_, rfl⟩⟩
theorem uok (hK : G.K = KF P) : UOk G U :=
  .cons (gtup (f := 47) hK rfl rfl) <|
  .cons (gtup (f := 50) hK rfl rfl) <|
  .cons (gtup (f := 48) hK rfl rfl) <|
  .cons (gtup (f := 49) hK rfl rfl) <|
  .cons (⟨mg_none_of G.inK G.g (by rw [hK]; rfl), rfl, by decide +kernel⟩) <|
  .cons (gfn hK rfl rfl) <|
  .cons (gfn hK rfl rfl) <|
  .cons (gfn hK rfl rfl) <|
  .cons (gfn hK rfl rfl) <|
  .cons (gfn hK rfl rfl) <|
  .cons (gfn hK rfl rfl) <|
  .cons (gfn hK rfl rfl) <|
  .cons (gfn hK rfl rfl) <|
  .cons (gfn hK rfl rfl) <|
  .cons (gfn hK rfl rfl) <|
  .cons (gfn hK rfl rfl) <|
  .cons (gfn hK rfl rfl) <|
  .cons (gfn hK rfl rfl) <|
  .cons (gfn hK rfl rfl) <|
  .cons (gfn hK rfl rfl) <|
  .cons (gfn hK rfl rfl) <|
  .cons (gfn hK rfl rfl) <|
  .cons (gfn hK rfl rfl) <|
  .cons (gfn hK rfl rfl) <|
  .cons (gfn hK rfl rfl) <|
  .cons (gfn hK rfl rfl) <|
  .cons (gfn hK rfl rfl) <|
  .cons (gfn hK rfl rfl) <|
  .cons (gfn hK rfl rfl) <|
  .cons (gfn hK rfl rfl) <|
  .cons (gfn hK rfl rfl) <|
  .cons (gfn hK rfl rfl) <|
  .cons (gfn hK rfl rfl) <|
  .cons (gfn hK rfl rfl) <|
  .cons (gfn hK rfl rfl) <|
  .cons (gfn hK rfl rfl) <|
  .cons (gfn hK rfl rfl) <|
  .cons (gfn hK rfl rfl) <|
  .cons (gfn hK rfl rfl) <|
  .cons (⟨mg_none_of G.inK G.g (by rw [hK]; rfl), rfl, by decide +kernel⟩) <|
  .cons (⟨_, mg_of G.inK G.g (by rw [hK]; exact rfl), _, rfl⟩) <|
  .nil
end Mine
end
noncomputable section
open PySem PySem.W PySem.Calls PyProof.Rows PySem.Spec
namespace Mine
variable {G : Gx} {P : Params} {xs : List Int}
theorem fmod_pos {a b : Int} (hb : 0 < b) : a.fmod b = a % b := Int.fmod_eq_emod_of_nonneg _ (Int.le_of_lt hb)
theorem fdiv_pos {a b : Int} (hb : 0 < b) : a.fdiv b = a / b := Int.fdiv_eq_ediv_of_nonneg _ (Int.le_of_lt hb)
theorem kle {a b c : Nat} (h : c = b) (k : a ≤ b) : a ≤ c := h ▸ k
theorem leaf {r d : D} (h : r = d) : Fl.ret d = .ret r ∧ xs = xs := ⟨congrArg Fl.ret h.symm, rfl⟩

theorem gcd_step {x y : Int} (hx : 0 ≤ x) (hy : 0 ≤ y) : Int.gcd y (x % y) = Int.gcd x y := by
  obtain ⟨n, rfl⟩ := Int.eq_ofNat_of_zero_le hx
  obtain ⟨m, rfl⟩ := Int.eq_ofNat_of_zero_le hy
  rw [← Int.natCast_emod]
  show Nat.gcd m (n % m) = Nat.gcd n m
  rw [Nat.gcd_comm, ← Nat.gcd_rec, Nat.gcd_comm]
def red (n d : Int) : D := rat (n / (Int.gcd n d : Int)) (d / (Int.gcd n d : Int))
def mk (n d : Int) : D := if d = 0 then if n = 0 then rat 0 0 else if 0 < n then rat 1 0 else rat (-1) 0 else if d < 0 then red (0 - n) (0 - d) else red n d
theorem Sm.neg {d : Int} (h : Sm d) : Sm (0 - d) := by unfold Sm; rw [Int.zero_sub, Int.natAbs_neg]; exact h
theorem gcd_sm {n d : Int} (h : Sm d) (h0 : d ≠ 0) : (Int.gcd n d : Int) ≠ 0 ∧ Sm (Int.gcd n d) ∧ 0 < (Int.gcd n d : Int) :=
  have h1 : 0 < Int.gcd n d := Nat.pos_of_ne_zero fun e => h0 (Int.gcd_eq_zero_iff.mp e).2
  ⟨Int.ofNat_ne_zero.mpr (Nat.ne_of_gt h1), Nat.lt_of_le_of_lt (Nat.gcd_le_right _ (Int.natAbs_pos.mpr h0)) h, Int.ofNat_lt.mpr h1⟩

theorem gcd_ok (hK : G.K = KF P) {a b : Int} (ha : 0 ≤ a) (hb : 0 ≤ b) : Fn G 57 1 [.int a, .int b] xs (.int (Int.gcd a b)) xs := by
  refine fn2 (p := ("a" : Str)) (q := ("b" : Str)) (uok hK) 60 hK rfl rfl (fun _ _ => rfl) rfl fun C hs hk => ?_
  refine ⟨Int × Int, fun z => 0 ≤ z.1 ∧ 0 ≤ z.2 ∧ Int.gcd z.1 z.2 = Int.gcd a b, fun z => [(("b" : Str), .int z.2), (("a" : Str), .int z.1)], fun z => z.2.toNat, (a, b), ⟨ha, hb, rfl⟩, ⟨rfl, rfl, trivial⟩, ?_⟩
  rintro ⟨x, y⟩ ⟨hx, hy, hg⟩
  refine ifD (fun h1 => ?_) fun h1 => ?_
  · refine EX_swap hs ⟨by rw [hs]; rfl, rfl⟩ ⟨by rw [hs]; rfl, rfl⟩ (((wp hs (uok hK) 20).ev ..).2 ?_) (fun _ _ _ _ => rfl) fun _ => rfl
    refine ⟨Int.ne_of_gt h1, ?_⟩
    have h1 : 0 < y := h1
    rw [fmod_pos h1]
    exact EX_nil ⟨rfl, (y, x % y), (Int.toNat_lt_toNat h1).mpr (Int.emod_lt_of_pos x h1), ⟨hy, Int.emod_nonneg x (Int.ne_of_gt h1), (gcd_step hx hy).trans hg⟩, rfl, rfl, trivial⟩
  · refine ⟨?_, rfl⟩
    have e : y = 0 := Int.le_antisymm (Int.not_lt.mp h1) hy
    rw [← hg, e]
    show Fl.ret (.int x) = .ret (.int (Int.gcd x 0))
    rw [Int.gcd_zero_right, Int.natAbs_of_nonneg hx]

theorem is_na_ok (hK : G.K = KF P) (n d : Int) : Fn G 78 1 [rat n d] xs (.bool (decide (n = 0 ∧ d = 0))) xs := by
  refine fn1 (p := ("x" : Str)) (uok hK) 60 hK rfl rfl (fun _ => rfl) rfl fun C hs hk => ?_
  refine ifD (fun h => ?_) fun h => ?_
  · exact leaf (congrArg D.bool (show _ = decide (d = 0) from decide_eq_decide.mpr (and_iff_right h)))
  · exact leaf (congrArg D.bool (decide_eq_false fun k => h k.1))
theorem is_na_none (hK : G.K = KF P) : Fn G 78 1 [.none] xs (.bool true) xs := by
  refine fn1 (p := ("x" : Str)) (uok hK) 60 hK rfl rfl (fun _ => rfl) rfl fun C hs hk => ?_
  exact ⟨rfl, rfl⟩
theorem marked_ok (hK : G.K = KF P) (n d c e : Int) : Fn G 106 1 [rat n d, rat c e] xs (rat 0 0) xs := by
  refine fn2 (p := ("x" : Str)) (q := ("y" : Str)) (uok hK) 60 hK rfl rfl (fun _ _ => rfl) rfl fun C hs hk => ?_
  exact ⟨rfl, rfl⟩
theorem marked_none1 (hK : G.K = KF P) (y : D) : Fn G 106 1 [.none, y] xs .none xs := by
  refine fn2 (p := ("x" : Str)) (q := ("y" : Str)) (uok hK) 60 hK rfl rfl (fun _ _ => rfl) rfl fun C hs hk => ?_
  exact ⟨rfl, rfl⟩
theorem marked_none2 (hK : G.K = KF P) (n d : Int) : Fn G 106 1 [rat n d, .none] xs .none xs := by
  refine fn2 (p := ("x" : Str)) (q := ("y" : Str)) (uok hK) 60 hK rfl rfl (fun _ _ => rfl) rfl fun C hs hk => ?_
  exact ⟨rfl, rfl⟩

theorem make_ok (hK : G.K = KF P) {n d : Int} (hd : Sm d) : Fn G 64 2 [.int n, .int d] xs (mk n d) xs := by
  refine fn2 (p := ("n" : Str)) (q := ("d" : Str)) (uok hK) 60 hK rfl rfl (fun _ _ => rfl) rfl fun C hs hk => ?_
  refine ifD (fun h => ?_) fun h => ?_
  · refine ifD (fun h1 => ?_) fun h1 => ?_
    · exact leaf ((if_pos h).trans (if_pos h1))
    · refine ifD (fun h2 => ?_) fun h2 => ?_
      · exact leaf ((if_pos h).trans ((if_neg h1).trans (if_pos h2)))
      · exact leaf ((if_pos h).trans ((if_neg h1).trans (if_neg h2)))
  · have key : ∀ n d : Int, Sm d → 0 < d → (Int.gcd (n.natAbs : Int) d : Int) ≠ 0 ∧ Sm (Int.gcd (n.natAbs : Int) d) ∧ rat (n.fdiv (Int.gcd (n.natAbs : Int) d)) (d.fdiv (Int.gcd (n.natAbs : Int) d)) = red n d := fun n d hd h => by
      have e : (Int.gcd (n.natAbs : Int) d) = Int.gcd n d := rfl
      obtain ⟨g1, g2, g3⟩ := gcd_sm (n := n) hd (Int.ne_of_gt h)
      rw [e, fdiv_pos g3, fdiv_pos g3]
      exact ⟨g1, g2, rfl⟩
    refine ifD (fun h1 => ?_) fun h1 => ?_
    · have h3 : 0 < 0 - d := by omega
      obtain ⟨g1, g2, g3⟩ := key (0 - n) (0 - d) (hd.neg) h3
      refine callK (gcd_ok hK (Int.natCast_nonneg _) (Int.le_of_lt h3)) (kle hk (by decide)) ?_
      refine ⟨⟨g1, g2⟩, ⟨g1, g2⟩, ?_⟩
      exact leaf ((if_neg h).trans ((if_pos h1).trans g3.symm))
    · have h3 : 0 < d := by omega
      obtain ⟨g1, g2, g3⟩ := key n d hd h3
      refine callK (gcd_ok hK (Int.natCast_nonneg _) (Int.le_of_lt h3)) (kle hk (by decide)) ?_
      refine ⟨⟨g1, g2⟩, ⟨g1, g2⟩, ?_⟩
      exact leaf ((if_neg h).trans ((if_neg h1).trans g3.symm))
end Mine
end
noncomputable section
open PySem PySem.W PySem.Calls PyProof.Rows PySem.Spec
namespace Mine
variable {G : Gx} {P : Params} {xs : List Int}
/-- of middling size -/
def Md (a : Int) : Prop := a.natAbs < 2 ^ 1000
theorem Md.sm {a : Int} (h : Md a) : Sm a := Nat.lt_trans h (Nat.pow_lt_pow_right (by decide) (by decide))
theorem Md.mul {a b : Int} (h : Md a) (k : Md b) : Sm (a * b) := by
  unfold Sm; rw [Int.natAbs_mul]
  exact Nat.lt_of_lt_of_le (Nat.mul_lt_mul'' h k) (by rw [← Nat.pow_add]; exact Nat.pow_le_pow_right (by decide) (by decide))
def sd (a : Int) : Int := if 0 < a then 1 else if a < 0 then -1 else 0
theorem sd_mul (a c : Int) : sd a * sd c = sd (a * c) := by
  have e : ∀ a, sd a = a.sign := fun a => by
    unfold sd
    split
    · rename_i h; exact (Int.sign_eq_one_of_pos h).symm
    · split
      · rename_i h; exact (Int.sign_eq_neg_one_of_neg h).symm
      · rename_i h k; rw [Int.le_antisymm (Int.not_lt.mp h) (Int.not_lt.mp k)]; rfl
  rw [e, e, e, Int.sign_mul]
theorem mk0 (n : Int) : mk n 0 = rat (sd n) 0 := by
  unfold mk sd
  rw [if_pos rfl]
  by_cases h : n = 0
  · subst h; rfl
  · rw [if_neg h]
    by_cases k : 0 < n
    · rw [if_pos k, if_pos k]
    · rw [if_neg k, if_neg k, if_pos (by omega)]
theorem mkP {n d : Int} (h : 0 < d) : mk n d = red n d := (if_neg (Int.ne_of_gt h)).trans (if_neg (Int.not_lt.mpr (Int.le_of_lt h)))
theorem posOf {b : Int} (h : 0 ≤ b) (k : ¬b = 0) : 0 < b := Int.lt_iff_le_and_ne.mpr ⟨h, fun e => k e.symm⟩

theorem is_nan_ok (hK : G.K = KF P) (a b : Int) : Fn G 85 1 [rat a b] xs (.bool (decide (a = 0 ∧ b = 0))) xs := by
  refine fn1 (p := ("x" : Str)) (uok hK) 60 hK rfl rfl (fun _ => rfl) rfl fun C hs hk => ?_
  refine ifD (fun h => ?_) fun h => ?_
  · exact leaf (congrArg D.bool (show _ = decide (b = 0) from decide_eq_decide.mpr (and_iff_right h)))
  · exact leaf (congrArg D.bool (decide_eq_false fun k => h k.1))
theorem is_nan_none (hK : G.K = KF P) : Fn G 85 1 [.none] xs (.bool false) xs := by
  refine fn1 (p := ("x" : Str)) (uok hK) 60 hK rfl rfl (fun _ => rfl) rfl fun C hs hk => ?_
  exact ⟨rfl, rfl⟩
theorem is_finite_ok (hK : G.K = KF P) (a b : Int) : Fn G 92 1 [rat a b] xs (.bool (decide (0 < b))) xs := by
  refine fn1 (p := ("x" : Str)) (uok hK) 60 hK rfl rfl (fun _ => rfl) rfl fun C hs hk => ?_
  exact ⟨rfl, rfl⟩
theorem is_finite_none (hK : G.K = KF P) : Fn G 92 1 [.none] xs (.bool false) xs := by
  refine fn1 (p := ("x" : Str)) (uok hK) 60 hK rfl rfl (fun _ => rfl) rfl fun C hs hk => ?_
  exact ⟨rfl, rfl⟩
theorem from_int_ok (hK : G.K = KF P) (n : Int) : Fn G 71 1 [.int n] xs (rat n 1) xs := by
  refine fn1 (p := ("n" : Str)) (uok hK) 60 hK rfl rfl (fun _ => rfl) rfl fun C hs hk => ?_
  exact ⟨rfl, rfl⟩
theorem from_int_none (hK : G.K = KF P) : Fn G 71 1 [.none] xs .none xs := by
  refine fn1 (p := ("n" : Str)) (uok hK) 60 hK rfl rfl (fun _ => rfl) rfl fun C hs hk => ?_
  exact ⟨rfl, rfl⟩
theorem neg_ok (hK : G.K = KF P) (a b : Int) : Fn G 113 1 [rat a b] xs (rat (0 - a) b) xs := by
  refine fn1 (p := ("x" : Str)) (uok hK) 60 hK rfl rfl (fun _ => rfl) rfl fun C hs hk => ?_
  exact ⟨rfl, rfl⟩
theorem neg_none (hK : G.K = KF P) : Fn G 113 1 [.none] xs .none xs := by
  refine fn1 (p := ("x" : Str)) (uok hK) 60 hK rfl rfl (fun _ => rfl) rfl fun C hs hk => ?_
  exact ⟨rfl, rfl⟩
def signS (a b : Int) : D := if a = 0 ∧ b = 0 then .none else .int (sd a)
theorem sign_ok (hK : G.K = KF P) (a b : Int) : Fn G 99 2 [rat a b] xs (signS a b) xs := by
  refine fn1 (p := ("x" : Str)) (uok hK) 60 hK rfl rfl (fun _ => rfl) rfl fun C hs hk => ?_
  refine callK (is_na_ok hK a b) (kle hk (by decide)) ?_
  refine ifD (fun h => ?_) fun h => ?_
  · exact leaf (if_pos h)
  · refine ifD (fun h1 => ?_) fun h1 => ?_
    · exact leaf ((if_neg h).trans (by rw [h1]; rfl))
    · refine ifD (fun h2 => ?_) fun h2 => ?_
      · exact leaf ((if_neg h).trans (congrArg D.int (if_pos h2)))
      · exact leaf ((if_neg h).trans (congrArg D.int ((if_neg h2).trans (if_pos (by omega)))))
theorem sign_none (hK : G.K = KF P) : Fn G 99 2 [.none] xs .none xs := by
  refine fn1 (p := ("x" : Str)) (uok hK) 60 hK rfl rfl (fun _ => rfl) rfl fun C hs hk => ?_
  refine callK (is_na_none hK) (kle hk (by decide)) ?_
  exact ⟨rfl, rfl⟩

def addS (a b c d : Int) : D := if a = 0 ∧ b = 0 then rat 0 0 else if c = 0 ∧ d = 0 then rat 0 0 else if b = 0 then (if d = 0 then (if a = c then rat a b else rat 0 0) else rat a b) else if d = 0 then rat c d else red (a * d + c * b) (b * d)
theorem add_ok (hK : G.K = KF P) {a b c d : Int} (hb : 0 ≤ b) (hd : 0 ≤ d) (ma : Md a) (mb : Md b) (mc : Md c) (md : Md d) : Fn G 120 3 [rat a b, rat c d] xs (addS a b c d) xs := by
  refine fn2 (p := ("x" : Str)) (q := ("y" : Str)) (uok hK) 60 hK rfl rfl (fun _ _ => rfl) rfl fun C hs hk => ?_
  refine callK (is_na_ok hK a b) (kle hk (by decide)) ?_
  refine ifD (fun h => ?_) fun h => ?_
  · refine callK (marked_ok hK a b c d) (kle hk (by decide)) ?_
    exact leaf (if_pos h)
  · refine callK (is_na_ok hK c d) (kle hk (by decide)) ?_
    refine ifD (fun h1 => ?_) fun h1 => ?_
    · refine callK (marked_ok hK a b c d) (kle hk (by decide)) ?_
      exact leaf ((if_neg h).trans (if_pos h1))
    · refine ifD (fun h2 => ?_) fun h2 => ?_
      · refine ifD (fun h3 => ?_) fun h3 => ?_
        · refine ifD (fun h4 => ?_) fun h4 => ?_
          · exact leaf ((if_neg h).trans ((if_neg h1).trans ((if_pos h2).trans ((if_pos h3).trans (if_pos h4)))))
          · exact leaf ((if_neg h).trans ((if_neg h1).trans ((if_pos h2).trans ((if_pos h3).trans (if_neg h4)))))
        · refine ifDT h2 ?_
          exact leaf ((if_neg h).trans ((if_neg h1).trans ((if_pos h2).trans (if_neg h3))))
      · refine ifDF h2 (ifD (fun h3 => ?_) fun h3 => ?_)
        · exact leaf ((if_neg h).trans ((if_neg h1).trans ((if_neg h2).trans (if_pos h3))))
        · refine ⟨⟨ma.sm, md.sm⟩, ⟨mc.sm, mb.sm⟩, ⟨mb.sm, md.sm⟩, ?_⟩
          refine callK (make_ok hK (mb.mul md)) (kle hk (by decide)) ?_
          exact leaf ((if_neg h).trans ((if_neg h1).trans ((if_neg h2).trans ((if_neg h3).trans (mkP (Int.mul_pos (posOf hb h2) (posOf hd h3))).symm))))
theorem add_none1 (hK : G.K = KF P) (y : D) : Fn G 120 3 [.none, y] xs .none xs := by
  refine fn2 (p := ("x" : Str)) (q := ("y" : Str)) (uok hK) 60 hK rfl rfl (fun _ _ => rfl) rfl fun C hs hk => ?_
  refine callK (is_na_none hK) (kle hk (by decide)) ?_
  refine callK (marked_none1 hK y) (kle hk (by decide)) ?_
  exact ⟨rfl, rfl⟩
theorem add_none2 (hK : G.K = KF P) (a b : Int) : Fn G 120 3 [rat a b, .none] xs .none xs := by
  refine fn2 (p := ("x" : Str)) (q := ("y" : Str)) (uok hK) 60 hK rfl rfl (fun _ _ => rfl) rfl fun C hs hk => ?_
  refine callK (is_na_ok hK a b) (kle hk (by decide)) ?_
  refine ifD (fun h => ?_) fun h => ?_
  · refine callK (marked_none2 hK a b) (kle hk (by decide)) ?_
    exact ⟨rfl, rfl⟩
  · refine callK (is_na_none hK) (kle hk (by decide)) ?_
    refine callK (marked_none2 hK a b) (kle hk (by decide)) ?_
    exact ⟨rfl, rfl⟩
end Mine
end
noncomputable section
open PySem PySem.W PySem.Calls PyProof.Rows PySem.Spec
namespace Mine
variable {G : Gx} {P : Params} {xs : List Int}

def mulS (a b c d : Int) : D := if a = 0 ∧ b = 0 then rat 0 0 else if c = 0 ∧ d = 0 then rat 0 0 else if b = 0 ∨ d = 0 then rat (sd a * sd c) 0 else red (a * c) (b * d)
theorem mul_ok (hK : G.K = KF P) {a b c d : Int} (hb : 0 ≤ b) (hd : 0 ≤ d) (ma : Md a) (mb : Md b) (mc : Md c) (md : Md d) : Fn G 134 3 [rat a b, rat c d] xs (mulS a b c d) xs := by
  refine fn2 (p := ("x" : Str)) (q := ("y" : Str)) (uok hK) 60 hK rfl rfl (fun _ _ => rfl) rfl fun C hs hk => ?_
  refine callK (is_na_ok hK a b) (kle hk (by decide)) ?_
  refine ifD (fun h => ?_) fun h => ?_
  · refine callK (marked_ok hK a b c d) (kle hk (by decide)) ?_
    exact leaf (if_pos h)
  refine callK (is_na_ok hK c d) (kle hk (by decide)) ?_
  refine ifD (fun h1 => ?_) fun h1 => ?_
  · refine callK (marked_ok hK a b c d) (kle hk (by decide)) ?_
    exact leaf ((if_neg h).trans (if_pos h1))
  refine ⟨⟨ma.sm, mc.sm⟩, ⟨mb.sm, md.sm⟩, ?_⟩
  refine callK (make_ok hK (mb.mul md)) (kle hk (by decide)) ?_
  refine leaf ((if_neg h).trans ((if_neg h1).trans ?_))
  by_cases h2 : b = 0 ∨ d = 0
  · rw [if_pos h2, Int.mul_eq_zero.mpr h2, mk0, sd_mul]
  · rw [if_neg h2, mkP (Int.mul_pos (posOf hb fun e => h2 (.inl e)) (posOf hd fun e => h2 (.inr e)))]
theorem mul_none1 (hK : G.K = KF P) (y : D) : Fn G 134 3 [.none, y] xs .none xs := by
  refine fn2 (p := ("x" : Str)) (q := ("y" : Str)) (uok hK) 60 hK rfl rfl (fun _ _ => rfl) rfl fun C hs hk => ?_
  refine callK (is_na_none hK) (kle hk (by decide)) ?_
  refine callK (marked_none1 hK y) (kle hk (by decide)) ?_
  exact ⟨rfl, rfl⟩
theorem mul_none2 (hK : G.K = KF P) (a b : Int) : Fn G 134 3 [rat a b, .none] xs .none xs := by
  refine fn2 (p := ("x" : Str)) (q := ("y" : Str)) (uok hK) 60 hK rfl rfl (fun _ _ => rfl) rfl fun C hs hk => ?_
  refine callK (is_na_ok hK a b) (kle hk (by decide)) ?_
  refine ifD (fun h => ?_) fun h => ?_
  · refine callK (marked_none2 hK a b) (kle hk (by decide)) ?_
    exact ⟨rfl, rfl⟩
  · refine callK (is_na_none hK) (kle hk (by decide)) ?_
    refine callK (marked_none2 hK a b) (kle hk (by decide)) ?_
    exact ⟨rfl, rfl⟩

def divS (a b c d : Int) : D := if a = 0 ∧ b = 0 then rat 0 0 else if c = 0 ∧ d = 0 then rat 0 0 else if b = 0 then (if d = 0 then rat 0 0 else if c < 0 then rat (0 - a) b else rat a b) else mk (a * d) (b * c)
theorem div_ok (hK : G.K = KF P) {a b c d : Int} (ma : Md a) (mb : Md b) (mc : Md c) (md : Md d) : Fn G 141 3 [rat a b, rat c d] xs (divS a b c d) xs := by
  refine fn2 (p := ("x" : Str)) (q := ("y" : Str)) (uok hK) 60 hK rfl rfl (fun _ _ => rfl) rfl fun C hs hk => ?_
  refine callK (is_na_ok hK a b) (kle hk (by decide)) ?_
  refine ifD (fun h => ?_) fun h => ?_
  · refine callK (marked_ok hK a b c d) (kle hk (by decide)) ?_
    exact leaf (if_pos h)
  refine callK (is_na_ok hK c d) (kle hk (by decide)) ?_
  refine ifD (fun h1 => ?_) fun h1 => ?_
  · refine callK (marked_ok hK a b c d) (kle hk (by decide)) ?_
    exact leaf ((if_neg h).trans (if_pos h1))
  refine ifD (fun h2 => ?_) fun h2 => ?_
  · refine ifD (fun h3 => ?_) fun h3 => ?_
    · exact leaf ((if_neg h).trans ((if_neg h1).trans ((if_pos h2).trans (if_pos h3))))
    · refine ifDT h2 (ifD (fun h4 => ?_) fun h4 => ?_)
      · refine callK (neg_ok hK a b) (kle hk (by decide)) ?_
        exact leaf ((if_neg h).trans ((if_neg h1).trans ((if_pos h2).trans ((if_neg h3).trans (if_pos h4)))))
      · exact leaf ((if_neg h).trans ((if_neg h1).trans ((if_pos h2).trans ((if_neg h3).trans (if_neg h4)))))
  · refine ifDF h2 ⟨⟨ma.sm, md.sm⟩, ⟨mb.sm, mc.sm⟩, ?_⟩
    refine callK (make_ok hK (mb.mul mc)) (kle hk (by decide)) ?_
    exact leaf ((if_neg h).trans ((if_neg h1).trans (if_neg h2)))
theorem div_none1 (hK : G.K = KF P) (y : D) : Fn G 141 3 [.none, y] xs .none xs := by
  refine fn2 (p := ("x" : Str)) (q := ("y" : Str)) (uok hK) 60 hK rfl rfl (fun _ _ => rfl) rfl fun C hs hk => ?_
  refine callK (is_na_none hK) (kle hk (by decide)) ?_
  refine callK (marked_none1 hK y) (kle hk (by decide)) ?_
  exact ⟨rfl, rfl⟩
theorem div_none2 (hK : G.K = KF P) (a b : Int) : Fn G 141 3 [rat a b, .none] xs .none xs := by
  refine fn2 (p := ("x" : Str)) (q := ("y" : Str)) (uok hK) 60 hK rfl rfl (fun _ _ => rfl) rfl fun C hs hk => ?_
  refine callK (is_na_ok hK a b) (kle hk (by decide)) ?_
  refine ifD (fun h => ?_) fun h => ?_
  · refine callK (marked_none2 hK a b) (kle hk (by decide)) ?_
    exact ⟨rfl, rfl⟩
  · refine callK (is_na_none hK) (kle hk (by decide)) ?_
    refine callK (marked_none2 hK a b) (kle hk (by decide)) ?_
    exact ⟨rfl, rfl⟩

def cmpS (l r : Int) : D := if l = r then .int 0 else if l < r then .int (-1) else .int 1
def compS (a b c d : Int) : D := if a = 0 ∧ b = 0 then .none else if c = 0 ∧ d = 0 then .none else if b = 0 then (if d = 0 then cmpS a c else cmpS a 0) else if d = 0 then cmpS 0 c else cmpS (a * d) (c * b)
theorem compare_ok (hK : G.K = KF P) {a b c d : Int} (ma : Md a) (mb : Md b) (mc : Md c) (md : Md d) : Fn G 218 2 [rat a b, rat c d] xs (compS a b c d) xs := by
  refine fn2 (p := ("x" : Str)) (q := ("y" : Str)) (uok hK) 60 hK rfl rfl (fun _ _ => rfl) rfl fun C hs hk => ?_
  refine callK (is_na_ok hK a b) (kle hk (by decide)) ?_
  refine ifD (fun h => ?_) fun h => ?_
  · exact leaf (if_pos h)
  refine callK (is_na_ok hK c d) (kle hk (by decide)) ?_
  refine ifD (fun h1 => ?_) fun h1 => ?_
  · exact leaf ((if_neg h).trans (if_pos h1))
  refine ifD (fun h2 => ?_) fun h2 => ?_
  · refine ifD (fun h3 => ?_) fun h3 => ?_
    · refine ifD (fun h4 => ?_) fun h4 => ?_
      · exact leaf ((if_neg h).trans ((if_neg h1).trans ((if_pos h2).trans ((if_pos h3).trans (if_pos h4)))))
      · refine ifD (fun h5 => ?_) fun h5 => ?_
        · exact leaf ((if_neg h).trans ((if_neg h1).trans ((if_pos h2).trans ((if_pos h3).trans ((if_neg h4).trans (if_pos h5))))))
        · exact leaf ((if_neg h).trans ((if_neg h1).trans ((if_pos h2).trans ((if_pos h3).trans ((if_neg h4).trans (if_neg h5))))))
    · refine ⟨⟨ma.sm, md.sm⟩, ⟨mc.sm, mb.sm⟩, ifDT h2 ?_⟩
      refine ifD (fun h4 => ?_) fun h4 => ?_
      · exact leaf ((if_neg h).trans ((if_neg h1).trans ((if_pos h2).trans ((if_neg h3).trans (if_pos h4)))))
      · refine ifD (fun h5 => ?_) fun h5 => ?_
        · exact leaf ((if_neg h).trans ((if_neg h1).trans ((if_pos h2).trans ((if_neg h3).trans ((if_neg h4).trans (if_pos h5))))))
        · exact leaf ((if_neg h).trans ((if_neg h1).trans ((if_pos h2).trans ((if_neg h3).trans ((if_neg h4).trans (if_neg h5))))))
  · refine ⟨⟨ma.sm, md.sm⟩, ⟨mc.sm, mb.sm⟩, ifDF h2 (ifD (fun h3 => ?_) fun h3 => ?_)⟩
    · refine ifD (fun h4 => ?_) fun h4 => ?_
      · exact leaf ((if_neg h).trans ((if_neg h1).trans ((if_neg h2).trans ((if_pos h3).trans (if_pos h4)))))
      · refine ifD (fun h5 => ?_) fun h5 => ?_
        · exact leaf ((if_neg h).trans ((if_neg h1).trans ((if_neg h2).trans ((if_pos h3).trans ((if_neg h4).trans (if_pos h5))))))
        · exact leaf ((if_neg h).trans ((if_neg h1).trans ((if_neg h2).trans ((if_pos h3).trans ((if_neg h4).trans (if_neg h5))))))
    · refine ifD (fun h4 => ?_) fun h4 => ?_
      · exact leaf ((if_neg h).trans ((if_neg h1).trans ((if_neg h2).trans ((if_neg h3).trans (if_pos h4)))))
      · refine ifD (fun h5 => ?_) fun h5 => ?_
        · exact leaf ((if_neg h).trans ((if_neg h1).trans ((if_neg h2).trans ((if_neg h3).trans ((if_neg h4).trans (if_pos h5))))))
        · exact leaf ((if_neg h).trans ((if_neg h1).trans ((if_neg h2).trans ((if_neg h3).trans ((if_neg h4).trans (if_neg h5))))))
theorem compare_none1 (hK : G.K = KF P) (y : D) : Fn G 218 2 [.none, y] xs .none xs := by
  refine fn2 (p := ("x" : Str)) (q := ("y" : Str)) (uok hK) 60 hK rfl rfl (fun _ _ => rfl) rfl fun C hs hk => ?_
  refine callK (is_na_none hK) (kle hk (by decide)) ?_
  exact ⟨rfl, rfl⟩
theorem compare_none2 (hK : G.K = KF P) (a b : Int) : Fn G 218 2 [rat a b, .none] xs .none xs := by
  refine fn2 (p := ("x" : Str)) (q := ("y" : Str)) (uok hK) 60 hK rfl rfl (fun _ _ => rfl) rfl fun C hs hk => ?_
  refine callK (is_na_ok hK a b) (kle hk (by decide)) ?_
  refine ifD (fun h => ⟨rfl, rfl⟩) fun h => ?_
  refine callK (is_na_none hK) (kle hk (by decide)) ?_
  exact ⟨rfl, rfl⟩

theorem floor_ok (hK : G.K = KF P) {a b : Int} (mb : Md b) : Fn G 190 2 [rat a b] xs (if 0 < b then rat (a / b) 1 else rat a b) xs := by
  refine fn1 (p := ("x" : Str)) (uok hK) 60 hK rfl rfl (fun _ => rfl) rfl fun C hs hk => ?_
  refine callK (is_finite_ok hK a b) (kle hk (by decide)) ?_
  refine ifN (fun h => ?_) fun h => ?_
  · refine ⟨⟨Int.ne_of_gt h, mb.sm⟩, ?_⟩
    exact leaf ((if_pos h).trans (by rw [fdiv_pos h]))
  · exact leaf (if_neg h)
theorem floor_none (hK : G.K = KF P) : Fn G 190 2 [.none] xs .none xs := by
  refine fn1 (p := ("x" : Str)) (uok hK) 60 hK rfl rfl (fun _ => rfl) rfl fun C hs hk => ?_
  refine callK (is_finite_none hK) (kle hk (by decide)) ?_
  exact ⟨rfl, rfl⟩
theorem ceiling_ok (hK : G.K = KF P) {a b : Int} (mb : Md b) : Fn G 197 3 [rat a b] xs (if 0 < b then rat (-(-a / b)) 1 else rat a b) xs := by
  refine fn1 (p := ("x" : Str)) (uok hK) 60 hK rfl rfl (fun _ => rfl) rfl fun C hs hk => ?_
  refine callK (neg_ok hK a b) (kle hk (by decide)) ?_
  refine callK (floor_ok hK mb) (kle hk (by decide)) ?_
  by_cases h : 0 < b
  · rw [if_pos h, if_pos h]
    refine callK (neg_ok hK _ _) (kle hk (by decide)) ?_
    rw [Int.zero_sub, Int.zero_sub]
    exact ⟨rfl, rfl⟩
  · rw [if_neg h, if_neg h]
    refine callK (neg_ok hK _ _) (kle hk (by decide)) ?_
    rw [Int.zero_sub, Int.zero_sub, Int.neg_neg]
    exact ⟨rfl, rfl⟩
theorem ceiling_none (hK : G.K = KF P) : Fn G 197 3 [.none] xs .none xs := by
  refine fn1 (p := ("x" : Str)) (uok hK) 60 hK rfl rfl (fun _ => rfl) rfl fun C hs hk => ?_
  refine callK (neg_none hK) (kle hk (by decide)) ?_
  refine callK (floor_none hK) (kle hk (by decide)) ?_
  refine callK (neg_none hK) (kle hk (by decide)) ?_
  exact ⟨rfl, rfl⟩
def cutS (a b : Int) : Int := if 0 ≤ a then a / b else -(-a / b)
theorem to_whole_ok (hK : G.K = KF P) {a b : Int} (mb : Md b) : Fn G 211 2 [rat a b] xs (if 0 < b then .int (cutS a b) else .none) xs := by
  refine fn1 (p := ("x" : Str)) (uok hK) 60 hK rfl rfl (fun _ => rfl) rfl fun C hs hk => ?_
  refine callK (is_finite_ok hK a b) (kle hk (by decide)) ?_
  refine ifN (fun h => ?_) fun h => ?_
  · refine ⟨⟨Int.ne_of_gt h, mb.sm⟩, ?_⟩
    have e := @fdiv_pos a.natAbs b h
    refine ifD (fun h1 => ?_) fun h1 => ?_
    · exact leaf ((if_pos h).trans (congrArg D.int ((if_pos h1).trans (by rw [e, Int.natAbs_of_nonneg h1]))))
    · exact leaf ((if_pos h).trans (congrArg D.int ((if_neg h1).trans (by rw [e, Int.zero_sub, Int.ofNat_natAbs_of_nonpos (Int.le_of_lt (Int.not_le.mp h1))]))))
  · exact leaf (if_neg h)
theorem to_whole_none (hK : G.K = KF P) : Fn G 211 2 [.none] xs .none xs := by
  refine fn1 (p := ("x" : Str)) (uok hK) 60 hK rfl rfl (fun _ => rfl) rfl fun C hs hk => ?_
  refine callK (is_finite_none hK) (kle hk (by decide)) ?_
  exact ⟨rfl, rfl⟩
theorem trunc_ok (hK : G.K = KF P) {a b : Int} (mb : Md b) : Fn G 204 3 [rat a b] xs (if 0 < b then rat (cutS a b) 1 else rat a b) xs := by
  refine fn1 (p := ("x" : Str)) (uok hK) 60 hK rfl rfl (fun _ => rfl) rfl fun C hs hk => ?_
  refine callK (is_finite_ok hK a b) (kle hk (by decide)) ?_
  refine ifN (fun h => ?_) fun h => ?_
  · refine callK (to_whole_ok hK mb) (kle hk (by decide)) ?_
    rw [if_pos h, if_pos h]
    exact ⟨rfl, rfl⟩
  · exact leaf (if_neg h)
theorem trunc_none (hK : G.K = KF P) : Fn G 204 3 [.none] xs .none xs := by
  refine fn1 (p := ("x" : Str)) (uok hK) 60 hK rfl rfl (fun _ => rfl) rfl fun C hs hk => ?_
  refine callK (is_finite_none hK) (kle hk (by decide)) ?_
  exact ⟨rfl, rfl⟩
end Mine
end
noncomputable section
open PySem PySem.W PySem.Calls PyProof.Rows PySem.Spec
namespace Mine
variable {G : Gx} {P : Params} {xs : List Int}

def nx (n g : Int) : Int := (g + n.fdiv g).fdiv 2
theorem nx_eq {n g : Int} (hg : 0 < g) : nx n g = (g + n / g) / 2 := by unfold nx; rw [fdiv_pos hg, fdiv_pos (by decide)]
theorem sq_le {a b : Int} (h : 0 ≤ a) (k : a ≤ b) : a * a ≤ b * b := Int.mul_le_mul k k h (Int.le_trans h k)
theorem nx_up {n g : Int} (hg : 0 < g) (hn : 0 ≤ n) : n < (nx n g + 1) * (nx n g + 1) := by
  rw [nx_eq hg]
  have h1 := Int.lt_mul_ediv_self_add (x := n) hg
  have h2 := Int.ediv_nonneg hn (Int.le_of_lt hg)
  generalize n / g = q at *
  generalize hb : (g + q) / 2 = b
  have h3 : g + q + 1 ≤ 2 * (b + 1) := by omega
  have h4 := sq_le (by omega) h3
  rw [Int.mul_assoc 2, Int.mul_left_comm (b + 1) 2] at h4
  have h5 : 0 ≤ (g - (q + 1)) * (g - (q + 1)) := by
    rcases Int.le_total 0 (g - (q + 1)) with h | h
    · exact Int.mul_nonneg h h
    · exact Int.mul_nonneg_of_nonpos_of_nonpos h h
  simp only [Int.mul_add, Int.add_mul, Int.mul_sub, Int.sub_mul, Int.mul_one, Int.one_mul] at *
  rw [Int.mul_comm q g] at *
  omega
theorem nx_pos {n g : Int} (hg : 0 < g) (hn : 2 ≤ n) : 0 < nx n g := by
  rw [nx_eq hg]
  have h2 := Int.ediv_nonneg (by omega : 0 ≤ n) (Int.le_of_lt hg)
  by_cases h : g = 1
  · subst h; rw [Int.ediv_one]; omega
  · omega
theorem nx_end {n g : Int} (hg : 0 < g) (h : ¬nx n g < g) : g * g ≤ n := by
  rw [nx_eq hg] at h
  have h1 := Int.mul_ediv_self_le (x := n) (Int.ne_of_gt hg)
  have h2 : g ≤ n / g := by omega
  exact Int.le_trans (Int.mul_le_mul_of_nonneg_left h2 (Int.le_of_lt hg)) h1
theorem sq_uniq {n r g : Int} (h1 : 0 ≤ r) (h2 : r * r ≤ n) (h3 : n < (r + 1) * (r + 1)) (k1 : 0 ≤ g) (k2 : g * g ≤ n) (k3 : n < (g + 1) * (g + 1)) : r = g := by
  rcases Int.lt_trichotomy r g with h | h | h
  · exact absurd (Int.le_trans (sq_le (by omega) h) k2) (Int.not_le.mpr h3)
  · exact h
  · exact absurd (Int.le_trans (sq_le (by omega) h) h2) (Int.not_le.mpr k3)
theorem sm_le {a n : Int} (h : Md n) (h0 : 0 ≤ a) (k : a ≤ 2 * n) : Sm a := Nat.lt_of_le_of_lt (show a.natAbs ≤ 2 * n.natAbs by omega) (Nat.lt_of_lt_of_le (Nat.mul_lt_mul_of_pos_left h (by decide)) (by rw [← Nat.pow_succ']; exact Nat.pow_le_pow_right (by decide) (by decide)))
theorem sm2 : Sm 2 := Nat.lt_of_lt_of_le (by decide : 2 < 2 ^ 2) (Nat.pow_le_pow_right (by decide) (by decide))
theorem isqrt_ok (hK : G.K = KF P) {n r : Int} (hm : Md n) (h0 : 0 ≤ r) (h1 : r * r ≤ n) (h2 : n < (r + 1) * (r + 1)) : Fn G 148 1 [.int n] xs (.int r) xs := by
  refine fn1 (p := ("n" : Str)) (uok hK) 60 hK rfl rfl (fun _ => rfl) rfl fun C hs hk => ?_
  have hn : 0 ≤ n := Int.le_trans (Int.mul_nonneg h0 h0) h1
  refine ifD (fun h => ?_) fun h => ?_
  · have e : n = 0 ∨ n = 1 := by omega
    exact leaf (congrArg D.int (sq_uniq h0 h1 h2 hn (by rcases e with e | e <;> rw [e] <;> decide) (by rcases e with e | e <;> rw [e] <;> decide)))
  have h3 : 2 ≤ n := Int.not_lt.mp h
  refine ⟨Int, fun g => 0 < g ∧ g ≤ 2 * n, fun g => [(("guess" : Str), .int g), (("n" : Str), .int n)], fun g => (2 * n + 1 - g).toNat, 1, ⟨by decide, by omega⟩, ⟨rfl, rfl, trivial⟩, fun g hg => ?_⟩
  have hs1 := sm_le hm (Int.le_of_lt hg.1) hg.2
  refine ⟨⟨hs1, hs1⟩, ifD (fun h4 => ?_) fun h4 => ?_⟩
  · have h5 : g ≤ n := Int.le_trans (Int.le_trans (by rw [Int.mul_one]; exact Int.le_refl g) (Int.mul_le_mul_of_nonneg_left hg.1 (Int.le_of_lt hg.1) : g * 1 ≤ g * g)) h4
    refine ⟨⟨hs1, sm2⟩, rfl, g * 2, ?_, ⟨by omega, by omega⟩, rfl, rfl, trivial⟩
    show (2 * n + 1 - g * 2).toNat < (2 * n + 1 - g).toNat
    omega
  · have h4 : n < g * g := Int.not_le.mp h4
    refine ⟨⟨Int.ne_of_gt hg.1, hs1⟩, ⟨by decide, sm2⟩, ?_⟩
    refine ⟨Int, fun g => 0 < g ∧ g ≤ 2 * n ∧ n < (g + 1) * (g + 1), fun g => [(("better" : Str), .int (nx n g)), (("guess" : Str), .int g), (("n" : Str), .int n)], fun g => g.toNat, g, ⟨hg.1, hg.2, Int.lt_of_lt_of_le h4 (sq_le (Int.le_of_lt hg.1) (by omega))⟩, ⟨rfl, rfl, rfl, trivial⟩, fun g hg => ?_⟩
    refine ifD (fun h5 => ?_) fun h5 => ?_
    · have h6 := nx_pos hg.1 h3
      have h7 : nx n g ≤ 2 * n := by have := hg.2.1; omega
      refine ⟨⟨Int.ne_of_gt h6, sm_le hm (Int.le_of_lt h6) h7⟩, ⟨by decide, sm2⟩, rfl, nx n g, ?_, ⟨h6, h7, nx_up hg.1 hn⟩, rfl, rfl, rfl, trivial⟩
      exact (Int.toNat_lt_toNat hg.1).mpr h5
    · exact leaf (congrArg D.int (sq_uniq h0 h1 h2 (Int.le_of_lt hg.1) (nx_end hg.1 h5) hg.2.2))
end Mine
end
noncomputable section
open PySem PySem.W PySem.Calls PyProof.Rows PySem.Spec
namespace Mine
variable {G : Gx} {P : Params} {xs : List Int}

theorem root_none (hK : G.K = KF P) : Fn G 155 2 [.none] xs .none xs := by
  refine fn1 (p := ("x" : Str)) (uok hK) 60 hK rfl rfl (fun _ => rfl) rfl fun C hs hk => ?_
  refine callK (is_na_none hK) (kle hk (by decide)) ?_
  exact ⟨rfl, rfl⟩
theorem root_end (hK : G.K = KF P) {a b : Int} (h0 : b = 0) (ha : 0 ≤ a ∧ a ≤ 1) : Fn G 155 2 [rat a b] xs (rat a b) xs := by
  refine fn1 (p := ("x" : Str)) (uok hK) 60 hK rfl rfl (fun _ => rfl) rfl fun C hs hk => ?_
  refine callK (is_na_ok hK a b) (kle hk (by decide)) ?_
  refine ifD (fun h => ⟨rfl, rfl⟩) fun h => ifD (fun h => ⟨rfl, rfl⟩) fun h1 => ?_
  omega
theorem root_neg (hK : G.K = KF P) {a b : Int} (ha : a < 0) : Fn G 155 2 [rat a b] xs (rat 0 0) xs := by
  refine fn1 (p := ("x" : Str)) (uok hK) 60 hK rfl rfl (fun _ => rfl) rfl fun C hs hk => ?_
  refine callK (is_na_ok hK a b) (kle hk (by decide)) ?_
  refine ifDF (by omega) (ifD (fun h => ?_) fun h1 => ?_)
  · omega
  · exact ifDT ha ⟨rfl, rfl⟩
theorem isqrt_sq (hK : G.K = KF P) {a : Int} (h : 0 ≤ a) (m : Md (a * a)) : Fn G 148 1 [.int (a * a)] xs (.int a) xs := isqrt_ok hK m h (Int.le_refl _) (by simp only [Int.mul_add, Int.add_mul, Int.mul_one, Int.one_mul]; omega)
theorem Md.le {a b : Int} (h : Md b) (k : a.natAbs ≤ b.natAbs) : Md a := Nat.lt_of_le_of_lt k h
theorem md_sq {a : Int} (h : Md (a * a)) : Md a := h.le (by rw [Int.natAbs_mul]; exact Nat.le_mul_self _)
theorem root_sq (hK : G.K = KF P) {a b : Int} (ha : 0 ≤ a) (hb : 0 < b) (ma : Md (a * a)) (mb : Md (b * b)) : Fn G 155 2 [rat (a * a) (b * b)] xs (rat a b) xs := by
  refine fn1 (p := ("x" : Str)) (uok hK) 60 hK rfl rfl (fun _ => rfl) rfl fun C hs hk => ?_
  have h1 := Int.mul_pos hb hb
  have h2 := Int.mul_nonneg ha ha
  refine callK (is_na_ok hK _ _) (kle hk (by decide)) ?_
  refine ifDF (by omega) (ifD (fun h => ?_) fun _ => ?_)
  · omega
  · refine ifDF (by omega) ?_
    refine callK (isqrt_sq hK ha ma) (kle hk (by decide)) ?_
    refine callK (isqrt_sq hK (Int.le_of_lt hb) mb) (kle hk (by decide)) ?_
    exact ⟨⟨(md_sq ma).sm, (md_sq ma).sm⟩, ifNF rfl ⟨⟨(md_sq mb).sm, (md_sq mb).sm⟩, ifNF rfl ⟨rfl, rfl⟩⟩⟩

def infS (a b n : Int) : D := if n < 0 then rat 0 1 else if a < 0 ∧ n % 2 = 0 then rat 1 0 else rat a b
theorem infinite_ok (hK : G.K = KF P) (a b n : Int) : Fn G 176 1 [rat a b, rat n 1] xs (infS a b n) xs := by
  refine fn2 (p := ("x" : Str)) (q := ("y" : Str)) (uok hK) 60 hK rfl rfl (fun _ _ => rfl) rfl fun C hs hk => ?_
  have key : ∀ R : Prop, (∃ q : Int, q = a) → R → R := fun _ _ h => h
  refine ifD (fun h => ?_) fun h => ?_
  · refine ifD (fun h1 => leaf (if_pos h1)) fun h1 => ifDT h ⟨by decide, ?_⟩
    rw [fmod_pos (by decide)]
    exact ifD (fun h2 => leaf ((if_neg h1).trans (if_pos ⟨h, h2⟩))) fun h2 => leaf ((if_neg h1).trans (if_neg fun k => h2 k.2))
  · exact ifD (fun h1 => leaf (if_pos h1)) fun h1 => ifDF h (leaf ((if_neg h1).trans (if_neg fun k => h k.1)))
def wholeS (a b n : Int) : D := if a = 1 ∧ b = 1 then rat 1 1 else if a = -1 ∧ b = 1 then (if n % 2 = 0 then rat 1 1 else rat a b) else if 0 ≤ n then rat (a ^ n.toNat) (b ^ n.toNat) else mk (b ^ (0 - n).toNat) (a ^ (0 - n).toNat)
theorem whole_ok (hK : G.K = KF P) {a b n : Int} (hn : n.natAbs ≤ 4) (ma : Md a) (mb : Md b) (mp : Sm (a ^ (0 - n).toNat)) : Fn G 183 3 [rat a b, .int n] xs (wholeS a b n) xs := by
  refine fn2 (p := ("x" : Str)) (q := ("n" : Str)) (uok hK) 60 hK rfl rfl (fun _ _ => rfl) rfl fun C hs hk => ?_
  refine ifD (fun h => leaf (if_pos h)) fun h => ?_
  have key : ∀ k : Int, n.natAbs ≤ 4 → IfK (decide ((4096 : Int) < n.natAbs)) False (k = 0) → k = 0 := fun k h q => by
    have e : ¬ (4096 : Int) < n.natAbs := by omega
    rw [decide_eq_false e] at q; exact q
  refine ifD (fun h1 => ?_) fun h1 => ?_
  · refine ifD (fun h2 => ?_) fun h2 => ?_
    · refine ⟨by decide, ?_⟩
      rw [fmod_pos (by decide)]
      exact ifD (fun h3 => leaf ((if_neg h).trans ((if_pos ⟨h1, h2⟩).trans (if_pos h3)))) fun h3 => leaf ((if_neg h).trans ((if_pos ⟨h1, h2⟩).trans (if_neg h3)))
    · refine ifDF (by omega) (ifD (fun h3 => ?_) fun h3 => ?_)
      · refine ⟨⟨h3, by omega, ma.sm⟩, ⟨h3, by omega, mb.sm⟩, ?_⟩
        exact leaf ((if_neg h).trans ((if_neg fun k => h2 k.2).trans (if_pos h3)))
      · refine ⟨⟨by omega, by omega, mb.sm⟩, ⟨by omega, by omega, ma.sm⟩, ?_⟩
        refine callK (make_ok hK mp) (kle hk (by decide)) ?_
        exact leaf ((if_neg h).trans ((if_neg fun k => h2 k.2).trans (if_neg h3)))
  · refine ifDF (by omega) (ifD (fun h3 => ?_) fun h3 => ?_)
    · refine ⟨⟨h3, by omega, ma.sm⟩, ⟨h3, by omega, mb.sm⟩, ?_⟩
      exact leaf ((if_neg h).trans ((if_neg fun k => h1 k.1).trans (if_pos h3)))
    · refine ⟨⟨by omega, by omega, mb.sm⟩, ⟨by omega, by omega, ma.sm⟩, ?_⟩
      refine callK (make_ok hK mp) (kle hk (by decide)) ?_
      exact leaf ((if_neg h).trans ((if_neg fun k => h1 k.1).trans (if_neg h3)))
def powS (a b n : Int) : D := if (a = 1 ∧ b = 1) then rat 1 1 else if n = 0 then rat 1 1 else if a = 0 ∧ b = 0 then rat 0 0 else if a = 0 ∧ b = 1 then (if 0 < n then rat 0 1 else rat 1 0) else if b = 0 then infS a b n else wholeS a b n
theorem power_ok (hK : G.K = KF P) {a b n : Int} (hn : n.natAbs ≤ 4) (ma : Md a) (mb : Md b) (mp : Sm (a ^ (0 - n).toNat)) : Fn G 162 4 [rat a b, rat n 1] xs (powS a b n) xs := by
  refine fn2 (p := ("x" : Str)) (q := ("y" : Str)) (uok hK) 60 hK rfl rfl (fun _ _ => rfl) rfl fun C hs hk => ?_
  refine ifD (fun h => leaf (if_pos h)) fun h => ifD (fun h1 => leaf ((if_neg h).trans (if_pos h1.1))) fun h1 => ?_
  have h1 : ¬n = 0 := fun e => h1 ⟨e, rfl⟩
  refine callK (is_na_ok hK a b) (kle hk (by decide)) ?_
  refine ifD (fun h2 => ?_) fun h2 => ?_
  · refine callK (marked_ok hK a b n 1) (kle hk (by decide)) ?_
    exact leaf ((if_neg h).trans ((if_neg h1).trans (if_pos h2)))
  refine callK (is_na_ok hK n 1) (kle hk (by decide)) ?_
  refine ifDF (fun k => h1 k.1) (ifD (fun h3 => ?_) fun h3 => ?_)
  · exact ifD (fun h4 => leaf ((if_neg h).trans ((if_neg h1).trans ((if_neg h2).trans ((if_pos h3).trans (if_pos h4)))))) fun h4 => leaf ((if_neg h).trans ((if_neg h1).trans ((if_neg h2).trans ((if_pos h3).trans (if_neg h4)))))
  · refine ifD (fun h4 => ?_) fun h4 => ?_
    · refine callK (infinite_ok hK a b n) (kle hk (by decide)) ?_
      exact leaf ((if_neg h).trans ((if_neg h1).trans ((if_neg h2).trans ((if_neg h3).trans (if_pos h4)))))
    · refine callK (whole_ok hK hn ma mb mp) (kle hk (by decide)) ?_
      exact leaf ((if_neg h).trans ((if_neg h1).trans ((if_neg h2).trans ((if_neg h3).trans (if_neg h4)))))
theorem power_none (hK : G.K = KF P) (n : Int) : Fn G 162 4 [.none, rat n 1] xs (if n = 0 then rat 1 1 else .none) xs := by
  refine fn2 (p := ("x" : Str)) (q := ("y" : Str)) (uok hK) 60 hK rfl rfl (fun _ _ => rfl) rfl fun C hs hk => ?_
  refine ifD (fun h1 => leaf (if_pos h1.1)) fun h1 => ?_
  refine callK (is_na_none hK) (kle hk (by decide)) ?_
  refine callK (marked_none1 hK _) (kle hk (by decide)) ?_
  exact leaf (if_neg fun e => h1 ⟨e, rfl⟩)
theorem power_one (hK : G.K = KF P) (y : D) : Fn G 162 4 [rat 1 1, y] xs (rat 1 1) xs := by
  refine fn2 (p := ("x" : Str)) (q := ("y" : Str)) (uok hK) 60 hK rfl rfl (fun _ _ => rfl) rfl fun C hs hk => ?_
  exact ⟨rfl, rfl⟩
end Mine
end
noncomputable section
open PySem PySem.W PySem.Calls PyProof.Rows PySem.Spec
namespace Mine
variable {G : Gx} {P : Params} {xs : List Int}

theorem reduced_ok (hK : G.K = KF P) {n d : Int} (hd : 0 < d) (sd : Sm d) : Fn G 239 1 [.int n, .int d] xs (red n d) xs := by
  refine fn2 (p := ("n" : Str)) (q := ("d" : Str)) (uok hK) 60 hK rfl rfl (fun _ _ => rfl) rfl fun C hs hk => ?_
  obtain ⟨g1, g2, g3⟩ := gcd_sm (n := n) sd (Int.ne_of_gt hd)
  refine ⟨Int × Int, fun z => 0 ≤ z.1 ∧ 0 ≤ z.2 ∧ Int.gcd z.1 z.2 = Int.gcd n d, fun z => [(("b" : Str), .int z.2), (("a" : Str), .int z.1), (("d" : Str), .int d), (("n" : Str), .int n)], fun z => z.2.toNat, (n.natAbs, d), ⟨Int.natCast_nonneg _, Int.le_of_lt hd, rfl⟩, ⟨rfl, rfl, rfl, rfl, trivial⟩, ?_⟩
  rintro ⟨x, y⟩ ⟨hx, hy, hg⟩
  refine ifD (fun h1 => ?_) fun h1 => ?_
  · refine EX_swap hs ⟨by rw [hs]; rfl, rfl⟩ ⟨by rw [hs]; rfl, rfl⟩ (((wp hs (uok hK) 20).ev ..).2 ?_) (fun _ _ _ _ => rfl) fun _ => rfl
    refine ⟨Int.ne_of_gt h1, ?_⟩
    have h1 : 0 < y := h1
    rw [fmod_pos h1]
    exact EX_nil ⟨rfl, (y, x % y), (Int.toNat_lt_toNat h1).mpr (Int.emod_lt_of_pos x h1), ⟨hy, Int.emod_nonneg x (Int.ne_of_gt h1), (gcd_step hx hy).trans hg⟩, rfl, rfl, rfl, rfl, trivial⟩
  · obtain rfl : y = 0 := Int.le_antisymm (Int.not_lt.mp h1) hy
    have e : x = (Int.gcd n d : Int) := by rw [← hg]; show x = (Int.gcd x 0 : Int); rw [Int.gcd_zero_right, Int.natAbs_of_nonneg hx]
    subst e
    refine ⟨⟨g1, g2⟩, ⟨g1, g2⟩, ?_⟩
    rw [fdiv_pos g3, fdiv_pos g3]
    exact ⟨rfl, rfl⟩

theorem side_ok (hK : G.K = KF P) (a b : Int) : Fn G 260 1 [rat a b] xs (.int (sd a)) xs := by
  refine fn1 (p := ("x" : Str)) (uok hK) 60 hK rfl rfl (fun _ => rfl) rfl fun C hs hk => ?_
  refine ifD (fun h => leaf (congrArg D.int (if_pos h))) fun h => ?_
  exact ifD (fun h1 => leaf (congrArg D.int ((if_neg h).trans (if_pos h1)))) fun h1 => leaf (congrArg D.int ((if_neg h).trans (if_neg h1)))
def markS (a b c d : Int) : D := if a = 0 ∧ b = 0 then .pair (rat 0 0) (.bool true) else if c = 0 ∧ d = 0 then .pair (rat 0 0) (.bool true) else .pair .none (.bool false)
theorem mark_ok (hK : G.K = KF P) (a b c d : Int) : Fn G 253 1 [rat a b, rat c d] xs (markS a b c d) xs := by
  refine fn2 (p := ("x" : Str)) (q := ("y" : Str)) (uok hK) 60 hK rfl rfl (fun _ _ => rfl) rfl fun C hs hk => ?_
  refine ifD (fun h => leaf (if_pos h)) fun h => ?_
  exact ifD (fun h1 => leaf ((if_neg h).trans (if_pos h1))) fun h1 => leaf ((if_neg h).trans (if_neg h1))
theorem mark_none1 (hK : G.K = KF P) (y : D) : Fn G 253 1 [.none, y] xs (.pair .none (.bool true)) xs := by
  refine fn2 (p := ("x" : Str)) (q := ("y" : Str)) (uok hK) 60 hK rfl rfl (fun _ _ => rfl) rfl fun C hs hk => ?_
  exact ⟨rfl, rfl⟩
theorem mark_none2 (hK : G.K = KF P) (a b : Int) : Fn G 253 1 [rat a b, .none] xs (.pair .none (.bool true)) xs := by
  refine fn2 (p := ("x" : Str)) (q := ("y" : Str)) (uok hK) 60 hK rfl rfl (fun _ _ => rfl) rfl fun C hs hk => ?_
  exact ⟨rfl, rfl⟩
theorem sm1 : Sm (-1) := Nat.lt_of_lt_of_le (by decide : 1 < 2 ^ 2) (Nat.pow_le_pow_right (by decide) (by decide))
theorem sm1' : Sm 1 := sm1
theorem sdm (a : Int) : Sm (sd a) := by
  unfold sd
  split
  · exact sm1
  · split
    · exact sm1
    · exact Nat.lt_of_le_of_lt (Nat.zero_le 1) sm1
theorem product_ok (hK : G.K = KF P) {a b c d : Int} (hb : 0 ≤ b) (hd : 0 ≤ d) (ma : Md a) (mb : Md b) (mc : Md c) (md : Md d) : Fn G 272 2 [rat a b, rat c d] xs (mulS a b c d) xs := by
  refine fn2 (p := ("x" : Str)) (q := ("y" : Str)) (uok hK) 60 hK rfl rfl (fun _ _ => rfl) rfl fun C hs hk => ?_
  have M := mark_ok (xs := xs) hK a b c d
  by_cases h : a = 0 ∧ b = 0
  · rw [show markS a b c d = _ from if_pos h] at M
    exact callK M (kle hk (by decide)) (leaf (if_pos h))
  by_cases h1 : c = 0 ∧ d = 0
  · rw [show markS a b c d = _ from (if_neg h).trans (if_pos h1)] at M
    exact callK M (kle hk (by decide)) (leaf ((if_neg h).trans (if_pos h1)))
  rw [show markS a b c d = _ from (if_neg h).trans (if_neg h1)] at M
  refine callK M (kle hk (by decide)) (ifD (fun h2 => ?_) fun h2 => ?_)
  · refine callK (side_ok hK a b) (kle hk (by decide)) (callK (side_ok hK c d) (kle hk (by decide)) ⟨⟨sdm a, sdm c⟩, ?_⟩)
    exact leaf ((if_neg h).trans ((if_neg h1).trans (if_pos (.inl h2))))
  · refine ifD (fun h3 => ?_) fun h3 => ?_
    · refine callK (side_ok hK a b) (kle hk (by decide)) (callK (side_ok hK c d) (kle hk (by decide)) ⟨⟨sdm a, sdm c⟩, ?_⟩)
      exact leaf ((if_neg h).trans ((if_neg h1).trans (if_pos (.inr h3))))
    · refine ⟨⟨ma.sm, mc.sm⟩, ⟨mb.sm, md.sm⟩, ?_⟩
      refine callK (reduced_ok hK (Int.mul_pos (posOf hb h2) (posOf hd h3)) (mb.mul md)) (kle hk (by decide)) ?_
      exact leaf ((if_neg h).trans ((if_neg h1).trans (if_neg fun k => k.elim h2 h3)))
theorem product_none1 (hK : G.K = KF P) (y : D) : Fn G 272 2 [.none, y] xs .none xs := by
  refine fn2 (p := ("x" : Str)) (q := ("y" : Str)) (uok hK) 60 hK rfl rfl (fun _ _ => rfl) rfl fun C hs hk => ?_
  exact callK (mark_none1 hK y) (kle hk (by decide)) ⟨rfl, rfl⟩
theorem product_none2 (hK : G.K = KF P) (a b : Int) : Fn G 272 2 [rat a b, .none] xs .none xs := by
  refine fn2 (p := ("x" : Str)) (q := ("y" : Str)) (uok hK) 60 hK rfl rfl (fun _ _ => rfl) rfl fun C hs hk => ?_
  exact callK (mark_none2 hK a b) (kle hk (by decide)) ⟨rfl, rfl⟩
/-- quotients; the sign of the end is ±1 -/
theorem quotient_ok (hK : G.K = KF P) {a b c d : Int} (hb : 0 < b ∨ b = 0 ∧ (a = 1 ∨ a = -1 ∨ a = 0)) (hd : 0 < d ∨ d = 0 ∧ (c = 1 ∨ c = -1 ∨ c = 0)) (ma : Md a) (mb : Md b) (mc : Md c) (md : Md d) : Fn G 279 2 [rat a b, rat c d] xs (divS a b c d) xs := by
  refine fn2 (p := ("x" : Str)) (q := ("y" : Str)) (uok hK) 60 hK rfl rfl (fun _ _ => rfl) rfl fun C hs hk => ?_
  have M := mark_ok (xs := xs) hK a b c d
  by_cases h : a = 0 ∧ b = 0
  · rw [show markS a b c d = _ from if_pos h] at M
    exact callK M (kle hk (by decide)) (leaf (if_pos h))
  by_cases h1 : c = 0 ∧ d = 0
  · rw [show markS a b c d = _ from (if_neg h).trans (if_pos h1)] at M
    exact callK M (kle hk (by decide)) (leaf ((if_neg h).trans (if_pos h1)))
  rw [show markS a b c d = _ from (if_neg h).trans (if_neg h1)] at M
  have sda : b = 0 → sd a = a := fun e => by
    rcases hb with q | ⟨_, q | q | q⟩
    · omega
    · rw [q]; rfl
    · rw [q]; rfl
    · exact absurd ⟨q, e⟩ h
  refine callK M (kle hk (by decide)) (ifD (fun h2 => ?_) fun h2 => ?_)
  · refine ifD (fun h3 => ?_) fun h3 => ?_
    · exact leaf ((if_neg h).trans ((if_neg h1).trans ((if_pos h3).trans (if_pos h2))))
    · refine leaf ((if_neg h).trans ((if_neg h1).trans ((if_neg h3).trans ?_)))
      have h4 : 0 < b := hb.resolve_right fun q => h3 q.1
      rw [h2, Int.mul_zero]
      rcases hd with q | ⟨_, q | q | q⟩
      · omega
      · rw [q, Int.mul_one, mkP h4]; unfold red; rw [Int.gcd_zero_left, Int.natAbs_of_nonneg (Int.le_of_lt h4), Int.zero_ediv, Int.ediv_self h3]
      · rw [q]; unfold mk red
        rw [if_neg (by omega), if_pos (by omega), show 0 - b * -1 = b by omega, Int.sub_zero, Int.gcd_zero_left, Int.natAbs_of_nonneg (Int.le_of_lt h4), Int.zero_ediv, Int.ediv_self h3]
      · exact absurd ⟨q, h2⟩ h1
  · refine ifD (fun h3 => ?_) fun h3 => ?_
    · refine callK (side_ok hK a b) (kle hk (by decide)) (ifD (fun h4 => ?_) fun h4 => ?_)
      · refine ⟨⟨sdm a, sm1⟩, leaf ((if_neg h).trans ((if_neg h1).trans ((if_pos h3).trans ((if_neg h2).trans ((if_pos h4).trans ?_)))))⟩
        rw [sda h3, h3, show 0 - a = a * -1 by omega]
      · refine ⟨⟨sdm a, sm1'⟩, leaf ((if_neg h).trans ((if_neg h1).trans ((if_pos h3).trans ((if_neg h2).trans ((if_neg h4).trans ?_)))))⟩
        rw [sda h3, h3, Int.mul_one]
    · have h5 : 0 < b := hb.resolve_right fun q => h3 q.1
      have h6 : 0 < d := hd.resolve_right fun q => h2 q.1
      refine ifD (fun h4 => ?_) fun h4 => ?_
      · refine callK (side_ok hK a b) (kle hk (by decide)) ?_
        refine leaf ((if_neg h).trans ((if_neg h1).trans ((if_neg h3).trans ?_)))
        rw [h4, Int.mul_zero, mk0, ← sd_mul, show sd d = 1 from if_pos h6, Int.mul_one]
      · have h7 : 0 < b * (c.natAbs : Int) := Int.mul_pos h5 (by omega)
        refine ⟨⟨ma.sm, md.sm⟩, callK (side_ok hK c d) (kle hk (by decide)) ⟨⟨ma.mul md, sdm c⟩, ⟨mb.sm, mc.sm⟩, ?_⟩⟩
        refine callK (reduced_ok hK h7 (mb.mul mc)) (kle hk (by decide)) ?_
        refine leaf ((if_neg h).trans ((if_neg h1).trans ((if_neg h3).trans ?_)))
        rcases Int.lt_or_gt_of_ne h4 with q | q
        · have e : b * c < 0 := Int.mul_neg_of_pos_of_neg h5 q
          unfold mk
          rw [if_neg (Int.ne_of_lt e), if_pos e, show sd c = -1 from (if_neg (by omega)).trans (if_pos q), Int.ofNat_natAbs_of_nonpos (Int.le_of_lt q), Int.mul_neg, Int.zero_sub, Int.zero_sub, Int.mul_neg, Int.mul_one]
        · rw [mkP (Int.mul_pos h5 q), show sd c = 1 from if_pos q, Int.natAbs_of_nonneg (Int.le_of_lt q), Int.mul_one]
theorem quotient_none1 (hK : G.K = KF P) (y : D) : Fn G 279 2 [.none, y] xs .none xs := by
  refine fn2 (p := ("x" : Str)) (q := ("y" : Str)) (uok hK) 60 hK rfl rfl (fun _ _ => rfl) rfl fun C hs hk => ?_
  exact callK (mark_none1 hK y) (kle hk (by decide)) ⟨rfl, rfl⟩
theorem quotient_none2 (hK : G.K = KF P) (a b : Int) : Fn G 279 2 [rat a b, .none] xs .none xs := by
  refine fn2 (p := ("x" : Str)) (q := ("y" : Str)) (uok hK) 60 hK rfl rfl (fun _ _ => rfl) rfl fun C hs hk => ?_
  exact callK (mark_none2 hK a b) (kle hk (by decide)) ⟨rfl, rfl⟩
end Mine
end
noncomputable section
open PySem PySem.W PySem.Calls PyProof.Rows PySem.Spec
namespace Mine
variable {G : Gx} {P : Params} {xs : List Int}

theorem sum_ok (hK : G.K = KF P) {a b c d : Int} (hb : 0 ≤ b) (hd : 0 ≤ d) (ma : Md a) (mb : Md b) (mc : Md c) (md : Md d) : Fn G 265 2 [rat a b, rat c d] xs (addS a b c d) xs := by
  refine fn2 (p := ("x" : Str)) (q := ("y" : Str)) (uok hK) 60 hK rfl rfl (fun _ _ => rfl) rfl fun C hs hk => ?_
  have M := mark_ok (xs := xs) hK a b c d
  by_cases h : a = 0 ∧ b = 0
  · rw [show markS a b c d = _ from if_pos h] at M
    exact callK M (kle hk (by decide)) (leaf (if_pos h))
  by_cases h1 : c = 0 ∧ d = 0
  · rw [show markS a b c d = _ from (if_neg h).trans (if_pos h1)] at M
    exact callK M (kle hk (by decide)) (leaf ((if_neg h).trans (if_pos h1)))
  rw [show markS a b c d = _ from (if_neg h).trans (if_neg h1)] at M
  refine callK M (kle hk (by decide)) (ifD (fun h2 => ?_) fun h2 => ?_)
  · by_cases h3 : d = 0
    · exact (EX_zeros hs ⟨by rw [hs]; rfl, rfl⟩ rfl rfl (fun _ _ _ _ => rfl) rfl (by decide +kernel) (by decide +kernel) (by rw [show zeros a b c d = [rat a b, rat c d] by unfold zeros; rw [if_pos h2, if_pos h3]; rfl]; exact ((wp hs (uok hK) 20).ex ..).2 ⟨by decide, ifD (fun e => ⟨by decide, leaf ((if_neg h).trans ((if_neg h1).trans ((if_pos h2).trans ((if_pos h3).trans (if_pos e.1)))))⟩) fun e => leaf ((if_neg h).trans ((if_neg h1).trans ((if_pos h2).trans ((if_pos h3).trans (if_neg fun k => e ⟨k, h2.trans h3.symm⟩)))))⟩))
    · exact (EX_zeros hs ⟨by rw [hs]; rfl, rfl⟩ rfl rfl (fun _ _ _ _ => rfl) rfl (by decide +kernel) (by decide +kernel) (by rw [show zeros a b c d = [rat a b] by unfold zeros; rw [if_pos h2, if_neg h3]; rfl]; exact ((wp hs (uok hK) 20).ex ..).2 ⟨by decide, ifDT ⟨rfl, rfl⟩ ⟨by decide, leaf ((if_neg h).trans ((if_neg h1).trans ((if_pos h2).trans (if_neg h3))))⟩⟩))
  · refine ifD (fun h3 => ?_) fun h3 => ?_
    · exact (EX_zeros hs ⟨by rw [hs]; rfl, rfl⟩ rfl rfl (fun _ _ _ _ => rfl) rfl (by decide +kernel) (by decide +kernel) (by rw [show zeros a b c d = [rat c d] by unfold zeros; rw [if_neg h2, if_pos h3]; rfl]; exact ((wp hs (uok hK) 20).ex ..).2 ⟨by decide, ifDT ⟨rfl, rfl⟩ ⟨by decide, leaf ((if_neg h).trans ((if_neg h1).trans ((if_neg h2).trans (if_pos h3))))⟩⟩))
    · refine ⟨⟨ma.sm, md.sm⟩, ⟨mc.sm, mb.sm⟩, ⟨mb.sm, md.sm⟩, ?_⟩
      refine callK (reduced_ok hK (Int.mul_pos (posOf hb h2) (posOf hd h3)) (mb.mul md)) (kle hk (by decide)) ?_
      exact leaf ((if_neg h).trans ((if_neg h1).trans ((if_neg h2).trans (if_neg h3))))
theorem sum_none1 (hK : G.K = KF P) (y : D) : Fn G 265 2 [.none, y] xs .none xs := by
  refine fn2 (p := ("x" : Str)) (q := ("y" : Str)) (uok hK) 60 hK rfl rfl (fun _ _ => rfl) rfl fun C hs hk => ?_
  exact callK (mark_none1 hK y) (kle hk (by decide)) ⟨rfl, rfl⟩
theorem sum_none2 (hK : G.K = KF P) (a b : Int) : Fn G 265 2 [rat a b, .none] xs .none xs := by
  refine fn2 (p := ("x" : Str)) (q := ("y" : Str)) (uok hK) 60 hK rfl rfl (fun _ _ => rfl) rfl fun C hs hk => ?_
  exact callK (mark_none2 hK a b) (kle hk (by decide)) ⟨rfl, rfl⟩

theorem cmpT {l r t : Int} (h : 0 < t) : cmpS l r = cmpS (l * t) (r * t) := by
  unfold cmpS
  by_cases e : l = r
  · rw [if_pos e, if_pos (by rw [e])]
  · rw [if_neg e, if_neg fun k => e (Int.eq_of_mul_eq_mul_right (Int.ne_of_gt h) k)]
    by_cases k : l < r
    · rw [if_pos k, if_pos (Int.mul_lt_mul_of_pos_right k h)]
    · rw [if_neg k, if_neg fun q => k (Int.lt_of_mul_lt_mul_right q (Int.le_of_lt h))]
theorem sm10 : Sm 10 := Nat.lt_of_lt_of_le (by decide : 10 < 2 ^ 4) (Nat.pow_le_pow_right (by decide) (by decide))
theorem smT : Sm ((10 : Int) ^ (40 : Int).toNat) := Nat.lt_of_lt_of_le (by decide : (((10 : Int) ^ (40 : Int).toNat)).natAbs < 2 ^ 200) (Nat.pow_le_pow_right (by decide) (by decide))
theorem order_ok (hK : G.K = KF P) {a b c d : Int} (hb : 0 ≤ b) (hd : 0 ≤ d) (ma : Md a) (mb : Md b) (mc : Md c) (md : Md d) : Fn G 286 2 [rat a b, rat c d] xs (compS a b c d) xs := by
  refine fn2 (p := ("x" : Str)) (q := ("y" : Str)) (uok hK) 60 hK rfl rfl (fun _ _ => rfl) rfl fun C hs hk => ?_
  have M := mark_ok (xs := xs) hK a b c d
  by_cases h : a = 0 ∧ b = 0
  · rw [show markS a b c d = _ from if_pos h] at M
    exact callK M (kle hk (by decide)) (leaf (if_pos h))
  by_cases h1 : c = 0 ∧ d = 0
  · rw [show markS a b c d = _ from (if_neg h).trans (if_pos h1)] at M
    exact callK M (kle hk (by decide)) (leaf ((if_neg h).trans (if_pos h1)))
  rw [show markS a b c d = _ from (if_neg h).trans (if_neg h1)] at M
  have ten : (0 : Int) ≤ 40 ∧ (40 : Int) ≤ 1000 ∧ Sm 10 := ⟨by decide, by decide, sm10⟩
  have tp : 0 < (10 : Int) ^ (40 : Int).toNat := by decide
  refine callK M (kle hk (by decide)) (ifD (fun h2 => ?_) fun h2 => ?_)
  · refine ⟨ten, ⟨ma.sm, smT⟩, ifD (fun h3 => ?_) fun h3 => ?_⟩
    · have k : compS a b c d = _ := (if_neg h).trans ((if_neg h1).trans ((if_pos h2).trans ((if_pos h3).trans (cmpT tp))))
      exact ⟨ten, ⟨mc.sm, smT⟩, (ifD (fun e => leaf (k.trans (if_pos e))) fun e => ifD (fun e1 => leaf (k.trans ((if_neg e).trans (if_pos e1)))) fun e1 => leaf (k.trans ((if_neg e).trans (if_neg e1))))⟩
    · have k : compS a b c d = _ := (if_neg h).trans ((if_neg h1).trans ((if_pos h2).trans ((if_neg h3).trans (cmpT tp))))
      rw [Int.zero_mul] at k
      exact ifDF (by omega) (ifD (fun e => leaf (k.trans (if_pos e))) fun e => ifD (fun e1 => leaf (k.trans ((if_neg e).trans (if_pos e1)))) fun e1 => leaf (k.trans ((if_neg e).trans (if_neg e1))))
  · have h4 := posOf hb h2
    refine ifD (fun h3 => ?_) fun h3 => ?_
    · refine ⟨⟨ma.sm, md.sm⟩, ifDF (by omega) (ifDT h4 ⟨⟨mc.sm, mb.sm⟩, ?_⟩)⟩
      have k : compS a b c d = _ := (if_neg h).trans ((if_neg h1).trans ((if_neg h2).trans (if_neg (by omega))))
      exact (ifD (fun e => leaf (k.trans (if_pos e))) fun e => ifD (fun e1 => leaf (k.trans ((if_neg e).trans (if_pos e1)))) fun e1 => leaf (k.trans ((if_neg e).trans (if_neg e1))))
    · have h5 : d = 0 := by omega
      have k : compS a b c d = _ := (if_neg h).trans ((if_neg h1).trans ((if_neg h2).trans ((if_pos h5).trans (cmpT tp))))
      rw [Int.zero_mul] at k
      exact ifDT h5 ⟨ten, ⟨mc.sm, smT⟩, (ifD (fun e => leaf (k.trans (if_pos e))) fun e => ifD (fun e1 => leaf (k.trans ((if_neg e).trans (if_pos e1)))) fun e1 => leaf (k.trans ((if_neg e).trans (if_neg e1))))⟩
theorem order_none1 (hK : G.K = KF P) (y : D) : Fn G 286 2 [.none, y] xs .none xs := by
  refine fn2 (p := ("x" : Str)) (q := ("y" : Str)) (uok hK) 60 hK rfl rfl (fun _ _ => rfl) rfl fun C hs hk => ?_
  exact callK (mark_none1 hK y) (kle hk (by decide)) ⟨rfl, rfl⟩
theorem order_none2 (hK : G.K = KF P) (a b : Int) : Fn G 286 2 [rat a b, .none] xs .none xs := by
  refine fn2 (p := ("x" : Str)) (q := ("y" : Str)) (uok hK) 60 hK rfl rfl (fun _ _ => rfl) rfl fun C hs hk => ?_
  exact callK (mark_none2 hK a b) (kle hk (by decide)) ⟨rfl, rfl⟩
end Mine
end
noncomputable section
open PySem PySem.W PySem.Calls PyProof.Rows PySem.Spec
namespace Mine
variable {G : Gx} {P : Params} {xs : List Int}

def ofR (q : Rat) : D := rat q.num q.den
theorem den_pos (q : Rat) : 0 < (q.den : Int) := Int.ofNat_lt.mpr q.den_pos
theorem den_ne (q : Rat) : ¬(q.den : Int) = 0 := Int.ne_of_gt (den_pos q)
theorem red_norm (n : Int) (d : Nat) (h : d ≠ 0) : red n d = ofR (Rat.normalize n d h) := by
  rw [Rat.normalize_eq]
  show rat _ _ = rat _ _
  have e : (Int.gcd n (d : Int)) = n.natAbs.gcd d := rfl
  rw [e, Int.natCast_ediv]
theorem addR (p q : Rat) : addS p.num p.den q.num q.den = ofR (p + q) := by
  refine (if_neg fun h => den_ne p h.2).trans ((if_neg fun h => den_ne q h.2).trans ((if_neg (den_ne p)).trans ((if_neg (den_ne q)).trans ?_)))
  rw [Rat.add_def, ← red_norm, Int.natCast_mul]
theorem mulR (p q : Rat) : mulS p.num p.den q.num q.den = ofR (p * q) := by
  refine (if_neg fun h => den_ne p h.2).trans ((if_neg fun h => den_ne q h.2).trans ((if_neg fun h => h.elim (den_ne p) (den_ne q)).trans ?_))
  rw [Rat.mul_def, ← red_norm, Int.natCast_mul]
theorem negR (q : Rat) : rat (0 - q.num) q.den = ofR (-q) := by
  unfold ofR; rw [Rat.neg_num, Rat.neg_den, Int.zero_sub]
theorem powR (q : Rat) (k : Nat) : ofR (q ^ k) = rat (q.num ^ k) ((q.den : Int) ^ k) := by
  unfold ofR; rw [Rat.num_pow, Rat.den_pow, Int.natCast_pow]
/-- small -/
def Lo (a : Int) : Prop := a.natAbs < 2 ^ 100
theorem Lo.md {a : Int} (h : Lo a) : Md a := Nat.lt_trans h (Nat.pow_lt_pow_right (by decide) (by decide))
theorem Lo.pow {a : Int} (h : Lo a) {k : Nat} (hk : k ≤ 4) : Md (a ^ k) := by
  unfold Md; rw [Int.natAbs_pow]
  exact Nat.lt_of_le_of_lt (Nat.pow_le_pow_left (Nat.le_of_lt h) k) (by rw [← Nat.pow_mul]; exact Nat.pow_lt_pow_right (by decide) (by omega))
def LoR (q : Rat) : Prop := Lo q.num ∧ Lo q.den
theorem LoR.pow {q : Rat} (h : LoR q) {k : Nat} (hk : k ≤ 4) : Md (q ^ k).num ∧ Md (q ^ k).den := by
  rw [Rat.num_pow, Rat.den_pow, Int.natCast_pow]; exact ⟨h.1.pow hk, h.2.pow hk⟩
theorem md1 : Md 1 := Nat.lt_of_lt_of_le (by decide : 1 < 2 ^ 2) (Nat.pow_le_pow_right (by decide) (by decide))
theorem lawpow_end (hK : G.K = KF P) {a b n : Int} (hn : n.natAbs ≤ 4) (hb : b = 0) (ha : a = 1 ∨ a = -1 ∨ a = 0) : Fn G 293 3 [rat a b, .int n] xs (powS a b n) xs := by
  refine fn2 (p := ("x" : Str)) (q := ("n" : Str)) (uok hK) 60 hK rfl rfl (fun _ _ => rfl) rfl fun C hs hk => ?_
  subst hb
  refine ifDF (fun h => by omega) (ifD (fun h => leaf ((if_neg (by omega)).trans (if_pos h))) fun h => ?_)
  refine ifD (fun h1 => leaf ((if_neg (by omega)).trans ((if_neg h).trans ((if_pos h1).trans (by rw [h1.1]))))) fun h1 => ?_
  refine ifDF (fun h => by omega) (ifD (fun h2 => ?_) fun h2 => ?_)
  · exact leaf ((if_neg (by omega)).trans ((if_neg h).trans ((if_neg h1).trans ((if_neg (by omega)).trans ((if_pos rfl).trans (if_pos h2))))))
  · refine ifD (fun h3 => ?_) fun h3 => ⟨by decide, ?_⟩
    · exact leaf ((if_neg (by omega)).trans ((if_neg h).trans ((if_neg h1).trans ((if_neg (by omega)).trans ((if_pos rfl).trans ((if_neg h2).trans (if_neg (by omega))))))))
    · rw [fmod_pos (by decide)]
      exact ifD (fun h4 => leaf ((if_neg (by omega)).trans ((if_neg h).trans ((if_neg h1).trans ((if_neg (by omega)).trans ((if_pos rfl).trans ((if_neg h2).trans (if_neg (by omega))))))))) fun h4 => leaf ((if_neg (by omega)).trans ((if_neg h).trans ((if_neg h1).trans ((if_neg (by omega)).trans ((if_pos rfl).trans ((if_neg h2).trans (if_pos (by omega))))))))
theorem lawpow_none (hK : G.K = KF P) (n : Int) : Fn G 293 3 [.none, .int n] xs (if n = 0 then rat 1 1 else .none) xs := by
  refine fn2 (p := ("x" : Str)) (q := ("n" : Str)) (uok hK) 60 hK rfl rfl (fun _ _ => rfl) rfl fun C hs hk => ?_
  exact ifD (fun h => leaf (if_pos h)) fun h => leaf (if_neg h)
theorem wholeR {q : Rat} {n : Int} (hn : n.natAbs ≤ 4) (h : ¬(q.num = 1 ∧ (q.den : Int) = 1)) : wholeS q.num q.den n = if 0 ≤ n then ofR (q ^ n.toNat) else mk ((q ^ (0 - n).toNat).den) ((q ^ (0 - n).toNat).num) := by
  have e1 : ofR (q ^ n.toNat) = rat (q.num ^ n.toNat) ((q.den : Int) ^ n.toNat) := powR q _
  rw [e1, Rat.num_pow, Rat.den_pow, Int.natCast_pow]
  refine (if_neg h).trans ?_
  by_cases k : q.num = -1 ∧ (q.den : Int) = 1
  · rw [if_pos k, k.1, k.2]
    have c : n = -4 ∨ n = -3 ∨ n = -2 ∨ n = -1 ∨ n = 0 ∨ n = 1 ∨ n = 2 ∨ n = 3 ∨ n = 4 := by omega
    rcases c with rfl | rfl | rfl | rfl | rfl | rfl | rfl | rfl | rfl <;> rfl
  · rw [if_neg k]
theorem lawpow_fin (hK : G.K = KF P) {q : Rat} {n : Int} (hn : n.natAbs ≤ 4) (hq : LoR q) : Fn G 293 3 [ofR q, .int n] xs (powS q.num q.den n) xs := by
  refine fn2 (p := ("x" : Str)) (q := ("n" : Str)) (uok hK) 60 hK rfl rfl (fun _ _ => rfl) rfl fun C hs hk => ?_
  have dp := den_pos q
  refine ifD (fun h => leaf (if_pos h)) fun h => ifD (fun h1 => leaf ((if_neg h).trans (if_pos h1))) fun h1 => ?_
  refine ifDF (fun k => den_ne q k.2) (ifD (fun h3 => ?_) fun h3 => ifDF (den_ne q) ?_)
  · exact ifD (fun h4 => leaf ((if_neg h).trans ((if_neg h1).trans ((if_neg fun k => den_ne q k.2).trans ((if_pos h3).trans (if_pos h4)))))) fun h4 => leaf ((if_neg h).trans ((if_neg h1).trans ((if_neg fun k => den_ne q k.2).trans ((if_pos h3).trans (if_neg h4)))))
  have key : powS q.num q.den n = if 0 ≤ n then ofR (q ^ n.toNat) else mk ((q ^ (0 - n).toNat).den) ((q ^ (0 - n).toNat).num) :=
    (if_neg h).trans ((if_neg h1).trans ((if_neg fun k => den_ne q k.2).trans ((if_neg h3).trans ((if_neg (den_ne q)).trans (wholeR hn h)))))
  refine ⟨⟨Int.natCast_nonneg _, by omega⟩, fun i => [(("found" : Str), ofR (q ^ i)), (("n" : Str), .int n), (("x" : Str), ofR q)], fun _ => xs, ⟨by rw [Rat.pow_zero]; rfl, rfl, rfl, trivial⟩, rfl, fun i a hi => ?_, ?_⟩
  · have hi4 : i < n.natAbs := by
      have := List.getElem?_eq_some_iff.mp hi
      obtain ⟨h, _⟩ := this
      simpa [upto] using h
    have mp := hq.pow (k := i) (by omega)
    refine callK (product_ok hK (Int.le_of_lt (den_pos _)) (Int.le_of_lt (den_pos _)) mp.1 mp.2 hq.1.md hq.2.md) (kle hk (by decide)) ⟨rfl, ?_, rfl, rfl, trivial⟩
    rw [mulR, ← Rat.pow_succ]; rfl
  · have e : (upto (n.natAbs : Int)).length = n.natAbs := by simp [upto]
    rw [e]
    refine ifD (fun h4 => ?_) fun h4 => ?_
    · refine leaf (key.trans ((if_pos (Int.le_of_lt h4)).trans ?_))
      rw [show n.natAbs = n.toNat by omega]
    · have h5 : ¬0 ≤ n := by omega
      have mp := hq.pow (k := n.natAbs) hn
      refine callK (quotient_ok hK (.inl (by decide)) (.inl (den_pos _)) md1 md1 mp.1 mp.2) (kle hk (by decide)) (leaf (key.trans ((if_neg h5).trans ?_)))
      rw [show (0 - n).toNat = n.natAbs by omega]
      symm
      refine (if_neg (by decide)).trans ((if_neg fun k => den_ne _ k.2).trans ((if_neg (by decide)).trans ?_))
      rw [Int.one_mul, Int.one_mul]
end Mine
end
noncomputable section
open PySem PySem.W PySem.Calls PyProof.Rows PySem.Spec
namespace Mine
variable {G : Gx} {P : Params} {xs : List Int}

/-- the top of the tape -/
def top (xs : List Int) : Int := xs.getLast?.getD 0
def Good (xs : List Int) : Prop := xs.length ≤ 160 ∧ ∀ x ∈ xs, 0 ≤ x ∧ x < 1024
theorem Good.top {xs : List Int} (g : Good xs) : 0 ≤ top xs ∧ top xs < 1024 := by
  unfold Mine.top
  cases e : xs.getLast? with
  | none => decide
  | some x => exact g.2 x (List.mem_of_getLast? e)
theorem Good.tl {xs : List Int} (g : Good xs) : Good xs.dropLast := ⟨by rw [List.length_dropLast]; have := g.1; omega, fun x hx => g.2 x ((List.dropLast_sublist xs).subset hx)⟩
theorem next_ok (hK : G.K = KF P) (g : Good xs) : Fn G 232 1 [.row] xs (.int (top xs)) xs.dropLast := by
  refine fn1 (p := ("row" : Str)) (uok hK) 60 hK rfl rfl (fun _ => rfl) rfl fun C hs hk => ?_
  by_cases h : xs = []
  · subst h
    exact TR_rowne rfl (ifNF rfl ⟨rfl, rfl⟩)
  · have e : xs = xs.dropLast ++ [xs.getLast h] := (List.dropLast_concat_getLast h).symm
    have t : top xs = xs.getLast h := by unfold top; rw [List.getLast?_eq_some_getLast h]; rfl
    exact TR_rowne rfl (ifNT h (EV_pop rfl e (Nat.le_trans g.1 (by decide)) rfl ⟨by rw [t], rfl⟩))
/-- a double -/
inductive V where
  | none | nan | inf (s : Bool) | fin (q : Rat)
def V.d : V → D
  | .none => .none
  | .nan => rat 0 0
  | .inf true => rat 1 0
  | .inf false => rat (-1) 0
  | .fin q => ofR q
def V.Lo : V → Prop
  | .fin q => LoR q
  | _ => True
theorem LoR.norm {n : Int} {d : Nat} (h : d ≠ 0) (hn : Mine.Lo n) (hd : Mine.Lo d) : LoR (Rat.normalize n d h) := by
  rw [Rat.normalize_eq]
  exact ⟨Nat.lt_of_le_of_lt (Int.natAbs_ediv_le_natAbs _ _) hn, Nat.lt_of_le_of_lt (Nat.div_le_self _ _) hd⟩
theorem lo_of {a : Int} (h : a.natAbs ≤ 2 ^ 60) : Mine.Lo a := Nat.lt_of_le_of_lt h (Nat.pow_lt_pow_right (by decide) (by decide))
theorem sm_of {a : Int} (h : a.natAbs ≤ 2 ^ 60) : Sm a := (lo_of h).md.sm
theorem red_of {n d : Int} (hd : 0 < d) (h : d ≤ 12) (hn : n.natAbs ≤ 2 ^ 60) : ∃ q, LoR q ∧ red n d = ofR q := by
  obtain ⟨m, rfl⟩ := Int.eq_ofNat_of_zero_le (Int.le_of_lt hd)
  exact ⟨_, LoR.norm (by omega) (lo_of hn) (lo_of (by omega)), red_norm n m (by omega)⟩
theorem lor0 : LoR 0 := ⟨lo_of (by decide), lo_of (by decide)⟩
def small (j i : Int) : V := if j = 0 then .fin 0 else if j = 1 then .none else if j = 2 then .nan else .inf (decide (i = 0))
theorem small_lo {j i : Int} : (small j i).Lo := by
  unfold small
  split
  · exact lor0
  · split
    · trivial
    · split <;> trivial
theorem double_ok (hK : G.K = KF P) (g : Good xs) : ∃ (v : V) (ys : List Int), v.Lo ∧ Good ys ∧ Fn G 246 2 [.row] xs v.d ys := by
  have nx := fun {xs} (g : Good xs) => next_ok hK g
  have g1 := g.tl
  have g2 := g1.tl
  have t0 := g.top
  have t1 := g1.top
  have t2 := g2.top
  have m0 : (top xs).fmod 9 = top xs % 9 := fmod_pos (by decide)
  have m1 : (top xs.dropLast).fmod 2 = top xs.dropLast % 2 := fmod_pos (by decide)
  have m2 : (top xs.dropLast).fmod 40 = top xs.dropLast % 40 := fmod_pos (by decide)
  by_cases h : top xs % 9 < 4
  · have c : top xs % 9 = 0 ∨ top xs % 9 = 1 ∨ top xs % 9 = 2 ∨ top xs % 9 = 3 := by omega
    have k : top xs.dropLast % 2 = 0 ∨ top xs.dropLast % 2 = 1 := by omega
    refine ⟨small (top xs % 9) (top xs.dropLast % 2), _, small_lo, g2, ?_⟩
    refine fn1 (p := ("row" : Str)) (uok hK) 60 hK rfl rfl (fun _ => rfl) rfl fun C hs hk => ?_
    refine callK (nx g) (kle hk (by decide)) ⟨by decide, ?_⟩
    rw [m0]
    refine ifDT h ⟨by decide, callK (nx g1) (kle hk (by decide)) ⟨by decide, ?_⟩⟩
    rw [m1]
    rcases k with e1 | e1 <;> rcases c with e | e | e | e <;> rw [e1, e] <;> exact ⟨by decide, by decide, by decide, leaf rfl⟩
  · have m4 : (top xs.dropLast.dropLast).fmod 12 = top xs.dropLast.dropLast % 12 := fmod_pos (by decide)
    by_cases h8 : top xs % 9 = 8
    · have g3 := g2.tl
      have g4 := g3.tl
      have t3 := g3.top
      have t4 := g4.top
      have m5 : (top xs.dropLast.dropLast.dropLast.dropLast).fmod 12 = top xs.dropLast.dropLast.dropLast.dropLast % 12 := fmod_pos (by decide)
      obtain ⟨q, hq, e⟩ := red_of (n := (top xs.dropLast % 40 - 15) * 1024 * 1024 + top xs.dropLast.dropLast * 1024 + top xs.dropLast.dropLast.dropLast) (d := 1 + top xs.dropLast.dropLast.dropLast.dropLast % 12) (by omega) (by omega) (by omega)
      refine ⟨.fin q, _, hq, g4.tl, ?_⟩
      refine fn1 (p := ("row" : Str)) (uok hK) 60 hK rfl rfl (fun _ => rfl) rfl fun C hs hk => ?_
      refine callK (nx g) (kle hk (by decide)) ⟨by decide, ?_⟩
      rw [m0]
      refine ifDF h (callK (nx g1) (kle hk (by decide)) ⟨by decide, ?_⟩)
      rw [m2]
      refine ifDT h8 ⟨⟨sm_of (by omega), sm_of (by decide)⟩, ⟨sm_of (by omega), sm_of (by decide)⟩, callK (nx g2) (kle hk (by decide)) ⟨⟨sm_of (by omega), sm_of (by decide)⟩, callK (nx g3) (kle hk (by decide)) (ifDF (by omega) (callK (nx g4) (kle hk (by decide)) ⟨by decide, ?_⟩))⟩⟩
      rw [m5]
      refine callK (reduced_ok hK (by omega) (sm_of (by omega))) (kle hk (by decide)) ?_
      rw [e]
      exact leaf rfl
    · by_cases h6 : top xs % 9 < 6
      · obtain ⟨q, hq, e⟩ := red_of (n := top xs.dropLast % 40 - 15) (d := 1) (by omega) (by omega) (by omega)
        refine ⟨.fin q, _, hq, g2, ?_⟩
        refine fn1 (p := ("row" : Str)) (uok hK) 60 hK rfl rfl (fun _ => rfl) rfl fun C hs hk => ?_
        refine callK (nx g) (kle hk (by decide)) ⟨by decide, ?_⟩
        rw [m0]
        refine ifDF h (callK (nx g1) (kle hk (by decide)) ⟨by decide, ?_⟩)
        rw [m2]
        refine ifDF h8 (ifDT h6 (callK (reduced_ok hK (by omega) (sm_of (by omega))) (kle hk (by decide)) ?_))
        rw [e]
        exact leaf rfl
      · obtain ⟨q, hq, e⟩ := red_of (n := top xs.dropLast % 40 - 15) (d := 1 + top xs.dropLast.dropLast % 12) (by omega) (by omega) (by omega)
        refine ⟨.fin q, _, hq, g2.tl, ?_⟩
        refine fn1 (p := ("row" : Str)) (uok hK) 60 hK rfl rfl (fun _ => rfl) rfl fun C hs hk => ?_
        refine callK (nx g) (kle hk (by decide)) ⟨by decide, ?_⟩
        rw [m0]
        refine ifDF h (callK (nx g1) (kle hk (by decide)) ⟨by decide, ?_⟩)
        rw [m2]
        refine ifDF h8 (ifDF h6 (callK (nx g2) (kle hk (by decide)) ⟨by decide, ?_⟩))
        rw [m4]
        refine callK (reduced_ok hK (by omega) (sm_of (by omega))) (kle hk (by decide)) ?_
        rw [e]
        exact leaf rfl
end Mine
end
noncomputable section
open PySem PySem.W PySem.Calls PyProof.Rows PySem.Spec
namespace Mine
variable {G : Gx} {P : Params} {xs : List Int}

/-- the laps -/
def lapS (f : Int) (ys : List Int) : Nat → Int × List Int
  | 0 => (f, ys)
  | j + 1 => if 0 < (lapS f ys j).1 then ((lapS f ys j).1.fdiv 1024, (lapS f ys j).2 ++ [(lapS f ys j).1.fmod 1024]) else lapS f ys j
def fig (c : Int) : Int := if 0 ≤ c then c else 7 - c
def cellS (ys : List Int) (c : Int) : List Int := (lapS ((fig c).fdiv 1024) (ys ++ [(fig c).fmod 1024]) 30).2
def In (ys : List Int) : Prop := ∀ x ∈ ys, 0 ≤ x ∧ x < 1024
theorem in_snoc {ys : List Int} {f : Int} (h : In ys) : In (ys ++ [f.fmod 1024]) := fun x hx => by
  rcases List.mem_append.mp hx with q | q
  · exact h x q
  · obtain rfl := List.mem_singleton.mp q
    rw [fmod_pos (by decide)]
    exact ⟨Int.emod_nonneg _ (by decide), Int.emod_lt_of_pos _ (by decide)⟩
theorem lap_ok {f : Int} {ys : List Int} (h : In ys) : ∀ j, In (lapS f ys j).2 ∧ (lapS f ys j).2.length ≤ ys.length + j
  | 0 => ⟨h, Nat.le_refl _⟩
  | j + 1 => by
    have ih := lap_ok h j (f := f)
    unfold lapS
    split
    · refine ⟨in_snoc ih.1, ?_⟩
      rw [List.length_append]
      exact Nat.succ_le_succ ih.2
    · exact ⟨ih.1, Nat.le_succ_of_le ih.2⟩
theorem cell_ok {ys : List Int} {c : Int} (h : In ys) : In (cellS ys c) ∧ (cellS ys c).length ≤ ys.length + 31 := by
  have k := lap_ok (f := (fig c).fdiv 1024) (in_snoc (f := fig c) h) 30
  rw [List.length_append] at k
  exact k
theorem cells_ok : ∀ l : List Int, ∀ ys, In ys → In (l.foldl cellS ys) ∧ (l.foldl cellS ys).length ≤ ys.length + 31 * l.length
  | [], ys, h => ⟨h, Nat.le_refl _⟩
  | c :: l, ys, h => by
    have k := cell_ok (c := c) h
    have ih := cells_ok l _ k.1
    refine ⟨ih.1, Nat.le_trans ih.2 ?_⟩
    rw [List.length_cons]; omega
theorem sm1024 : Sm 1024 := sm_of (by decide)
def scOf : Stmt → Scope
  | .FunctionDef _ _ _ _ _ _ sc _ _ _ => sc
  | _ => ⟨.function, [], false, false, []⟩
def bdOf : Stmt → List Stmt
  | .FunctionDef _ _ b _ _ _ _ _ _ _ => b
  | _ => []
def forOf : List Stmt → List Stmt
  | .For _ _ b _ _ :: _ => b
  | _ => []
theorem row_turn (hK : G.K = KF P) {C : Cx G} {ys : List Int} {f c : Int} {Q : Fl → M → List Int → Prop} (hs : C.scope = scOf (st 34)) (hy : In ys) (hlen : ys.length ≤ 1240) (k : ∀ m', SubM [(("row" : Str), .row)] m' → Q .next m' (lapS (f.fdiv 1024) (ys ++ [f.fmod 1024]) 30).2) :
    EX C ((forOf ((bdOf (st 34)).drop 1)).drop 1) [(("figure" : Str), .int f), (("cell" : Str), .int c), (("row" : Str), .row)] ys Q := by
  refine EX_append rfl trivial rfl (fun _ => rfl) (((wp hs (uok hK) 60).ev _ _ _ _).2 ⟨by decide, Nat.le_trans hlen (by decide), ((wp hs (uok hK) 60).ex _ _ _ _).2 ⟨⟨by decide, sm1024⟩, ⟨by decide, by decide⟩, ?_⟩⟩)
  have hz : (ys ++ [f.fmod 1024]).length ≤ 1241 := by rw [List.length_append]; exact Nat.succ_le_succ hlen
  have hb := lap_ok (f := f.fdiv 1024) (in_snoc (f := f) hy)
  generalize f.fdiv 1024 = g at *
  generalize ys ++ [f.fmod 1024] = zs at *
  refine ⟨fun j => [(("figure" : Str), .int (lapS g zs j).1), (("row" : Str), .row)], fun j => (lapS g zs j).2, ⟨rfl, rfl, trivial⟩, rfl, fun j a hj => ?_, ?_⟩
  · have h30 : j < 30 := (List.getElem?_eq_some_iff.mp hj).1
    have bj := hb j
    refine ifD (fun h => ?_) fun h => ?_
    · have e : lapS g zs (j + 1) = ((lapS g zs j).1.fdiv 1024, (lapS g zs j).2 ++ [(lapS g zs j).1.fmod 1024]) := if_pos h
      exact EX_append rfl trivial rfl (fun _ => rfl) (((wp hs (uok hK) 60).ev _ _ _ _).2 ⟨by decide, Nat.le_trans bj.2 (by omega), ((wp hs (uok hK) 60).ex _ _ _ _).2 ⟨⟨by decide, sm1024⟩, (congrArg Prod.snd e).symm, congrArg (fun p : Int × List Int => some (D.int p.1)) e.symm, rfl, trivial⟩⟩)
    · have e : lapS g zs (j + 1) = lapS g zs j := if_neg h
      exact ⟨(congrArg Prod.snd e).symm, congrArg (fun p : Int × List Int => some (D.int p.1)) e.symm, rfl, trivial⟩
  · have e : (upto 30).length = 30 := rfl
    rw [e]
    exact k _ ⟨rfl, trivial⟩
theorem row_loop (hK : G.K = KF P) {C : Cx G} {ns : List Int} (hs : C.scope = scOf (st 34)) (hn : ns.length ≤ 63) : EX C (((bdOf (st 34)).drop 1).take 1) [(("row" : Str), .row), (("script" : Str), intL ns)] [] (fun fl m' xs' => fl = .next ∧ lk "row" m' = some .row ∧ In xs' ∧ xs'.length ≤ 5000) := by
  refine ((wp hs (uok hK) 60).ex _ _ _ _).2 ?_
  refine EV_slice (l := ns) rfl (by decide) (Nat.le_trans hn (by decide)) ?_
  have hl : (ns.take 40).length ≤ 40 := by rw [List.length_take]; omega
  obtain ⟨xf, x0, x1, xb⟩ : ∃ xf : Nat → List Int, xf 0 = [] ∧ (∀ i c, (ns.take 40)[i]? = some c → xf (i + 1) = cellS (xf i) c) ∧ ∀ i, In (xf i) ∧ (xf i).length ≤ 1240 := by
    refine ⟨fun i => ((ns.take 40).take i).foldl cellS [], rfl, fun i c hc => ?_, fun i => ?_⟩
    · show ((ns.take 40).take (i + 1)).foldl cellS [] = _
      rw [List.take_add_one, hc, List.foldl_append]; rfl
    · have b := cells_ok ((ns.take 40).take i) [] (fun _ h => nomatch h)
      exact ⟨b.1, Nat.le_trans b.2 (by rw [List.length_take, List.length_nil]; omega)⟩
  refine ⟨(ns.take 40).map .int, rfl, fun _ => [(("row" : Str), .row)], xf, ⟨rfl, trivial⟩, x0, fun i a hi => ?_, ?_⟩
  · rw [List.getElem?_map] at hi
    obtain ⟨c, hc, rfl⟩ := Option.map_eq_some_iff.mp hi
    have b := xb i
    have e := x1 i c hc
    refine ifD (fun h => ?_) fun h => ?_
    · refine row_turn hK hs b.1 b.2 fun m' hm => ⟨?_, hm⟩
      rw [e]; unfold cellS fig; rw [if_pos h]
    · refine row_turn hK hs b.1 b.2 fun m' hm => ⟨?_, hm⟩
      rw [e]; unfold cellS fig; rw [if_neg h]
  · have b := xb ((ns.take 40).map D.int).length
    exact ⟨rfl, rfl, b.1, Nat.le_trans b.2 (by decide)⟩
end Mine
end
noncomputable section
open PySem PySem.W PySem.Calls PyProof.Rows PySem.Spec
namespace Mine
variable {G : Gx} {P : Params} {xs : List Int}

theorem row_ok (hK : G.K = KF P) {A : Around} {s : Shared} {a : Addr} {vs : List Value} {ns : List Int} (hh : A.handled = none) (hd : A.depth + 5 < recursionLimit) (hu : A.units + 200 < cLine) (hb : ∀ b o, G.b0.get? b = some o → s.heap.get? b = some o) (hl : s.heap.IsList a vs.toArray) (hI : IntsAre vs ns) (hn : ns.length ≤ 63) :
    wpAny (model G.prog G.w) A (call (.ref 225) [.ref a]) (fun v s' => ∃ R ys, v = .ref R ∧ Tape R s'.heap ys ∧ Good ys ∧ s.heap.get? R = none ∧ (∃ h tk, s' = { s with heap := h, toks := tk }) ∧ ∀ b o, s.heap.get? b = some o → s'.heap.get? b = some o) (fun _ _ => False) s := by
  refine fn_enter (ps := [("script" : Str)]) hK rfl rfl rfl rfl (by omega) hb fun h₁ hn₁ hk₁ => ?_
  refine wpAny_execs_cons (wpAny_Assign_Name (List_ (spliced_none (wpAny_newObj_type ?_))))
  have hb1 : ∀ b o, G.b0.get? b = some o → h₁.get? b = some o := fun b o e => hk₁ b o (hb b o e)
  have hb2 : ∀ b o, G.b0.get? b = some o → (h₁.push { cls := .type "list", data := .seq #[] }).get? b = some o := fun b o e => push_keep _ _ (hb1 b o e)
  have r1 : G.b0.get? h₁.objs.size = none := by
    cases e : G.b0.get? h₁.objs.size with
    | none => rfl
    | some o => exact absurd (Heap.lt_size (hb1 _ _ e)) (Nat.lt_irrefl _)
  let G1 : Gx := G.at h₁.objs.size r1
  let C1 : Cx G1 := { L := s.heap.objs.size, A := A.deeper (envOf "_law_row" (scOf (st 34)) s.heap.objs.size 225 (.ref 224)), k := 3, qual := "_law_row", scope := scOf (st 34), fa := 225, cd := .ref 224, hh := hh, dep := (by show A.depth + 1 + 3 < recursionLimit; omega), un := (by show A.units + 3 + 10 * 3 + 100 < cLine; omega), rl := Nat.ne_of_gt hn₁.lt, l0 := b0_size hb, fk := rfl }
  have lr : Loc C1 "row" := ⟨rfl, rfl⟩
  have hl1 := (hl.at (hk₁ _)).push { cls := .type "list", data := .seq #[] }
  have al : a < h₁.objs.size := (let ⟨o, ho, _⟩ := hl.at (hk₁ _); Heap.lt_size ho)
  have st0 : ∀ tk, St C1 [(("script" : Str), intL ns)] [] { s with heap := h₁.push { cls := .type "list", data := .seq #[] }, toks := tk } := fun tk => by
    refine ⟨⟨_, ⟨hn₁.keeps push_keep, hb2⟩, fun x d e => ?_⟩, [], 0, Heap.get?_push_size _ rfl, .nil⟩
    unfold lk at e
    split at e
    · rename_i hx
      cases e
      subst hx
      exact ⟨⟨rfl, rfl⟩, .ref a, rfl, rep_lst.mpr ⟨a, vs, rfl, Nat.ne_of_lt al, hl1, repAll_ints.mpr hI⟩⟩
    · cases e
  refine store_ok (C := C1) (x := ("row" : Str)) (d := .row) lr (st0 _) rfl fun s3 st3 c3 => ?_
  obtain ⟨⟨h3, tk3, rfl⟩, q3⟩ := c3
  refine wpAny_execs_app (l := ((bdOf (st 34)).drop 1).take 1) (rest := (bdOf (st 34)).drop 2) (wpAny_mono (row_loop (G := G1) (C := C1) hK rfl hn _ st3) ?_ fun _ _ x => x)
  rintro f s4 ⟨fl, m4, xs4, rf, st4, c4, rfl, hr4, hin, hlen⟩
  obtain rfl : f = .next := rf
  obtain ⟨⟨h4, tk4, rfl⟩, q4⟩ := c4
  obtain ⟨mv4, F4, hm4⟩ := id st4.fr
  obtain ⟨⟨hlr, hdr⟩, v4, hv4, rv4⟩ := hm4 _ _ hr4
  obtain rfl : v4 = .ref h₁.objs.size := rv4
  obtain ⟨vs4, n4, hR4, hi4⟩ := id st4.tape
  have k4 : ∀ b o, s.heap.get? b = some o → h4.get? b = some o := fun b o e =>
    have e1 := hk₁ b o e
    have n1 := Nat.ne_of_lt (Heap.lt_size e1)
    have n2 := Nat.ne_of_lt (Heap.lt_size e)
    q4 b o (q3 b o (push_keep _ _ e1) n1 n2) n1 n2
  refine wpAny_execs_cons (wpAny_Assign_Name (wpAny_Subscript_list_slice (F4.ld hv4 ?_ rfl hlr hdr)))
  rw [evalPart_none, evalPart_some]
  refine wpAny_pure (wpAny_Constant_int ⟨_, vs4.toArray, none, some 160, rfl, ⟨_, hR4, rfl, _, rfl⟩, ?_, .none, .int 160 _, ?_⟩)
  · rw [List.size_toArray, hi4.length]; exact Nat.le_trans hlen (by decide)
  have r2 : G.b0.get? (h4.objs.size + 1) = none := by
    cases e : G.b0.get? (h4.objs.size + 1) with
    | none => rfl
    | some o => exact absurd (Heap.lt_size (k4 _ _ (hb _ _ e))) (Nat.not_lt.mpr (Nat.le_succ _))
  let C2 : Cx (G.at (h4.objs.size + 1) r2) := { L := s.heap.objs.size, A := C1.A, k := 3, qual := "_law_row", scope := scOf (st 34), fa := 225, cd := .ref 224, hh := hh, dep := C1.dep, un := C1.un, rl := Nat.ne_of_gt (Nat.lt_succ_of_lt F4.ns.lt), l0 := C1.l0, fk := rfl }
  have st5 : ∀ tk, St C2 [] (xs4.take 160) { s with heap := (h4.push { cls := .type "slice", data := .fields #[.none, .int 160 tk4, .none] }).push { cls := .type "list", data := .seq (slicePick vs4.toArray none (some 160) none) }, toks := tk } := fun tk => by
    have e := Heap.get?_push_size (h4.push { cls := .type "slice", data := .fields #[.none, .int 160 tk4, .none] }) (o := { cls := .type "list", data := .seq (slicePick vs4.toArray none (some 160) none) }) rfl
    rw [Heap.size_push] at e
    have e0 : (slicePick vs4.toArray none (some 160) none).toList.toArray = slicePick vs4.toArray none (some 160) none := Array.toArray_toList
    exact ⟨⟨mv4, ⟨(F4.ns.keeps push_keep).keeps push_keep, fun b o e => push_keep _ _ (push_keep _ _ (F4.keep b o e))⟩, fun _ _ e => nomatch e⟩, _, 0, by rw [e0]; exact e, slice_ints_uptoW (y := 160) hi4 (by decide)⟩
  refine store_ok (C := C2) (x := ("row" : Str)) (d := .row) ⟨rfl, rfl⟩ (st5 _) rfl fun s6 st6 c6 => ?_
  obtain ⟨⟨h6, tk6, rfl⟩, q6⟩ := c6
  have hl6 : (xs4.take 160).length ≤ 160 := by rw [List.length_take]; omega
  have hK2 : (G.at (h4.objs.size + 1) r2).K = KF P := hK
  have e2 : EX C2 ((bdOf (st 34)).drop 3) [(("row" : Str), .row)] (xs4.take 160) (Done .row (xs4.take 160).reverse) := EX_reverse rfl rfl (fun _ => rfl) (Nat.le_trans hl6 (by decide)) (((wp rfl (uok hK2) 60).ex _ _ _ _).2 ⟨rfl, rfl⟩)
  refine wpAny_mono (e2 _ st6) ?_ fun _ _ x => x
  rintro f s7 ⟨fl, m7, xs7, rf, st7, c7, rfl, rfl⟩
  obtain ⟨v, rfl, rv⟩ := rf
  obtain ⟨⟨h7, tk7, rfl⟩, q7⟩ := c7
  have k7 : ∀ b o, s.heap.get? b = some o → h7.get? b = some o := fun b o e =>
    have e4 := k4 b o e
    have n1 : b ≠ h4.objs.size + 1 := Nat.ne_of_lt (Nat.lt_succ_of_lt (Heap.lt_size e4))
    have n2 := Nat.ne_of_lt (Heap.lt_size e)
    q7 b o (q6 b o (push_keep _ _ (push_keep _ _ e4)) n1 n2) n1 n2
  refine ⟨v, rfl, h4.objs.size + 1, _, rv, st7.tape, ⟨by rw [List.length_reverse]; exact hl6, fun x hx => hin x (List.mem_of_mem_take (List.mem_reverse.mp hx))⟩, ?_, ⟨h7, tk7, rfl⟩, k7⟩
  cases e : s.heap.get? (h4.objs.size + 1) with
  | none => rfl
  | some o => exact absurd (Heap.lt_size (k4 _ _ e)) (Nat.not_lt.mpr (Nat.le_succ _))
end Mine
end
noncomputable section
open PySem PySem.W PySem.Calls PyProof.Rows PySem.Spec
namespace Mine
variable {G : Gx} {P : Params} {xs : List Int}

def OkP (a b : Int) : Prop := (0 < b ∨ b = 0 ∧ (a = 1 ∨ a = -1 ∨ a = 0)) ∧ Md a ∧ Md b
theorem OkP.nn {a b : Int} (h : OkP a b) : 0 ≤ b := by rcases h.1 with q | q <;> omega
def OkQ : Q2 → Prop
  | none => True
  | some p => OkP p.1 p.2
def negQ : Q2 → Q2
  | none => none
  | some p => some (-p.1, p.2)
theorem Md.neg {a : Int} (h : Md a) : Md (-a) := by unfold Md; rw [Int.natAbs_neg]; exact h
theorem negQ_ok : ∀ {x : Q2}, OkQ x → OkQ (negQ x)
  | none, _ => trivial
  | some p, h => ⟨(by rcases h.1 with q | q <;> simp only <;> omega), h.2.1.neg, h.2.2⟩
def lift2 (f : Int → Int → Int → Int → D) : Q2 → Q2 → D
  | some p, some q => f p.1 p.2 q.1 q.2
  | _, _ => .none
theorem lift2_ok {f : Int → Int → Int → Int → D} {g : Addr} {k : Nat} (h0 : ∀ y, Fn G g k [.none, y] xs .none xs) (h1 : ∀ a b, Fn G g k [rat a b, .none] xs .none xs) (h2 : ∀ a b c d, OkP a b → OkP c d → Fn G g k [rat a b, rat c d] xs (f a b c d) xs) :
    ∀ {x y : Q2}, OkQ x → OkQ y → Fn G g k [ofQ x, ofQ y] xs (lift2 f x y) xs
  | none, _, _, _ => h0 _
  | some _, none, _, _ => h1 _ _
  | some _, some _, hx, hy => h2 _ _ _ _ hx hy
theorem lift2_plain {f : Int → Int → Int → Int → D} (h : ∀ a b c d, Plain (f a b c d)) : ∀ x y, Plain (lift2 f x y)
  | none, _ => .none
  | some _, none => .none
  | some _, some _ => h _ _ _ _
variable {x y : Q2}
theorem add_q (hK : G.K = KF P) (hx : OkQ x) (hy : OkQ y) : Fn G 120 3 [ofQ x, ofQ y] xs (lift2 addS x y) xs := lift2_ok (add_none1 hK) (add_none2 hK) (fun a b c d h k => add_ok hK h.nn k.nn h.2.1 h.2.2 k.2.1 k.2.2) hx hy
theorem sum_q (hK : G.K = KF P) (hx : OkQ x) (hy : OkQ y) : Fn G 265 2 [ofQ x, ofQ y] xs (lift2 addS x y) xs := lift2_ok (sum_none1 hK) (sum_none2 hK) (fun a b c d h k => sum_ok hK h.nn k.nn h.2.1 h.2.2 k.2.1 k.2.2) hx hy
theorem mul_q (hK : G.K = KF P) (hx : OkQ x) (hy : OkQ y) : Fn G 134 3 [ofQ x, ofQ y] xs (lift2 mulS x y) xs := lift2_ok (mul_none1 hK) (mul_none2 hK) (fun a b c d h k => mul_ok hK h.nn k.nn h.2.1 h.2.2 k.2.1 k.2.2) hx hy
theorem product_q (hK : G.K = KF P) (hx : OkQ x) (hy : OkQ y) : Fn G 272 2 [ofQ x, ofQ y] xs (lift2 mulS x y) xs := lift2_ok (product_none1 hK) (product_none2 hK) (fun a b c d h k => product_ok hK h.nn k.nn h.2.1 h.2.2 k.2.1 k.2.2) hx hy
theorem div_q (hK : G.K = KF P) (hx : OkQ x) (hy : OkQ y) : Fn G 141 3 [ofQ x, ofQ y] xs (lift2 divS x y) xs := lift2_ok (div_none1 hK) (div_none2 hK) (fun a b c d h k => div_ok hK h.2.1 h.2.2 k.2.1 k.2.2) hx hy
theorem quotient_q (hK : G.K = KF P) (hx : OkQ x) (hy : OkQ y) : Fn G 279 2 [ofQ x, ofQ y] xs (lift2 divS x y) xs := lift2_ok (quotient_none1 hK) (quotient_none2 hK) (fun a b c d h k => quotient_ok hK h.1 k.1 h.2.1 h.2.2 k.2.1 k.2.2) hx hy
theorem compare_q (hK : G.K = KF P) (hx : OkQ x) (hy : OkQ y) : Fn G 218 2 [ofQ x, ofQ y] xs (lift2 compS x y) xs := lift2_ok (compare_none1 hK) (compare_none2 hK) (fun a b c d h k => compare_ok hK h.2.1 h.2.2 k.2.1 k.2.2) hx hy
theorem order_q (hK : G.K = KF P) (hx : OkQ x) (hy : OkQ y) : Fn G 286 2 [ofQ x, ofQ y] xs (lift2 compS x y) xs := lift2_ok (order_none1 hK) (order_none2 hK) (fun a b c d h k => order_ok hK h.nn k.nn h.2.1 h.2.2 k.2.1 k.2.2) hx hy
theorem neg_q (hK : G.K = KF P) : ∀ x : Q2, Fn G 113 1 [ofQ x] xs (ofQ (negQ x)) xs
  | none => neg_none hK
  | some p => by
    have := neg_ok (xs := xs) hK p.1 p.2
    rw [Int.zero_sub] at this
    exact this
theorem sub_q (hK : G.K = KF P) (hx : OkQ x) (hy : OkQ y) : Fn G 127 4 [ofQ x, ofQ y] xs (lift2 addS x (negQ y)) xs := by
  refine fn2 (p := ("x" : Str)) (q := ("y" : Str)) (uok hK) 60 hK rfl rfl (fun _ _ => rfl) rfl fun C hs hk => ?_
  exact callK (neg_q hK y) (kle hk (by decide)) (callK (add_q hK hx (negQ_ok hy)) (kle hk (by decide)) ⟨rfl, rfl⟩)
theorem plain_red (n d : Int) : Plain (red n d) := .pair _ _
theorem plain_mk (n d : Int) : Plain (mk n d) := by
  unfold mk
  repeat' split
  all_goals first | exact .pair _ _ | exact plain_red _ _
theorem plain_add (a b c d : Int) : Plain (addS a b c d) := by
  unfold addS
  repeat' split
  all_goals first | exact .pair _ _ | exact plain_red _ _
theorem plain_mul (a b c d : Int) : Plain (mulS a b c d) := by
  unfold mulS
  repeat' split
  all_goals first | exact .pair _ _ | exact plain_red _ _
theorem plain_div (a b c d : Int) : Plain (divS a b c d) := by
  unfold divS
  repeat' split
  all_goals first | exact .pair _ _ | exact plain_mk _ _
theorem plain_comp (a b c d : Int) : Plain (compS a b c d) := by
  unfold compS cmpS
  repeat' split
  all_goals first | exact .none | exact .int _
theorem plain_q : ∀ x : Q2, Plain (ofQ x)
  | none => .none
  | some _ => .pair _ _
end Mine
end
noncomputable section
open PySem PySem.W PySem.Calls PyProof.Rows PySem.Spec
namespace Mine
variable {G : Gx} {P : Params} {xs : List Int}

variable {x y : Q2}
theorem pair_turn (hK : G.K = KF P) {C : Cx G} {m : M} {Q : Fl → M → List Int → Prop} (hs : C.scope = scOf (st 45)) (hk : C.k = 4) (hx : OkQ x) (hy : OkQ y) (k : ∀ d, Q .next (("minus", d) :: ("two", ofQ y) :: ("one", ofQ x) :: m) xs) :
    EX C (forOf ((bdOf (st 45)).drop 5)) (("two", ofQ y) :: ("one", ofQ x) :: m) xs Q := by
  refine ((wp hs (uok hK) 60).ex _ _ _ _).2 ?_
  refine callK (add_q hK hx hy) (kle hk (by decide)) (callK (sum_q hK hx hy) (kle hk (by decide)) (eqSelf (lift2_plain plain_add x y) ?_))
  refine callK (mul_q hK hx hy) (kle hk (by decide)) (callK (product_q hK hx hy) (kle hk (by decide)) (eqSelf (lift2_plain plain_mul x y) ?_))
  cases y with
  | none =>
    refine callK (neg_q hK none) (kle hk (by decide)) (callK (sub_q hK hx hy) (kle hk (by decide)) (callK (sum_q hK hx (negQ_ok hy)) (kle hk (by decide)) (eqSelf (lift2_plain plain_add x _) (callK (div_q hK hx hy) (kle hk (by decide)) (callK (quotient_q hK hx hy) (kle hk (by decide)) (eqSelf (lift2_plain plain_div x _) ?_))))))
    exact callK (compare_q hK hx hy) (kle hk (by decide)) (callK (order_q hK hx hy) (kle hk (by decide)) (eqSelf (lift2_plain plain_comp x _) (k _)))
  | some p =>
    refine callK (neg_q hK (some p)) (kle hk (by decide)) (ifNF ⟨rfl, rfl⟩ (callK (sub_q hK hx hy) (kle hk (by decide)) (callK (sum_q hK hx (negQ_ok hy)) (kle hk (by decide)) (eqSelf (lift2_plain plain_add x _) (callK (div_q hK hx hy) (kle hk (by decide)) (callK (quotient_q hK hx hy) (kle hk (by decide)) (eqSelf (lift2_plain plain_div x _) ?_)))))))
    exact callK (compare_q hK hx hy) (kle hk (by decide)) (callK (order_q hK hx hy) (kle hk (by decide)) (eqSelf (lift2_plain plain_comp x _) (k _)))
end Mine
end
noncomputable section
open PySem PySem.W PySem.Calls PyProof.Rows PySem.Spec
namespace Mine
variable {G : Gx} {P : Params} {xs : List Int}

def V.isFin : V → Bool
  | .fin _ => true
  | _ => false
abbrev mF (f : Bool) (n : Int) (x y z : D) : M := [(("finite" : Str), .bool f), (("n" : Str), .int n), (("x" : Str), x), (("y" : Str), y), (("z" : Str), z)]
theorem plain_inf (a b n : Int) : Plain (infS a b n) := by
  unfold infS
  repeat' split
  all_goals exact .pair _ _
theorem plain_whole (a b n : Int) : Plain (wholeS a b n) := by
  unfold wholeS
  repeat' split
  all_goals first | exact .pair _ _ | exact plain_mk _ _
theorem plain_pow (a b n : Int) : Plain (powS a b n) := by
  unfold powS
  repeat' split
  all_goals first | exact .pair _ _ | exact plain_inf _ _ _ | exact plain_whole _ _ _
theorem plain_ite {n : Int} : Plain (if n = 0 then rat 1 1 else .none) := by
  split
  · exact .pair _ _
  · exact .none
theorem md_of {a : Int} (h : a.natAbs ≤ 2 ^ 60) : Md a := (lo_of h).md
theorem sm_pow {a n : Int} (h : Mine.Lo a) (hn : n.natAbs ≤ 4) : Sm (a ^ (0 - n).toNat) := (h.pow (by omega)).sm
theorem ifFF {f : Bool} {P : Prop} (h : P) : IfK f P P := by cases f <;> exact h
theorem asg_val {C : Cx G} {m : M} {Q : Fl → M → List Int → Prop} {w : Str} {v : Expr} {d : D} {p p' : Pos} {rest : List Stmt} (hl : Loc C w) (he : EV C v m xs fun e ys => e = d ∧ ys = xs) (hs : ∀ env, swapsWith v (some (.Name w p)) p'.line env = pure false) (h : EX C rest ((w, d) :: m) xs Q) : EX C (.Assign [.Name w p] v p' :: rest) m xs Q :=
  EX_asg hl (EV_mono he fun e ys q => by obtain ⟨rfl, rfl⟩ := q; exact h) hs
variable {C : Cx G} {f : Bool} {n : Int} {x y z : D} {Q : Fl → M → List Int → Prop}
theorem turn_none (hK : G.K = KF P) (hs : C.scope = scOf (st 45)) (hk : C.k = 4) (k : ∀ m', SubM (mF false n x y z) m' → Q .next m' xs) :
    EX C (forOf ((bdOf (st 45)).drop 7)) ((("one" : Str), .none) :: mF f n x y z) xs Q := by
  refine asg_val ⟨by rw [hs]; rfl, rfl⟩ (((wp hs (uok hK) 60).ev _ _ _ _).2 ⟨rfl, rfl⟩) (fun _ => rfl) ?_
  refine asg_val (d := .bool false) ⟨by rw [hs]; rfl, rfl⟩ (((wp hs (uok hK) 60).ev _ _ _ _).2 (by cases f <;> exact ⟨rfl, rfl⟩)) (fun _ => rfl) ?_
  refine ((wp hs (uok hK) 60).ex _ _ _ _).2 ?_
  refine callK (is_finite_none hK) (kle hk (by decide)) (callK (is_na_none hK) (kle hk (by decide)) (callK (is_nan_none hK) (kle hk (by decide)) (callK (sign_none hK) (kle hk (by decide)) ?_)))
  refine callK (floor_none hK) (kle hk (by decide)) (callK (ceiling_none hK) (kle hk (by decide)) (callK (trunc_none hK) (kle hk (by decide)) (callK (to_whole_none hK) (kle hk (by decide)) ?_)))
  refine callK (power_none hK n) (kle hk (by decide)) (callK (lawpow_none hK n) (kle hk (by decide)) (eqSelf plain_ite ?_))
  refine callK (product_none1 hK _) (kle hk (by decide)) (callK (root_none hK) (kle hk (by decide)) ?_)
  exact k _ ⟨rfl, rfl, rfl, rfl, rfl, trivial⟩
theorem turn_nan (hK : G.K = KF P) (hs : C.scope = scOf (st 45)) (hk : C.k = 4) (hn : n.natAbs ≤ 4) (k : ∀ m', SubM (mF false n x y z) m' → Q .next m' xs) :
    EX C (forOf ((bdOf (st 45)).drop 7)) ((("one" : Str), rat 0 0) :: mF f n x y z) xs Q := by
  refine asg_val (d := .bool false) ⟨by rw [hs]; rfl, rfl⟩ (((wp hs (uok hK) 60).ev _ _ _ _).2 ⟨rfl, rfl⟩) (fun _ => rfl) ?_
  refine asg_val (d := .bool false) ⟨by rw [hs]; rfl, rfl⟩ (((wp hs (uok hK) 60).ev _ _ _ _).2 (by cases f <;> exact ⟨rfl, rfl⟩)) (fun _ => rfl) ?_
  refine ((wp hs (uok hK) 60).ex _ _ _ _).2 ?_
  have m0 : Md 0 := md_of (by decide)
  have ma : Md 0 := md_of (by decide)
  refine callK (is_finite_ok hK 0 0) (kle hk (by decide)) (callK (is_na_ok hK 0 0) (kle hk (by decide)) (callK (is_nan_ok hK 0 0) (kle hk (by decide)) (callK (sign_ok hK 0 0) (kle hk (by decide)) (?_))))
  refine callK (floor_ok hK m0) (kle hk (by decide)) (callK (ceiling_ok hK m0) (kle hk (by decide)) (callK (trunc_ok hK m0) (kle hk (by decide)) (callK (to_whole_ok hK m0) (kle hk (by decide)) ?_)))
  refine callK (power_ok hK hn ma m0 (sm_pow (lo_of (by decide)) hn)) (kle hk (by decide)) (callK (lawpow_end hK hn rfl (.inr (.inr rfl))) (kle hk (by decide)) (eqSelf (plain_pow _ _ _) ?_))
  refine callK (product_ok hK (Int.le_refl 0) (Int.le_refl 0) ma m0 ma m0) (kle hk (by decide)) (callK (root_end hK rfl ⟨by decide, by decide⟩) (kle hk (by decide)) ?_)
  exact k _ ⟨rfl, rfl, rfl, rfl, rfl, trivial⟩
theorem turn_inf (hK : G.K = KF P) (hs : C.scope = scOf (st 45)) (hk : C.k = 4) (hn : n.natAbs ≤ 4) (k : ∀ m', SubM (mF false n x y z) m' → Q .next m' xs) :
    EX C (forOf ((bdOf (st 45)).drop 7)) ((("one" : Str), rat 1 0) :: mF f n x y z) xs Q := by
  refine asg_val (d := .bool false) ⟨by rw [hs]; rfl, rfl⟩ (((wp hs (uok hK) 60).ev _ _ _ _).2 ⟨rfl, rfl⟩) (fun _ => rfl) ?_
  refine asg_val (d := .bool false) ⟨by rw [hs]; rfl, rfl⟩ (((wp hs (uok hK) 60).ev _ _ _ _).2 (by cases f <;> exact ⟨rfl, rfl⟩)) (fun _ => rfl) ?_
  refine ((wp hs (uok hK) 60).ex _ _ _ _).2 ?_
  have m0 : Md 0 := md_of (by decide)
  have ma : Md 1 := md_of (by decide)
  refine callK (is_finite_ok hK 1 0) (kle hk (by decide)) (callK (is_na_ok hK 1 0) (kle hk (by decide)) (callK (is_nan_ok hK 1 0) (kle hk (by decide)) (callK (sign_ok hK 1 0) (kle hk (by decide)) (callK (side_ok hK 1 0) (kle hk (by decide)) ?_))))
  refine callK (floor_ok hK m0) (kle hk (by decide)) (callK (ceiling_ok hK m0) (kle hk (by decide)) (callK (trunc_ok hK m0) (kle hk (by decide)) (callK (to_whole_ok hK m0) (kle hk (by decide)) ?_)))
  refine callK (power_ok hK hn ma m0 (sm_pow (lo_of (by decide)) hn)) (kle hk (by decide)) (callK (lawpow_end hK hn rfl (.inl rfl)) (kle hk (by decide)) (eqSelf (plain_pow _ _ _) ?_))
  refine callK (product_ok hK (Int.le_refl 0) (Int.le_refl 0) ma m0 ma m0) (kle hk (by decide)) (callK (root_end hK rfl ⟨by decide, by decide⟩) (kle hk (by decide)) ?_)
  exact k _ ⟨rfl, rfl, rfl, rfl, rfl, trivial⟩
theorem turn_ninf (hK : G.K = KF P) (hs : C.scope = scOf (st 45)) (hk : C.k = 4) (hn : n.natAbs ≤ 4) (k : ∀ m', SubM (mF false n x y z) m' → Q .next m' xs) :
    EX C (forOf ((bdOf (st 45)).drop 7)) ((("one" : Str), rat (-1) 0) :: mF f n x y z) xs Q := by
  refine asg_val (d := .bool false) ⟨by rw [hs]; rfl, rfl⟩ (((wp hs (uok hK) 60).ev _ _ _ _).2 ⟨rfl, rfl⟩) (fun _ => rfl) ?_
  refine asg_val (d := .bool false) ⟨by rw [hs]; rfl, rfl⟩ (((wp hs (uok hK) 60).ev _ _ _ _).2 (by cases f <;> exact ⟨rfl, rfl⟩)) (fun _ => rfl) ?_
  refine ((wp hs (uok hK) 60).ex _ _ _ _).2 ?_
  have m0 : Md 0 := md_of (by decide)
  have ma : Md (-1) := md_of (by decide)
  refine callK (is_finite_ok hK (-1) 0) (kle hk (by decide)) (callK (is_na_ok hK (-1) 0) (kle hk (by decide)) (callK (is_nan_ok hK (-1) 0) (kle hk (by decide)) (callK (sign_ok hK (-1) 0) (kle hk (by decide)) (callK (side_ok hK (-1) 0) (kle hk (by decide)) ?_))))
  refine callK (floor_ok hK m0) (kle hk (by decide)) (callK (ceiling_ok hK m0) (kle hk (by decide)) (callK (trunc_ok hK m0) (kle hk (by decide)) (callK (to_whole_ok hK m0) (kle hk (by decide)) ?_)))
  refine callK (power_ok hK hn ma m0 (sm_pow (lo_of (by decide)) hn)) (kle hk (by decide)) (callK (lawpow_end hK hn rfl (.inr (.inl rfl))) (kle hk (by decide)) (eqSelf (plain_pow _ _ _) ?_))
  refine callK (product_ok hK (Int.le_refl 0) (Int.le_refl 0) ma m0 ma m0) (kle hk (by decide)) (callK (root_end hK rfl ⟨by decide, by decide⟩) (kle hk (by decide)) ?_)
  exact k _ ⟨rfl, rfl, rfl, rfl, rfl, trivial⟩
end Mine
end
noncomputable section
open PySem PySem.W PySem.Calls PyProof.Rows PySem.Spec
namespace Mine
variable {G : Gx} {P : Params} {xs : List Int}

variable {C : Cx G} {f : Bool} {n : Int} {x y z : D} {Q : Fl → M → List Int → Prop}
theorem is_finite_fin (hK : G.K = KF P) (q : Rat) : Fn G 92 1 [ofR q] xs (.bool true) xs := by
  have h := is_finite_ok (xs := xs) hK q.num q.den
  rwa [decide_eq_true (den_pos q)] at h
theorem is_na_fin (hK : G.K = KF P) (q : Rat) : Fn G 78 1 [ofR q] xs (.bool false) xs := by
  have h := is_na_ok (xs := xs) hK q.num q.den
  rwa [decide_eq_false fun k => den_ne q k.2] at h
theorem is_nan_fin (hK : G.K = KF P) (q : Rat) : Fn G 85 1 [ofR q] xs (.bool false) xs := by
  have h := is_nan_ok (xs := xs) hK q.num q.den
  rwa [decide_eq_false fun k => den_ne q k.2] at h
theorem sign_fin (hK : G.K = KF P) (q : Rat) : Fn G 99 2 [ofR q] xs (.int (sd q.num)) xs := by
  have h := sign_ok (xs := xs) hK q.num q.den
  rwa [show signS q.num q.den = _ from if_neg fun k => den_ne q k.2] at h
theorem floor_fin (hK : G.K = KF P) {q : Rat} (m : Md q.den) : Fn G 190 2 [ofR q] xs (rat (q.num / q.den) 1) xs := by
  have h := floor_ok (xs := xs) hK (a := q.num) m
  rwa [if_pos (den_pos q)] at h
theorem ceiling_fin (hK : G.K = KF P) {q : Rat} (m : Md q.den) : Fn G 197 3 [ofR q] xs (rat (-(-q.num / q.den)) 1) xs := by
  have h := ceiling_ok (xs := xs) hK (a := q.num) m
  rwa [if_pos (den_pos q)] at h
theorem trunc_fin (hK : G.K = KF P) {q : Rat} (m : Md q.den) : Fn G 204 3 [ofR q] xs (rat (cutS q.num q.den) 1) xs := by
  have h := trunc_ok (xs := xs) hK (a := q.num) m
  rwa [if_pos (den_pos q)] at h
theorem to_whole_fin (hK : G.K = KF P) {q : Rat} (m : Md q.den) : Fn G 211 2 [ofR q] xs (.int (cutS q.num q.den)) xs := by
  have h := to_whole_ok (xs := xs) hK (a := q.num) m
  rwa [if_pos (den_pos q)] at h
theorem sqR (q : Rat) : mulS q.num q.den q.num q.den = rat (q.num * q.num) (q.den * q.den) := by
  rw [mulR]
  have e := powR q 2
  rw [Rat.pow_succ, Rat.pow_succ, Rat.pow_zero, Rat.one_mul] at e
  rw [e, Int.pow_succ, Int.pow_succ, Int.pow_zero, Int.one_mul, Int.pow_succ, Int.pow_succ, Int.pow_zero, Int.one_mul]
theorem Lo.sq {a : Int} (h : Mine.Lo a) : Md (a * a) := by
  have := h.pow (k := 2) (by decide)
  rwa [Int.pow_succ, Int.pow_succ, Int.pow_zero, Int.one_mul] at this
theorem root_pos (hK : G.K = KF P) {q : Rat} (hq : LoR q) (h : 0 ≤ q.num) : Fn G 155 2 [mulS q.num q.den q.num q.den] xs (ofR q) xs := by
  rw [sqR]
  exact root_sq hK h (den_pos q) hq.1.sq hq.2.sq
theorem root_flip (hK : G.K = KF P) {q : Rat} (hq : LoR q) (h : q.num < 0) : Fn G 155 2 [mulS q.num q.den q.num q.den] xs (rat (-q.num) q.den) xs := by
  rw [sqR, ← Int.neg_mul_neg q.num q.num]
  exact root_sq hK (by omega) (den_pos q) (by rw [Int.neg_mul_neg]; exact hq.1.sq) hq.2.sq
theorem ifNN {p : Prop} {i : Decidable p} {P R : Prop} (hp : ¬p) (h : P) : IfK (!(false == decide p)) R P := by rw [decide_eq_false hp]; exact h
theorem turn_fin (hK : G.K = KF P) {q : Rat} (hq : LoR q) (hs : C.scope = scOf (st 45)) (hk : C.k = 4) (hn : n.natAbs ≤ 4) (k : ∀ m', SubM (mF f n x y z) m' → Q .next m' xs) :
    EX C (forOf ((bdOf (st 45)).drop 7)) ((("one" : Str), ofR q) :: mF f n x y z) xs Q := by
  refine asg_val (d := .bool true) ⟨by rw [hs]; rfl, rfl⟩ (((wp hs (uok hK) 60).ev _ _ _ _).2 ⟨congrArg D.bool (decide_eq_true (den_pos q)), rfl⟩) (fun _ => rfl) ?_
  refine asg_val (d := .bool f) ⟨by rw [hs]; rfl, rfl⟩ (((wp hs (uok hK) 60).ev _ _ _ _).2 (by cases f <;> exact ⟨rfl, rfl⟩)) (fun _ => rfl) ?_
  have dp := den_pos q
  have dn := den_ne q
  have ma := hq.1.md
  have mb := hq.2.md
  refine ((wp hs (uok hK) 60).ex _ _ _ _).2 ?_
  refine callK (is_finite_fin hK q) (kle hk (by decide)) (callK (is_na_fin hK q) (kle hk (by decide)) (ifNN (fun k => dn k.2) (callK (is_nan_fin hK q) (kle hk (by decide)) (ifNN (fun k => dn k.2) ?_))))
  refine callK (sign_fin hK q) (kle hk (by decide)) (ifDF (fun k => dn k.2) (callK (side_ok hK q.num q.den) (kle hk (by decide)) (ifNF rfl ?_)))
  by_cases h0 : 0 ≤ q.num
  · refine ⟨⟨dn, mb.sm⟩, ⟨dn, mb.sm⟩, ifDT h0 ?_⟩
    refine callK (floor_fin hK mb) (kle hk (by decide)) (ifNF ⟨(fdiv_pos dp).symm, rfl⟩ (callK (ceiling_fin hK mb) (kle hk (by decide)) (ifNF ⟨by rw [fdiv_pos dp], rfl⟩ (callK (trunc_fin hK mb) (kle hk (by decide)) (ifNF ⟨(if_pos h0).trans (fdiv_pos dp).symm, rfl⟩ (callK (to_whole_fin hK mb) (kle hk (by decide)) (ifNF ((if_pos h0).trans (fdiv_pos dp).symm) ?_)))))))
    refine callK (power_ok hK hn ma mb (sm_pow hq.1 hn)) (kle hk (by decide)) (callK (lawpow_fin hK hn hq) (kle hk (by decide)) (eqSelf (plain_pow _ _ _) ?_))
    refine callK (product_ok hK (Int.le_of_lt dp) (Int.le_of_lt dp) ma mb ma mb) (kle hk (by decide)) (ifDF (Int.not_lt.mpr h0) (callK (root_pos hK hq h0) (kle hk (by decide)) (ifNF ⟨rfl, rfl⟩ (ifDF (Int.not_lt.mpr h0) ?_))))
    exact k _ ⟨rfl, rfl, rfl, rfl, rfl, trivial⟩
  · have h1 : q.num < 0 := Int.not_le.mp h0
    refine ⟨⟨dn, mb.sm⟩, ⟨dn, mb.sm⟩, ifDF h0 ?_⟩
    refine callK (floor_fin hK mb) (kle hk (by decide)) (ifNF ⟨(fdiv_pos dp).symm, rfl⟩ (callK (ceiling_fin hK mb) (kle hk (by decide)) (ifNF ⟨by rw [fdiv_pos dp], rfl⟩ (callK (trunc_fin hK mb) (kle hk (by decide)) (ifNF ⟨(if_neg h0).trans (by rw [fdiv_pos dp]), rfl⟩ (callK (to_whole_fin hK mb) (kle hk (by decide)) (ifNF ((if_neg h0).trans (by rw [fdiv_pos dp])) ?_)))))))
    refine callK (power_ok hK hn ma mb (sm_pow hq.1 hn)) (kle hk (by decide)) (callK (lawpow_fin hK hn hq) (kle hk (by decide)) (eqSelf (plain_pow _ _ _) ?_))
    refine callK (product_ok hK (Int.le_of_lt dp) (Int.le_of_lt dp) ma mb ma mb) (kle hk (by decide)) (ifDT h1 (callK (root_flip hK hq h1) (kle hk (by decide)) (ifNF ⟨rfl, rfl⟩ (ifDT h1 (callK (root_neg hK h1) (kle hk (by decide)) ?_)))))
    exact k _ ⟨rfl, rfl, rfl, rfl, rfl, trivial⟩
theorem one_turn (hK : G.K = KF P) {v : V} (hv : v.Lo) (hs : C.scope = scOf (st 45)) (hk : C.k = 4) (hn : n.natAbs ≤ 4) (k : ∀ m', SubM (mF (f && v.isFin) n x y z) m' → Q .next m' xs) :
    EX C (forOf ((bdOf (st 45)).drop 7)) ((("one" : Str), v.d) :: mF f n x y z) xs Q := by
  cases v with
  | none => exact turn_none hK hs hk (by rw [show (f && V.none.isFin) = false from Bool.and_false f] at k; exact k)
  | nan => exact turn_nan hK hs hk hn (by rw [show (f && V.nan.isFin) = false from Bool.and_false f] at k; exact k)
  | inf s =>
    rw [show (f && (V.inf s).isFin) = false from Bool.and_false f] at k
    cases s with
    | true => exact turn_inf hK hs hk hn k
    | false => exact turn_ninf hK hs hk hn k
  | fin q => exact turn_fin hK hv hs hk hn (by rw [show (f && (V.fin q).isFin) = f from Bool.and_true f] at k; exact k)
end Mine
end
noncomputable section
open PySem PySem.W PySem.Calls PyProof.Rows PySem.Spec
namespace Mine
variable {G : Gx} {P : Params} {xs : List Int}

variable {C : Cx G} {n : Int} {m : M} {Q : Fl → M → List Int → Prop} {p q r : Rat}
theorem ask_ok (hK : G.K = KF P) {f : Bool} {x y z : D} (hs : C.scope = scOf (st 45)) (hk : C.k = 4) (h : Q .next (mF f n x y z) xs) : EX C (((bdOf (st 45)).drop 8).take 1) (mF f n x y z) xs Q := by
  refine ((wp hs (uok hK) 60).ex _ _ _ _).2 ?_
  refine callK (power_none hK 0) (kle hk (by decide)) (callK (power_one hK .none) (kle hk (by decide)) (callK (from_int_ok hK n) (kle hk (by decide)) (ifNF ⟨rfl, rfl⟩ (callK (from_int_none hK) (kle hk (by decide)) ?_))))
  exact h
def MdR (q : Rat) : Prop := Md q.num ∧ Md q.den
theorem LoR.md (h : LoR q) : MdR q := ⟨h.1.md, h.2.md⟩
theorem MdR.norm {n : Int} {d : Nat} {h : d ≠ 0} (hn : Md n) (hd : Md d) : MdR (Rat.normalize n d h) := by
  rw [Rat.normalize_eq]
  exact ⟨Nat.lt_of_le_of_lt (Int.natAbs_ediv_le_natAbs _ _) hn, Nat.lt_of_le_of_lt (Nat.div_le_self _ _) hd⟩
theorem lo_mul {a b : Int} (h : Mine.Lo a) (k : Mine.Lo b) : (a * b).natAbs < 2 ^ 200 := by
  rw [Int.natAbs_mul, show (2 : Nat) ^ 200 = 2 ^ 100 * 2 ^ 100 from (Nat.pow_add 2 100 100)]
  exact Nat.mul_lt_mul'' h k
theorem md_200 {a : Int} (h : a.natAbs < 2 ^ 200 + 2 ^ 200) : Md a := Nat.lt_trans h (by rw [← Nat.two_mul, ← Nat.pow_succ']; exact Nat.pow_lt_pow_right (by decide) (by decide))
theorem LoR.add (h : LoR p) (k : LoR q) : MdR (p + q) := by
  rw [Rat.add_def]
  refine .norm (md_200 (Nat.lt_of_le_of_lt (Int.natAbs_add_le _ _) (Nat.add_lt_add (lo_mul h.1 k.2) (lo_mul k.1 h.2)))) (md_200 ?_)
  rw [Int.natCast_mul]
  exact Nat.lt_of_lt_of_le (lo_mul h.2 k.2) (Nat.le_add_right _ _)
theorem LoR.mul (h : LoR p) (k : LoR q) : MdR (p * q) := by
  rw [Rat.mul_def]
  refine .norm (md_200 (Nat.lt_of_lt_of_le (lo_mul h.1 k.1) (Nat.le_add_right _ _))) (md_200 ?_)
  rw [Int.natCast_mul]
  exact Nat.lt_of_lt_of_le (lo_mul h.2 k.2) (Nat.le_add_right _ _)
theorem add_R (hK : G.K = KF P) (h : MdR p) (k : MdR q) : Fn G 120 3 [ofR p, ofR q] xs (ofR (p + q)) xs := by
  rw [← addR]
  exact add_ok hK (Int.le_of_lt (den_pos p)) (Int.le_of_lt (den_pos q)) h.1 h.2 k.1 k.2
theorem mul_R (hK : G.K = KF P) (h : MdR p) (k : MdR q) : Fn G 134 3 [ofR p, ofR q] xs (ofR (p * q)) xs := by
  rw [← mulR]
  exact mul_ok hK (Int.le_of_lt (den_pos p)) (Int.le_of_lt (den_pos q)) h.1 h.2 k.1 k.2
theorem mk6 (q : Rat) : mk (q.num * 6) (-q.den * 6) = rat (-q.num) q.den := by
  have dp := den_pos q
  unfold mk
  rw [if_neg (by omega), if_pos (by omega), show 0 - q.num * 6 = -q.num * 6 by omega, show 0 - -(q.den : Int) * 6 = q.den * 6 by omega]
  unfold red
  have g : Int.gcd (-q.num * 6) (q.den * 6) = 6 := by
    rw [Int.gcd_mul_right]
    have : Int.gcd (-q.num) q.den = 1 := by rw [Int.neg_gcd]; exact q.reduced
    rw [this]; rfl
  rw [g]
  show rat (-q.num * 6 / 6) (q.den * 6 / 6) = _
  rw [Int.mul_ediv_cancel _ (by decide), Int.mul_ediv_cancel _ (by decide)]
theorem make6 (hK : G.K = KF P) (h : Md q.den) : Fn G 64 2 [.int (q.num * 6), .int (-q.den * 6)] xs (rat (-q.num) q.den) xs := by
  rw [← mk6]
  refine make_ok hK (Md.mul h.neg (md_of (by decide)))
theorem make0 (hK : G.K = KF P) (a : Int) : Fn G 64 2 [.int a, .int 0] xs (rat (sd a) 0) xs := by
  rw [← mk0]
  exact make_ok hK (sm_of (by decide))
def ifOf : List Stmt → List Stmt
  | .If _ b _ _ :: _ => b
  | _ => []
theorem laws_ok (hK : G.K = KF P) {f : Bool} (hs : C.scope = scOf (st 45)) (hk : C.k = 4) (hp : LoR p) (hq : LoR q) (hr : LoR r) (h : Q .next (mF f n (ofR p) (ofR q) (ofR r)) xs) : EX C ((ifOf ((bdOf (st 45)).drop 9)).take 3) (mF f n (ofR p) (ofR q) (ofR r)) xs Q := by
  refine ((wp hs (uok hK) 60).ex _ _ _ _).2 ?_
  have a1 := add_R (xs := xs) hK hp.md (hq.add hr)
  rw [← Rat.add_assoc] at a1
  have m1 := mul_R (xs := xs) hK hp.md (hq.mul hr)
  rw [← Rat.mul_assoc] at m1
  have d1 := mul_R (xs := xs) hK hp.md (hq.add hr)
  rw [Rat.mul_add] at d1
  refine callK (add_R hK hp.md hq.md) (kle hk (by decide)) (callK (add_R hK (hp.add hq) hr.md) (kle hk (by decide)) (callK (add_R hK hq.md hr.md) (kle hk (by decide)) (callK a1 (kle hk (by decide)) (ifNF ⟨rfl, rfl⟩ ?_))))
  refine callK (mul_R hK hp.md hq.md) (kle hk (by decide)) (callK (mul_R hK (hp.mul hq) hr.md) (kle hk (by decide)) (callK (mul_R hK hq.md hr.md) (kle hk (by decide)) (callK m1 (kle hk (by decide)) (ifNF ⟨rfl, rfl⟩ ?_))))
  refine callK (add_R hK hq.md hr.md) (kle hk (by decide)) (callK d1 (kle hk (by decide)) (callK (mul_R hK hp.md hq.md) (kle hk (by decide)) (callK (mul_R hK hp.md hr.md) (kle hk (by decide)) (callK (add_R hK (hp.mul hq) (hp.mul hr)) (kle hk (by decide)) (ifNF ⟨rfl, rfl⟩ ?_)))))
  have s6 : Sm 6 := sm_of (by decide)
  refine ⟨⟨hp.1.md.sm, s6⟩, ⟨hp.2.md.neg.sm, s6⟩, callK (make6 hK hp.2.md) (kle hk (by decide)) (ifNF ⟨rfl, rfl⟩ (callK (make0 hK p.num) (kle hk (by decide)) (callK (side_ok hK p.num p.den) (kle hk (by decide)) (ifNF ⟨rfl, rfl⟩ ?_))))⟩
  exact h
end Mine
end
noncomputable section
open PySem PySem.W PySem.Calls PyProof.Rows PySem.Spec
namespace Mine
variable {P : Params}
abbrev bmE : List Value := [.type "Exception", .type "BaseException", .type "object"]
abbrev bmR : List Value := .ref 24 :: bmE
abbrev objR : Obj := excClassObj "Refusal" "Refusal" 44 43 [.ref 24] bmR true [] [] false none none (some (.ref 28)) none (some (.str "Refusal" 209)) (some (.str "Refusal" 217)) (some (.bool true)) "Exception.__new__"
theorem r44 : (KF P).lookup 44 = some objR := rfl
theorem tailR {h : Heap} (X : (KF P).In h) : OwnTail h bmE bmR := by
  have e : nsOkIn (KF P) 23 = true := by kernel_rfl
  exact .own (X 24 _ rfl) (.of_isNs (isNs_of_in X e)) (nsMap_none_of_in X e rfl) .base
section
variable {prog : Program} {w : World} {A : Around} {E : Value → Shared → Prop}
/-- a refusal just made -/
abbrev made (t : Addr) : Obj := { cls := .ref 44, data := .fields #[.ref t, .none, .none, .none, .bool false, .none] }
theorem type_call {v : Value} {Q : Fin → Shared → Prop} {h : Heap} {g : Array GenState} {d : Drawn} {t : Nat} {os : OsState} (X : (KF P).In h)
    (hq : wpAny (model prog w) A (call (.ref 41) [.ref (h.objs.size + 1), v]) (fun r s' => r = .none ∧ Q (.done (.ret (.ref (h.objs.size + 1)))) s') E ⟨(h.push { cls := .type "tuple", data := .seq #[v] }).push (made h.objs.size), g, d, t, os⟩) :
    wpAny (model prog w) A (Builtin.«type.__call__» ⟨[.ref 44, v], []⟩) Q E ⟨h, g, d, t, os⟩ := by
  have hC := X 44 _ r44
  have T := tailR X
  have F := PySem.F.excBase_Exception
  repeat (first | with_reducible refine wpAny_loadPart_at hC ?_ | with_reducible refine wpAny_madeBy_exc hC ?_ | wp_step)
  refine codeAny_call_builtin_code (Code.quiet_builtin _ F.quiet) (wpAny_check_new_subT F T hC ?_)
  refine codeAny_exc_new_subT F T hC ?_ (show 1 ≤ sizeLine by decide)
  show wpAny _ _ _ _ _ _
  have k : ∀ b o, h.get? b = some o → ((h.push { cls := .type "tuple", data := .seq #[v] }).push (made h.objs.size)).get? b = some o := fun b o e => push_keep _ _ (push_keep _ _ e)
  have X1 := X.keeps k
  have hC₁ := X1 44 _ r44
  have hget : ((h.push { cls := .type "tuple", data := .seq #[v] }).push (made h.objs.size)).get? (h.objs.size + 1) = some (made h.objs.size) := by heap_get
  have t1 : Looks (model prog w) ((h.push { cls := .type "tuple", data := .seq #[v] }).push (made h.objs.size)) (typeLookup (.ref 44) "__init__") (some (.ref 41)) := looks_findIn X1 rfl
  have hcC : (Value.ref 44 :: bmR).contains (.ref 44) = true := by simp
  unfold isInstance
  repeat (first | with_reducible refine wpAny_loadPart_at hget ?_ | (with_reducible refine wpAny_isSubtype_exc hC₁ ?_; rw [hcC]) | wp_step)
  show wpAny _ _ (typeLookup (.ref 44) _) _ _ _
  refine t1.at ?_
  refine wpAny_holding (wpAny_bind ?_)
  unfold bindSpecial
  refine wpAny_bind (wpAny_typeOf (T := "function") ⟨_, X1 41 _ rfl, rfl⟩ ?_)
  rw [if_pos (by decide)]
  refine wpAny_pure (wpAny_bind (wpAny_mono hq (fun r s' hr => ?_) fun _ _ x => x))
  obtain ⟨rfl, hQ⟩ := hr
  wp_walk
  exact hQ
end
end Mine
end
noncomputable section
open PySem PySem.W PySem.Calls PyProof.Rows PySem.Spec Builtin.ObjectAttr
namespace Mine
variable {P : Params}
section
variable {prog : Program} {w : World} {A : Around} {E : Value → Shared → Prop}
abbrev madeD (t D : Addr) : Obj := { cls := .ref 44, dict := some D, data := .fields #[.ref t, .none, .none, .none, .bool false, .none] }
def msg (v : Value) : Str → Option Value := fun y => if y = "message" then some v else none
theorem osa_message {v : Value} {x t : Addr} {tk : Tok} {Q : Fin → Shared → Prop} {h : Heap} {g : Array GenState} {d : Drawn} {t0 : Nat} {os : OsState} (X : (KF P).In h) (hx : h.get? x = some (made t))
    (hq : ∀ h' tk', h'.get? x = some (madeD t h.objs.size) → h'.Ns h.objs.size (msg v) → (∀ b o, b ≠ x → h.get? b = some o → h'.get? b = some o) → Q (.done (.ret .none)) ⟨h', g, d, tk', os⟩) :
    wpAny (model prog w) A (Builtin.«object.__setattr__» ⟨[.ref x, .str "message" tk, v], []⟩) Q E ⟨h, g, d, t0, os⟩ := by
  have hC := X 44 _ r44
  have hpass := PySem.F.store_Exception.passes (.ref x)
  have hL : Looks (model prog w) h (typeLookup (.ref 44) "message") none := looks_findIn X rfl
  obtain ⟨o, hx, hc, hdn, hda, hsl⟩ : ∃ o, h.get? x = some o ∧ o.cls = .ref 44 ∧ o.dict = none ∧ o.data = .fields #[.ref t, .none, .none, .none, .bool false, .none] ∧ o.slots = #[] := ⟨_, hx, rfl, rfl, rfl, rfl⟩
  unfold Builtin.«object.__setattr__»
  repeat (first | rw [refuse_eq] | (rw [refuseLoop_ref, refuseLoop_ref, hpass]) | (with_reducible refine wpAny_loadPart_at hx ?_; rw [hc]) | with_reducible refine wpAny_mroOf_exc hC ?_ | with_reducible refine hL.at ?_ | wp_step)
  rw [hdn, if_neg (by simp [typeHasDict])]
  split
  · rename_i hcd
    cases hcd
  split
  · rename_i c hcd
    rw [hda] at hcd; cases hcd
  have hx₁ : (h.push { cls := .type "dict", data := .dict #[] }).get? x = some o := Heap.get?_push_of_some _ hx
  have hxs : x ≠ h.objs.size := Nat.ne_of_lt (Heap.lt_size hx)
  refine wpAny_bind (wpAny_alloc' ?_)
  refine wpAny_bind (wpAny_update' hx₁ ?_)
  refine wpAny_pure ?_
  have hgd : ((h.push { cls := .type "dict", data := .dict #[] }).update x fun o => { cls := o.cls, dict := some h.objs.size, data := o.data, slots := o.slots }).get? h.objs.size
      = some { cls := .type "dict", data := .dict #[] } :=
    (Heap.get?_update_ne _ _ _ _ hxs.symm).trans (Heap.get?_push_at rfl rfl)
  have hnd : ((h.push { cls := .type "dict", data := .dict #[] }).update x fun o => { cls := o.cls, dict := some h.objs.size, data := o.data, slots := o.slots }).Ns h.objs.size (fun _ => none) :=
    ⟨_, #[], _, hgd, rfl, fun e he => absurd he (by simp), fun _ => rfl⟩
  show wpAny _ _ (storeInDict h.objs.size (.str "message" tk) "message" v) _ _ _
  unfold storeInDict newKeyGuard
  refine wpAny_bind (wpAny_pure (wpAny_bind (wpAny_nsSet1 (Heap.Ns1.of_empty hnd) fun h' hn' hs => ?_)))
  obtain ⟨oD, esD, epD, hoD, hdD, hcD⟩ := hn'.count (Within.cons "message" v Within.nil)
  refine wpAny_bind (wpAny_lookBehind hoD (by rw [hdD]; exact pastItsLine_dict (Nat.le_trans hcD (by rw [List.length_cons, List.length_nil, sizeLine_eq]; omega))) ?_)
  wp_walk
  refine hq h' _ ?_ ?_ fun b ob hbx hb => (hs.2 b (Nat.ne_of_lt (Heap.lt_size hb))).trans ((Heap.get?_update_ne _ _ _ _ hbx).trans (Heap.get?_push_of_some _ hb))
  · obtain ⟨oc, od, odt, osl⟩ := o
    obtain rfl : oc = _ := hc
    obtain rfl : odt = _ := hda
    obtain rfl : osl = _ := hsl
    exact (hs.2 x hxs).trans (Heap.get?_update_self _ hx₁ rfl)
  · obtain ⟨o', es, ep, e1, e2, e3, eu, e4⟩ := hn'
    exact ⟨o', es, ep, e1, e2, e3, fun y => e4 y⟩
theorem set_message {v : Value} {x t : Addr} {Q : Unit → Shared → Prop} {s : Shared} (X : (KF P).In s.heap) (hx : s.heap.get? x = some (made t))
    (hq : ∀ h' tk', h'.get? x = some (madeD t s.heap.objs.size) → h'.Ns s.heap.objs.size (msg v) → (∀ b o, b ≠ x → s.heap.get? b = some o → h'.get? b = some o) → Q () { s with heap := h', toks := tk' }) :
    wpAny (model prog w) A (setAttr (.ref x) "message" v) Q E s := by
  have I : InstAt s.heap x (made t) 44 none := ⟨hx, rfl, rfl, trivial⟩
  have SF := PySem.F.store_object
  have sub : Looks (model prog w) s.heap (isInstance (.ref x) (.type "object")) true := I.type.andThen (looks_mroIn X (C := 44) rfl)
  refine set_plain X I rfl ?_
  exact codeAny_call_builtin SF.slot.plain SF.entry (@check_slot (model prog w) _ _ { s with toks := s.toks + 1 } "object.__setattr__" "object" "__setattr__" (.ref x) [.str "message" s.toks, v] [] _ SF.kind SF.split sub (SF.args (.ref x) (.str "message" s.toks) v) (osa_message X hx fun h' tk' a b c => hq h' tk' a b c))
end
/-- a def's frame, falling off its end too -/
theorem fn_enter' {G : Gx} {f : Addr} {K : Frag} {name qual : Str} {params : Arguments} {body : List Stmt} {scope : Scope} {dV kV doc pm cdv ct oc : Value} {an od : Option Addr} {osl : Array (Option Value)} {ps : List Str} {A : Around} {s : Shared} {vs : List Value} {Z : Value → Shared → Prop} {E : Value → Shared → Prop} (hK : G.K = K)
    (ho : K.lookup f = some ⟨oc, od, .func (fnOf name qual params body scope dV kV doc pm an cdv ct), osl⟩) (hcd : codeIn K cdv qual = true)
    (hbind : bindArgs (fnOf name qual params body scope dV kV doc pm an cdv ct) ⟨vs, []⟩ = pure (ps.zip vs)) (hps : chk scope ps = true) (hd : A.depth < recursionLimit)
    (hb : ∀ b o, G.b0.get? b = some o → s.heap.get? b = some o)
    (h : ∀ h₁, h₁.Ns s.heap.objs.size (fun x => (ps.zip vs).reverse.lookup x) → (∀ b o, s.heap.get? b = some o → h₁.get? b = some o) →
      wpAny (model G.prog G.w) (A.deeper (envOf qual scope s.heap.objs.size f cdv)) (execs body (envOf qual scope s.heap.objs.size f cdv)) (fun fl s' => Z (match fl with | .ret v => v | _ => .none) s')
        (fun e s' => wpAny (model G.prog G.w) (A.deeper (envOf qual scope s.heap.objs.size f cdv)) (leaving (envOf qual scope s.heap.objs.size f cdv) e) (fun _ s'' => E e s'') (fun e' s'' => E e' s'') s') { s with heap := h₁, toks := s.toks + (ps.zip vs).length }) :
    wpAny (model G.prog G.w) A (call (.ref f) vs) Z E s := by
  subst hK
  obtain ⟨hps, hcell, hco, hgen, hk⟩ := chk_inv hps
  refine wpAny_call (codeAny_call_def (fd := fnOf name qual params body scope dV kV doc pm an cdv ct) (body := body) (binds := ps.zip vs) hd (hb _ _ (G.inK _ _ ho)) rfl (G.lim.keeps hb) (codeRec_of (G.inK.keeps hb) hcd) rfl (BindsTo.of_eq hbind) hcell ?_ ?_ hco hgen hk)
  · intro x hx
    exact (hps _ (List.of_mem_zip hx).1).1
  intro h₁ hn hk₁
  exact h h₁ hn hk₁
/-- Refusal(v) -/
theorem tc_weight (v : Value) : (Code.builtin "type.__call__" ⟨[.ref 44, v], []⟩).weight ≤ 3 := Nat.le_of_ble_eq_true (by kernel_rfl)
theorem refusal {G : Gx} (hK : G.K = KF P) {A : Around} {E : Value → Shared → Prop} {s : Shared} {v : Value} {Q : Value → Shared → Prop} (hd : A.depth + 5 < recursionLimit) (hb : ∀ b o, G.b0.get? b = some o → s.heap.get? b = some o)
    (hq : ∀ h' tk x t D, h'.get? x = some (madeD t D) → h'.Ns D (msg v) → x ≠ D → s.heap.get? x = none → s.heap.get? D = none → (∀ b o, s.heap.get? b = some o → h'.get? b = some o) → Q (.ref x) { s with heap := h', toks := tk }) :
    wpAny (model G.prog G.w) A (call (.ref 44) [v]) Q E s := by
  have X : (KF P).In s.heap := hK ▸ G.inK.keeps hb
  obtain ⟨h, g, d, t, os⟩ := s
  have hC := X 44 _ r44
  have f1 := tc_lookup
  have f2 := tc_bind (.ref 44)
  have hT : (⟨h, g, d, t, os⟩ : Shared).TypeIs (.ref 44) "type" := ⟨_, hC, rfl⟩
  refine wpAny_call (codeAny_of_tree ?_)
  show wpAny _ _ (callAny (.ref 44) _) _ _ _
  repeat (any_goals (first | assumption | with_reducible refine wpAny_loadPart_at hC ?_ | wp_step))
  refine ⟨rfl, ?_⟩
  refine codeAny_call_builtin_at (Code.quiet_builtin _ (by decide +kernel)) entry_typeCall (wpAny_check_type_call_sub hC (type_call X ?_))
  have k : ∀ b o, h.get? b = some o → ((h.push { cls := .type "tuple", data := .seq #[v] }).push (made h.objs.size)).get? b = some o := fun b o e => push_keep _ _ (push_keep _ _ e)
  have hget : ((h.push { cls := .type "tuple", data := .seq #[v] }).push (made h.objs.size)).get? (h.objs.size + 1) = some (made h.objs.size) := by heap_get
  have hw := tc_weight v
  refine fn_enter' (ps := [("self" : Str), ("message" : Str)]) hK rfl rfl rfl rfl (Nat.lt_of_le_of_lt (Nat.add_le_add_left hw _) (by omega)) (fun b o e => k b o (hb b o e)) fun h₁ hn hk₁ => ?_
  have F : Fm G.b0 _ h₁ _ := ⟨hn, fun b o e => hk₁ b o (k b o (hb b o e))⟩
  refine wpAny_execs_cons (plainObj_wpAny_Assign_Attribute (F.ld (v := v) rfl (F.ld (v := .ref (h.objs.size + 1)) rfl ?_ rfl rfl rfl) rfl rfl rfl))
  refine set_message (hK ▸ G.inK.keeps F.keep) (hk₁ _ _ hget) fun h' tk' a b c => ?_
  refine wpAny_execs_nil ⟨rfl, ?_⟩
  have lt := Heap.lt_size (hk₁ _ _ hget)
  exact hq h' tk' (h.objs.size + 1) h.objs.size h₁.objs.size a b (Nat.ne_of_lt lt) (Heap.get?_none_of_le (Nat.le_succ _)) (Heap.get?_none_of_le (Nat.le_of_lt (Nat.lt_of_succ_lt lt))) fun y o e => c y o (Nat.ne_of_lt (Nat.lt_succ_of_lt (Heap.lt_size e))) (hk₁ _ _ (k _ _ e))
end Mine
end
noncomputable section
open PySem PySem.W PySem.Calls PyProof.Rows PySem.Spec Builtin.ObjectAttr
namespace Mine
variable {P : Params}
section
variable {M : Model} {A : Around} {E : Value → Shared → Prop} {s : Shared} {env : Env}
theorem raiseStmt_R {x : Sem Value} {Q : Flow → Shared → Prop} (hh : A.handled = none)
    (h : wpAny M A x (fun v s₁ => ∃ e t D, v = .ref e ∧ s₁.heap.get? 44 = some objR ∧ s₁.heap.get? e = some (madeD t D) ∧ E (.ref e) s₁) E s) :
    wpAny M A (raiseStmt env (some x) none) Q E s := by
  have hcB : (Value.ref 44 :: bmR).contains (.type "BaseException") = true := rfl
  unfold raiseStmt
  refine wpAny_bind (wpAny_mono h (fun v s₁ h₁ => ?_) fun _ _ x => x)
  obtain ⟨e, t, D, rfl, hC, he, hE⟩ := h₁
  obtain ⟨hp, g, d, tk, os⟩ := s₁
  repeat (first | with_reducible refine wpAny_loadPart_at he ?_ | with_reducible refine wpAny_loadPart_at hC ?_ | (with_reducible refine wpAny_isSubtype_exc hC ?_; rw [hcB]) | wp_step)
  exact wpAny_raiseNew_none hh hE
end
theorem Raise_R {G : Gx} (hK : G.K = KF P) {C : Cx G} {m : M} {xs : List Int} {s : Shared} {E : Value → Shared → Prop} {Q : Flow → Shared → Prop} {p1 p2 p3 p4 : Pos} {k1 : Nat} {z : Str} (hx : C.scope.names.lookup ("Refusal" : Str) = some .globalImplicit) (hd : C.A.depth + 5 < recursionLimit) (st : St C m xs s)
    (hq : ∀ h' tk x t D tz, h'.get? x = some (madeD t D) → h'.Ns D (msg (.str z tz)) → x ≠ D → s.heap.get? x = none → s.heap.get? D = none → (∀ b o, s.heap.get? b = some o → h'.get? b = some o) → E (.ref x) { s with heap := h', toks := tk }) :
    wpAny (model G.prog G.w) C.A (exec (.Raise (some (.Call (.Name "Refusal" p1) [.Constant (.str z) k1 p2] [] p3)) none p4) C.env) Q E s := by
  have keep : keepIn G.K (.ref 44) = true := by rw [hK]; rfl
  rw [arm_exec_Raise]
  show wpAny (model G.prog G.w) C.A (do standAt p4; raiseStmt C.env (some (do let v ← eval (.Call (.Name "Refusal" p1) [.Constant (.str z) k1 p2] [] p3) C.env; standAt p4; pure v)) none) Q E s
  refine wpAny_bind (wpAny_standAt (raiseStmt_R C.hh (wpAny_bind ?_)))
  obtain ⟨mv, F, _⟩ := id st.fr
  refine Call_ (F.glob (v := .ref 44) G.g (mg_of G.inK G.g (by rw [hK]; exact rfl)) ?_ C.fk hx rfl)
  refine callWith_K (first := []) G.inK keep (spliced_more (Constant_str ?_) (starEach_cons trivial)) (starEach_cons trivial) rfl
  refine spliced_none ⟨G.inK.keeps st.base, ?_⟩
  refine refusal hK hd st.base fun h' tk x t D a b c d e f => ?_
  refine wpAny_bind (wpAny_standAt (wpAny_pure ⟨x, t, D, rfl, ?_, a, hq h' tk x t D _ a b c d e f⟩))
  have X : (KF P).In s.heap := hK ▸ G.inK.keeps st.base
  exact f _ _ (X 44 _ r44)
end Mine
end
noncomputable section
open PySem PySem.W PySem.Calls PyProof.Rows PySem.Spec Builtin.ObjectAttr
namespace Mine
section
variable {M : Model} {A : Around} {E : Value → Shared → Prop} {s : Shared}
abbrev recE (t D : Addr) (tb : Value) : Obj := { cls := .ref 44, dict := some D, data := .fields #[.ref t, tb, .none, .none, .bool false, .none] }
abbrev tbO (ts : Array Value) : Obj := { cls := .type "traceback", data := .fields ts }
theorem entry_R {base : Heap} {env : Env} {outer : List Env} {L x t D : Addr} {tb head : Value} {hadNext : Bool} {Q : Unit → Shared → Prop}
    (hfr : A.frames = some (env :: outer)) (hl : s.heap.FunFrames base (env :: outer)) (hf : env.frame = some L) (hx : s.heap.get? x = some (recE t D tb))
    (h : ∀ h' T ts, h'.get? x = some (recE t D (.ref T)) → s.heap.get? T = none → h'.get? T = some (tbO ts) → ts[3]? = some (rawInt L) → (∀ b o, b ≠ x → b ∉ (env :: outer).filterMap (·.frame) → s.heap.get? b = some o → h'.get? b = some o) →
      (∀ b o, b ≠ x → s.heap.get? b = some o → ∃ sl, h'.get? b = some { o with slots := sl }) → Q () { s with heap := h' }) :
    wpAny M A (do let a ← frameOf env; let pl ← entryPlaceOf L hadNext; let b ← EntryCells.newEntry head a .none (rawInt L) .none pl; setField (.ref x) 1 b) Q E s := by
  have hene : x ∉ (env :: outer).filterMap (·.frame) := fun hm => by
    obtain ⟨_, o, ho, hnf⟩ := hl.mem hm
    rw [hx] at ho; cases ho; exact hnf _ rfl
  refine wpAny_bind (wpAny_frameOf_fun hfr hl hf fun h₁ hs₁ => ?_)
  refine wpAny_bind (wpAny_entryPlaceOf fun pl hpl => ?_)
  unfold EntryCells.newEntry newFields
  refine wpAny_bind (wpAny_newObj_type ?_ (hpl.sizeOk5 _ _ _ _ _))
  have hx₁ : h₁.get? x = some (recE t D tb) := (hs₁.2.1 x hene).trans hx
  have hx₂ := Heap.get?_push_of_some (h := h₁) { cls := .type "traceback", dict := none, data := .fields ([head, .ref L, .none, rawInt L, .none] ++ (if pl.isEmpty then List.replicate 6 Value.none else pl)).toArray } hx₁
  refine wpAny_setField hx₂ rfl (show 1 < 6 by decide) ?_
  have hTx : h₁.objs.size ≠ x := Nat.ne_of_gt (Heap.lt_size hx₁)
  refine h _ h₁.objs.size ([head, .ref L, .none, rawInt L, .none] ++ (if pl.isEmpty then List.replicate 6 Value.none else pl)).toArray (Heap.get?_update_self _ hx₂ rfl) (Heap.get?_none_of_le (by rw [hs₁.1]; exact Nat.le_refl _)) ?_ ?_ (fun b o hb hm ho => ?_) fun b o hb ho => ?_
  · rw [Heap.get?_update_other _ _ (Ne.symm hTx)]
    exact Heap.get?_push_size h₁ rfl
  · simp
  · rw [Heap.get?_update_other _ _ (Ne.symm hb)]
    exact Heap.get?_push_of_some _ ((hs₁.2.1 b hm).trans ho)
  · obtain ⟨sl, hs⟩ := hs₁.2.2 b o ho
    refine ⟨sl, ?_⟩
    rw [Heap.get?_update_other _ _ (Ne.symm hb)]
    exact Heap.get?_push_of_some _ hs
end
/-- a refusal on its way: over the base q, the frame at L -/
structure Fly (q h : Heap) (L : Addr) (m0 : Str → Option Value) (x D : Addr) (v fl : Value) : Prop where
  ex : ∃ t T ts, h.get? x = some (recE t D (.ref T)) ∧ h.get? T = some (tbO ts) ∧ ts[3]? = some fl ∧ T ≠ x ∧ q.get? T = none
  nx : q.get? x = none
  nD : x ≠ D
  ns : h.Ns D (msg v)
  old : ∀ b o, q.get? b = some o → h.get? b = some o
  fr : h.Ns L m0
section
variable {M : Model} {A : Around} {E : Value → Shared → Prop} {s : Shared}
theorem ns_slots {h h' : Heap} {D : Addr} {m : Str → Option Value} (n : h.Ns D m) (k : ∀ o, h.get? D = some o → ∃ sl, h'.get? D = some { o with slots := sl }) : h'.Ns D m :=
  let ⟨o, es, ep, e, d, r⟩ := n; let ⟨sl, e'⟩ := k o e; ⟨_, es, ep, e', d, r⟩
theorem ns_same {h h' : Heap} {D : Addr} {m : Str → Option Value} (n : h.Ns D m) (k : h'.get? D = h.get? D) : h'.Ns D m :=
  let ⟨o, es, ep, e, d, r⟩ := n; ⟨_, es, ep, k.trans e, d, r⟩
theorem ns_notRec {h : Heap} {D x : Addr} {m : Str → Option Value} {o : Obj} {vs : Array Value} (n : h.Ns D m) (e : h.get? x = some o) (hd : o.data = .fields vs) : D ≠ x := fun q => by
  subst q
  obtain ⟨o', es, ep, e', d, r⟩ := n
  rw [e] at e'; cases e'; rw [hd] at d; cases d
/-- it lands -/
theorem Fly.land {q : Heap} {L x D : Addr} {m0 : Str → Option Value} {v fl : Value} {Q : Unit → Shared → Prop} (y : Fly q s.heap L m0 x D v fl) (h : ∀ h', Fly q h' L m0 x D v .none → Q () { s with heap := h' }) : wpAny M A (setFlight (.ref x) none) Q E s := by
  obtain ⟨⟨t, T, ts, a, b, c, d, e⟩, nx, nD, ns, old, fr⟩ := y
  have o1 : ∀ b', b' ≠ T → (s.heap.update T (Obj.mapFields (·.setIfInBounds 3 .none))).get? b' = s.heap.get? b' := fun b' hb => Heap.get?_update_other _ _ (Ne.symm hb)
  have sz := (Array.getElem?_eq_some_iff.mp c).1
  exact wpAny_setFlight_none a rfl rfl b rfl sz (h _ ⟨⟨t, T, _, (o1 x (Ne.symm d)).trans a, Heap.get?_update_self _ b rfl, by simp [sz], d, e⟩, nx, nD, ns_same ns (o1 D (ns_notRec ns b rfl)), fun b' o ho => (o1 b' fun z => by rw [z, e] at ho; cases ho).trans (old b' o ho), ns_same fr (o1 L (ns_notRec fr b rfl))⟩)
theorem none_empty (b : Addr) : ({} : Heap).get? b = none := by
  cases e : ({} : Heap).get? b with
  | none => rfl
  | some o => exact absurd (Heap.lt_size e) (Nat.not_lt_zero _)
theorem ns_frame {h : Heap} {L : Addr} {m : Str → Option Value} (n : h.Ns L m) : ∃ o, h.get? L = some o ∧ ∀ vs, o.data ≠ .fields vs :=
  let ⟨o, es, ep, e, d, _⟩ := n; ⟨o, e, fun vs q => by rw [d] at q; cases q⟩
/-- out of the frame that raised it -/
theorem leave_first {q : Heap} {env0 env1 : Env} {L0 L1 x t D : Addr} {v : Value} {m0 m1 : Str → Option Value} {Q : Unit → Shared → Prop} (hfr : A.frames = some [env1, env0]) (hf1 : env1.frame = some L1) (hf0 : env0.frame = some L0) (k1 : env1.scope.kind ≠ .module) (k0 : env0.scope.kind ≠ .module)
    (n1 : s.heap.Ns L1 m1) (n0 : s.heap.Ns L0 m0) (hx : s.heap.get? x = some (madeD t D)) (nx : q.get? x = none) (nD : x ≠ D) (hD : s.heap.Ns D (msg v)) (hq : ∀ b o, q.get? b = some o → s.heap.get? b = some o) (l1 : q.get? L1 = none) (l0 : q.get? L0 = none)
    (h : ∀ h', Fly q h' L0 m0 x D v .none → Q () { s with heap := h' }) : wpAny M A (leaving env1 (.ref x)) Q E s := by
  obtain ⟨o1, e1, d1⟩ := ns_frame n1
  obtain ⟨o0, e0, d0⟩ := ns_frame n0
  have fl : s.heap.FunFrames {} [env1, env0] := ⟨k1, ⟨L1, o1, hf1, none_empty _, e1, d1⟩, k0, ⟨L0, o0, hf0, none_empty _, e0, d0⟩, trivial⟩
  have nT : ∀ T, s.heap.get? T = none → q.get? T = none := fun T e => by
    cases z : q.get? T with
    | none => rfl
    | some o => rw [hq _ _ z] at e; cases e
  have fm : ([env1, env0].filterMap (·.frame)) = [L1, L0] := by simp [hf1, hf0]
  unfold leaving noteFrame
  simp only [hf1]
  refine wpAny_bind (wpAny_bind (wpAny_field (x := .none) hx rfl (i := 1) rfl ?_))
  rw [if_neg (by decide)]
  refine entry_R hfr fl hf1 hx fun h' T ts a b c d e f => ?_
  have y : Fly q h' L0 m0 x D v (rawInt L1) := by
    refine ⟨⟨t, T, ts, a, c, d, fun z => (by rw [z, hx] at b; cases b), nT T b⟩, nx, nD, ns_slots hD fun o ho => f D o (Ne.symm nD) ho, fun b' o ho => ?_, ns_slots n0 fun o ho => f L0 o (ns_notRec n0 hx rfl) ho⟩
    refine e b' o (fun z => by rw [z, nx] at ho; cases ho) (fun hm => ?_) (hq b' o ho)
    rw [fm] at hm
    rcases List.mem_cons.mp hm with z | hm
    · rw [z, l1] at ho; cases ho
    · rw [List.mem_singleton.mp hm, l0] at ho; cases ho
  exact Fly.land y fun h2 y2 => h h2 y2
/-- seen by the frame that takes it -/
theorem note_next {q : Heap} {env0 : Env} {L0 x D : Addr} {m0 : Str → Option Value} {v : Value} {Q : Unit → Shared → Prop} (hfr : A.frames = some [env0]) (hf0 : env0.frame = some L0) (k0 : env0.scope.kind ≠ .module) (l0 : q.get? L0 = none) (y : Fly q s.heap L0 m0 x D v .none)
    (h : ∀ h', Fly q h' L0 m0 x D v (rawInt L0) → Q () { s with heap := h' }) : wpAny M A (noteFrame (.ref x) env0) Q E s := by
  obtain ⟨⟨t, T, ts, a, b, c, d, e⟩, nx, nD, ns, old, fr⟩ := y
  have sz := (Array.getElem?_eq_some_iff.mp c).1
  have o1 : ∀ b', b' ≠ T → (s.heap.update T (Obj.mapFields (·.setIfInBounds 3 .none))).get? b' = s.heap.get? b' := fun b' hb => Heap.get?_update_other _ _ (Ne.symm hb)
  have DT := ns_notRec ns b rfl
  have LT := ns_notRec fr b rfl
  obtain ⟨o0, e0, d0⟩ := ns_frame fr
  have fl : (s.heap.update T (Obj.mapFields (·.setIfInBounds 3 .none))).FunFrames {} [env0] := ⟨k0, ⟨L0, o0, hf0, none_empty _, (o1 L0 LT).trans e0, d0⟩, trivial⟩
  unfold noteFrame
  simp only [hf0]
  refine wpAny_bind (wpAny_field (x := .ref T) a rfl (i := 1) rfl ?_)
  rw [if_pos (show (Value.ref T != Value.none) = true from by simp)]
  refine wpAny_bind (wpAny_field b rfl c ?_)
  rw [if_neg (show ¬ ((Value.none == rawInt L0) = true) from by simp [rawInt])]
  refine wpAny_bind (wpAny_setField b rfl sz ?_)
  refine entry_R (s := { s with heap := s.heap.update T (Obj.mapFields (·.setIfInBounds 3 .none)) }) hfr fl hf0 ((o1 x (Ne.symm d)).trans a) fun h' T' ts' a' b' c' d' e' f' => ?_
  have back : ∀ b o, s.heap.get? b = some o → b ≠ T → (s.heap.update T (Obj.mapFields (·.setIfInBounds 3 .none))).get? b = some o := fun b o ho hb => (o1 b hb).trans ho
  have nT : ∀ b o, q.get? b = some o → b ≠ T := fun b o ho z => by rw [z, e] at ho; cases ho
  refine h h' ⟨⟨t, T', ts', a', c', d', fun z => (by rw [z, (o1 x (Ne.symm d)).trans a] at b'; cases b'), ?_⟩, nx, nD, ns_slots ns fun o ho => f' D o (Ne.symm nD) (back D o ho DT), fun b o ho => ?_, ns_slots fr fun o ho => f' L0 o (ns_notRec fr a rfl) (back L0 o ho LT)⟩
  · cases z : q.get? T' with
    | none => rfl
    | some o => rw [back _ _ (old _ _ z) (nT _ _ z)] at b'; cases b'
  · refine e' b o (fun z => by rw [z, nx] at ho; cases ho) (fun hm => ?_) (back b o (old b o ho) (nT b o ho))
    rw [show ([env0].filterMap (·.frame)) = [L0] by simp [hf0]] at hm
    rw [List.mem_singleton.mp hm, l0] at ho; cases ho
end
end Mine
end
noncomputable section
open PySem PySem.W PySem.Calls PyProof.Rows PySem.Spec Builtin.ObjectAttr
namespace Mine
variable {P : Params}
theorem look_msg {h : Heap} {D : Addr} {v : Value} (n : h.Ns D (msg v)) : ∃ od, h.get? D = some od ∧ lookIn "message" od = some (some v) := by
  obtain ⟨o, es, ep, e, d, k, f⟩ := n
  refine ⟨o, e, ?_⟩
  have hf := f "message"
  rw [show msg v "message" = some v from if_pos rfl] at hf
  unfold nsFind findBy at hf
  rw [← Array.find?_toList] at hf
  unfold lookIn
  rw [d]
  dsimp only
  cases he : es.toList.find? (fun x => x.key.isStr "message") with
  | none => rw [he] at hf; cases hf
  | some en => rw [he] at hf; cases hf; rfl
section
variable {prog : Program} {w : World} {A : Around} {E : Value → Shared → Prop} {h : Heap} {g : Array GenState} {d : Drawn} {tk0 : Nat} {os : OsState}
theorem get_message {x t D : Addr} {v tb : Value} {Q : Value → Shared → Prop} (X : (KF P).In h) (hx : h.get? x = some (recE t D tb)) (n : h.Ns D (msg v)) (hv : handedIn v = true) (hq : ∀ tk, Q v ⟨h, g, d, tk, os⟩) :
    wpAny (model prog w) A (getAttr (.ref x) "message" true) Q E ⟨h, g, d, tk0, os⟩ := by
  obtain ⟨od, hD, hl⟩ := look_msg n
  have I : InstAt h x (recE t D tb) 44 (some od) := ⟨hx, rfl, rfl, hD⟩
  have L1 : Looks (model prog w) h (typeLookup (.ref 44) "__getattribute__") (some (.builtin "BaseException.__getattribute__")) := looks_findIn X rfl
  have L2 : Looks (model prog w) h (typeLookup (.ref 44) "__getattr__") none := looks_findIn X rfl
  have L3 : Looks (model prog w) h (typeOf (.ref x)) (.ref 44) := I.type
  have L4 : Looks (model prog w) h (isInstance (.ref x) (.type "BaseException")) true := I.type.andThen (looks_mroIn X (C := 44) rfl)
  have ef : findObj (KF P) 44 (some od) "message" = some (.value v) := by
    have e1 : findObj (KF P) 44 (some od) "message" = (lookIn "message" od).bind fun own => match own with
      | some v => some (.value v)
      | none => some .missing := rfl
    rw [e1, hl]; rfl
  have L5 : Looks (model prog w) h (find (.ref x) (.ref 44) "message") (.value v) := looks_find X I ef
  have f3 := PySem.F.attrBase_Exception.ga.bind (.ref x)
  have hx0 : (true && onTheHeap (Value.builtin "BaseException.__getattribute__")) = false := rfl
  have hx2 : (Value.builtin "BaseException.__getattribute__" == Value.builtin "object.__getattribute__") = false := by decide +kernel
  have hx1 : (onTheHeap (Value.ref 44) && Value.builtin "BaseException.__getattribute__" == Value.builtin "object.__getattribute__") = false := by rw [hx2]; rfl
  unfold getAttr getAttrBy
  repeat (any_goals (first | assumption | with_reducible refine L1.at ?_ | with_reducible refine L2.at ?_ | with_reducible refine L3.at ?_ | wp_step))
  refine codeAny_call_builtin PySem.F.attrBase_Exception.ga.plain PySem.F.entry_bexc_ga (@check_slot (model prog w) _ _ ⟨h, g, d, tk0 + 1, os⟩ "BaseException.__getattribute__" "BaseException" "__getattribute__" (.ref x) [.str "message" tk0] [] _ (by decide +kernel) (by decide +kernel) L4 (PySem.F.args_bexc_ga _ _) ?_)
  unfold Builtin.«object.__getattribute__»
  repeat (any_goals (first | assumption | with_reducible refine L3.at ?_ | with_reducible refine L5.at ?_ | wp_step))
  show wpAny _ _ (handedOut v) _ _ _
  rw [handedOut_of hv]
  exact wpAny_pure (hq _)
end
end Mine
end
noncomputable section
open PySem PySem.W PySem.Calls PyProof.Rows PySem.Spec Builtin.ObjectAttr
namespace Mine
variable {P : Params} {G : Gx}
theorem sqrt_ex : ∀ n : Nat, ∃ r : Int, 0 ≤ r ∧ r * r ≤ n ∧ (n : Int) < (r + 1) * (r + 1)
  | 0 => ⟨0, by decide, by decide, by decide⟩
  | n + 1 => by
    obtain ⟨r, h0, h1, h2⟩ := sqrt_ex n
    by_cases h : (n : Int) + 1 < (r + 1) * (r + 1)
    · exact ⟨r, h0, by omega, by omega⟩
    · refine ⟨r + 1, by omega, by omega, ?_⟩
      have : (r + 1 + 1) * (r + 1 + 1) = (r + 1) * (r + 1) + (r + 1) + (r + 1) + 1 := by
        rw [Int.add_mul, Int.mul_add (r + 1), Int.mul_one, Int.one_mul]; omega
      rw [this]; omega
theorem no_sq {a r : Int} (h : a % 4 = 2) : ¬ r * r = a := by
  rintro rfl
  rw [Int.mul_emod] at h
  have : r % 4 = 0 ∨ r % 4 = 1 ∨ r % 4 = 2 ∨ r % 4 = 3 := by omega
  rcases this with e | e | e | e <;> rw [e] at h <;> exact absurd h (by decide)
theorem none_under {q h : Heap} {x : Addr} (k : ∀ b o, q.get? b = some o → h.get? b = some o) (e : h.get? x = none) : q.get? x = none := by
  cases z : q.get? x with
  | none => rfl
  | some o => rw [k _ _ z] at e; cases e
theorem root_four (hK : G.K = KF P) {C : Cx G} {xs : List Int} {a r : Int} (hs : C.scope = scOf (st 23)) (hk : C.k = 2) (ha : 0 < a) (ma : Md a) (h0 : 0 ≤ r) (h1 : r * r ≤ a) (h2 : a < (r + 1) * (r + 1)) :
    EX C ((bdOf (st 23)).take 4) [(("x" : Str), rat a 1)] xs (fun f m' ys => f = .next ∧ ys = xs ∧ SubM [(("d" : Str), .int 1), (("n" : Str), .int r), (("x" : Str), rat a 1)] m') := by
  refine ((wp hs (uok hK) 60).ex _ _ _ _).2 ?_
  refine callK (is_na_ok hK _ _) (kle hk (by decide)) (ifDF (by omega) (ifD (fun h => ?_) fun _ => ?_))
  · omega
  refine ifDF (by omega) (callK (isqrt_ok hK ma h0 h1 h2) (kle hk (by decide)) (callK (isqrt_ok (r := 1) hK (md_of (by decide)) (by decide) (by decide) (by decide)) (kle hk (by decide)) ?_))
  exact ⟨rfl, rfl, rfl, rfl, rfl, trivial⟩
theorem root_raises (hK : G.K = KF P) {A : Around} {env0 : Env} {L0 : Addr} {m0 : Str → Option Value} {s : Shared} {vs : List Value} {a : Int} {xs : List Int} {Q : Value → Shared → Prop} {E : Value → Shared → Prop} (ha : 0 < a) (h4 : a % 4 = 2) (ma : Md a)
    (hh : A.handled = none) (hd : A.depth + 10 < recursionLimit) (hu : A.units + 200 < cLine) (hfr : A.frames = some [env0]) (hf0 : env0.frame = some L0) (k0 : env0.scope.kind ≠ .module)
    (n0 : s.heap.Ns L0 m0) (l0 : G.b0.get? L0 = none) (hb : ∀ b o, G.b0.get? b = some o → s.heap.get? b = some o) (tp : Tape G.R s.heap xs) (rp : RepAll G.R s.heap vs [rat a 1])
    (hE : ∀ h' tk x D tz, Fly G.b0 h' L0 m0 x D (.str "result is not exact" tz) .none → E (.ref x) { s with heap := h', toks := tk }) :
    wpAny (model G.prog G.w) A (call (.ref 155) vs) Q E s := by
  obtain ⟨v, rfl⟩ := len1 (show vs.length = 1 from rp.length)
  refine fn_enter' (ps := [("x" : Str)]) hK rfl rfl rfl rfl (by omega) hb fun h₁ hn₁ hk₁ => ?_
  let C1 : Cx G := { L := s.heap.objs.size, A := A.deeper (envOf "root" (scOf (st 23)) s.heap.objs.size 155 (.ref 154)), k := 2, qual := "root", scope := scOf (st 23), fa := 155, cd := .ref 154, hh := hh, dep := (by show A.depth + 1 + 2 < recursionLimit; omega), un := (by show A.units + 3 + 10 * 2 + 100 < cLine; omega), rl := Nat.ne_of_lt tp.lt, l0 := b0_size hb, fk := rfl }
  have st0 : St C1 [(("x" : Str), rat a 1)] xs { s with heap := h₁, toks := s.toks + 1 } := by
    refine ⟨⟨_, ⟨hn₁, fun b o e => hk₁ b o (hb b o e)⟩, fun x d e => ?_⟩, tp.keeps hk₁⟩
    unfold lk at e
    split at e
    · rename_i hx
      cases e
      subst hx
      exact ⟨⟨rfl, rfl⟩, v, rfl, (Kp.of hk₁).rep rp.1⟩
    · cases e
  obtain ⟨r, r0, r1, r2⟩ := sqrt_ex a.toNat
  rw [Int.toNat_of_nonneg (Int.le_of_lt ha)] at r1 r2
  refine wpAny_execs_app (l := (bdOf (st 23)).take 4) (rest := (bdOf (st 23)).drop 4) (wpAny_mono (root_four (C := C1) hK rfl rfl ha ma r0 r1 r2 _ st0) ?_ fun _ _ x => x.elim)
  rintro f s4 ⟨fl, m4, xs4, rf, st4, c4, rfl, rfl, sm⟩
  obtain rfl : f = .next := rf
  have st4 := st4.sub sm
  refine wpAny_execs_cons (wpAny_If (wpAny_mono ((show TR C1 _ _ _ (fun b ys => b = true) from ((wp rfl (uok hK) 60).tr _ _ _ _).2 ?_) s4 st4) ?_ fun _ _ x => x.elim))
  · have sr : Sm r := sm_le ma r0 (by
      have : r * 1 ≤ r * r ∨ r = 0 := by
        by_cases q : r = 0
        · exact .inr q
        · exact .inl (Int.mul_le_mul_of_nonneg_left (by omega) r0)
      omega)
    exact ⟨⟨sr, sr⟩, ifNT (no_sq h4) rfl⟩
  rintro b s5 ⟨xs5, st5, c5, rfl⟩
  obtain ⟨⟨h5, tk5, rfl⟩, q5⟩ := c4.trans c5
  refine wpAny_execs_cons (Raise_R (G := G) (C := C1) hK rfl (by show A.depth + 1 + 5 < recursionLimit; omega) st5 fun h' tk x t D tz e1 e2 e3 e4 e5 e6 => ?_)
  obtain ⟨mv, F, _⟩ := id st5.fr
  obtain ⟨o0, g0, d0⟩ := ns_frame n0
  have ne1 : L0 ≠ C1.L := Nat.ne_of_lt (Heap.lt_size g0)
  have ne2 : L0 ≠ G.R := fun q => by
    obtain ⟨vs, n, z, _⟩ := tp
    obtain ⟨o, es, ep, y1, y2, _⟩ := n0
    rw [q, z] at y1; cases y1; cases y2
  refine leave_first (q := G.b0) (env0 := env0) (L0 := L0) (L1 := C1.L) (m0 := m0) (m1 := mv) (A := C1.A) (t := t) (D := D) (env1 := C1.env) (Around.frames_deeper hfr) rfl hf0 (show ScopeKind.function ≠ ScopeKind.module by decide) k0 (F.ns.keeps e6) ?_ e1 ?_ e3 e2 (fun b o e => e6 b o (F.keep b o e)) C1.l0 l0 fun h2 y2 => hE h2 tk x D tz y2
  · exact ns_same n0 ((e6 _ _ (q5 _ _ (hk₁ _ _ g0) ne2 ne1)).trans g0.symm)
  · exact none_under F.keep e4
end Mine
end
noncomputable section
open PySem PySem.W PySem.Calls PyProof.Rows PySem.Spec Builtin.ObjectAttr
namespace Mine
variable {P : Params} {G : Gx}
theorem ns_uniq {h : Heap} {D : Addr} {m m' : Str → Option Value} (a : h.Ns D m) (b : h.Ns D m') (y : Str) : m y = m' y := by
  obtain ⟨o, es, ep, e, d, k, f⟩ := a
  obtain ⟨o', es', ep', e', d', k', f'⟩ := b
  rw [e] at e'; cases e'
  rw [d] at d'; cases d'
  exact (f y).symm.trans (f' y)
/-- what the handler leaves -/
def Fine (G : Gx) (s : Shared) (f : Flow) (s' : Shared) : Prop := f = .ret (.bool true) ∧ (∀ b o, G.b0.get? b = some o → s'.heap.get? b = some o) ∧ ∃ h tk, s' = { s with heap := h, toks := tk }
def hdl : List Stmt → List ExceptHandler
  | .Try _ hs _ _ _ :: _ => hs
  | _ => []
abbrev tryB : List Stmt := ifOf ((ifOf ((bdOf (st 45)).drop 9)).drop 3)
theorem handle_ok (hK : G.K = KF P) {C : Cx G} {s : Shared} {mv : Str → Option Value} {x D : Addr} {tz : Tok} {u : Value} (hs : C.scope = scOf (st 45)) (hx : mv "x" = some u) (y : Fly G.b0 s.heap C.L mv x D (.str "result is not exact" tz) .none) :
    wpAny (model G.prog G.w) C.A (handleBy (.ref x) C.env (hdl tryB)) (Fine G s) (fun _ _ => False) s := by
  have DL : D ≠ C.L := fun q => by
    have := ns_uniq (q ▸ y.ns) y.fr "x"
    rw [hx] at this; cases this
  refine wpAny_handleBy_cons (codeAny_handlers_test ?_) (by intro q; cases q)
  have F : Fm G.b0 C.L s.heap mv := ⟨y.fr, y.old⟩
  refine F.glob (v := .ref 44) G.g (mg_of G.inK G.g (by rw [hK]; exact rfl)) ?_ C.fk (show C.scope.names.lookup ("Refusal" : Str) = some .globalImplicit by rw [hs]; rfl) rfl
  have X : (KF P).In s.heap := hK ▸ G.inK.keeps y.old
  obtain ⟨⟨t, T, ts, e1, e2, e3, e4, e5⟩, _⟩ := id y
  refine wpAny_excMatches_sub_self (X 44 _ r44) e1 rfl rfl ?_
  refine codeAny_handlers_suite_as (Fly.land y fun h2 y2 => ?_)
  obtain ⟨⟨t2, T2, ts2, g1, g2, g3, g4, g5⟩, _⟩ := id y2
  have lx : C.scope.names.lookup ("error" : Str) = some .local := by rw [hs]; rfl
  refine wpAny_storeName_local lx y2.fr (fun h3 hn hs3 => ?_) (by show (C.scope.kind == .class || (C.scope.kind == .module && C.L != mainGlobals)) = false; rw [C.fk]; rfl)
  have b3 : ∀ b o, G.b0.get? b = some o → h3.get? b = some o := fun b o e => hs3.extBut b o (fun (q : b = C.L) => by rw [q, C.l0] at e; cases e) (y2.old b o e)
  have F3 : Fm G.b0 C.L h3 _ := ⟨hn, b3⟩
  have xL : x ≠ C.L := (ns_notRec y2.fr g1 rfl).symm
  refine wpAny_execs_cons (wpAny_Return_some (wpAny_Compare1 (Attribute_name (F3.ld (v := .ref x) rfl (get_message (P := P) (hK ▸ G.inK.keeps b3) ((hs3.2 x xL).trans g1) (ns_same y2.ns (hs3.2 D DL)) rfl fun tk => Constant_str (PyProof.Rows.eq_str ?_)) C.fk lx rfl))))
  refine wpAny_nameGoes lx hn (by show (C.scope.kind == .class || (C.scope.kind == .module && C.L != mainGlobals)) = false; rw [C.fk]; rfl) fun h4 m4 hn4 hs4 => ?_
  exact ⟨by simp, fun b o e => hs4.extBut b o (fun (q : b = C.L) => by rw [q, C.l0] at e; cases e) (b3 b o e), _, _, rfl⟩
end Mine
end
noncomputable section
open PySem PySem.W PySem.Calls PyProof.Rows PySem.Spec Builtin.ObjectAttr
namespace Mine
variable {P : Params} {G : Gx}
theorem Fine.on {s : Shared} {h : Heap} {tk : Nat} {f : Flow} {s' : Shared} (x : Fine G { s with heap := h, toks := tk } f s') : Fine G s f s' := by
  obtain ⟨a, b, h, tk, c⟩ := x
  exact ⟨a, b, h, tk, c⟩
theorem fine_of {C : Cx G} {b : List Stmt} {m : M} {xs : List Int} {s : Shared} (h : EX C b m xs fun fl _ _ => fl = .ret (.bool true)) (st : St C m xs s) : wpAny (model G.prog G.w) C.A (execs b C.env) (Fine G s) (fun _ _ => False) s := by
  refine wpAny_mono (h s st) ?_ fun _ _ x => x
  rintro f s' ⟨fl, m', xs', rf, st', c, rfl⟩
  obtain ⟨v, rfl, rv⟩ := rf
  obtain rfl : v = .bool true := rv
  exact ⟨rfl, st'.base, c.1⟩
theorem ex_app {C : Cx G} {l rest : List Stmt} {m : M} {xs : List Int} {s : Shared} {m' : M} {xs' : List Int} {Q : Flow → Shared → Prop} (h : EX C l m xs fun fl m1 ys => fl = .next ∧ ys = xs' ∧ SubM m' m1) (st : St C m xs s) (k : ∀ h' tk', St C m' xs' { s with heap := h', toks := tk' } → wpAny (model G.prog G.w) C.A (execs rest C.env) Q (fun _ _ => False) { s with heap := h', toks := tk' }) : wpAny (model G.prog G.w) C.A (execs (l ++ rest) C.env) Q (fun _ _ => False) s := by
  refine wpAny_execs_app (wpAny_mono (h s st) ?_ fun _ _ x => x.elim)
  rintro f s' ⟨fl, m1, xs1, rf, st', c, rfl, rfl, sm⟩
  obtain rfl : f = .next := rf
  obtain ⟨⟨h', tk', rfl⟩, _⟩ := c
  exact k _ _ (st'.sub sm)
theorem inter {C : Cx G} : interactive C.env = false := by
  unfold interactive
  rw [show C.env.scope.kind = .function from C.fk]; rfl
theorem try_ok (hK : G.K = KF P) {C : Cx G} {m : M} {xs : List Int} {a : Int} {s : Shared} (hs : C.scope = scOf (st 45)) (hk : C.k = 4) (hfr : C.A.frames = some [C.env]) (hd : C.A.depth + 12 < recursionLimit) (hu : C.A.units + 250 < cLine) (ma : Md a) (h4 : a % 4 = 2) (hx : lk ("x" : Str) m = some (rat a 1)) (st : St C m xs s) :
    wpAny (model G.prog G.w) C.A (execs tryB C.env) (Fine G s) (fun _ _ => False) s := by
  have st := st.sub (m' := [(("x" : Str), rat a 1)]) ⟨hx, trivial⟩
  by_cases ha : a < 0
  · refine wpAny_execs_cons (wpAny_Try_except (wpAny_execs_cons (wpAny_Expr_any (hi := inter) (wpAny_mono ((show EV C _ [(("x" : Str), rat a 1)] xs (fun d ys => ys = xs) from ((wp hs (uok hK) 60).ev _ _ _ _).2 ?_) s st) ?_ fun _ _ x => x.elim))))
    · exact callK (root_neg hK ha) (kle hk (by decide)) rfl
    rintro v s' ⟨d, ys, r, st', c, rfl⟩
    refine wpAny_execs_nil (wpAny_execs_nil ?_)
    obtain ⟨⟨h', tk', rfl⟩, _⟩ := c
    refine wpAny_mono (fine_of (((wp hs (uok hK) 60).ex _ _ _ _).2 ?_) st') (fun _ _ x => x.on) fun _ _ x => x
    exact congrArg (fun b => Fl.ret (.bool b)) (decide_eq_true ha)
  · have ha : 0 < a := by omega
    refine wpAny_execs_cons (wpAny_Try_except (wpAny_execs_cons (wpAny_Expr_any (hi := inter) (Call_ ?_))))
    obtain ⟨mv, F, hm⟩ := id st.fr
    obtain ⟨⟨hl, hdb⟩, v, hv, rv⟩ := hm _ _ (show lk ("x" : Str) [(("x" : Str), rat a 1)] = some (rat a 1) from rfl)
    refine F.glob (v := .ref 155) G.g (mg_of G.inK G.g (by rw [hK]; exact rfl)) ?_ C.fk (show C.scope.names.lookup ("root" : Str) = some .globalImplicit by rw [hs]; rfl) rfl
    have keep : keepIn G.K (.ref 155) = true := by rw [hK]; rfl
    refine callWith_K (first := []) G.inK keep (spliced_more (F.ld hv ?_ C.fk hl hdb) (starEach_cons trivial)) (starEach_cons trivial) rfl
    refine spliced_none ⟨G.inK.keeps st.base, ?_⟩
    have k0 : C.env.scope.kind ≠ .module := by rw [show C.env.scope.kind = .function from C.fk]; decide
    refine root_raises hK ha h4 ma C.hh (by omega) (by omega) hfr rfl k0 F.ns C.l0 F.keep st.tape ⟨rv, trivial⟩ fun h' tk x D tz y => ?_
    refine note_next hfr rfl k0 C.l0 y fun h2 y2 => Fly.land y2 fun h3 y3 => ?_
    refine wpAny_mono (handle_ok hK hs hv y3) ?_ fun _ _ x => x
    rintro f s' ⟨rfl, b, h, tk, rfl⟩
    exact ⟨rfl, b, h, tk, rfl⟩
theorem ret_true (hK : G.K = KF P) {C : Cx G} {m : M} {xs : List Int} {s : Shared} (hs : C.scope = scOf (st 45)) (st : St C m xs s) : wpAny (model G.prog G.w) C.A (execs ((bdOf (Mine.st 45)).drop 10) C.env) (Fine G s) (fun _ _ => False) s :=
  fine_of (((wp hs (uok hK) 60).ex _ _ _ _).2 (show Fl.ret (.bool true) = .ret (.bool true) from rfl)) st
theorem tail_ok (hK : G.K = KF P) {C : Cx G} {x y z : V} {n : Int} {xs : List Int} {s : Shared} (hs : C.scope = scOf (st 45)) (hk : C.k = 4) (hfr : C.A.frames = some [C.env]) (hd : C.A.depth + 12 < recursionLimit) (hu : C.A.units + 250 < cLine) (hx : x.Lo) (hy : y.Lo) (hz : z.Lo) (st : St C (mF (x.isFin && y.isFin && z.isFin) n x.d y.d z.d) xs s) :
    wpAny (model G.prog G.w) C.A (execs ((bdOf (Mine.st 45)).drop 9) C.env) (Fine G s) (fun _ _ => False) s := by
  refine wpAny_execs_cons (wpAny_If (wpAny_mono ((show TR C _ _ _ (fun b ys => b = (x.isFin && y.isFin && z.isFin)) from ((wp hs (uok hK) 60).tr _ _ _ _).2 ?_) s st) ?_ fun _ _ x => x.elim))
  · exact rfl
  rintro b s' ⟨ys, st', c, rfl⟩
  obtain ⟨⟨h', tk', rfl⟩, _⟩ := c
  have off : ∀ {m : M} {ys : List Int} {h' : Heap} {tk' : Nat}, St C m ys { s with heap := h', toks := tk' } → wpAny (model G.prog G.w) C.A (execs ((bdOf (Mine.st 45)).drop 10) C.env) (Fine G s) (fun _ _ => False) { s with heap := h', toks := tk' } := fun st' => wpAny_mono (ret_true hK hs st') (fun _ _ x => x.on) fun _ _ x => x
  by_cases hf : (x.isFin && y.isFin && z.isFin) = true
  · obtain ⟨p, rfl⟩ : ∃ p, x = .fin p := by
      cases x with
      | fin p => exact ⟨p, rfl⟩
      | _ => exact absurd hf (by simp [V.isFin])
    obtain ⟨q, rfl⟩ : ∃ p, y = .fin p := by
      cases y with
      | fin p => exact ⟨p, rfl⟩
      | _ => exact absurd hf (by simp [V.isFin])
    obtain ⟨r, rfl⟩ : ∃ p, z = .fin p := by
      cases z with
      | fin p => exact ⟨p, rfl⟩
      | _ => exact absurd hf (by simp [V.isFin])
    refine ex_app (l := (ifOf ((bdOf (Mine.st 45)).drop 9)).take 3) (rest := (ifOf ((bdOf (Mine.st 45)).drop 9)).drop 3) (m' := mF true n (ofR p) (ofR q) (ofR r)) (laws_ok hK hs hk hx hy hz ⟨rfl, rfl, rfl, rfl, rfl, rfl, rfl, trivial⟩) st' fun h2 tk2 st2 => ?_
    refine wpAny_execs_cons (wpAny_If (wpAny_mono ((show TR C _ _ _ (fun b ys => b = true → (p.den : Int) = 1 ∧ p.num % 4 = 2) from ((wp hs (uok hK) 60).tr _ _ _ _).2 ?_) _ st2) ?_ fun _ _ x => x.elim))
    · refine ifD (fun h => ?_) fun h => ?_
      · refine ⟨by decide, ifD (fun k => ?_) fun k => ?_⟩
        · rw [fmod_pos (by decide)] at k
          exact fun _ => ⟨h, k⟩
        · exact fun k => nomatch k
      · exact fun k => nomatch k
    rintro b s' ⟨ys, st', c, hb⟩
    obtain ⟨⟨h', tk', rfl⟩, _⟩ := c
    cases b with
    | false => exact wpAny_execs_nil (wpAny_execs_nil (off st'))
    | true =>
      obtain ⟨h1, h2⟩ := hb rfl
      refine wpAny_mono (try_ok hK hs hk hfr hd hu hx.md.1 h2 (by rw [← h1]; rfl) st') ?_ fun _ _ x => x
      rintro f s' ⟨rfl, b, h, tk, rfl⟩
      exact ⟨rfl, b, h, tk, rfl⟩
  · rw [eq_false_of_ne_true hf]
    exact wpAny_execs_nil (off st')
end Mine
end
noncomputable section
open PySem PySem.W PySem.Calls PyProof.Rows PySem.Spec Builtin.ObjectAttr
namespace Mine
variable {P : Params} {G : Gx}
def V.q : V → Q2
  | .none => Option.none
  | .nan => some (0, 0)
  | .inf true => some (1, 0)
  | .inf false => some (-1, 0)
  | .fin q => some (q.num, q.den)
theorem V.dq : ∀ v : V, v.d = ofQ v.q
  | .none => rfl
  | .nan => rfl
  | .inf true => rfl
  | .inf false => rfl
  | .fin q => rfl
theorem V.okq : ∀ {v : V}, v.Lo → OkQ v.q
  | .none, _ => trivial
  | .nan, _ => ⟨.inr ⟨rfl, .inr (.inr rfl)⟩, md_of (by decide), md_of (by decide)⟩
  | .inf true, _ => ⟨.inr ⟨rfl, .inl rfl⟩, md_of (by decide), md_of (by decide)⟩
  | .inf false, _ => ⟨.inr ⟨rfl, .inr (.inl rfl)⟩, md_of (by decide), md_of (by decide)⟩
  | .fin q, h => ⟨.inl (den_pos q), h.md.1, h.md.2⟩
abbrev mX (n : Int) (x y z : D) : M := [(("n" : Str), .int n), (("z" : Str), z), (("y" : Str), y), (("x" : Str), x)]
section
variable {C : Cx G} {xs : List Int}
theorem pair_V (hK : G.K = KF P) {m : M} {x y : V} {Q : Fl → M → List Int → Prop} (hs : C.scope = scOf (st 45)) (hk : C.k = 4) (hx : x.Lo) (hy : y.Lo) (k : ∀ d, Q .next (("minus", d) :: ("two", y.d) :: ("one", x.d) :: m) xs) :
    EX C (forOf ((bdOf (st 45)).drop 5)) ((("two" : Str), y.d) :: (("one" : Str), x.d) :: m) xs Q := by
  rw [V.dq x, V.dq y] at k ⊢
  exact pair_turn hK hs hk (V.okq hx) (V.okq hy) k
theorem four_ok (hK : G.K = KF P) (hs : C.scope = scOf (st 45)) (hk : C.k = 4) (g : Good xs) : ∃ (x y z : V) (n : Int) (xs' : List Int), x.Lo ∧ y.Lo ∧ z.Lo ∧ n.natAbs ≤ 4 ∧
    EX C (((bdOf (st 45)).drop 1).take 4) [(("row" : Str), .row)] xs (fun fl m1 ys => fl = .next ∧ ys = xs' ∧ SubM (mX n x.d y.d z.d) m1) := by
  obtain ⟨x, xs1, hx, g1, e1⟩ := double_ok hK g
  obtain ⟨y, xs2, hy, g2, e2⟩ := double_ok hK g1
  obtain ⟨z, xs3, hz, g3, e3⟩ := double_ok hK g2
  refine ⟨x, y, z, top xs3 % 9 - 4, xs3.dropLast, hx, hy, hz, by omega, ?_⟩
  refine ((wp hs (uok hK) 60).ex _ _ _ _).2 ?_
  refine callK e1 (kle hk (by decide)) (callK e2 (kle hk (by decide)) (callK e3 (kle hk (by decide)) (callK (next_ok hK g3) (kle hk (by decide)) ⟨by decide, ?_⟩)))
  rw [fmod_pos (by decide)]
  exact ⟨rfl, rfl, rfl, rfl, rfl, rfl, trivial⟩
theorem pairs_ok (hK : G.K = KF P) (hs : C.scope = scOf (st 45)) (hk : C.k = 4) {x y z : V} {n : Int} (hx : x.Lo) (hy : y.Lo) (hz : z.Lo) :
    EX C (((bdOf (st 45)).drop 5).take 1) (mX n x.d y.d z.d) xs (fun fl m1 ys => fl = .next ∧ ys = xs ∧ SubM (mX n x.d y.d z.d) m1) := by
  refine EX_for (asg2 ⟨by rw [hs]; rfl, rfl⟩ ⟨by rw [hs]; rfl, rfl⟩) (fun I ax i a v s' P E hi hr hb hp => go2 hi hr hb hp) (fun _ _ => rfl) (((wp hs (uok hK) 60).ev _ _ _ _).2 ?_)
  refine ⟨Nat.le_of_ble_eq_true rfl, [.pair x.d y.d, .pair y.d x.d, .pair x.d x.d, .pair x.d z.d], rfl, fun _ => mX n x.d y.d z.d, fun _ => xs, ⟨rfl, rfl, rfl, rfl, trivial⟩, rfl, fun i a hi => ?_, EX_nil ⟨rfl, rfl, rfl, rfl, rfl, rfl, trivial⟩⟩
  rcases i with _ | _ | _ | _ | i <;> cases hi
  · exact pair_V hK hs hk hx hy fun d => ⟨rfl, rfl, rfl, rfl, rfl, trivial⟩
  · exact pair_V hK hs hk hy hx fun d => ⟨rfl, rfl, rfl, rfl, rfl, trivial⟩
  · exact pair_V hK hs hk hx hx fun d => ⟨rfl, rfl, rfl, rfl, rfl, trivial⟩
  · exact pair_V hK hs hk hx hz fun d => ⟨rfl, rfl, rfl, rfl, rfl, trivial⟩
theorem ones_ok (hK : G.K = KF P) (hs : C.scope = scOf (st 45)) (hk : C.k = 4) {x y z : V} {n : Int} (hx : x.Lo) (hy : y.Lo) (hz : z.Lo) (hn : n.natAbs ≤ 4) :
    EX C (((bdOf (st 45)).drop 6).take 2) (mX n x.d y.d z.d) xs (fun fl m1 ys => fl = .next ∧ ys = xs ∧ SubM (mF (x.isFin && y.isFin && z.isFin) n x.d y.d z.d) m1) := by
  refine asg_val (d := .bool true) ⟨by rw [hs]; rfl, rfl⟩ (((wp hs (uok hK) 60).ev _ _ _ _).2 ⟨rfl, rfl⟩) (fun _ => rfl) ?_
  refine EX_for (asg1 ⟨by rw [hs]; rfl, rfl⟩) (fun I ax i a v s' P E _ _ _ hp => wpAny_pure hp) (fun _ _ => rfl) (((wp hs (uok hK) 60).ev _ _ _ _).2 ?_)
  refine ⟨Nat.le_of_ble_eq_true rfl, [x.d, y.d, z.d], rfl, fun i => mF (match i with | 0 => true | 1 => x.isFin | 2 => x.isFin && y.isFin | _ => x.isFin && y.isFin && z.isFin) n x.d y.d z.d, fun _ => xs, ⟨rfl, rfl, rfl, rfl, rfl, trivial⟩, rfl, fun i a hi => ?_, EX_nil ⟨rfl, rfl, rfl, rfl, rfl, rfl, rfl, trivial⟩⟩
  rcases i with _ | _ | _ | i <;> cases hi
  · exact one_turn hK hx hs hk hn fun m' h => ⟨rfl, h⟩
  · exact one_turn hK hy hs hk hn fun m' h => ⟨rfl, h⟩
  · exact one_turn hK hz hs hk hn fun m' h => ⟨rfl, h⟩
end
theorem law_ok (hK : G.K = KF P) {A : Around} {s : Shared} {L fa a : Addr} {cd : Value} {name : Str} {mv : Str → Option Value} {vs : List Value} {ns : List Int} (hh : A.handled = none) (hd : A.depth + 14 < recursionLimit) (hu : A.units + 300 < cLine)
    (hfr : A.frames = some [envOf name (scOf (st 45)) L fa cd]) (F : Fm G.b0 L s.heap mv) (hv : mv "script" = some (.ref a)) (l0 : G.b0.get? L = none) (hl : s.heap.IsList a vs.toArray) (hI : IntsAre vs ns) (hn : ns.length ≤ 63) :
    wpAny (model G.prog G.w) A (execs (bdOf (st 45)) (envOf name (scOf (st 45)) L fa cd)) (Fine G s) (fun _ _ => False) s := by
  refine wpAny_execs_cons (wpAny_Assign_Name (Call_ ?_))
  refine F.glob (v := .ref 225) G.g (mg_of G.inK G.g (by rw [hK]; exact rfl)) ?_ rfl rfl rfl
  have keep : keepIn G.K (.ref 225) = true := by rw [hK]; rfl
  refine callWith_K (first := []) G.inK keep (spliced_more (F.ld hv ?_ rfl rfl rfl)) rfl rfl
  refine spliced_none ⟨G.inK.keeps F.keep, ?_⟩
  refine wpAny_mono (row_ok hK hh (by omega) (by omega) F.keep hl hI hn) ?_ fun _ _ x => x
  rintro v s1 ⟨R, ys, rfl, tp, gd, fresh, ⟨h1, tk1, rfl⟩, k1⟩
  have r0 := none_under F.keep fresh
  obtain ⟨oL, gL, _⟩ := ns_frame F.ns
  have rl : R ≠ L := fun q => by rw [q, gL] at fresh; cases fresh
  let C : Cx (G.at R r0) := { L := L, A := A, k := 4, qual := name, scope := scOf (st 45), fa := fa, cd := cd, hh := hh, dep := (by omega), un := (by omega), rl := rl, l0 := l0, fk := rfl }
  have st0 : St C [] ys { s with heap := h1, toks := tk1 } := ⟨⟨mv, ⟨F.ns.keeps k1, fun b o e => k1 b o (F.keep b o e)⟩, fun _ _ e => nomatch e⟩, tp⟩
  refine store_ok (C := C) (x := ("row" : Str)) (d := .row) ⟨rfl, rfl⟩ st0 rfl fun s2 st2 c2 => ?_
  obtain ⟨⟨h2, tk2, rfl⟩, _⟩ := c2
  have hK2 : (G.at R r0).K = KF P := hK
  obtain ⟨x, y, z, n, xs', hx, hy, hz, hn, h4⟩ := four_ok (C := C) hK2 rfl rfl gd
  refine ex_app (C := C) (l := ((bdOf (st 45)).drop 1).take 4) (rest := (bdOf (st 45)).drop 5) h4 st2 fun h3 tk3 st3 => ?_
  refine ex_app (C := C) (l := ((bdOf (st 45)).drop 5).take 1) (rest := (bdOf (st 45)).drop 6) (pairs_ok hK2 rfl rfl hx hy hz) st3 fun h4 tk4 st4 => ?_
  refine ex_app (C := C) (l := ((bdOf (st 45)).drop 6).take 2) (rest := (bdOf (st 45)).drop 8) (ones_ok hK2 rfl rfl hx hy hz hn) st4 fun h5 tk5 st5 => ?_
  refine ex_app (C := C) (l := ((bdOf (st 45)).drop 8).take 1) (rest := (bdOf (st 45)).drop 9) (m' := mF (x.isFin && y.isFin && z.isFin) n x.d y.d z.d) (ask_ok hK2 rfl rfl ⟨rfl, rfl, rfl, rfl, rfl, rfl, rfl, trivial⟩) st5 fun h6 tk6 st6 => ?_
  refine wpAny_mono (tail_ok hK2 rfl rfl hfr (by show A.depth + 12 < _; omega) (by show A.units + 250 < _; omega) hx hy hz st6) ?_ fun _ _ x => x
  rintro f s' ⟨rfl, b, h, tk, rfl⟩
  exact ⟨rfl, b, h, tk, rfl⟩
end Mine
end
noncomputable section
open PySem PySem.W PySem.Calls PyProof.Rows PySem.Challenge
namespace Mine
theorem fin : rw_nz0475_01.Holds := head (by
  intro w s₀ s₁ mg mb G Y fa o pm cd doc dV kV ho hd hcd hD hmg hg args vals as hpre hlay hrd hwl hlo
  have KX := kIn_of Y
  k_behind G ho hd hcd hD hmg hpre hlay hrd hwl hlo cd
  rename Top _ _ _ _ _ _ => T
  rename Fr _ _ _ _ => F
  rename Heap.IsList _ _ _ => hL
  rename IntsAre _ _ => hI
  rename ¬ _ => hc
  let g1 : Gx := { prog := rw_nz0475_01.row.prog, w := w, K := KF w.params, b0 := s₁.heap, R := s₁.heap.objs.size, mg := mg, mb := mb, inK := KX, g := T.g, b := T.b, bt := T.builtins, lim := T.nolimit, r0 := get_size }
  refine wpAny_mono (law_ok (G := g1) (P := w.params) rfl rfl (show 301 + 1 + 14 < 1000 by decide) (show 4 + 3 + 300 < 9900 by decide) rfl ⟨F.ns, F.keep⟩ rfl get_size (hL.at (F.keep _)) hI (by omega)) ?_ fun _ _ x => x.elim
  rintro f s' ⟨rfl, k, h, tk, rfl⟩
  exact ⟨.inl ⟨_, .bool true, [], rfl, raisesW_false (by wrow_none_raised), .bool true, by wrow_post, unshared_nil⟩, k, rfl, hg⟩)
end Mine
end
theorem PySem.Challenge.cw_nz0475_01_holds : PySem.Challenge.rw_nz0475_01.Holds :=
  Mine.fin
