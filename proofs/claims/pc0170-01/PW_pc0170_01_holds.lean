import PyProof.Rows.All
import Wide.All
import OpenK.AllK
import Wide.FinOn
import PySem.Challenge.RW_pc0170_01
set_option Elab.async false
set_option compiler.extract_closed false
set_option maxRecDepth 100000
set_option maxHeartbeats 8000000
set_option linter.unusedSectionVars false
set_option linter.unusedVariables false
set_option linter.unusedSimpArgs false
namespace Mine
open PySem PySem.W PyProof.Rows PySem.Calls

inductive All2 {α β : Type} (R : α → β → Prop) : List α → List β → Prop
  | nil : All2 R [] []
  | cons {a : α} {b : β} {as : List α} {bs : List β} : R a b → All2 R as bs → All2 R (a :: as) (b :: bs)

theorem All2.mono {α β : Type} {R R' : α → β → Prop} (hR : ∀ a b, R a b → R' a b) {as : List α} {bs : List β} (h : All2 R as bs) : All2 R' as bs := by
  induction h with
  | nil => exact .nil
  | cons h _ ih => exact .cons (hR _ _ h) ih
theorem All2.length {α β : Type} {R : α → β → Prop} {as : List α} {bs : List β} (h : All2 R as bs) : as.length = bs.length := by
  induction h with
  | nil => rfl
  | cons _ _ ih => simp [ih]
theorem All2.append {α β : Type} {R : α → β → Prop} {as as' : List α} {bs bs' : List β} (h : All2 R as bs) (h' : All2 R as' bs') : All2 R (as ++ as') (bs ++ bs') := by
  induction h with
  | nil => exact h'
  | cons h _ ih => exact .cons h ih
theorem All2.get {α β : Type} {R : α → β → Prop} {as : List α} {bs : List β} (h : All2 R as bs) : ∀ (i : Nat) (a : α), as[i]? = some a → ∃ b, bs[i]? = some b ∧ R a b := by
  induction h with
  | nil => intro i a e; simp at e
  | cons h _ ih =>
    intro i a e
    cases i with
    | zero => simp at e; subst e; exact ⟨_, rfl, h⟩
    | succ i => simp at e; obtain ⟨b, hb, hr⟩ := ih i a e; exact ⟨b, by simpa using hb, hr⟩
theorem All2.getR {α β : Type} {R : α → β → Prop} {as : List α} {bs : List β} (h : All2 R as bs) : ∀ (i : Nat) (b : β), bs[i]? = some b → ∃ a, as[i]? = some a ∧ R a b := by
  induction h with
  | nil => intro i a e; simp at e
  | cons h _ ih =>
    intro i a e
    cases i with
    | zero => simp at e; subst e; exact ⟨_, rfl, h⟩
    | succ i => simp at e; obtain ⟨b, hb, hr⟩ := ih i a e; exact ⟨b, by simpa using hb, hr⟩

theorem and4 {a b c d G : Prop} (h : a ∧ b ∧ c ∧ d) (k : a → b → c → d → G) : G := k h.1 h.2.1 h.2.2.1 h.2.2.2
theorem and5 {a b c d e G : Prop} (h : a ∧ b ∧ c ∧ d ∧ e) (k : a → b → c → d → e → G) : G := k h.1 h.2.1 h.2.2.1 h.2.2.2.1 h.2.2.2.2
theorem and6 {a b c d e f G : Prop} (h : a ∧ b ∧ c ∧ d ∧ e ∧ f) (k : a → b → c → d → e → f → G) : G := k h.1 h.2.1 h.2.2.1 h.2.2.2.1 h.2.2.2.2.1 h.2.2.2.2.2
theorem and7 {a b c d e f g G : Prop} (h : a ∧ b ∧ c ∧ d ∧ e ∧ f ∧ g) (k : a → b → c → d → e → f → g → G) : G := k h.1 h.2.1 h.2.2.1 h.2.2.2.1 h.2.2.2.2.1 h.2.2.2.2.2.1 h.2.2.2.2.2.2
theorem ex3 {α β γ : Type} {p : α → β → γ → Prop} {G : Prop} (h : ∃ a b c, p a b c) (k : ∀ a b c, p a b c → G) : G := let ⟨a, b, c, h⟩ := h; k a b c h
theorem ex4 {α β γ δ : Type} {p : α → β → γ → δ → Prop} {G : Prop} (h : ∃ a b c d, p a b c d) (k : ∀ a b c d, p a b c d → G) : G := let ⟨a, b, c, d, h⟩ := h; k a b c d h
theorem ex5 {α β γ δ ε : Type} {p : α → β → γ → δ → ε → Prop} {G : Prop} (h : ∃ a b c d e, p a b c d e) (k : ∀ a b c d e, p a b c d e → G) : G := let ⟨a, b, c, d, e, h⟩ := h; k a b c d e h

/-- a value without its tokens; a ref is a name of ours, val a fixed value of the text's own (a def, a class, a built-in) -/
inductive MV (N : Type) where
  | none
  | bool (b : Bool)
  | int (i : Int)
  | str (s : Str)
  | ref (n : N)
  | val (v : Value)

abbrev Rho (N : Type) := N × Bool → Option Addr

inductive VR {N : Type} (ρ : Rho N) : MV N → Value → Prop
  | none : VR ρ .none .none
  | bool (b : Bool) : VR ρ (.bool b) (.bool b)
  | int (i : Int) (t : Tok) : VR ρ (.int i) (.int i t)
  | str (s : Str) (t : Tok) : VR ρ (.str s) (.str s t)
  | ref {n : N} {x : Addr} : ρ (n, false) = some x → VR ρ (.ref n) (.ref x)
  | val (v : Value) : handedIn v = true → VR ρ (.val v) v

inductive MO (N : Type) where
  | inst (C : Addr) (fs : List (Str × MV N))
  | list (vs : List (MV N))
  | idict (kvs : List (Int × MV N))
  | sdict (kvs : List (Str × MV N))
  | meth (f : Addr) (self : MV N)
  | cell (v : Option (MV N))
  | range (k : Int)
  | view (n : N)
  | clo (params : Arguments) (body : List Stmt) (scope : Scope) (cells : List (Str × N))

abbrev Sg (N : Type) := N → Option (MO N)
abbrev LF (N : Type) := List (Str × MV N)

section
variable {N : Type}

def FdR (ρ : Rho N) (p : Str × MV N) (e : DictEntry) : Prop := (∃ t, e.key = .str p.1 t) ∧ VR ρ p.2 e.val
def KVR {κ : Type} (ρ : Rho N) (p : κ × MV N) (q : κ × Value) : Prop := q.1 = p.1 ∧ VR ρ p.2 q.2
def CR (ρ : Rho N) (cells : List (Str × N)) (cl : List (Str × Addr)) : Prop := All2 (fun (p : Str × N) (q : Str × Addr) => q.1 = p.1 ∧ ρ (p.2, false) = some q.2) cells cl

inductive OVR (ρ : Rho N) : Option (MV N) → Option Value → Prop
  | nn : OVR ρ none none
  | ss {v : MV N} {u : Value} : VR ρ v u → OVR ρ (some v) (some u)
/-- the object of a name in the heap -/
def OR (prog : Program) (w : World) (ρ : Rho N) (h : Heap) (n : N) : MO N → Prop
  | .inst C fs => ∃ x dx es k, ρ (n, false) = some x ∧ ρ (n, true) = some dx ∧ h.get? x = some (instObj C dx) ∧ h.get? dx = some (dictOf es k) ∧ All2 (FdR ρ) fs es
  | .list vs => ∃ x us, ρ (n, false) = some x ∧ (∃ k, h.get? x = some (W.listOf us.toArray k)) ∧ All2 (VR ρ) vs us
  | .idict kvs => ∃ x us, ρ (n, false) = some x ∧ Heap.DictOf (intKind prog w) h x us ∧ All2 (KVR ρ) kvs us
  | .sdict kvs => ∃ x us, ρ (n, false) = some x ∧ Heap.DictOf (PySem.strKind prog w) h x us ∧ All2 (KVR ρ) kvs us
  | .meth f self => ∃ x v, ρ (n, false) = some x ∧ h.get? x = some (methodObj (.ref f) v) ∧ VR ρ self v
  | .cell v => ∃ x u, ρ (n, false) = some x ∧ h.IsCell x u ∧ OVR ρ v u
  | .range k => ∃ x t u v, ρ (n, false) = some x ∧ h.get? x = some { cls := .type "range", data := .fields #[.int 0 t, .int k u, .int 1 v] }
  | .view m => ∃ x y, ρ (n, false) = some x ∧ ρ (m, false) = some y ∧ h.get? x = some { cls := .type "dict_values", data := .fields #[.ref y] }
  | .clo params body scope cells => ∃ x o c oc vs t name qual cl doc pm an ct, ρ (n, false) = some x ∧ h.get? x = some o ∧ o.data = .func (fnX name qual params body scope cl .none .none doc pm an (.ref c) ct) ∧
      CR ρ cells cl ∧ ρ (n, true) = some c ∧ h.get? c = some oc ∧ oc.data = .fields vs ∧ vs[1]? = some (.str qual t)

structure Wd (prog : Program) (w : World) (hB : Heap) (ρ : Rho N) (σ : Sg N) (h : Heap) : Prop where
  inj : ∀ a b x, ρ a = some x → ρ b = some x → a = b
  off : ∀ a x, ρ a = some x → hB.get? x = none
  big : ∀ a x, ρ a = some x → hB.objs.size ≤ x
  live : ∀ a x, ρ a = some x → h.get? x ≠ none
  dom : ∀ n b x, ρ (n, b) = some x → σ n ≠ none
  obj : ∀ n o, σ n = some o → OR prog w ρ h n o

/-- from one moment to a later one; X: the frame that may turn -/
structure Sp (X : Option Addr) (ρ ρ' : Rho N) (h h' : Heap) : Prop where
  mono : ∀ a x, ρ a = some x → ρ' a = some x
  fresh : ∀ a x, ρ' a = some x → ρ a = some x ∨ h.get? x = none
  keep : ∀ a o, h.get? a = some o → X ≠ some a → (∀ n, ρ n ≠ some a) → h'.get? a = some o
  alive : ∀ a, h.get? a ≠ none → h'.get? a ≠ none

theorem Sp.refl (X : Option Addr) (ρ : Rho N) (h : Heap) : Sp X ρ ρ h h := ⟨fun _ _ e => e, fun _ _ e => .inl e, fun _ _ e _ _ => e, fun _ e => e⟩
theorem Sp.trans {X : Option Addr} {ρ ρ' ρ'' : Rho N} {h h' h'' : Heap} (a : Sp X ρ ρ' h h') (b : Sp X ρ' ρ'' h' h'') : Sp X ρ ρ'' h h'' where
  mono := fun x y e => b.mono _ _ (a.mono _ _ e)
  fresh := fun n x e => by
    rcases b.fresh n x e with e1 | e1
    · exact a.fresh n x e1
    · right
      cases q : h.get? x with
      | none => rfl
      | some o => exact absurd e1 (a.alive x (by rw [q]; simp))
  keep := fun x o e hX hn => b.keep x o (a.keep x o e hX hn) hX fun n q => by
    rcases a.fresh n x q with q | q
    · exact hn n q
    · rw [q] at e; cases e
  alive := fun x e => b.alive x (a.alive x e)
theorem Sp.weak {X : Option Addr} {ρ ρ' : Rho N} {h h' : Heap} (a : Sp none ρ ρ' h h') : Sp X ρ ρ' h h' := ⟨a.mono, a.fresh, fun x o e _ hn => a.keep x o e (by simp) hn, a.alive⟩

theorem VR.mono {ρ ρ' : Rho N} (h : ∀ a x, ρ a = some x → ρ' a = some x) {v : MV N} {u : Value} (r : VR ρ v u) : VR ρ' v u := by
  cases r with
  | none => exact .none
  | bool => exact .bool _
  | int => exact .int _ _
  | str => exact .str _ _
  | ref e => exact .ref (h _ _ e)
  | val _ e => exact .val _ e
theorem VR.handed {ρ : Rho N} {v : MV N} {u : Value} (r : VR ρ v u) : handedIn u = true := by
  cases r <;> first | rfl | assumption
theorem CR.mono {ρ ρ' : Rho N} (h : ∀ a x, ρ a = some x → ρ' a = some x) {cells : List (Str × N)} {cl : List (Str × Addr)} (r : CR ρ cells cl) : CR ρ' cells cl :=
  All2.mono (fun _ _ e => ⟨e.1, h _ _ e.2⟩) r
theorem CR.lookup {ρ : Rho N} {cells : List (Str × N)} {cl : List (Str × Addr)} (r : CR ρ cells cl) {x : Str} {n : N} (e : cells.lookup x = some n) : ∃ c, cl.lookup x = some c ∧ ρ (n, false) = some c := by
  induction r with
  | nil => cases e
  | @cons a b as bs h _ ih =>
    obtain ⟨a1, a2⟩ := a
    obtain ⟨b1, b2⟩ := b
    obtain ⟨h1, h2⟩ := h
    dsimp only at h1 h2
    subst h1
    rw [List.lookup_cons] at e ⊢
    cases q : (x == b1) with
    | true => rw [q] at e; cases e; exact ⟨b2, rfl, h2⟩
    | false => rw [q] at e; exact ih e

theorem OVR.mono {ρ ρ' : Rho N} (h : ∀ a x, ρ a = some x → ρ' a = some x) {v : Option (MV N)} {u : Option Value} (r : OVR ρ v u) : OVR ρ' v u := by
  cases r with
  | nn => exact .nn
  | ss e => exact .ss (e.mono h)
/-- an object stays what it is where its own addresses stay -/
theorem OR.step {prog : Program} {w : World} {ρ ρ' : Rho N} {h h' : Heap} {n : N} {o : MO N} (hm : ∀ a x, ρ a = some x → ρ' a = some x)
    (hk : ∀ b x ob, ρ (n, b) = some x → h.get? x = some ob → h'.get? x = some ob) (r : OR prog w ρ h n o) : OR prog w ρ' h' n o := by
  cases o with
  | inst C fs =>
    obtain ⟨x, dx, es, k, h1, h2, h3, h4, h5⟩ := r
    exact ⟨x, dx, es, k, hm _ _ h1, hm _ _ h2, hk _ _ _ h1 h3, hk _ _ _ h2 h4, h5.mono fun a b e => ⟨e.1, e.2.mono hm⟩⟩
  | list vs =>
    obtain ⟨x, us, h1, ⟨k, h2⟩, h3⟩ := r
    exact ⟨x, us, hm _ _ h1, ⟨k, hk _ _ _ h1 h2⟩, h3.mono fun a b e => e.mono hm⟩
  | idict kvs =>
    obtain ⟨x, us, h1, ⟨o, es, ep, h2, r2⟩, h3⟩ := r
    exact ⟨x, us, hm _ _ h1, ⟨o, es, ep, hk _ _ _ h1 h2, r2⟩, h3.mono fun a b e => ⟨e.1, e.2.mono hm⟩⟩
  | sdict kvs =>
    obtain ⟨x, us, h1, ⟨o, es, ep, h2, r2⟩, h3⟩ := r
    exact ⟨x, us, hm _ _ h1, ⟨o, es, ep, hk _ _ _ h1 h2, r2⟩, h3.mono fun a b e => ⟨e.1, e.2.mono hm⟩⟩
  | meth f self =>
    obtain ⟨x, v, h1, h2, h3⟩ := r
    exact ⟨x, v, hm _ _ h1, hk _ _ _ h1 h2, h3.mono hm⟩
  | cell v =>
    obtain ⟨x, u, h1, ⟨o, h2, r2⟩, h3⟩ := r
    exact ⟨x, u, hm _ _ h1, ⟨o, hk _ _ _ h1 h2, r2⟩, h3.mono hm⟩
  | range k =>
    obtain ⟨x, t, u, v, h1, h2⟩ := r
    exact ⟨x, t, u, v, hm _ _ h1, hk _ _ _ h1 h2⟩
  | view m =>
    obtain ⟨x, y, h1, h2, h3⟩ := r
    exact ⟨x, y, hm _ _ h1, hm _ _ h2, hk _ _ _ h1 h3⟩
  | clo params body scope cells =>
    obtain ⟨x, o, c, oc, vs, t, name, qual, cl, doc, pm, an, ct, h1, h2, h3, h4, h5, h6, h7, h8⟩ := r
    exact ⟨x, o, c, oc, vs, t, name, qual, cl, doc, pm, an, ct, hm _ _ h1, hk _ _ _ h1 h2, h3, h4.mono hm, hm _ _ h5, hk _ _ _ h5 h6, h7, h8⟩

/-- nothing of the world turned -/
theorem Wd.same {prog : Program} {w : World} {hB : Heap} {ρ : Rho N} {σ : Sg N} {h h' : Heap} (W : Wd prog w hB ρ σ h) (hk : ∀ n a o, ρ n = some a → h.get? a = some o → h'.get? a = some o) : Wd prog w hB ρ σ h' where
  inj := W.inj
  off := W.off
  big := W.big
  live := fun a x e => by
    cases q : h.get? x with
    | none => exact absurd q (W.live a x e)
    | some o => rw [hk a x o e q]; simp
  dom := W.dom
  obj := fun n o e => (W.obj n o e).step (fun _ _ q => q) (fun b x ob q1 q2 => hk _ x ob q1 q2)
end

inductive Fl (N : Type) where
  | next
  | ret (v : MV N)
def Fl.val {N : Type} : Fl N → MV N
  | .next => .none
  | .ret v => v

abbrev mkEnv (S : Scope) (L : Addr) (cl : List (Str × Addr)) (q : Str) (f : Option Addr) (cd : Value) (frm : Option Addr) : Env :=
  { scope := S, locals := L, globals := mainGlobals, cells := cl, qual := q, func := f, code := cd, frame := frm, builtins := builtinsNs }

structure Room (A : Around) (d : Nat) : Prop where
  hd : A.handled = none
  dep : A.depth + d < recursionLimit
  un : A.units + 8 * d + 100 < cLine

structure Stat (K : Frag) (mg mb : Str → Option Value) (hB : Heap) : Prop where
  X : K.In hB
  g : hB.Ns mainGlobals mg
  b : hB.Ns builtinsNs mb
  lim : hB.NoLimit
  bi : ∀ x : Str, x ≠ "__name__" → mb x = bootBuiltins x

structure Base (hB h : Heap) : Prop where
  stay : ∀ b o, hB.get? b = some o → h.get? b = some o
  size : hB.objs.size ≤ h.objs.size

section
variable {N : Type}

def FrR (ρ : Rho N) (fr : LF N) (m : Str → Option Value) : Prop := ∀ x v, fr.lookup x = some v → ∃ u, m x = some u ∧ VR ρ v u
inductive FlR (ρ : Rho N) : Fl N → Flow → Prop
  | next : FlR ρ .next .next
  | ret {v : MV N} {u : Value} : VR ρ v u → FlR ρ (.ret v) (.ret u)

structure FS (hB : Heap) (d : Nat) (fr : LF N) (cells : List (Str × N)) (A : Around) (L : Addr) (cl : List (Str × Addr)) (m : Str → Option Value) (ρ : Rho N) (h : Heap) : Prop where
  room : Room A d
  F : Fr hB L h m
  nl : ∀ a, ρ a ≠ some L
  cr : CR ρ cells cl
  fr : FrR ρ fr m

variable (prog : Program) (w : World) (hB : Heap)

def MWc (d : Nat) (f : Value) (args : List (MV N)) (Q : MV N → Sg N → Prop) (σ : Sg N) : Prop :=
  ∀ (A : Around) (s : Shared) (ρ : Rho N) (us : List Value), Room A d → Base hB s.heap → Wd prog w hB ρ σ s.heap → All2 (VR ρ) args us →
    ∀ R : Result → Shared → Prop, (∀ v u σ' ρ' h' tk, Q v σ' → VR ρ' v u → Wd prog w hB ρ' σ' h' → Sp none ρ ρ' s.heap h' → R (.ok (.ret u)) { s with heap := h', toks := tk }) →
      codeAny (model prog w) A (.call f ⟨us, []⟩) R s

def MWe (S : Scope) (d : Nat) (cells : List (Str × N)) (e : Expr) (fr : LF N) (Q : MV N → Sg N → Prop) (σ : Sg N) : Prop :=
  ∀ (A : Around) (s : Shared) (L : Addr) (q : Str) (f : Option Addr) (cd : Value) (frm : Option Addr) (cl : List (Str × Addr)) (m : Str → Option Value) (ρ : Rho N), FS hB d fr cells A L cl m ρ s.heap → Wd prog w hB ρ σ s.heap →
    ∀ (E : Value → Shared → Prop) (Qc : Value → Shared → Prop), (∀ v u σ' ρ' h' tk, Q v σ' → VR ρ' v u → FS hB d fr cells A L cl m ρ' h' → Wd prog w hB ρ' σ' h' → Sp (some L) ρ ρ' s.heap h' → Qc u { s with heap := h', toks := tk }) →
      wpAny (model prog w) A (eval e (mkEnv S L cl q f cd frm)) Qc E s

def MWt (S : Scope) (d : Nat) (cells : List (Str × N)) (e : Expr) (fr : LF N) (Q : Bool → Sg N → Prop) (σ : Sg N) : Prop :=
  ∀ (A : Around) (s : Shared) (L : Addr) (q : Str) (f : Option Addr) (cd : Value) (frm : Option Addr) (cl : List (Str × Addr)) (m : Str → Option Value) (ρ : Rho N), FS hB d fr cells A L cl m ρ s.heap → Wd prog w hB ρ σ s.heap →
    ∀ (E : Value → Shared → Prop) (Qc : Bool → Shared → Prop), (∀ b σ' ρ' h' tk, Q b σ' → FS hB d fr cells A L cl m ρ' h' → Wd prog w hB ρ' σ' h' → Sp (some L) ρ ρ' s.heap h' → Qc b { s with heap := h', toks := tk }) →
      wpAny (model prog w) A (PySem.isTrue e (mkEnv S L cl q f cd frm) (eval e (mkEnv S L cl q f cd frm))) Qc E s

/-- several expressions, left to right -/
def MWl (S : Scope) (d : Nat) (cells : List (Str × N)) (es : List Expr) (fr : LF N) (Q : List (MV N) → Sg N → Prop) (σ : Sg N) : Prop :=
  ∀ (A : Around) (s : Shared) (L : Addr) (q : Str) (f : Option Addr) (cd : Value) (frm : Option Addr) (cl : List (Str × Addr)) (m : Str → Option Value) (ρ : Rho N), FS hB d fr cells A L cl m ρ s.heap → Wd prog w hB ρ σ s.heap →
    ∀ (pos : Pos) (E : Value → Shared → Prop) (Qc : List Value → Shared → Prop), (∀ vs us σ' ρ' h' tk, Q vs σ' → All2 (VR ρ') vs us → FS hB d fr cells A L cl m ρ' h' → Wd prog w hB ρ' σ' h' → Sp (some L) ρ ρ' s.heap h' → Qc us { s with heap := h', toks := tk }) →
      wpAny (model prog w) A (spliced (backTo pos (starEach es (mkEnv S L cl q f cd frm)))) Qc E s

def MWx (S : Scope) (d : Nat) (cells : List (Str × N)) (st : Stmt) (fr : LF N) (Q : Fl N → LF N → Sg N → Prop) (σ : Sg N) : Prop :=
  ∀ (A : Around) (s : Shared) (L : Addr) (q : Str) (f : Option Addr) (cd : Value) (frm : Option Addr) (cl : List (Str × Addr)) (m : Str → Option Value) (ρ : Rho N), FS hB d fr cells A L cl m ρ s.heap → Wd prog w hB ρ σ s.heap →
    ∀ (E : Value → Shared → Prop) (Qc : Flow → Shared → Prop), (∀ fl flc fr' m' σ' ρ' h' tk, Q fl fr' σ' → FlR ρ' fl flc → FS hB d fr' cells A L cl m' ρ' h' → Wd prog w hB ρ' σ' h' → Sp (some L) ρ ρ' s.heap h' → Qc flc { s with heap := h', toks := tk }) →
      wpAny (model prog w) A (exec st (mkEnv S L cl q f cd frm)) Qc E s

def MWs (S : Scope) (d : Nat) (cells : List (Str × N)) (b : List Stmt) (fr : LF N) (Q : Fl N → LF N → Sg N → Prop) (σ : Sg N) : Prop :=
  ∀ (A : Around) (s : Shared) (L : Addr) (q : Str) (f : Option Addr) (cd : Value) (frm : Option Addr) (cl : List (Str × Addr)) (m : Str → Option Value) (ρ : Rho N), FS hB d fr cells A L cl m ρ s.heap → Wd prog w hB ρ σ s.heap →
    ∀ (E : Value → Shared → Prop) (Qc : Flow → Shared → Prop), (∀ fl flc fr' m' σ' ρ' h' tk, Q fl fr' σ' → FlR ρ' fl flc → FS hB d fr' cells A L cl m' ρ' h' → Wd prog w hB ρ' σ' h' → Sp (some L) ρ ρ' s.heap h' → Qc flc { s with heap := h', toks := tk }) →
      wpAny (model prog w) A (execs b (mkEnv S L cl q f cd frm)) Qc E s
end

section
variable {N : Type} {prog : Program} {w : World} {hB : Heap} {K : Frag} {mg mb : Str → Option Value} {S : Scope} {d : Nat} {cells : List (Str × N)} {fr : LF N} {σ : Sg N}
  {A : Around} {L : Addr} {cl : List (Str × Addr)} {m : Str → Option Value} {ρ ρ' : Rho N} {h h' : Heap}

theorem FrR.mono {ρ ρ' : Rho N} (hm : ∀ a x, ρ a = some x → ρ' a = some x) {fr : LF N} {m : Str → Option Value} (r : FrR ρ fr m) : FrR ρ' fr m := fun x v e => by
  obtain ⟨u, h1, h2⟩ := r x v e
  exact ⟨u, h1, h2.mono hm⟩
theorem FrR.set {x : Str} {v : MV N} {u : Value} (r : FrR ρ fr m) (hv : VR ρ v u) : FrR ρ ((x, v) :: fr) (fun y => if y = x then some u else m y) := fun y v' e => by
  rw [List.lookup_cons] at e
  by_cases q : y = x
  · subst q; simp at e; subst e; exact ⟨u, by simp, hv⟩
  · have : (y == x) = false := by simpa using q
    rw [this] at e
    obtain ⟨u', h1, h2⟩ := r y v' e
    exact ⟨u', by simp [q, h1], h2⟩

theorem FS.base (X : FS hB d fr cells A L cl m ρ h) : Base hB h := ⟨X.F.keep, by
  obtain ⟨o, _, _, hL, _⟩ := X.F.ns
  exact Nat.le_of_lt (Nat.lt_of_le_of_lt X.F.above (Heap.lt_size hL))⟩
theorem FS.liveL (X : FS hB d fr cells A L cl m ρ h) : h.get? L ≠ none := by
  obtain ⟨o, _, _, hL, _⟩ := X.F.ns
  rw [hL]; simp
theorem FS.step (X : FS hB d fr cells A L cl m ρ h) (W : Wd prog w hB ρ σ h) (P : Sp none ρ ρ' h h') : FS hB d fr cells A L cl m ρ' h' where
  room := X.room
  F := by
    obtain ⟨o, es, ep, hL, r⟩ := X.F.ns
    refine ⟨⟨o, es, ep, P.keep L o hL (by simp) X.nl, r⟩, fun b ob e => ?_, X.F.above⟩
    exact P.keep b ob (X.F.keep b ob e) (by simp) fun n q => by rw [W.off n b q] at e; cases e
  nl := fun a q => by
    rcases P.fresh a L q with q | q
    · exact X.nl a q
    · exact X.liveL q
  cr := X.cr.mono P.mono
  fr := X.fr.mono P.mono

theorem Room.less {d' : Nat} (r : Room A d) (h : d' ≤ d) : Room A d' := ⟨r.hd, by have := r.dep; omega, by have := r.un; omega⟩
theorem Room.deeper {env : Env} (r : Room A (d + 1)) : Room (A.deeper env) d := ⟨r.hd, by have := r.dep; show A.depth + 1 + d < _; omega, by have := r.un; show A.units + 3 + 8 * d + 100 < _; omega⟩

/-! ## names and constants -/
theorem e_local {x : Str} {pos : Pos} {v : MV N} {Q : MV N → Sg N → Prop} (hl : fr.lookup x = some v) (h : Q v σ)
    (hk : S.kind = .function := by rfl) (hx : S.names.lookup x = some .local := by rfl) (hd : (x == ("__debug__" : Str)) = false := by decide) : MWe prog w hB S d cells (.Name x pos) fr Q σ := by
  intro A s L q f cd frm cl m ρ X W E Qc k
  obtain ⟨u, hu, hv⟩ := X.fr x v hl
  exact wpAny_Name (wpAny_loadName_local hk hx X.F.ns hu (k v u σ ρ s.heap s.toks h hv X W (Sp.refl _ _ _))) hd

theorem e_glob (T : Stat K mg mb hB) {x : Str} {pos : Pos} {v : Value} {u : MV N} {Q : MV N → Sg N → Prop} (e : nsIn K mainGlobals x = some (some v)) (hv : ∀ ρ : Rho N, VR ρ u v) (h : Q u σ)
    (hk : S.kind = .function := by rfl) (hx : S.names.lookup x = some .globalImplicit := by rfl) (hd : (x == ("__debug__" : Str)) = false := by decide) : MWe prog w hB S d cells (.Name x pos) fr Q σ := by
  intro A s L q f cd frm cl m ρ X W E Qc k
  exact Name_function_global hk hx (loadGlobal_global (T.g.keeps X.F.keep) (mg_of T.X T.g e) (k u v σ ρ s.heap s.toks h (hv ρ) X W (Sp.refl _ _ _))) hd
theorem e_builtin (T : Stat K mg mb hB) {x : Str} {pos : Pos} {v : Value} {Q : MV N → Sg N → Prop} (e : nsIn K mainGlobals x = some none) (hb : bootBuiltins x = some v) (h : Q (.val v) σ) (hv : handedIn v = true := by rfl)
    (hk : S.kind = .function := by rfl) (hx : S.names.lookup x = some .globalImplicit := by rfl) (hn : x ≠ "__name__" := by decide) (hd : (x == ("__debug__" : Str)) = false := by decide) : MWe prog w hB S d cells (.Name x pos) fr Q σ := by
  intro A s L q f cd frm cl m ρ X W E Qc k
  exact Name_function_global hk hx (loadGlobal_builtin (T.g.keeps X.F.keep) (mg_none_of T.X T.g e) (T.b.keeps X.F.keep) ((T.bi x hn).trans hb) (k (.val v) v σ ρ s.heap s.toks h (.val v hv) X W (Sp.refl _ _ _))) hd
theorem e_free {x : Str} {pos : Pos} {n : N} {v : MV N} {Q : MV N → Sg N → Prop} (hc : cells.lookup x = some n) (hs : σ n = some (.cell (some v))) (h : Q v σ)
    (hk : S.kind = .function := by rfl) (hx : S.names.lookup x = some .free := by rfl) (hd : (x == ("__debug__" : Str)) = false := by decide) (hn : (x == ("__classdict__" : Str)) = false := by decide) : MWe prog w hB S d cells (.Name x pos) fr Q σ := by
  intro A s L q f cd frm cl m ρ X W E Qc k
  obtain ⟨c, h1, h2⟩ := X.cr.lookup hc
  obtain ⟨x', u, h3, h4, h5⟩ := W.obj n _ hs
  have : c = x' := by rw [h2] at h3; exact Option.some.inj h3
  subst this
  cases h5 with | ss h5 =>
  exact wpAny_Name (wpAny_loadName_free hk hx h1 h4 (k v _ σ ρ s.heap s.toks h h5 X W (Sp.refl _ _ _)) hn) hd
theorem e_cell {x : Str} {pos : Pos} {n : N} {v : MV N} {Q : MV N → Sg N → Prop} (hc : cells.lookup x = some n) (hs : σ n = some (.cell (some v))) (h : Q v σ)
    (hk : S.kind = .function := by rfl) (hx : S.names.lookup x = some .cell := by rfl) (hd : (x == ("__debug__" : Str)) = false := by decide) : MWe prog w hB S d cells (.Name x pos) fr Q σ := by
  intro A s L q f cd frm cl m ρ X W E Qc k
  obtain ⟨c, h1, h2⟩ := X.cr.lookup hc
  obtain ⟨x', u, h3, h4, h5⟩ := W.obj n _ hs
  have : c = x' := by rw [h2] at h3; exact Option.some.inj h3
  subst this
  cases h5 with | ss h5 =>
  exact wpAny_Name (wpAny_loadName_cell hk hx h1 h4 (k v _ σ ρ s.heap s.toks h h5 X W (Sp.refl _ _ _))) hd
theorem e_int {i : Int} {kd : Nat} {pos : Pos} {Q : MV N → Sg N → Prop} (h : Q (.int i) σ) : MWe prog w hB S d cells (.Constant (.int i) kd pos) fr Q σ := by
  intro A s L q f cd frm cl m ρ X W E Qc k
  exact wpAny_Constant_int (k _ _ σ ρ s.heap _ h (.int i _) X W (Sp.refl _ _ _))
theorem e_str {i : Str} {kd : Nat} {pos : Pos} {Q : MV N → Sg N → Prop} (h : Q (.str i) σ) : MWe prog w hB S d cells (.Constant (.str i) kd pos) fr Q σ := by
  intro A s L q f cd frm cl m ρ X W E Qc k
  exact wpAny_Constant_str (k _ _ σ ρ s.heap _ h (.str i _) X W (Sp.refl _ _ _))
theorem e_bool {i : Bool} {kd : Nat} {pos : Pos} {Q : MV N → Sg N → Prop} (h : Q (.bool i) σ) : MWe prog w hB S d cells (.Constant (.bool i) kd pos) fr Q σ := by
  intro A s L q f cd frm cl m ρ X W E Qc k
  exact wpAny_Constant_bool (k _ _ σ ρ s.heap s.toks h (.bool i) X W (Sp.refl _ _ _))
theorem e_none {kd : Nat} {pos : Pos} {Q : MV N → Sg N → Prop} (h : Q .none σ) : MWe prog w hB S d cells (.Constant .none kd pos) fr Q σ := by
  intro A s L q f cd frm cl m ρ X W E Qc k
  exact wpAny_Constant_none (k _ _ σ ρ s.heap s.toks h .none X W (Sp.refl _ _ _))

/-! ## lists of expressions -/
theorem l_nil {Q : List (MV N) → Sg N → Prop} (h : Q [] σ) : MWl prog w hB S d cells [] fr Q σ := by
  intro A s L q f cd frm cl m ρ X W pos E Qc k
  exact spliced_none (k [] [] σ ρ s.heap s.toks h .nil X W (Sp.refl _ _ _))
theorem l_cons {e : Expr} {es : List Expr} {Q : List (MV N) → Sg N → Prop} (h : MWe prog w hB S d cells e fr (fun v σ₁ => MWl prog w hB S d cells es fr (fun vs σ₂ => Q (v :: vs) σ₂) σ₁) σ)
    (he : ∀ env, starEach (e :: es) env = (false, eval e env) :: starEach es env := by intro _; rfl) : MWl prog w hB S d cells (e :: es) fr Q σ := by
  intro A s L q f cd frm cl m ρ X W pos E Qc k
  refine spliced_more (h A s L q f cd frm cl m ρ X W E _ fun v u σ₁ ρ₁ h₁ tk₁ H1 r1 X1 W1 P1 => ?_) (he _)
  refine H1 A { s with heap := h₁, toks := tk₁ } L q f cd frm cl m ρ₁ X1 W1 pos E _ fun vs us σ₂ ρ₂ h₂ tk₂ H2 r2 X2 W2 P2 => ?_
  exact k (v :: vs) (u :: us) σ₂ ρ₂ h₂ tk₂ H2 (.cons (r1.mono P2.mono) r2) X2 W2 (P1.trans P2)
end

section
variable {N : Type} {prog : Program} {w : World} {hB : Heap} {K : Frag} {mg mb : Str → Option Value} {S : Scope} {d : Nat} {cells : List (Str × N)} {fr : LF N} {σ : Sg N}

def binI {N : Type} (i j : Int) : Operator → Option (MV N)
  | .Add => some (.int (i + j))
  | .Sub => some (.int (i - j))
  | .Mult => if decide (Builtin.Int.intBits i ≤ 64) || decide (Builtin.Int.intBits j ≤ 64) then some (.int (i * j)) else none
  | .FloorDiv => if j ≠ 0 ∧ j.natAbs < 1073741824 then some (.int (i.fdiv j)) else none
  | .Mod => if j ≠ 0 then some (.int (i.fmod j)) else none
  | .Pow => if 0 ≤ j ∧ j ≤ 1000000 ∧ i.natAbs < 2 ^ 64 then some (.int (i ^ j.toNat)) else none
  | _ => none
def binV {N : Type} (op : Operator) : MV N → MV N → Option (MV N)
  | .int i, .int j => binI i j op
  | _, _ => none
theorem binI_ok {A : Around} {E : Value → Shared → Prop} {s : Shared} {ρ : Rho N} {op : Operator} {i j : Int} {t t' : Tok} {c : MV N} {Qc : Value → Shared → Prop} (e : binI i j op = some c)
    (k : ∀ x tk, VR ρ c x → Qc x { s with toks := tk }) : wpAny (model prog w) A (binaryOp op (.int i t) (.int j t')) Qc E s := by
  cases op with
  | Add => cases e; exact add_int (k _ _ (.int _ _))
  | Sub => cases e; exact sub_int (k _ _ (.int _ _))
  | Mult =>
    have e' : (if decide (Builtin.Int.intBits i ≤ 64) || decide (Builtin.Int.intBits j ≤ 64) then some (.int (i * j)) else none) = some c := e
    split at e'
    · rename_i q
      cases e'
      rw [Bool.or_eq_true, decide_eq_true_eq, decide_eq_true_eq] at q
      exact mul_int (k _ _ (.int _ _)) (q.elim IntMulOk.of_left IntMulOk.of_right)
    · cases e'
  | Mod =>
    have e' : (if j ≠ 0 then some (.int (i.fmod j)) else none) = some c := e
    split at e'
    · rename_i q; cases e'; exact mod_int' q (k _ _ (.int _ _))
    · cases e'
  | FloorDiv =>
    have e' : (if j ≠ 0 ∧ j.natAbs < 1073741824 then some (.int (i.fdiv j)) else none) = some c := e
    split at e'
    · rename_i q; cases e'; exact floordiv_int q.1 (k _ _ (.int _ _)) (.inl (PyProof.noPylong_small q.2))
    · cases e'
  | Pow =>
    have e' : (if 0 ≤ j ∧ j ≤ 1000000 ∧ i.natAbs < 2 ^ 64 then some (.int (i ^ j.toNat)) else none) = some c := e
    split at e'
    · rename_i q; cases e'; exact pow_int_small q.1 q.2.1 q.2.2 (k _ _ (.int _ _))
    · cases e'
  | _ => cases e
theorem binV_ok {A : Around} {E : Value → Shared → Prop} {s : Shared} {ρ : Rho N} {op : Operator} {a b c : MV N} {u v : Value} {Qc : Value → Shared → Prop} (e : binV op a b = some c) (ra : VR ρ a u) (rb : VR ρ b v)
    (k : ∀ x tk, VR ρ c x → Qc x { s with toks := tk }) : wpAny (model prog w) A (binaryOp op u v) Qc E s := by
  cases ra with
  | int i t => cases rb with
    | int j t' => exact binI_ok e k
    | _ => cases e
  | _ => cases e

theorem e_bin {op : Operator} {l r : Expr} {pos : Pos} {Q : MV N → Sg N → Prop} (h : MWe prog w hB S d cells l fr (fun a σ₁ => MWe prog w hB S d cells r fr (fun b σ₂ => ∃ c, binV op a b = some c ∧ Q c σ₂) σ₁) σ) :
    MWe prog w hB S d cells (.BinOp l op r pos) fr Q σ := by
  intro A s L q f cd frm cl m ρ X W E Qc k
  refine wpAny_BinOp (h A s L q f cd frm cl m ρ X W E _ fun a u σ₁ ρ₁ h₁ tk₁ H1 r1 X1 W1 P1 => ?_)
  refine H1 A { s with heap := h₁, toks := tk₁ } L q f cd frm cl m ρ₁ X1 W1 E _ fun b v σ₂ ρ₂ h₂ tk₂ H2 r2 X2 W2 P2 => ?_
  obtain ⟨c, hc, H3⟩ := H2
  exact binV_ok hc (r1.mono P2.mono) r2 fun x tk rx => k c x σ₂ ρ₂ h₂ tk H3 rx X2 W2 (P1.trans P2)

def cmpI (i j : Int) : CmpOp → Option Bool
  | .Lt => some (decide (i < j))
  | .LtE => some (decide (i ≤ j))
  | .Gt => some (decide (j < i))
  | .GtE => some (decide (j ≤ i))
  | .Eq => some (i == j)
  | .NotEq => some (i != j)
  | _ => none
def asI {N : Type} : MV N → Option Int
  | .int i => some i
  | _ => none
def asB {N : Type} : MV N → Option Bool
  | .bool i => some i
  | _ => none
def isEq : CmpOp → Bool
  | .Eq => true
  | _ => false
def isIsNot : CmpOp → Bool
  | .IsNot => true
  | _ => false
def isNone {N : Type} : MV N → Bool
  | .none => true
  | _ => false
/-- not None? -/
def nnV {N : Type} : MV N → Option Bool
  | .none => some false
  | .ref _ => some true
  | _ => none
def cmpV {N : Type} (op : CmpOp) (a b : MV N) : Option Bool :=
  match a with
  | .int i => (asI b).bind fun j => cmpI i j op
  | .bool i => if isEq op = true then (asB b).map fun j => i == j else none
  | a => if (isIsNot op && isNone b) = true then nnV a else none
theorem cmpI_ok {A : Around} {E : Value → Shared → Prop} {s : Shared} {op : CmpOp} {i j : Int} {c : Bool} {t t' : Tok} {Qc : Value → Shared → Prop} (e : cmpI i j op = some c) (k : Qc (.bool c) s) : wpAny (model prog w) A (compareOp op (.int i t) (.int j t')) Qc E s := by
  cases op with
  | Eq => cases e; exact eq_int k
  | NotEq => cases e; exact ne_int k
  | Lt => cases e; exact lt_int k
  | LtE => cases e; exact le_int k
  | Gt => cases e; exact gt_int k
  | GtE => cases e; exact ge_int k
  | _ => cases e
theorem isEq_at {op : CmpOp} (h : isEq op = true) : op = .Eq := by cases op <;> first | rfl | cases h
theorem isIsNot_at {op : CmpOp} (h : isIsNot op = true) : op = .IsNot := by cases op <;> first | rfl | cases h
theorem isNone_at {ρ : Rho N} {b : MV N} {v : Value} (h : isNone b = true) (r : VR ρ b v) : v = .none := by cases r <;> first | rfl | cases h
theorem asI_at {ρ : Rho N} {b : MV N} {v : Value} {j : Int} (h : asI b = some j) (r : VR ρ b v) : ∃ t, v = .int j t := by cases r <;> first | (cases h; exact ⟨_, rfl⟩) | cases h
theorem asB_at {ρ : Rho N} {b : MV N} {v : Value} {j : Bool} (h : asB b = some j) (r : VR ρ b v) : v = .bool j := by cases r <;> first | (cases h; rfl) | cases h
theorem nn_ok {A : Around} {E : Value → Shared → Prop} {s : Shared} {ρ : Rho N} {op : CmpOp} {a b : MV N} {c : Bool} {u v : Value} {Qc : Value → Shared → Prop} (e : (if (isIsNot op && isNone b) = true then nnV a else none) = some c) (ra : VR ρ a u) (rb : VR ρ b v)
    (k : Qc (.bool c) s) : wpAny (model prog w) A (compareOp op u v) Qc E s := by
  by_cases h : (isIsNot op && isNone b) = true
  · rw [if_pos h] at e
    rw [Bool.and_eq_true] at h
    rw [isIsNot_at h.1, isNone_at h.2 rb]
    cases ra with
    | none => cases e; exact isnot_none_none k
    | ref _ => cases e; exact isnot_ref_none k
    | _ => cases e
  · rw [if_neg h] at e; cases e

theorem cmpV_ok {A : Around} {E : Value → Shared → Prop} {s : Shared} {ρ : Rho N} {op : CmpOp} {a b : MV N} {c : Bool} {u v : Value} {Qc : Value → Shared → Prop} (e : cmpV op a b = some c) (ra : VR ρ a u) (rb : VR ρ b v)
    (k : Qc (.bool c) s) : wpAny (model prog w) A (compareOp op u v) Qc E s := by
  cases a with
  | int i =>
    obtain ⟨j, hj, e⟩ := Option.bind_eq_some_iff.mp e
    obtain ⟨t', rfl⟩ := asI_at hj rb
    obtain ⟨t, rfl⟩ := asI_at rfl ra
    exact cmpI_ok e k
  | bool i =>
    by_cases h : isEq op = true
    · have e' : (if isEq op = true then (asB b).map fun j => i == j else none) = some c := e
      rw [if_pos h] at e'
      obtain ⟨j, hj, rfl⟩ := Option.map_eq_some_iff.mp e'
      rw [asB_at hj rb, asB_at rfl ra, isEq_at h]
      exact eq_bool k
    · have e' : (if isEq op = true then (asB b).map fun j => i == j else none) = some c := e
      rw [if_neg h] at e'; cases e'
  | none => exact nn_ok e ra rb k
  | ref _ => exact nn_ok e ra rb k
  | str _ => exact nn_ok e ra rb k
  | val _ => exact nn_ok e ra rb k

theorem e_cmp {op : CmpOp} {l r : Expr} {pos : Pos} {Q : MV N → Sg N → Prop} (h : MWe prog w hB S d cells l fr (fun a σ₁ => MWe prog w hB S d cells r fr (fun b σ₂ => ∃ c, cmpV op a b = some c ∧ Q (.bool c) σ₂) σ₁) σ)
    (hm : behindInMarks op r = false := by rfl) : MWe prog w hB S d cells (.Compare l [op] [r] pos) fr Q σ := by
  intro A s L q f cd frm cl m ρ X W E Qc k
  refine wpAny_Compare1 (h A s L q f cd frm cl m ρ X W E _ fun a u σ₁ ρ₁ h₁ tk₁ H1 r1 X1 W1 P1 => ?_) hm
  refine H1 A { s with heap := h₁, toks := tk₁ } L q f cd frm cl m ρ₁ X1 W1 E _ fun b v σ₂ ρ₂ h₂ tk₂ H2 r2 X2 W2 P2 => ?_
  obtain ⟨c, hc, H3⟩ := H2
  exact cmpV_ok hc (r1.mono P2.mono) r2 (k _ _ σ₂ ρ₂ h₂ tk₂ H3 (.bool c) X2 W2 (P1.trans P2))

/-! ## truth -/
def truV {N : Type} : MV N → Option Bool
  | .bool b => some b
  | .int i => some (i != 0)
  | _ => none
theorem truV_ok {A : Around} {E : Value → Shared → Prop} {s : Shared} {ρ : Rho N} {a : MV N} {c : Bool} {u : Value} {Qc : Bool → Shared → Prop} (e : truV a = some c) (ra : VR ρ a u) (k : Qc c s) : wpAny (model prog w) A (truthy u) Qc E s := by
  cases ra <;> cases e
  · exact wpAny_truthy_bool k
  · exact truthy_int k

theorem t_plain {e : Expr} {Q : Bool → Sg N → Prop} (h : MWe prog w hB S d cells e fr (fun a σ₁ => ∃ c, truV a = some c ∧ Q c σ₁) σ)
    (hp : ∀ env whole, PySem.isTrue e env whole = (do let v ← whole; standAt e.pos; holding [v] (truthy v)) := by intro _ _; rfl) : MWt prog w hB S d cells e fr Q σ := by
  intro A s L q f cd frm cl m ρ X W E Qc k
  refine isTrue_plain (h A s L q f cd frm cl m ρ X W E _ fun a u σ₁ ρ₁ h₁ tk₁ H1 r1 X1 W1 P1 => ?_) (hp _ _)
  obtain ⟨c, hc, H3⟩ := H1
  exact truV_ok hc r1 (k _ σ₁ ρ₁ h₁ tk₁ H3 X1 W1 P1)
theorem t_cmp {op : CmpOp} {l r : Expr} {pos : Pos} {Q : Bool → Sg N → Prop} (h : MWe prog w hB S d cells l fr (fun a σ₁ => MWe prog w hB S d cells r fr (fun b σ₂ => ∃ c, cmpV op a b = some c ∧ Q c σ₂) σ₁) σ)
    (hm : behindInMarks op r = false := by rfl) : MWt prog w hB S d cells (.Compare l [op] [r] pos) fr Q σ := by
  intro A s L q f cd frm cl m ρ X W E Qc k
  refine wpAny_isTrue_Compare1 (h A s L q f cd frm cl m ρ X W E _ fun a u σ₁ ρ₁ h₁ tk₁ H1 r1 X1 W1 P1 => ?_) hm
  refine H1 A { s with heap := h₁, toks := tk₁ } L q f cd frm cl m ρ₁ X1 W1 E _ fun b v σ₂ ρ₂ h₂ tk₂ H2 r2 X2 W2 P2 => ?_
  obtain ⟨c, hc, H3⟩ := H2
  exact cmpV_ok hc (r1.mono P2.mono) r2 (wpAny_truthy_bool (k _ σ₂ ρ₂ h₂ tk₂ H3 X2 W2 (P1.trans P2)))
theorem t_not {e : Expr} {pos : Pos} {Q : Bool → Sg N → Prop} (h : MWt prog w hB S d cells e fr (fun c σ₁ => Q (!c) σ₁) σ) : MWt prog w hB S d cells (.UnaryOp .Not e pos) fr Q σ := by
  intro A s L q f cd frm cl m ρ X W E Qc k
  exact isTrue_not (h A s L q f cd frm cl m ρ X W E _ fun c σ₁ ρ₁ h₁ tk₁ H1 X1 W1 P1 => k _ σ₁ ρ₁ h₁ tk₁ H1 X1 W1 P1)
/-- the rest of an and, of an or -/
def MWb (prog : Program) (w : World) (hB : Heap) (S : Scope) (d : Nat) (cells : List (Str × N)) (op : BoolOp) (es : List Expr) (fr : LF N) (Q : Bool → Sg N → Prop) (σ : Sg N) : Prop :=
  ∀ (A : Around) (s : Shared) (L : Addr) (q : Str) (f : Option Addr) (cd : Value) (frm : Option Addr) (cl : List (Str × Addr)) (m : Str → Option Value) (ρ : Rho N), FS hB d fr cells A L cl m ρ s.heap → Wd prog w hB ρ σ s.heap →
    ∀ (E : Value → Shared → Prop) (Qc : Bool → Shared → Prop), (∀ b σ' ρ' h' tk, Q b σ' → FS hB d fr cells A L cl m ρ' h' → Wd prog w hB ρ' σ' h' → Sp (some L) ρ ρ' s.heap h' → Qc b { s with heap := h', toks := tk }) →
      ∀ pos whole, wpAny (model prog w) A (PySem.isTrue (.BoolOp op es pos) (mkEnv S L cl q f cd frm) whole) Qc E s
theorem b_andNil {Q : Bool → Sg N → Prop} (h : Q true σ) : MWb prog w hB S d cells .And [] fr Q σ := by
  intro A s L q f cd frm cl m ρ X W E Qc k pos whole
  exact isTrue_and_nil (k _ σ ρ s.heap s.toks h X W (Sp.refl _ _ _))
theorem b_orNil {Q : Bool → Sg N → Prop} (h : Q false σ) : MWb prog w hB S d cells .Or [] fr Q σ := by
  intro A s L q f cd frm cl m ρ X W E Qc k pos whole
  exact isTrue_or_nil (k _ σ ρ s.heap s.toks h X W (Sp.refl _ _ _))
theorem b_and {e : Expr} {r : List Expr} {Q : Bool → Sg N → Prop} (h : MWt prog w hB S d cells e fr (fun c σ₁ => if c = true then MWb prog w hB S d cells .And r fr Q σ₁ else Q false σ₁) σ) :
    MWb prog w hB S d cells .And (e :: r) fr Q σ := by
  intro A s L q f cd frm cl m ρ X W E Qc k pos whole
  refine isTrue_and (h A s L q f cd frm cl m ρ X W E _ fun c σ₁ ρ₁ h₁ tk₁ H1 X1 W1 P1 => ?_)
  cases c with
  | true => exact H1 A { s with heap := h₁, toks := tk₁ } L q f cd frm cl m ρ₁ X1 W1 E _ (fun c σ₂ ρ₂ h₂ tk₂ H2 X2 W2 P2 => k _ σ₂ ρ₂ h₂ tk₂ H2 X2 W2 (P1.trans P2)) _ _
  | false => exact k _ σ₁ ρ₁ h₁ tk₁ H1 X1 W1 P1
theorem b_or {e : Expr} {r : List Expr} {Q : Bool → Sg N → Prop} (h : MWt prog w hB S d cells e fr (fun c σ₁ => if c = true then Q true σ₁ else MWb prog w hB S d cells .Or r fr Q σ₁) σ) :
    MWb prog w hB S d cells .Or (e :: r) fr Q σ := by
  intro A s L q f cd frm cl m ρ X W E Qc k pos whole
  refine isTrue_or (h A s L q f cd frm cl m ρ X W E _ fun c σ₁ ρ₁ h₁ tk₁ H1 X1 W1 P1 => ?_)
  cases c with
  | false => exact H1 A { s with heap := h₁, toks := tk₁ } L q f cd frm cl m ρ₁ X1 W1 E _ (fun c σ₂ ρ₂ h₂ tk₂ H2 X2 W2 P2 => k _ σ₂ ρ₂ h₂ tk₂ H2 X2 W2 (P1.trans P2)) _ _
  | true => exact k _ σ₁ ρ₁ h₁ tk₁ H1 X1 W1 P1
theorem t_bool {op : BoolOp} {es : List Expr} {pos : Pos} {Q : Bool → Sg N → Prop} (h : MWb prog w hB S d cells op es fr Q σ) : MWt prog w hB S d cells (.BoolOp op es pos) fr Q σ := by
  intro A s L q f cd frm cl m ρ X W E Qc k
  exact h A s L q f cd frm cl m ρ X W E Qc k _ _

/-- and, or as a value -/
theorem e_and {e₁ e₂ : Expr} {r : List Expr} {pos : Pos} {Q : MV N → Sg N → Prop} (h : MWe prog w hB S d cells e₁ fr (fun v σ₁ => ∃ c, truV v = some c ∧ if c = true then MWe prog w hB S d cells (.BoolOp .And (e₂ :: r) pos) fr Q σ₁ else Q v σ₁) σ) :
    MWe prog w hB S d cells (.BoolOp .And (e₁ :: e₂ :: r) pos) fr Q σ := by
  intro A s L q f cd frm cl m ρ X W E Qc k
  refine BoolOp_and (h A s L q f cd frm cl m ρ X W E _ fun v u σ₁ ρ₁ h₁ tk₁ H1 r1 X1 W1 P1 => ?_)
  obtain ⟨c, hc, H1⟩ := H1
  refine truV_ok hc r1 ?_
  cases c with
  | true => exact H1 A { s with heap := h₁, toks := tk₁ } L q f cd frm cl m ρ₁ X1 W1 E _ (fun v u σ₂ ρ₂ h₂ tk₂ H2 r2 X2 W2 P2 => k v u σ₂ ρ₂ h₂ tk₂ H2 r2 X2 W2 (P1.trans P2))
  | false => exact k v u σ₁ ρ₁ h₁ tk₁ H1 r1 X1 W1 P1
theorem e_or {e₁ e₂ : Expr} {r : List Expr} {pos : Pos} {Q : MV N → Sg N → Prop} (h : MWe prog w hB S d cells e₁ fr (fun v σ₁ => ∃ c, truV v = some c ∧ if c = true then Q v σ₁ else MWe prog w hB S d cells (.BoolOp .Or (e₂ :: r) pos) fr Q σ₁) σ) :
    MWe prog w hB S d cells (.BoolOp .Or (e₁ :: e₂ :: r) pos) fr Q σ := by
  intro A s L q f cd frm cl m ρ X W E Qc k
  refine BoolOp_or (h A s L q f cd frm cl m ρ X W E _ fun v u σ₁ ρ₁ h₁ tk₁ H1 r1 X1 W1 P1 => ?_)
  obtain ⟨c, hc, H1⟩ := H1
  refine truV_ok hc r1 ?_
  cases c with
  | false => exact H1 A { s with heap := h₁, toks := tk₁ } L q f cd frm cl m ρ₁ X1 W1 E _ (fun v u σ₂ ρ₂ h₂ tk₂ H2 r2 X2 W2 P2 => k v u σ₂ ρ₂ h₂ tk₂ H2 r2 X2 W2 (P1.trans P2))
  | true => exact k v u σ₁ ρ₁ h₁ tk₁ H1 r1 X1 W1 P1
theorem e_one {op : BoolOp} {e : Expr} {pos : Pos} {Q : MV N → Sg N → Prop} (h : MWe prog w hB S d cells e fr Q σ) : MWe prog w hB S d cells (.BoolOp op [e] pos) fr Q σ := by
  intro A s L q f cd frm cl m ρ X W E Qc k
  exact BoolOp_one (h A s L q f cd frm cl m ρ X W E Qc k)
theorem e_if {t a b : Expr} {pos : Pos} {Q : MV N → Sg N → Prop} (h : MWt prog w hB S d cells t fr (fun c σ₁ => if c = true then MWe prog w hB S d cells a fr Q σ₁ else MWe prog w hB S d cells b fr Q σ₁) σ) : MWe prog w hB S d cells (.IfExp t a b pos) fr Q σ := by
  intro A s L q f cd frm cl m ρ X W E Qc k
  refine wpAny_IfExp (h A s L q f cd frm cl m ρ X W E _ fun c σ₁ ρ₁ h₁ tk₁ H1 X1 W1 P1 => ?_)
  cases c <;> exact H1 A { s with heap := h₁, toks := tk₁ } L q f cd frm cl m ρ₁ X1 W1 E _ (fun v u σ₂ ρ₂ h₂ tk₂ H2 r2 X2 W2 P2 => k v u σ₂ ρ₂ h₂ tk₂ H2 r2 X2 W2 (P1.trans P2))
end

/-! ## statements -/
section
variable {N : Type} {prog : Program} {w : World} {hB : Heap} {K : Frag} {mg mb : Str → Option Value} {S : Scope} {d : Nat} {cells : List (Str × N)} {fr : LF N} {σ : Sg N}

theorem s_nil {Q : Fl N → LF N → Sg N → Prop} (h : Q .next fr σ) : MWs prog w hB S d cells [] fr Q σ := by
  intro A s L q f cd frm cl m ρ X W E Qc k
  exact wpAny_execs_nil (k _ _ fr m σ ρ s.heap s.toks h .next X W (Sp.refl _ _ _))
theorem s_cons {st : Stmt} {r : List Stmt} {Q : Fl N → LF N → Sg N → Prop} (h : MWx prog w hB S d cells st fr (fun fl fr₁ σ₁ => match fl with | .next => MWs prog w hB S d cells r fr₁ Q σ₁ | .ret v => Q (.ret v) fr₁ σ₁) σ) : MWs prog w hB S d cells (st :: r) fr Q σ := by
  intro A s L q f cd frm cl m ρ X W E Qc k
  refine wpAny_execs_cons (h A s L q f cd frm cl m ρ X W E _ fun fl flc fr₁ m₁ σ₁ ρ₁ h₁ tk₁ H1 r1 X1 W1 P1 => ?_)
  cases r1 with
  | next => exact H1 A { s with heap := h₁, toks := tk₁ } L q f cd frm cl m₁ ρ₁ X1 W1 E Qc fun fl flc fr₂ m₂ σ₂ ρ₂ h₂ tk₂ H2 r2 X2 W2 P2 => k fl flc fr₂ m₂ σ₂ ρ₂ h₂ tk₂ H2 r2 X2 W2 (P1.trans P2)
  | ret e => exact k _ _ fr₁ m₁ σ₁ ρ₁ h₁ tk₁ H1 (.ret e) X1 W1 P1
theorem x_ret {e : Expr} {pos : Pos} {Q : Fl N → LF N → Sg N → Prop} (h : MWe prog w hB S d cells e fr (fun v σ₁ => Q (.ret v) fr σ₁) σ) : MWx prog w hB S d cells (.Return (some e) pos) fr Q σ := by
  intro A s L q f cd frm cl m ρ X W E Qc k
  exact wpAny_Return_some (h A s L q f cd frm cl m ρ X W E _ fun v u σ₁ ρ₁ h₁ tk₁ H1 r1 X1 W1 P1 => k _ _ fr m σ₁ ρ₁ h₁ tk₁ H1 (.ret r1) X1 W1 P1)
theorem x_ret0 {pos : Pos} {Q : Fl N → LF N → Sg N → Prop} (h : Q (.ret .none) fr σ) : MWx prog w hB S d cells (.Return none pos) fr Q σ := by
  intro A s L q f cd frm cl m ρ X W E Qc k
  exact wpAny_Return_none (k _ _ fr m σ ρ s.heap s.toks h (.ret .none) X W (Sp.refl _ _ _))
theorem x_expr {e : Expr} {pos : Pos} {Q : Fl N → LF N → Sg N → Prop} (h : MWe prog w hB S d cells e fr (fun _ σ₁ => Q .next fr σ₁) σ) (hk : S.kind = .function := by rfl)
    (hs : ∀ env : Env, swapsWith e none pos.line env = pure false := by intro _; rfl) : MWx prog w hB S d cells (.Expr e pos) fr Q σ := by
  intro A s L q f cd frm cl m ρ X W E Qc k
  refine wpAny_Expr_any (h A s L q f cd frm cl m ρ X W E _ fun v u σ₁ ρ₁ h₁ tk₁ H1 r1 X1 W1 P1 => k _ _ fr m σ₁ ρ₁ h₁ tk₁ H1 .next X1 W1 P1) ?_ (hs _)
  unfold interactive
  show ((S.kind == .module) && _) = false
  rw [hk]; rfl
theorem x_if {t : Expr} {a b : List Stmt} {pos : Pos} {Q : Fl N → LF N → Sg N → Prop} (h : MWt prog w hB S d cells t fr (fun c σ₁ => if c = true then MWs prog w hB S d cells a fr Q σ₁ else MWs prog w hB S d cells b fr Q σ₁) σ) : MWx prog w hB S d cells (.If t a b pos) fr Q σ := by
  intro A s L q f cd frm cl m ρ X W E Qc k
  refine wpAny_If (h A s L q f cd frm cl m ρ X W E _ fun c σ₁ ρ₁ h₁ tk₁ H1 X1 W1 P1 => ?_)
  cases c <;> exact H1 A { s with heap := h₁, toks := tk₁ } L q f cd frm cl m ρ₁ X1 W1 E Qc fun fl flc fr₂ m₂ σ₂ ρ₂ h₂ tk₂ H2 r2 X2 W2 P2 => k fl flc fr₂ m₂ σ₂ ρ₂ h₂ tk₂ H2 r2 X2 W2 (P1.trans P2)

/-- a local name is stored -/
theorem store_local {A : Around} {s : Shared} {L : Addr} {q : Str} {f : Option Addr} {cd : Value} {frm : Option Addr} {cl : List (Str × Addr)} {m : Str → Option Value} {ρ : Rho N} {E : Value → Shared → Prop} {Qc : Unit → Shared → Prop} {x : Str} {v : MV N} {u : Value}
    (X : FS hB d fr cells A L cl m ρ s.heap) (W : Wd prog w hB ρ σ s.heap) (hv : VR ρ v u) (hk : S.kind = .function) (hx : S.names.lookup x = some .local)
    (k : ∀ h' tk m', FS hB d ((x, v) :: fr) cells A L cl m' ρ h' → Wd prog w hB ρ σ h' → Sp (some L) ρ ρ s.heap h' → Qc () { s with heap := h', toks := tk }) : wpAny (model prog w) A (storeName (mkEnv S L cl q f cd frm) x u) Qc E s := by
  refine wpAny_storeName_local (env := mkEnv S L cl q f cd frm) hx X.F.ns (fun h' hn hs => ?_) (by show (S.kind == .class || (S.kind == .module && _)) = false; rw [hk]; rfl)
  have hs' : Heap.SameBut L s.heap h' := hs
  have keep : ∀ a o, s.heap.get? a = some o → a ≠ L → h'.get? a = some o := fun a o e n => (hs'.2 a n).trans e
  refine k h' _ _ ⟨X.room, X.F.set hn hs, X.nl, X.cr, X.fr.set hv⟩ (W.same fun n a o e q => keep a o q fun z => X.nl n (z ▸ e)) ⟨fun _ _ e => e, fun _ _ e => .inl e, fun a o e n _ => keep a o e fun z => n (by rw [z]), fun a e => ?_⟩
  by_cases z : a = L
  · subst z
    obtain ⟨o, _, _, hL, _⟩ := hn
    have hL' : h'.get? a = some o := hL
    rw [hL']; simp
  · rw [hs'.2 a z]; exact e
theorem x_asg {x : Str} {p pos : Pos} {e : Expr} {Q : Fl N → LF N → Sg N → Prop} (h : MWe prog w hB S d cells e fr (fun v σ₁ => Q .next ((x, v) :: fr) σ₁) σ) (hk : S.kind = .function := by rfl) (hx : S.names.lookup x = some .local := by rfl)
    (hs : ∀ L cl q f cd frm, swapsWith e (some (.Name x p)) pos.line (mkEnv S L cl q f cd frm) = pure false := by intros; rfl) : MWx prog w hB S d cells (.Assign [.Name x p] e pos) fr Q σ := by
  intro A s L q f cd frm cl m ρ X W E Qc k
  refine wpAny_Assign_Name (h A s L q f cd frm cl m ρ X W E _ fun v u σ₁ ρ₁ h₁ tk₁ H1 r1 X1 W1 P1 => ?_) (hs _ _ _ _ _ _)
  exact store_local (s := { s with heap := h₁, toks := tk₁ }) X1 W1 r1 hk hx fun h₂ tk₂ m₂ X2 W2 P2 => k _ _ _ m₂ σ₁ ρ₁ h₂ tk₂ H1 .next X2 W2 (P1.trans P2)
theorem augV_ok {A : Around} {E : Value → Shared → Prop} {s : Shared} {ρ : Rho N} {op : Operator} {i j : Int} {c : Int} {u v : Value} {Qc : Value → Shared → Prop} (e : (op = .Add ∧ c = i + j) ∨ (op = .Sub ∧ c = i - j)) (ra : VR ρ (.int i) u) (rb : VR ρ (.int j) v)
    (k : ∀ x tk, VR ρ (.int c) x → Qc x { s with toks := tk }) : wpAny (model prog w) A (inplaceOp op u v) Qc E s := by
  cases ra; cases rb
  rcases e with ⟨rfl, rfl⟩ | ⟨rfl, rfl⟩
  · exact iadd_int (k _ _ (.int _ _))
  · exact isub_int (k _ _ (.int _ _))
theorem x_aug {x : Str} {p pos : Pos} {e : Expr} {op : Operator} {i : Int} {Q : Fl N → LF N → Sg N → Prop} (hl : fr.lookup x = some (.int i)) (h : MWe prog w hB S d cells e fr (fun v σ₁ => ∃ j c, v = .int j ∧ ((op = .Add ∧ c = i + j) ∨ (op = .Sub ∧ c = i - j)) ∧ Q .next ((x, .int c) :: fr) σ₁) σ)
    (hk : S.kind = .function := by rfl) (hx : S.names.lookup x = some .local := by rfl) : MWx prog w hB S d cells (.AugAssign (.Name x p) op e pos) fr Q σ := by
  intro A s L q f cd frm cl m ρ X W E Qc k
  obtain ⟨u, hu, hv⟩ := X.fr x _ hl
  refine wpAny_AugAssign_Name (wpAny_loadName_local hk hx X.F.ns hu ?_)
  refine h A s L q f cd frm cl m ρ X W E _ fun v u' σ₁ ρ₁ h₁ tk₁ H1 r1 X1 W1 P1 => ?_
  obtain ⟨j, c, rfl, hc, H1⟩ := H1
  refine augV_ok hc (hv.mono P1.mono) r1 fun y tk ry => ?_
  exact store_local (s := { s with heap := h₁, toks := tk }) X1 W1 ry hk hx fun h₂ tk₂ m₂ X2 W2 P2 => k _ _ _ m₂ σ₁ ρ₁ h₂ tk₂ H1 .next X2 W2 (P1.trans P2)

/-! ## a call of a def -/
theorem FrR.binds {ρ : Rho N} : ∀ {fr : LF N} {bs : List (Str × Value)}, All2 (fun (p : Str × MV N) (q : Str × Value) => q.1 = p.1 ∧ VR ρ p.2 q.2) fr bs → FrR ρ fr (fun y => bs.lookup y)
  | _, _, .nil => fun _ _ e => by cases e
  | _, _, .cons (a := a) (b := b) h t => fun x v e => by
    obtain ⟨a1, a2⟩ := a
    obtain ⟨b1, b2⟩ := b
    obtain ⟨h1, h2⟩ := h
    dsimp only at h1 h2
    subst h1
    rw [List.lookup_cons] at e
    cases q : (x == b1) with
    | true => rw [q] at e; cases e; exact ⟨b2, by dsimp only; rw [List.lookup_cons, q], h2⟩
    | false =>
      rw [q] at e
      obtain ⟨u, hu, hv⟩ := FrR.binds t x v e
      exact ⟨u, by dsimp only; rw [List.lookup_cons, q]; exact hu, hv⟩
theorem All2.zipNames {ρ : Rho N} : ∀ (names : List Str) {args : List (MV N)} {us : List Value}, All2 (VR ρ) args us → All2 (fun (p : Str × MV N) (q : Str × Value) => q.1 = p.1 ∧ VR ρ p.2 q.2) (names.zip args) (names.zip us)
  | [], _, _, _ => .nil
  | _ :: _, _, _, .nil => .nil
  | _ :: ns, _, _, .cons h t => .cons ⟨rfl, h⟩ (All2.zipNames ns t)
theorem All2.reverse {α β : Type} {R : α → β → Prop} {as : List α} {bs : List β} (h : All2 R as bs) : All2 R as.reverse bs.reverse := by
  induction h with
  | nil => exact .nil
  | cons h _ ih => rw [List.reverse_cons, List.reverse_cons]; exact ih.append (.cons h .nil)

theorem code_any {name qual : Str} {params : Arguments} {body : List Stmt} {scope : Scope} {cl₀ : List (Str × Addr)} {cells₀ : List (Str × N)} {dV kV doc pm cdv ct : Value} {an : Option Addr} {f : Addr} {fo : Obj} {A : Around} {s : Shared} {ρ : Rho N} {args : List (MV N)} {us : List Value} {Q : MV N → Sg N → Prop} {R : Result → Shared → Prop}
    (T : Stat K mg mb hB) (r : Room A (d + 1)) (B : Base hB s.heap) (W : Wd prog w hB ρ σ s.heap) (ho : s.heap.get? f = some fo) (hd : fo.data = .func (fnX name qual params body scope cl₀ dV kV doc pm an cdv ct)) (hcr : s.heap.CodeRec cdv qual) (hC : CR ρ cells₀ cl₀) (ha : All2 (VR ρ) args us)
    (hb : BindsTo s (fnX name qual params body scope cl₀ dV kV doc pm an cdv ct) ⟨us, []⟩ ((params.args.map (·.arg)).zip us)) (hloc : ((params.args.map (·.arg)).all fun y => decide (scope.names.lookup y = some .local)) = true)
    (h : MWs prog w hB scope d cells₀ body ((params.args.map (·.arg)).zip args).reverse (fun fl _ σ₁ => Q fl.val σ₁) σ)
    (k : ∀ v u σ' ρ' h' tk, Q v σ' → VR ρ' v u → Wd prog w hB ρ' σ' h' → Sp none ρ ρ' s.heap h' → R (.ok (.ret u)) { s with heap := h', toks := tk })
    (hco : scope.isCoroutine = false) (hgen : scope.isGenerator = false) (hk : scope.kind = .function) (hcell : ∀ x ∈ scope.names, x.2 ≠ .cell) :
    codeAny (model prog w) A (.call (.ref f) ⟨us, []⟩) R s := by
  have hdep : A.depth < recursionLimit := by have := r.dep; omega
  refine codeAny_call_def (fd := fnX name qual params body scope cl₀ dV kV doc pm an cdv ct) (body := body) hdep ho hd (T.lim.keeps B.stay) hcr rfl hb hcell (fun x hx => ?_) (fun h₁ hns hk₁ => ?_) hco hgen hk
  · exact of_decide_eq_true (List.all_eq_true.mp hloc x.1 (List.of_mem_zip (show (x.1, x.2) ∈ _ from hx)).1)
  · have newL : s.heap.get? s.heap.objs.size = none := by
      cases q : s.heap.get? s.heap.objs.size with
      | none => rfl
      | some o => exact absurd (Heap.lt_size q) (Nat.lt_irrefl _)
    have F : Fr hB s.heap.objs.size h₁ (fun y => (((params.args.map (·.arg)).zip us).reverse).lookup y) := ⟨hns, fun b o e => hk₁ b o (B.stay b o e), B.size⟩
    have nl : ∀ a, ρ a ≠ some s.heap.objs.size := fun a e => W.live a _ e newL
    have P0 : Sp none ρ ρ s.heap h₁ := ⟨fun _ _ e => e, fun _ _ e => .inl e, fun a o e _ _ => hk₁ a o e, fun a e => by
      cases q : s.heap.get? a with
      | none => exact absurd q e
      | some o => rw [hk₁ a o q]; simp⟩
    have W0 : Wd prog w hB ρ σ h₁ := W.same fun n a o _ q => hk₁ a o q
    refine h (A.deeper (callEnv (fnX name qual params body scope cl₀ dV kV doc pm an cdv ct) s.heap.objs.size f)) { s with heap := h₁, toks := s.toks + ((params.args.map (·.arg)).zip us).length } s.heap.objs.size _ _ _ _ cl₀ _ ρ
      ⟨r.deeper, F, nl, hC, FrR.binds (All2.zipNames _ ha).reverse⟩ W0 _ _ fun fl flc fr' m' σ' ρ' h' tk H1 r1 X1 W1 P1 => ?_
    have P : Sp none ρ ρ' s.heap h' := ⟨fun a x e => P1.mono _ _ e, fun a x e => (P1.fresh a x e).imp id (fun q => by
        cases z : s.heap.get? x with
        | none => rfl
        | some o => rw [hk₁ x o z] at q; cases q), fun a o e _ n => P1.keep a o (hk₁ a o e) (fun z => by rw [← Option.some.inj z, newL] at e; cases e) n, fun a e => P1.alive a (P0.alive a e)⟩
    cases r1 with
    | next => exact k .none .none σ' ρ' h' tk H1 .none W1 P
    | ret e => exact k _ _ σ' ρ' h' tk H1 e W1 P

/-- a def of the text -/
theorem c_def {name qual : Str} {params : Arguments} {body : List Stmt} {scope : Scope} {dV kV doc pm cdv ct oc : Value} {an od : Option Addr} {osl : Array (Option Value)} {f : Addr} {args : List (MV N)} {Q : MV N → Sg N → Prop}
    (T : Stat K mg mb hB) (ho : K.lookup f = some ⟨oc, od, .func (fnOf name qual params body scope dV kV doc pm an cdv ct), osl⟩) (hcd : codeIn K cdv qual = true)
    (hb : ∀ us : List Value, us.length = args.length → bindArgs (fnOf name qual params body scope dV kV doc pm an cdv ct) ⟨us, []⟩ = pure ((params.args.map (·.arg)).zip us)) (hloc : ((params.args.map (·.arg)).all fun y => decide (scope.names.lookup y = some .local)) = true)
    (h : MWs prog w hB scope d [] body ((params.args.map (·.arg)).zip args).reverse (fun fl _ σ₁ => Q fl.val σ₁) σ)
    (hco : scope.isCoroutine = false := by rfl) (hgen : scope.isGenerator = false := by rfl) (hk : scope.kind = .function := by rfl) (hcell : ∀ x ∈ scope.names, x.2 ≠ .cell := by decide) : MWc prog w hB (d + 1) (.ref f) args Q σ := by
  intro A s ρ us r B W ha R k
  exact code_any T r B W (B.stay _ _ (T.X _ _ ho)) rfl (codeRec_of (fun a o e => B.stay _ _ (T.X a o e)) hcd) .nil ha (BindsTo.of_eq (hb us ha.length.symm)) hloc h k hco hgen hk hcell
end

/-! ## the whole ledger of a moment -/
theorem ledger {hB h : Heap} {L : Addr} : ∃ news : List (Addr × Obj), News hB L h news ∧ (∀ a o, h.get? a = some o → a ≠ L → hB.get? a = none → (a, o) ∈ news) ∧ (news.map (·.1)).Nodup := by
  refine ⟨(List.range h.objs.size).filterMap fun a => if a = L ∨ hB.get? a ≠ none then none else (h.get? a).map fun o => (a, o), ?_, ?_, ?_⟩
  · intro p hp
    obtain ⟨a, _, e⟩ := List.mem_filterMap.mp hp
    split at e
    · cases e
    · rename_i q
      obtain ⟨o, ho, rfl⟩ := Option.map_eq_some_iff.mp e
      refine ⟨ho, fun z => q (.inl z), ?_⟩
      cases z : hB.get? a with
      | none => rfl
      | some _ => exact absurd (.inr (by rw [z]; simp)) q
  · intro a o e hL hBa
    refine List.mem_filterMap.mpr ⟨a, List.mem_range.mpr (Heap.lt_size e), ?_⟩
    rw [if_neg (by rw [hBa]; simp [hL]), e]; rfl
  · rw [List.map_filterMap]
    have : (List.range h.objs.size).Nodup := List.nodup_range
    generalize List.range h.objs.size = l at this
    induction l with
    | nil => simp
    | cons a l ih =>
      rw [List.filterMap_cons]
      have hc := List.nodup_cons.mp this
      split
      · exact ih hc.2
      · rename_i b e
        refine List.nodup_cons.mpr ⟨fun hm => ?_, ih hc.2⟩
        obtain ⟨a', ha', e'⟩ := List.mem_filterMap.mp hm
        have key : ∀ (a b : Addr), Option.map (fun x : Addr × Obj => x.1) (if a = L ∨ hB.get? a ≠ none then none else (h.get? a).map fun o => (a, o)) = some b → a = b := by
          intro a b e
          split at e
          · cases e
          · cases q : h.get? a with
            | none => rw [q] at e; cases e
            | some o => rw [q] at e; exact Option.some.inj e
        rw [key _ _ e, ← key _ _ e'] at hc
        exact hc.1 ha'

theorem nodup_split {news : List (Addr × Obj)} {dx : Addr} {o : Obj} (hm : (dx, o) ∈ news) (hn : (news.map (·.1)).Nodup) : ∃ pre post, news = pre ++ (dx, o) :: post ∧ (∀ p ∈ pre, p.1 ≠ dx) ∧ ∀ p ∈ post, p.1 ≠ dx := by
  obtain ⟨pre, post, rfl⟩ := List.append_of_mem hm
  rw [List.map_append, List.map_cons] at hn
  obtain ⟨_, h2, h3⟩ := List.nodup_append.mp hn
  refine ⟨pre, post, rfl, fun p hp e => ?_, fun p hp e => ?_⟩
  · exact h3 p.1 (List.mem_map_of_mem hp) dx (.head _) e
  · have hm' := List.mem_map_of_mem (f := fun x : Addr × Obj => x.1) hp
    rw [e] at hm'
    exact (List.nodup_cons.mp h2).1 hm'

section
variable {N : Type} [DecidableEq N] {prog : Program} {w : World} {hB : Heap} {K : Frag} {mg mb : Str → Option Value} {S : Scope} {d : Nat} {cells : List (Str × N)} {fr : LF N} {σ : Sg N}
  {A : Around} {L : Addr} {cl : List (Str × Addr)} {m : Str → Option Value} {ρ ρ' : Rho N} {h h' : Heap}

def Sg.set (σ : Sg N) (n : N) (o : MO N) : Sg N := fun k => if k = n then some o else σ k
theorem Sg.set_self (σ : Sg N) (n : N) (o : MO N) : (σ.set n o) n = some o := by simp [Sg.set]
theorem Sg.set_ne (σ : Sg N) {n k : N} (o : MO N) (e : k ≠ n) : (σ.set n o) k = σ k := by simp [Sg.set, e]

/-- one object turned -/
theorem Wd.upd (W : Wd prog w hB ρ σ h) {n : N} {o' : MO N} (keep : ∀ a x ob, ρ a = some x → a.1 ≠ n → h.get? x = some ob → h'.get? x = some ob) (live : ∀ b x, ρ (n, b) = some x → h'.get? x ≠ none) (hr : OR prog w ρ h' n o') :
    Wd prog w hB ρ (σ.set n o') h' where
  inj := W.inj
  off := W.off
  big := W.big
  live := fun a x e => by
    by_cases q : a.1 = n
    · obtain ⟨a1, a2⟩ := a
      dsimp only at q
      subst q
      exact live a2 x e
    · cases z : h.get? x with
      | none => exact absurd z (W.live a x e)
      | some ob => rw [keep a x ob e q z]; simp
  dom := fun k b x e => by
    by_cases q : k = n
    · rw [q, Sg.set_self]; simp
    · rw [Sg.set_ne _ _ q]; exact W.dom k b x e
  obj := fun k o e => by
    by_cases q : k = n
    · subst q; rw [Sg.set_self] at e; cases e; exact hr
    · rw [Sg.set_ne _ _ q] at e
      exact (W.obj k o e).step (fun _ _ z => z) fun b x ob q1 q2 => keep _ x ob q1 q q2

/-- one object came: x, and where it has one its dict dx -/
def Rho.add (ρ : Rho N) (n : N) (x : Addr) (dx : Option Addr) : Rho N := fun a => if a.1 = n then (if a.2 then dx else some x) else ρ a
theorem Wd.new (W : Wd prog w hB ρ σ h) {n : N} {o' : MO N} {x : Addr} {dx : Option Addr} (hn : σ n = none) (hx : h.get? x = none) (hxB : hB.get? x = none) (hxb : hB.objs.size ≤ x) (hx' : h'.get? x ≠ none) (hd : ∀ y, dx = some y → h.get? y = none ∧ hB.get? y = none ∧ h'.get? y ≠ none ∧ y ≠ x ∧ hB.objs.size ≤ y)
    (keep : ∀ a ob, h.get? a = some ob → (∃ n, ρ n = some a) → h'.get? a = some ob) (hr : OR prog w (ρ.add n x dx) h' n o') : Wd prog w hB (ρ.add n x dx) (σ.set n o') h' := by
  have no : ∀ b, ρ (n, b) = none := fun b => by
    cases q : ρ (n, b) with
    | none => rfl
    | some y => exact absurd hn (W.dom n b y q)
  have cs : ∀ a y, (ρ.add n x dx) a = some y → (a = (n, false) ∧ y = x) ∨ (a = (n, true) ∧ dx = some y) ∨ (a.1 ≠ n ∧ ρ a = some y) := fun a y e => by
    obtain ⟨a1, a2⟩ := a
    unfold Rho.add at e
    dsimp only at e
    by_cases q : a1 = n
    · subst q
      rw [if_pos rfl] at e
      cases a2 with
      | false => left; exact ⟨rfl, (Option.some.inj e).symm⟩
      | true => right; left; exact ⟨rfl, e⟩
    · rw [if_neg q] at e; right; right; exact ⟨q, e⟩
  have lv : ∀ a y, ρ a = some y → y ≠ x ∧ dx ≠ some y := fun a y e => ⟨fun z => W.live a y e (z ▸ hx), fun z => W.live a y e (hd y z).1⟩
  have mono : ∀ a y, ρ a = some y → (ρ.add n x dx) a = some y := fun a y e => by
    obtain ⟨a1, a2⟩ := a
    unfold Rho.add
    dsimp only
    rw [if_neg]
    · exact e
    · intro q
      subst q
      rw [no] at e; cases e
  refine ⟨fun a b y ea eb => ?_, fun a y e => ?_, fun a y e => ?_, fun a y e => ?_, fun k b y e => ?_, fun k o e => ?_⟩
  · rcases cs a y ea with ⟨h1, h2⟩ | ⟨h1, h2⟩ | ⟨h1, h2⟩ <;> rcases cs b y eb with ⟨g1, g2⟩ | ⟨g1, g2⟩ | ⟨g1, g2⟩
    · rw [h1, g1]
    · exact absurd h2 (hd y g2).2.2.2.1
    · exact absurd h2 (lv b y g2).1
    · exact absurd g2 (hd y h2).2.2.2.1
    · rw [h1, g1]
    · exact absurd h2 (lv b y g2).2
    · exact absurd g2 (lv a y h2).1
    · exact absurd g2 (lv a y h2).2
    · exact W.inj a b y h2 g2
  · rcases cs a y e with ⟨_, h2⟩ | ⟨_, h2⟩ | ⟨_, h2⟩
    · rw [h2]; exact hxB
    · exact (hd y h2).2.1
    · exact W.off a y h2
  · rcases cs a y e with ⟨_, h2⟩ | ⟨_, h2⟩ | ⟨_, h2⟩
    · rw [h2]; exact hxb
    · exact (hd y h2).2.2.2.2
    · exact W.big a y h2
  · rcases cs a y e with ⟨_, h2⟩ | ⟨_, h2⟩ | ⟨_, h2⟩
    · rw [h2]; exact hx'
    · exact (hd y h2).2.2.1
    · cases z : h.get? y with
      | none => exact absurd z (W.live a y h2)
      | some ob => rw [keep y ob z ⟨a, h2⟩]; simp
  · by_cases q : k = n
    · rw [q, Sg.set_self]; simp
    · rw [Sg.set_ne _ _ q]
      rcases cs _ y e with ⟨h1, _⟩ | ⟨h1, _⟩ | ⟨_, h2⟩
      · exact absurd (congrArg Prod.fst h1) q
      · exact absurd (congrArg Prod.fst h1) q
      · exact W.dom k b y h2
  · by_cases q : k = n
    · subst q; rw [Sg.set_self] at e; cases e; exact hr
    · rw [Sg.set_ne _ _ q] at e
      exact (W.obj k o e).step mono fun b y ob q1 q2 => keep y ob q2 ⟨_, q1⟩
theorem Sp.add {X : Option Addr} (W : Wd prog w hB ρ σ h) {n : N} {x : Addr} {dx : Option Addr} (hn : σ n = none) (hx : h.get? x = none) (hd : ∀ y, dx = some y → h.get? y = none) (keep : ∀ a ob, h.get? a = some ob → X ≠ some a → h'.get? a = some ob) (lv : ∀ a, X = some a → h'.get? a ≠ none) : Sp X ρ (ρ.add n x dx) h h' where
  mono := fun a y e => by
    obtain ⟨a1, a2⟩ := a
    unfold Rho.add
    dsimp only
    rw [if_neg]
    · exact e
    · intro q; subst q; exact W.dom _ _ _ e hn
  fresh := fun a y e => by
    obtain ⟨a1, a2⟩ := a
    unfold Rho.add at e
    dsimp only at e
    split at e
    · split at e
      · exact .inr (hd y e)
      · exact .inr (Option.some.inj e ▸ hx)
    · exact .inl e
  keep := fun a ob e n _ => keep a ob e n
  alive := fun a e => by
    by_cases z : X = some a
    · exact lv a z
    · cases q : h.get? a with
      | none => exact absurd q e
      | some ob => rw [keep a ob q z]; simp

/-- a frame that stands: from what the library's rules hand on -/
theorem FS.go (X : FS hB d fr cells A L cl m ρ h) (F' : Fr hB L h' m) (P : Sp (some L) ρ ρ' h h') : FS hB d fr cells A L cl m ρ' h' := ⟨X.room, F', fun a q => by
  rcases P.fresh a L q with q | q
  · exact X.nl a q
  · exact X.liveL q, X.cr.mono P.mono, X.fr.mono P.mono⟩

theorem Sp.upd {n : N} (hk : ∀ a o, h.get? a = some o → a ≠ L → (∀ b, ρ (n, b) ≠ some a) → h'.get? a = some o) (lv : ∀ b x, ρ (n, b) = some x → h'.get? x ≠ none) (lL : h'.get? L ≠ none) : Sp (some L) ρ ρ h h' :=
  ⟨fun _ _ e => e, fun _ _ e => .inl e, fun a o e q hn => hk a o e (fun z => q (by rw [z])) fun b => hn _, fun a e => by
    by_cases z : a = L
    · rw [z]; exact lL
    · by_cases q : ∃ b, ρ (n, b) = some a
      · obtain ⟨b, hb⟩ := q; exact lv b a hb
      · cases y : h.get? a with
        | none => exact absurd y e
        | some o => rw [hk a o y z fun b hb => q ⟨b, hb⟩]; simp⟩

/-! ## fields -/
def fset (name : Str) (v : MV N) : List (Str × MV N) → List (Str × MV N)
  | [] => [(name, v)]
  | p :: r => if p.1 == name then (p.1, v) :: r else p :: fset name v r

theorem fd_get {fs : List (Str × MV N)} {es : List DictEntry} (H : All2 (FdR ρ) fs es) {name : Str} {v : MV N} (e : fs.lookup name = some v) : ∃ u, getL name es = some (some u) ∧ VR ρ v u := by
  induction H with
  | nil => cases e
  | @cons p q fs es hp hr ih =>
    obtain ⟨⟨t, ht⟩, hv⟩ := hp
    obtain ⟨p1, p2⟩ := p
    dsimp only at ht hv
    rw [List.lookup_cons] at e
    unfold getL
    rw [List.find?_cons]
    have hq : q.key.isStr name = (p1 == name) := by rw [ht]; rfl
    rw [hq]
    cases z : (name == p1) with
    | true =>
      rw [z] at e; cases e
      have : (p1 == name) = true := by rw [beq_iff_eq] at z ⊢; exact z.symm
      rw [this]
      exact ⟨_, rfl, hv⟩
    | false =>
      rw [z] at e
      have : (p1 == name) = false := by
        cases y : (p1 == name) with
        | false => rfl
        | true => rw [beq_iff_eq] at y; rw [y] at z; simp at z
      rw [this]
      obtain ⟨u, hu, hv'⟩ := ih e
      refine ⟨u, ?_, hv'⟩
      unfold getL at hu
      cases y : es.find? fun x => x.key.isStr name with
      | some e' => rw [y] at hu; exact hu
      | none => rw [y] at hu; dsimp only at hu; split at hu <;> cases hu
theorem fd_none {fs : List (Str × MV N)} {es : List DictEntry} (H : All2 (FdR ρ) fs es) {name : Str} (e : fs.lookup name = none) : getL name es = some none := by
  have h1 : es.find? (fun x => x.key.isStr name) = none := by
    induction H with
    | nil => rfl
    | @cons p q fs es hp hr ih =>
      obtain ⟨⟨t, ht⟩, hv⟩ := hp
      obtain ⟨p1, p2⟩ := p
      dsimp only at ht hv
      rw [List.lookup_cons] at e
      rw [List.find?_cons]
      have hq : q.key.isStr name = (p1 == name) := by rw [ht]; rfl
      rw [hq]
      cases z : (name == p1) with
      | true => rw [z] at e; cases e
      | false =>
        rw [z] at e
        have : (p1 == name) = false := by
          cases y : (p1 == name) with
          | false => rfl
          | true => rw [beq_iff_eq] at y; rw [y] at z; simp at z
        rw [this]; exact ih e
  have h2 : es.any (·.refKey) = false := by
    clear e h1
    induction H with
    | nil => rfl
    | @cons p q fs es hp hr ih =>
      obtain ⟨⟨t, ht⟩, hv⟩ := hp
      rw [List.any_cons, ih]
      have : q.refKey = false := by unfold DictEntry.refKey; rw [ht]
      rw [this]; rfl
  unfold getL
  rw [h1]; dsimp only; rw [h2]; rfl
theorem fd_set {fs : List (Str × MV N)} {es : List DictEntry} (H : All2 (FdR ρ) fs es) {name : Str} {v : MV N} {u : Value} {hsh : Int} {t : Tok} (hv : VR ρ v u) : All2 (FdR ρ) (fset name v fs) (putL name hsh (.str name t) u es) := by
  induction H with
  | nil => exact .cons ⟨⟨t, rfl⟩, hv⟩ .nil
  | @cons p q fs es hp hr ih =>
    obtain ⟨⟨t', ht⟩, hv'⟩ := hp
    unfold fset putL
    have hq : q.key.isStr name = (p.1 == name) := by rw [ht]; rfl
    rw [hq]
    split
    · exact .cons ⟨⟨t', ht⟩, hv⟩ hr
    · exact .cons ⟨⟨t', ht⟩, hv'⟩ ih
theorem fset_length {name : Str} {v : MV N} {fs : List (Str × MV N)} : (fset name v fs).length ≤ fs.length + 1 := by
  induction fs with
  | nil => simp [fset]
  | cons p r ih =>
    unfold fset
    split
    · simp
    · simp only [List.length_cons]; omega

structure FieldOk (K : Frag) (C : Addr) (name : Str) : Prop where
  pg : plainGet K C name = true
  hd : hasDictIn K C = true
  fd : findIn K (.ref C) name = some none

theorem Wd.inst (W : Wd prog w hB ρ σ h) {n : N} {C : Addr} {fs : List (Str × MV N)} {x : Addr} {G : Prop} (hs : σ n = some (.inst C fs)) (hx : ρ (n, false) = some x)
    (k : ∀ dx es n', ρ (n, true) = some dx → h.get? x = some (instObj C dx) → h.get? dx = some (dictOf es n') → All2 (FdR ρ) fs es → G) : G := by
  obtain ⟨x', dx, es, n', g1, g2, g3, g4, g5⟩ := W.obj _ _ hs
  rw [hx] at g1; cases g1
  exact k dx es n' g2 g3 g4 g5
theorem get_attr {s : Shared} {n : N} {C : Addr} {fs : List (Str × MV N)} {name : Str} {v : MV N} {expr : Bool} {E : Value → Shared → Prop} {Qc : Value → Shared → Prop} {x : Addr}
    (T : Stat K mg mb hB) (X : FS hB d fr cells A L cl m ρ s.heap) (W : Wd prog w hB ρ σ s.heap) (hx : ρ (n, false) = some x) (hs : σ n = some (.inst C fs)) (ok : FieldOk K C name) (hl : fs.lookup name = some v)
    (k : ∀ u tk, VR ρ v u → Qc u { s with toks := tk }) : wpAny (model prog w) A (getAttr (.ref x) name expr) Qc E s := by
  refine W.inst hs hx fun dx es n' h2 h3 h4 h5 => ?_
  obtain ⟨u, hu, hv⟩ := fd_get h5 hl
  exact get_own X.F T.X ⟨h3, rfl, rfl, h4⟩ ok.pg ok.hd ok.fd rfl hu hv.handed (k u _ hv)

theorem e_attr (T : Stat K mg mb hB) {o : Expr} {name : Str} {pos : Pos} {Q : MV N → Sg N → Prop}
    (h : MWe prog w hB S d cells o fr (fun v σ₁ => ∃ n C fs u, v = .ref n ∧ σ₁ n = some (.inst C fs) ∧ FieldOk K C name ∧ fs.lookup name = some u ∧ Q u σ₁) σ)
    (he : ∀ env, eval (.Attribute o name pos) env = (do let o' ← eval o env; standAt pos.atName; let r ← holding [o'] (getAttr o' name true); letTemporaryGo o o' r; pure r) := by intro _; rfl) : MWe prog w hB S d cells (.Attribute o name pos) fr Q σ := by
  intro A s L q f cd frm cl m ρ X W E Qc k
  refine Attribute_any_ (h A s L q f cd frm cl m ρ X W E _ fun v u σ₁ ρ₁ h₁ tk₁ H1 r1 X1 W1 P1 => ?_) (he _)
  obtain ⟨n, C, fs, u', rfl, h1, h2, h3, H1⟩ := H1
  cases r1
  rename_i hx
  exact get_attr T (s := { s with heap := h₁, toks := tk₁ }) X1 W1 hx h1 h2 h3 fun u tk hv => k _ _ σ₁ ρ₁ h₁ tk H1 hv X1 W1 P1

structure SetOk (K : Frag) (C : Addr) (name : Str) : Prop where
  sa : findIn K (.ref C) "__setattr__" = some (some (.builtin "object.__setattr__"))
  po : plainOver K C = true
  tk : takerIn K C name = some none
  hd : hasDictIn K C = true

theorem set_attr {s : Shared} {n : N} {C : Addr} {fs : List (Str × MV N)} {name : Str} {v : MV N} {u : Value} {E : Value → Shared → Prop} {Qc : Unit → Shared → Prop} {x : Addr}
    (T : Stat K mg mb hB) (X : FS hB d fr cells A L cl m ρ s.heap) (W : Wd prog w hB ρ σ s.heap) (hx : ρ (n, false) = some x) (hs : σ n = some (.inst C fs)) (ok : SetOk K C name) (hv : VR ρ v u) (hlen : fs.length < 1000)
    (k : ∀ h' tk, FS hB d fr cells A L cl m ρ h' → Wd prog w hB ρ (σ.set n (.inst C (fset name v fs))) h' → Sp (some L) ρ ρ s.heap h' → Qc () { s with heap := h', toks := tk }) : wpAny (model prog w) A (setAttr (.ref x) name u) Qc E s := by
  refine W.inst hs hx fun dx es n' h2 h3 h4 h5 => ?_
  obtain ⟨news, hN, hall, hnd⟩ := ledger (hB := hB) (h := s.heap) (L := L)
  have dL : dx ≠ L := fun z => X.nl _ (z ▸ h2)
  have dB : hB.get? dx = none := W.off _ _ h2
  obtain ⟨pre, post, rfl, hp, hq⟩ := nodup_split (hall dx _ h4 dL dB) hnd
  have hlk : (getL name es).isSome = true := by
    cases z : fs.lookup name with
    | none => rw [fd_none h5 z]; rfl
    | some v' => obtain ⟨u', hu', _⟩ := fd_get h5 z; rw [hu']; rfl
  have hI : PySem.W.InstAt s.heap x (instObj C dx) C (some (dictOf es n')) := ⟨h3, rfl, rfl, h4⟩
  have hz : (putL name (PyData.keyHash w.params name) (.str name (s.toks + 1)) u es).length ≤ 1000 := by
    rw [← (fd_set (ρ := ρ) (name := name) (hsh := PyData.keyHash w.params name) (t := s.toks + 1) h5 hv).length]
    have := fset_length (name := name) (v := v) (fs := fs); omega
  have X' : K.In s.heap := fun a o e => X.F.keep _ _ (T.X a o e)
  refine set_plain X' hI ok.sa (osa_dict (s := { s with toks := s.toks + 1 }) X.F hN X' hI rfl ok.po ok.tk ok.hd hlk hp hq (putName_dict ..) rfl hz fun h' F' N' => ?_)
  have keep : ∀ a o, s.heap.get? a = some o → a ≠ L → a ≠ dx → h'.get? a = some o := fun a o e nL nd => by
    cases z : hB.get? a with
    | some o' => have := X.F.keep a o' z; rw [e] at this; cases this; exact F'.keep a o z
    | none =>
      have := hall a o e nL z
      rcases List.mem_append.mp this with hm | hm
      · exact (N' _ (List.mem_append.mpr (.inl hm))).1
      · rcases List.mem_cons.mp hm with hm | hm
        · exact absurd (congrArg Prod.fst hm) nd
        · exact (N' _ (List.mem_append.mpr (.inr (.tail _ hm)))).1
  have hxd : x ≠ dx := fun z => by have := W.inj _ _ _ hx (z ▸ h2); cases this
  have hxL : x ≠ L := fun z => X.nl _ (z ▸ hx)
  have g3 := keep x _ h3 hxL hxd
  have g4 := (N' (dx, dictOf (putL name (PyData.keyHash w.params name) (.str name (s.toks + 1)) u es) (putN name es n')) (List.mem_append.mpr (.inr (.head _)))).1
  have lv : ∀ b y, ρ (n, b) = some y → h'.get? y ≠ none := fun b y e => by
    cases b with
    | false => rw [hx] at e; cases e; rw [g3]; simp
    | true => rw [h2] at e; cases e; rw [g4]; simp
  have P : Sp (some L) ρ ρ s.heap h' := Sp.upd (n := n) (fun a o e nL hn => keep a o e nL fun z => hn true (z ▸ h2)) lv (by obtain ⟨o, _, _, hL, _⟩ := F'.ns; rw [hL]; simp)
  refine k h' _ (X.go F' P) (W.upd (fun a y ob e na q => keep y ob q (fun z => X.nl a (z ▸ e)) fun z => na (by have := W.inj a (n, true) y e (z ▸ h2); rw [this])) lv ?_) P
  exact ⟨x, dx, _, _, hx, h2, g3, g4, fd_set h5 hv⟩

theorem x_setattr (T : Stat K mg mb hB) {o e : Expr} {name : Str} {p pos : Pos} {Q : Fl N → LF N → Sg N → Prop}
    (h : MWe prog w hB S d cells e fr (fun v σ₁ => MWe prog w hB S d cells o fr (fun ov σ₂ => ∃ n C fs, ov = .ref n ∧ σ₂ n = some (.inst C fs) ∧ SetOk K C name ∧ fs.length < 1000 ∧ Q .next fr (σ₂.set n (.inst C (fset name v fs)))) σ₁) σ)
    (hs : ∀ env : Env, swapsWith e (some (.Attribute o name p)) pos.line env = pure false := by intro _; rfl) : MWx prog w hB S d cells (.Assign [.Attribute o name p] e pos) fr Q σ := by
  intro A s L q f cd frm cl m ρ X W E Qc k
  refine plainObj_wpAny_Assign_Attribute (h A s L q f cd frm cl m ρ X W E _ fun v u σ₁ ρ₁ h₁ tk₁ H1 r1 X1 W1 P1 => ?_) (hs _)
  refine H1 A { s with heap := h₁, toks := tk₁ } L q f cd frm cl m ρ₁ X1 W1 E _ fun ov ou σ₂ ρ₂ h₂ tk₂ H2 r2 X2 W2 P2 => ?_
  obtain ⟨n, C, fs, rfl, g1, g2, g3, H2⟩ := H2
  cases r2
  rename_i hx
  exact set_attr T (s := { s with heap := h₂, toks := tk₂ }) X2 W2 hx g1 g2 (r1.mono P2.mono) g3 fun h₃ tk₃ X3 W3 P3 => k _ _ fr m _ ρ₂ h₃ tk₃ H2 .next X3 W3 ((P1.trans P2).trans P3)

theorem x_augattr (T : Stat K mg mb hB) {o e : Expr} {name : Str} {op : Operator} {p pos : Pos} {Q : Fl N → LF N → Sg N → Prop}
    (h : MWe prog w hB S d cells o fr (fun ov σ₁ => ∃ n C fs i, ov = .ref n ∧ σ₁ n = some (.inst C fs) ∧ FieldOk K C name ∧ fs.lookup name = some (.int i) ∧
      MWe prog w hB S d cells e fr (fun v σ₂ => ∃ C' fs' j c, v = .int j ∧ ((op = .Add ∧ c = i + j) ∨ (op = .Sub ∧ c = i - j)) ∧ σ₂ n = some (.inst C' fs') ∧ SetOk K C' name ∧ fs'.length < 1000 ∧ Q .next fr (σ₂.set n (.inst C' (fset name (.int c) fs')))) σ₁) σ) :
    MWx prog w hB S d cells (.AugAssign (.Attribute o name p) op e pos) fr Q σ := by
  intro A s L q f cd frm cl m ρ X W E Qc k
  refine wpAny_AugAssign_AttributeAny (h A s L q f cd frm cl m ρ X W E _ fun ov ou σ₁ ρ₁ h₁ tk₁ H1 r1 X1 W1 P1 => ?_)
  obtain ⟨n, C, fs, i, rfl, g1, g2, g3, H1⟩ := H1
  cases r1
  rename_i x hx
  refine get_attr T (s := { s with heap := h₁, toks := tk₁ }) X1 W1 hx g1 g2 g3 fun u tk hv => ?_
  refine H1 A { s with heap := h₁, toks := tk } L q f cd frm cl m ρ₁ X1 W1 E _ fun v u' σ₂ ρ₂ h₂ tk₂ H2 r2 X2 W2 P2 => ?_
  obtain ⟨C', fs', j, c, rfl, hc, g4, g5, g6, H2⟩ := H2
  refine augV_ok hc (hv.mono P2.mono) r2 fun y tk' ry => ?_
  exact set_attr T (s := { s with heap := h₂, toks := tk' }) X2 W2 (P2.mono _ _ hx) g4 g5 ry g6 fun h₃ tk₃ X3 W3 P3 => k _ _ fr m _ ρ₂ h₃ tk₃ H2 .next X3 W3 ((P1.trans P2).trans P3)
end

section
variable {N : Type} [DecidableEq N] {prog : Program} {w : World} {hB : Heap} {K : Frag} {mg mb : Str → Option Value} {S : Scope} {d : Nat} {cells : List (Str × N)} {fr : LF N} {σ : Sg N}
  {A : Around} {L : Addr} {cl : List (Str × Addr)} {m : Str → Option Value} {ρ ρ' : Rho N} {h h' : Heap}

/-- a value is called -/
def MWv (prog : Program) (w : World) (hB : Heap) (d : Nat) (f : MV N) (args : List (MV N)) (Q : MV N → Sg N → Prop) (σ : Sg N) : Prop :=
  ∀ (fr : LF N) (cells : List (Str × N)) (A : Around) (s : Shared) (L : Addr) (cl : List (Str × Addr)) (m : Str → Option Value) (ρ : Rho N) (u : Value) (us : List Value), FS hB d fr cells A L cl m ρ s.heap → Wd prog w hB ρ σ s.heap → VR ρ f u → All2 (VR ρ) args us →
    ∀ (E : Value → Shared → Prop) (Qc : Value → Shared → Prop), (∀ v u σ' ρ' h' tk, Q v σ' → VR ρ' v u → FS hB d fr cells A L cl m ρ' h' → Wd prog w hB ρ' σ' h' → Sp (some L) ρ ρ' s.heap h' → Qc u { s with heap := h', toks := tk }) →
      wpAny (model prog w) A (call u us) Qc E s

theorem args1 {ρ : Rho N} {v : MV N} {us : List Value} {G : Prop} (h : All2 (VR ρ) [v] us) (k : ∀ u, us = [u] → VR ρ v u → G) : G := by
  cases h with | cons r t => cases t; exact k _ rfl r
theorem args2 {ρ : Rho N} {v v' : MV N} {us : List Value} {G : Prop} (h : All2 (VR ρ) [v, v'] us) (k : ∀ u u', us = [u, u'] → VR ρ v u → VR ρ v' u' → G) : G := by
  cases h with | cons r t => exact args1 t fun u e r' => k _ u (by rw [e]) r r'
theorem args3 {ρ : Rho N} {v v' v'' : MV N} {us : List Value} {G : Prop} (h : All2 (VR ρ) [v, v', v''] us) (k : ∀ u u' u'', us = [u, u', u''] → VR ρ v u → VR ρ v' u' → VR ρ v'' u'' → G) : G := by
  cases h with | cons r t => exact args2 t fun u u' e r' r'' => k _ u u' (by rw [e]) r r' r''
theorem VR.str_at {i : Str} {u : Value} {G : Prop} (r : VR ρ (.str i) u) (k : ∀ t, u = .str i t → G) : G := by
  cases r; exact k _ rfl
theorem Wd.sdict (W : Wd prog w hB ρ σ h) {n : N} {kvs : List (Str × MV N)} {x : Addr} {G : Prop} (hs : σ n = some (.sdict kvs)) (hx : ρ (n, false) = some x) (k : ∀ us, Heap.DictOf (PySem.strKind prog w) h x us → All2 (KVR ρ) kvs us → G) : G := by
  obtain ⟨x', us, g1, g2, g3⟩ := W.obj _ _ hs
  rw [hx] at g1; cases g1
  exact k us g2 g3
theorem VR.at {n : N} {u : Value} {G : Prop} (r : VR ρ (.ref n) u) (k : ∀ x, u = .ref x → ρ (n, false) = some x → G) : G := by
  cases r with | ref e => exact k _ rfl e
theorem VR.int_at {i : Int} {u : Value} {G : Prop} (r : VR ρ (.int i) u) (k : ∀ t, u = .int i t → G) : G := by
  cases r; exact k _ rfl
theorem VR.val_at {v u : Value} (r : VR ρ (.val v) u) : u = v := by
  cases r; rfl
theorem Wd.idict (W : Wd prog w hB ρ σ h) {n : N} {kvs : List (Int × MV N)} {x : Addr} {G : Prop} (hs : σ n = some (.idict kvs)) (hx : ρ (n, false) = some x) (k : ∀ us, Heap.DictOf (intKind prog w) h x us → All2 (KVR ρ) kvs us → G) : G := by
  obtain ⟨x', us, g1, g2, g3⟩ := W.obj _ _ hs
  rw [hx] at g1; cases g1
  exact k us g2 g3

/-- what may be called, as a call looks at it -/
def Keeps (K : Frag) (σ : Sg N) : MV N → Prop
  | .val v => keepIn K v = true ∨ (∃ i, v = .builtin i) ∨ (∃ t, v = .type t)
  | .ref n => (∃ f self, σ n = some (.meth f self) ∧ fnIn K f = true) ∨ (∃ p b sc c, σ n = some (.clo p b sc c))
  | _ => False
theorem Keeps.look {M : Model} (T : Stat K mg mb hB) (B : Base hB h) (W : Wd prog w hB ρ σ h) {f : MV N} {u : Value} (H : Keeps K σ f) (r : VR ρ f u) : ∃ k, (k = Keeper.frame ∨ k = Keeper.machine ∨ k = Keeper.boundFrame) ∧ Looks M h (keeperOf u) k := by
  have X : K.In h := fun a o e => B.stay _ _ (T.X a o e)
  cases r with
  | val =>
    rcases H with e | ⟨i, rfl⟩ | ⟨t, rfl⟩
    · exact keeps_K e h X
    · exact ⟨.machine, .inr (.inl rfl), .now⟩
    · exact ⟨.machine, .inr (.inl rfl), .now⟩
  | ref hx =>
    rcases H with ⟨f, self, e, hf⟩ | ⟨p, b, sc, c, e⟩
    · obtain ⟨x, v, h1, h2, _⟩ := W.obj _ _ e
      rw [hx] at h1; cases h1
      exact keeps_M hf h ⟨h2, X⟩
    · obtain ⟨x, o, _, _, _, _, _, _, _, _, _, _, _, h1, h2, h3, _⟩ := W.obj _ _ e
      rw [hx] at h1; cases h1
      refine ⟨.frame, .inl rfl, ?_⟩
      unfold keeperOf
      refine (Looks.ld (part := none) h2).andThen ?_
      rw [h3]; exact .now
  | _ => exact H.elim

/-- the arguments, then the call -/
def MWw (K : Frag) (prog : Program) (w : World) (hB : Heap) (S : Scope) (d : Nat) (cells : List (Str × N)) (f : MV N) (first : List (MV N)) (args : List Expr) (fr : LF N) (Q : MV N → Sg N → Prop) (σ : Sg N) : Prop :=
  match args with
  | [] => Keeps K σ f ∧ MWv prog w hB d f first Q σ
  | e :: r => MWl prog w hB S d cells (e :: r) fr (fun vs σ₁ => Keeps K σ₁ f ∧ MWv prog w hB d f (first ++ vs) Q σ₁) σ

def PlainArgs (args : List Expr) : Prop := ∀ env : Env, (∀ pos, ((backTo pos (starEach args env)).any (·.1)) = false) ∧ match args with
  | [] => True
  | e :: r => starEach (e :: r) env = (false, eval e env) :: starEach r env

theorem callWith_ok (T : Stat K mg mb hB) {s : Shared} {q : Str} {ff : Option Addr} {cd : Value} {frm : Option Addr} {f : MV N} {u : Value} {first : List (MV N)} {us : List Value} {args : List Expr} {pos : Pos} {Q : MV N → Sg N → Prop} {E : Value → Shared → Prop} {Qc : Value → Shared → Prop}
    (h : MWw K prog w hB S d cells f first args fr Q σ) (X : FS hB d fr cells A L cl m ρ s.heap) (W : Wd prog w hB ρ σ s.heap) (rf : VR ρ f u) (ra : All2 (VR ρ) first us) (hp : PlainArgs args)
    (k : ∀ v u σ' ρ' h' tk, Q v σ' → VR ρ' v u → FS hB d fr cells A L cl m ρ' h' → Wd prog w hB ρ' σ' h' → Sp (some L) ρ ρ' s.heap h' → Qc u { s with heap := h', toks := tk }) :
    wpAny (model prog w) A (callWith pos u us (backTo pos (starEach args (mkEnv S L cl q ff cd frm))) []) Qc E s := by
  refine callWith_of (P := fun h => ∃ k, (k = Keeper.frame ∨ k = Keeper.machine ∨ k = Keeper.boundFrame) ∧ Looks (model prog w) h (keeperOf u) k) (by rw [(hp _).1]; rfl) (fun _ x => x) ?_
  cases args with
  | nil =>
    refine evalArgs_nil3 ⟨Keeps.look T X.base W h.1 rf, ?_⟩
    rw [List.append_nil]
    exact h.2 fr cells A s L cl m ρ u us X W rf ra E Qc k
  | cons e r =>
    have he := (hp (mkEnv S L cl q ff cd frm)).2
    have h' := h A s L q ff cd frm cl m ρ X W pos E (fun us' s' => (∃ k, (k = Keeper.frame ∨ k = Keeper.machine ∨ k = Keeper.boundFrame) ∧ Looks (model prog w) s'.heap (keeperOf u) k) ∧ wpAny (model prog w) A (call u (us ++ us') []) Qc E s') (fun vs us' σ₁ ρ₁ h₁ tk₁ H1 r1 X1 W1 P1 =>
      ⟨Keeps.look T X1.base W1 H1.1 (rf.mono P1.mono), H1.2 fr cells A { s with heap := h₁, toks := tk₁ } L cl m ρ₁ u (us ++ us') X1 W1 (rf.mono P1.mono) ((ra.mono fun _ _ z => z.mono P1.mono).append r1) E Qc fun v u σ₂ ρ₂ h₂ tk₂ H2 r2 X2 W2 P2 => k v u σ₂ ρ₂ h₂ tk₂ H2 r2 X2 W2 (P1.trans P2)⟩)
    dsimp only at he
    rw [he] at h' ⊢
    exact evalArgs_plain h'

/-- f(a, b) -/
theorem e_call (T : Stat K mg mb hB) {x : Str} {np pos : Pos} {args : List Expr} {Q : MV N → Sg N → Prop} (h : MWe prog w hB S d cells (.Name x np) fr (fun f σ₁ => MWw K prog w hB S d cells f [] args fr Q σ₁) σ) (hp : PlainArgs args := by exact fun _ => ⟨fun _ => rfl, by first | trivial | rfl⟩) :
    MWe prog w hB S d cells (.Call (.Name x np) args [] pos) fr Q σ := by
  intro A s L q f cd frm cl m ρ X W E Qc k
  refine wpAny_Call_NameR (h A s L q f cd frm cl m ρ X W E _ fun v u σ₁ ρ₁ h₁ tk₁ H1 r1 X1 W1 P1 => ?_)
  exact callWith_ok T (s := { s with heap := h₁, toks := tk₁ }) H1 X1 W1 r1 .nil hp fun v u σ₂ ρ₂ h₂ tk₂ H2 r2 X2 W2 P2 => k v u σ₂ ρ₂ h₂ tk₂ H2 r2 X2 W2 (P1.trans P2)

structure MethOk (K : Frag) (C : Addr) (name : Str) (f : Addr) : Prop where
  pg : plainGet K C name = true
  fd : findIn K (.ref C) name = some (some (.ref f))
  fn : isFn K (.ref f) = true
structure ListMeth (name : Str) (id : String) : Prop where
  slot : Slot "list" name id
  ty : typeOf (.builtin id) = pure (.type "method_descriptor")
structure DictMeth (name : Str) (id : String) : Prop where
  slot : Slot "dict" name id
  ty : typeOf (.builtin id) = pure (.type "method_descriptor")

/-- what o.name(..) calls -/
inductive MRes (K : Frag) (σ : Sg N) (name : Str) : MV N → MV N → List (MV N) → Prop
  | meth {n : N} {C f : Addr} {fs : List (Str × MV N)} : σ n = some (.inst C fs) → MethOk K C name f → fs.lookup name = none → MRes K σ name (.ref n) (.val (.ref f)) [.ref n]
  | field {n : N} {C : Addr} {fs : List (Str × MV N)} {v : MV N} : σ n = some (.inst C fs) → FieldOk K C name → fs.lookup name = some v → MRes K σ name (.ref n) v []
  | list {n : N} {vs : List (MV N)} {id : String} : σ n = some (.list vs) → ListMeth name id → handedIn (.builtin id) = true → MRes K σ name (.ref n) (.val (.builtin id)) [.ref n]
  | idict {n : N} {vs : List (Int × MV N)} {id : String} : σ n = some (.idict vs) → DictMeth name id → handedIn (.builtin id) = true → MRes K σ name (.ref n) (.val (.builtin id)) [.ref n]

theorem MRes.ok (T : Stat K mg mb hB) {s : Shared} {name : Str} {ov f : MV N} {first : List (MV N)} {ou : Value} {pl : Sem Bool} {E : Value → Shared → Prop} {Qc : Value × List Value → Shared → Prop} (H : MRes K σ name ov f first) (X : FS hB d fr cells A L cl m ρ s.heap) (W : Wd prog w hB ρ σ s.heap) (r : VR ρ ov ou)
    (k : ∀ u us tk, VR ρ f u → All2 (VR ρ) first us → Qc (u, us) { s with toks := tk }) : wpAny (model prog w) A (getMethod ou name pl) Qc E s := by
  cases H with
  | meth h1 h2 h3 =>
    refine r.at fun x e1 hx => W.inst h1 hx fun dx es n' g2 g3 g4 g5 => ?_
    rw [e1]
    exact method_inst X.F T.X ⟨g3, rfl, rfl, g4⟩ h2.pg h2.fd h2.fn (fd_none g5 h3) (k _ _ s.toks (.val _ rfl) (.cons (.ref hx) .nil))
  | field h1 h2 h3 =>
    refine r.at fun x e1 hx => W.inst h1 hx fun dx es n' g2 g3 g4 g5 => ?_
    rw [e1]
    exact method_usual (fun a o e => X.F.keep _ _ (T.X a o e)) (show PySem.W.InstAt s.heap _ (instObj _ dx) _ (some (dictOf es n')) from ⟨g3, rfl, rfl, g4⟩) (plainGet_of h2.pg).1 (plainGet_of h2.pg).2 h2.fd rfl (get_attr T X W hx h1 h2 h3 fun u tk hv => k _ _ tk hv .nil)
  | list h1 h2 h3 =>
    refine r.at fun x e1 hx => ?_
    rw [e1]
    obtain ⟨x', us, g1, ⟨n', g2⟩, g3⟩ := W.obj _ _ h1
    rw [hx] at g1; cases g1
    exact getMethod_builtin ⟨_, g2, rfl⟩ PySem.F.plainAttrs_list h2.slot h2.ty (fun a e => by cases e; exact ⟨_, g2, rfl⟩) (k _ _ s.toks (.val _ h3) (.cons (.ref hx) .nil))
  | idict h1 h2 h3 =>
    refine r.at fun x e1 hx => W.idict h1 hx fun us g2 g3 => ?_
    rw [e1]
    exact getMethod_builtin g2.typeIs PySem.F.plainAttrs_dict h2.slot h2.ty g2.mapOf.noDict (k _ _ s.toks (.val _ h3) (.cons (.ref hx) .nil))

/-- o.name(a, b) -/
theorem e_meth (T : Stat K mg mb hB) {o : Expr} {name : Str} {apos pos : Pos} {args : List Expr} {pl : Env → Sem Bool} {Q : MV N → Sg N → Prop}
    (h : MWe prog w hB S d cells o fr (fun ov σ₁ => ∃ f first, MRes K σ₁ name ov f first ∧ MWw K prog w hB S d cells f first args fr Q σ₁) σ)
    (he : ∀ env, eval (.Call (.Attribute o name apos) args [] pos) env = (do let ov ← eval o env; standAt apos.atName; let (f, first) ← holding [ov] (getMethod ov name (pl env)); callWith pos f first (backTo pos (starEach args env)) (backToKw pos (keywordEach [] env))) := by intro _; rfl)
    (hp : PlainArgs args := by exact fun _ => ⟨fun _ => rfl, by first | trivial | rfl⟩) : MWe prog w hB S d cells (.Call (.Attribute o name apos) args [] pos) fr Q σ := by
  intro A s L q f cd frm cl m ρ X W E Qc k
  refine methodCall_KW (pl := pl (mkEnv S L cl q f cd frm)) (h A s L q f cd frm cl m ρ X W E _ fun ov ou σ₁ ρ₁ h₁ tk₁ H1 r1 X1 W1 P1 => ?_) (he _)
  obtain ⟨fv, first, hR, H1⟩ := H1
  refine hR.ok T (s := { s with heap := h₁, toks := tk₁ }) X1 W1 r1 fun u us tk rf ra => ?_
  exact callWith_ok T (s := { s with heap := h₁, toks := tk }) H1 X1 W1 rf ra hp fun v u σ₂ ρ₂ h₂ tk₂ H2 r2 X2 W2 P2 => k v u σ₂ ρ₂ h₂ tk₂ H2 r2 X2 W2 (P1.trans P2)

/-! ## what is called -/
theorem v_code {f : Addr} {args : List (MV N)} {Q : MV N → Sg N → Prop} (h : MWc prog w hB d (.ref f) args Q σ) : MWv prog w hB d (.val (.ref f)) args Q σ := by
  intro fr cells A s L cl m ρ u us X W r ra E Qc k
  cases r
  exact wpAny_call (h A s ρ us X.room X.base W ra _ fun v u σ' ρ' h' tk H r W' P => k v u σ' ρ' h' tk H r (X.step W P) W' P.weak)
theorem v_meth {n : N} {f : Addr} {self : MV N} {args : List (MV N)} {Q : MV N → Sg N → Prop} (hs : σ n = some (.meth f self)) (h : MWc prog w hB d (.ref f) (self :: args) Q σ) : MWv prog w hB d (.ref n) args Q σ := by
  intro fr cells A s L cl m ρ u us X W r ra E Qc k
  cases r with | ref hx =>
  obtain ⟨x', v, g1, g2, g3⟩ := W.obj _ _ hs
  rw [hx] at g1; cases g1
  exact wpAny_call (method_call g2 (h A s ρ _ X.room X.base W (.cons g3 ra) _ fun v u σ' ρ' h' tk H r W' P => k v u σ' ρ' h' tk H r (X.step W P) W' P.weak))
theorem v_clo (T : Stat K mg mb hB) {n : N} {params : Arguments} {body : List Stmt} {scope : Scope} {cells₀ : List (Str × N)} {args : List (MV N)} {Q : MV N → Sg N → Prop} (hs : σ n = some (.clo params body scope cells₀))
    (hb : ∀ (us : List Value) name qual cl doc pm an cdv ct, us.length = args.length → bindArgs (fnX name qual params body scope cl .none .none doc pm an cdv ct) ⟨us, []⟩ = pure ((params.args.map (·.arg)).zip us)) (hloc : ((params.args.map (·.arg)).all fun y => decide (scope.names.lookup y = some .local)) = true)
    (h : MWs prog w hB scope d cells₀ body ((params.args.map (·.arg)).zip args).reverse (fun fl _ σ₁ => Q fl.val σ₁) σ)
    (hco : scope.isCoroutine = false := by rfl) (hgen : scope.isGenerator = false := by rfl) (hk : scope.kind = .function := by rfl) (hcell : ∀ x ∈ scope.names, x.2 ≠ .cell := by decide) : MWv prog w hB (d + 1) (.ref n) args Q σ := by
  intro fr cells A s L cl m ρ u us X W r ra E Qc k
  cases r with | ref hx =>
  obtain ⟨x', o, c, oc, vs, t, name, qual, cl', doc, pm, an, ct, g1, g2, g3, g4, g5, g6, g7, g8⟩ := W.obj _ _ hs
  rw [hx] at g1; cases g1
  exact wpAny_call (code_any T X.room X.base W g2 g3 ⟨c, oc, vs, t, rfl, g6, g7, g8⟩ g4 ra (BindsTo.of_eq (hb us _ _ _ _ _ _ _ _ ra.length.symm)) hloc h (fun v u σ' ρ' h' tk H r W' P => k v u σ' ρ' h' tk H r (X.step W P) W' P.weak) hco hgen hk hcell)
end

section
variable {N : Type} [DecidableEq N] {prog : Program} {w : World} {hB : Heap} {K : Frag} {mg mb : Str → Option Value} {S : Scope} {d : Nat} {cells : List (Str × N)} {fr : LF N} {σ : Sg N}
  {A : Around} {L : Addr} {cl : List (Str × Addr)} {m : Str → Option Value} {ρ ρ' : Rho N} {h h' : Heap}

/-- one object's address turned -/
theorem turn (X : FS hB d fr cells A L cl m ρ h) (W : Wd prog w hB ρ σ h) {n : N} {x : Addr} {o' : MO N} (hx : ρ (n, false) = some x) (hs : Heap.SameBut x h h') (lv : h'.get? x ≠ none) (hr : OR prog w ρ h' n o') :
    FS hB d fr cells A L cl m ρ h' ∧ Wd prog w hB ρ (σ.set n o') h' ∧ Sp (some L) ρ ρ h h' := by
  have keep : ∀ a o, h.get? a = some o → a ≠ x → h'.get? a = some o := fun a o e z => (hs.2 a z).trans e
  have hxL : L ≠ x := fun z => X.nl _ (z ▸ hx)
  have P : Sp (some L) ρ ρ h h' := ⟨fun _ _ e => e, fun _ _ e => .inl e, fun a o e q hn => keep a o e fun z => hn _ (z ▸ hx), fun a e => by
    by_cases z : a = x
    · rw [z]; exact lv
    · rw [hs.2 a z]; exact e⟩
  refine ⟨X.go ⟨?_, fun b o e => keep b o (X.F.keep b o e) fun z => ?_, X.F.above⟩ P, W.upd (fun a y ob e na q => keep y ob q fun z => ?_) (fun b y e => ?_) hr, P⟩
  · obtain ⟨o, es, ep, hL, r⟩ := X.F.ns
    exact ⟨o, es, ep, keep L o hL hxL, r⟩
  · rw [z, W.off _ _ hx] at e; cases e
  · exact na (by rw [W.inj a (n, false) y e (z ▸ hx)])
  · by_cases z : y = x
    · rw [z]; exact lv
    · rw [hs.2 y z]; exact W.live _ _ e

/-- an object came -/
theorem came (X : FS hB d fr cells A L cl m ρ h) (W : Wd prog w hB ρ σ h) {n : N} {x : Addr} {o' : MO N} (hn : σ n = none) (hx : h.get? x = none) (hxB : hB.get? x = none) (hxb : hB.objs.size ≤ x) (hx' : h'.get? x ≠ none) (hk : ∀ a ob, h.get? a = some ob → h'.get? a = some ob) (hr : OR prog w (ρ.add n x none) h' n o') :
    FS hB d fr cells A L cl m (ρ.add n x none) h' ∧ Wd prog w hB (ρ.add n x none) (σ.set n o') h' ∧ Sp (some L) ρ (ρ.add n x none) h h' := by
  have P : Sp (some L) ρ (ρ.add n x none) h h' := Sp.add W hn hx (fun y e => by cases e) (fun a ob e _ => hk a ob e) fun a e => by
    cases e
    cases q : h.get? L with
    | none => exact absurd q X.liveL
    | some ob => rw [hk _ _ q]; simp
  refine ⟨X.go ⟨?_, fun b o e => hk b o (X.F.keep b o e), X.F.above⟩ P, W.new hn hx hxB hxb hx' (fun y e => by cases e) (fun a ob e _ => hk a ob e) hr, P⟩
  obtain ⟨o, es, ep, hL, r⟩ := X.F.ns
  exact ⟨o, es, ep, hk L o hL, r⟩
/-- something came that has no name -/
theorem came0 (X : FS hB d fr cells A L cl m ρ h) (W : Wd prog w hB ρ σ h) (hk : ∀ a ob, h.get? a = some ob → h'.get? a = some ob) :
    FS hB d fr cells A L cl m ρ h' ∧ Wd prog w hB ρ σ h' ∧ Sp (some L) ρ ρ h h' := by
  have P : Sp (some L) ρ ρ h h' := ⟨fun _ _ e => e, fun _ _ e => .inl e, fun a o e q hn => hk a o e, fun a e => by
    cases q : h.get? a with
    | none => exact absurd q e
    | some o => rw [hk a o q]; simp⟩
  refine ⟨X.go ⟨?_, fun b o e => hk b o (X.F.keep b o e), X.F.above⟩ P, W.same fun _ a o _ e => hk a o e, P⟩
  obtain ⟨o, es, ep, hL, r⟩ := X.F.ns
  exact ⟨o, es, ep, hk L o hL, r⟩

theorem size_none (h : Heap) : h.get? h.objs.size = none := by
  cases q : h.get? h.objs.size with
  | none => rfl
  | some o => exact absurd (Heap.lt_size q) (Nat.lt_irrefl _)
theorem Base.size_none (B : Base hB h) : hB.get? h.objs.size = none := by
  cases q : hB.get? h.objs.size with
  | none => rfl
  | some o => exact absurd (Nat.lt_of_lt_of_le (Heap.lt_size q) B.size) (Nat.lt_irrefl _)

theorem Wd.notMods (W : Wd prog w hB ρ σ h) (T : Stat K mg mb hB) {a : N × Bool} {x : Addr} (hx : ρ a = some x) : (x == sysModules) = false := by
  have h1 := W.big _ _ hx
  have h2 := modules_low T.lim
  simp only [beq_eq_false_iff_ne, ne_eq]
  intro z
  rw [z] at h1
  exact absurd (Nat.lt_of_lt_of_le h2 h1) (Nat.lt_irrefl _)
theorem Rho.add_self (ρ : Rho N) (n : N) (x : Addr) (dx : Option Addr) : (ρ.add n x dx) (n, false) = some x := by simp [Rho.add]
theorem Rho.add_dict (ρ : Rho N) (n : N) (x dx : Addr) : (ρ.add n x (some dx)) (n, true) = some dx := by simp [Rho.add]
theorem Wd.noName (W : Wd prog w hB ρ σ h) {n : N} (hn : σ n = none) (b : Bool) : ρ (n, b) = none := by
  cases q : ρ (n, b) with
  | none => rfl
  | some y => exact absurd hn (W.dom n b y q)
theorem Rho.add_mono (W : Wd prog w hB ρ σ h) {n : N} (hn : σ n = none) {x : Addr} {dx : Option Addr} : ∀ a y, ρ a = some y → (ρ.add n x dx) a = some y := fun a y e => by
  obtain ⟨a1, a2⟩ := a
  unfold Rho.add
  dsimp only
  rw [if_neg]
  · exact e
  · intro q; subst q; exact W.dom _ _ _ e hn

/-! ## lists -/
theorem e_list {es : List Expr} {pos : Pos} {Q : MV N → Sg N → Prop} (h : MWl prog w hB S d cells es fr (fun vs σ₁ => ∃ n, σ₁ n = none ∧ vs.length ≤ 1000 ∧ Q (.ref n) (σ₁.set n (.list vs))) σ) : MWe prog w hB S d cells (.List es pos) fr Q σ := by
  intro A s L q f cd frm cl m ρ X W E Qc k
  refine List_ (h A s L q f cd frm cl m ρ X W pos E _ fun vs us σ₁ ρ₁ h₁ tk₁ H1 r1 X1 W1 P1 => ?_)
  obtain ⟨n, hn, hl, H1⟩ := H1
  have hsz : us.length ≤ sizeLine := by rw [← r1.length]; exact Nat.le_trans hl (by decide)
  refine wpAny_newList ?_ hsz
  obtain ⟨X2, W2, P2⟩ := came (o' := .list vs) (h' := h₁.push (PySem.W.listOf us.toArray 0)) X1 W1 hn (size_none h₁) (Base.size_none X1.base) X1.base.size (by rw [Heap.get?_push_size _ rfl]; simp) (fun a ob e => Heap.get?_push_of_some _ e)
    ⟨h₁.objs.size, us, Rho.add_self .., ⟨0, Heap.get?_push_size _ rfl⟩, r1.mono fun _ _ z => z.mono (Rho.add_mono W1 hn)⟩
  exact k _ _ _ _ _ _ H1 (.ref (Rho.add_self ..)) X2 W2 (P1.trans P2)

theorem All2.dropLast {α β : Type} {R : α → β → Prop} {as : List α} {bs : List β} (h : All2 R as bs) : All2 R as.dropLast bs.dropLast := by
  induction h with
  | nil => exact .nil
  | @cons a b as bs h t ih =>
    cases t with
    | nil => exact .nil
    | cons h' t' => exact .cons h ih
theorem All2.eraseIdx {α β : Type} {R : α → β → Prop} {as : List α} {bs : List β} (h : All2 R as bs) : ∀ i, All2 R (as.eraseIdx i) (bs.eraseIdx i) := by
  induction h with
  | nil => intro i; exact .nil
  | cons h t ih =>
    intro i
    cases i with
    | zero => exact t
    | succ i => exact .cons h (ih i)

theorem eraseLast {α : Type} : ∀ l : List α, l.eraseIdx (l.length - 1) = l.dropLast
  | [] => rfl
  | [_] => rfl
  | a :: b :: l => by
    have := eraseLast (b :: l)
    simp only [List.length_cons, Nat.add_sub_cancel] at this ⊢
    rw [List.eraseIdx_cons_succ, this]; rfl
theorem list_turn {s : Shared} {n : N} {x : Addr} {us : List Value} {kk : Nat} {vs' : List (MV N)} {f : Array Value → Array Value} (X : FS hB d fr cells A L cl m ρ h) (W : Wd prog w hB ρ σ h) (hx : ρ (n, false) = some x) (ho : h.get? x = some (PySem.W.listOf us.toArray kk)) (hv : All2 (VR ρ) vs' (f us.toArray).toList) :
    FS hB d fr cells A L cl m ρ (h.update x (Obj.mapSeq f)) ∧ Wd prog w hB ρ (σ.set n (.list vs')) (h.update x (Obj.mapSeq f)) ∧ Sp (some L) ρ ρ h (h.update x (Obj.mapSeq f)) := by
  have q := PySem.IsL.update ho f
  have e : (h.update x (Obj.mapSeq f)).get? x = some (PySem.W.listOf (f us.toArray) (if (f us.toArray).size == us.toArray.size then kk else kk + 1)) := q
  exact turn X W hx (Heap.SameBut.update ..) (by rw [e]; simp) ⟨x, (f us.toArray).toList, hx, ⟨_, by rw [Array.toArray_toList]; exact e⟩, hv⟩

theorem v_append {n : N} {vs : List (MV N)} {v : MV N} {Q : MV N → Sg N → Prop} (hs : σ n = some (.list vs)) (hl : vs.length ≤ 1000) (h : Q .none (σ.set n (.list (vs ++ [v])))) : MWv prog w hB d (.val (.builtin "list.append")) [.ref n, v] Q σ := by
  intro fr cells A s L cl m ρ u us X W r ra E Qc k
  rw [r.val_at]
  refine args2 ra fun u1 u2 e r1 r2 => r1.at fun ax e1 hx => ?_
  rw [e, e1]
  obtain ⟨x', us, g1, ⟨kk, g2⟩, g3⟩ := W.obj _ _ hs
  rw [hx] at g1; cases g1
  have hsz : us.toArray.size ≤ sizeLine := by rw [List.size_toArray, ← g3.length]; exact Nat.le_trans hl (by decide)
  refine append_at g2 (fun h' hs ho => ?_) hsz
  obtain ⟨X2, W2, P2⟩ := turn (o' := .list (vs ++ [v])) X W hx hs (by rw [ho]; simp) ⟨_, us ++ [_], hx, ⟨kk + 1, by rw [ho]; simp⟩, g3.append (.cons r2 .nil)⟩
  exact k _ _ _ _ _ _ h .none X2 W2 P2

theorem v_pop {n : N} {vs : List (MV N)} {v : MV N} {Q : MV N → Sg N → Prop} (hs : σ n = some (.list vs)) (hl : vs.length ≤ 1000) (hv : vs.getLast? = some v) (h : Q v (σ.set n (.list vs.dropLast))) : MWv prog w hB d (.val (.builtin "list.pop")) [.ref n] Q σ := by
  intro fr cells A s L cl m ρ u us X W r ra E Qc k
  rw [r.val_at]
  refine args1 ra fun u1 e r1 => r1.at fun ax e1 hx => ?_
  rw [e, e1]
  obtain ⟨x', us, g1, ⟨kk, g2⟩, g3⟩ := W.obj _ _ hs
  rw [hx] at g1; cases g1
  have hsz : us.toArray.size ≤ sizeLine := by rw [List.size_toArray, ← g3.length]; exact Nat.le_trans hl (by decide)
  obtain ⟨y, hy, ry⟩ := g3.get (vs.length - 1) v (by rw [List.getLast?_eq_getElem?] at hv; exact hv)
  have hy' : us.toArray[us.toArray.size - 1]? = some y := by simpa [← g3.length] using hy
  refine call_meets PySem.F.slot_list_pop ⟨_, g2, rfl⟩ PySem.F.entry_list_pop (PySem.F.args_list_pop_1 _) (PySem.MeetsSeq.list_pop_last _ _ kk y hy' hsz) ⟨g2, ?_⟩
  have he : (us.toArray.eraseIdxIfInBounds (us.toArray.size - 1)).toList = us.dropLast := by
    rw [Array.toList_eraseIdxIfInBounds, List.size_toArray]
    exact eraseLast us
  obtain ⟨X2, W2, P2⟩ := list_turn (s := s) (f := fun xs => xs.eraseIdxIfInBounds (us.toArray.size - 1)) (vs' := vs.dropLast) X W hx g2 (by rw [he]; exact g3.dropLast)
  exact k _ _ _ _ _ s.toks h ry X2 W2 P2

theorem e_lenList {n : N} {vs : List (MV N)} {Q : MV N → Sg N → Prop} (hs : σ n = some (.list vs)) (hl : vs.length ≤ 1000) (h : Q (.int vs.length) σ) : MWv prog w hB d (.val (.builtin "len")) [.ref n] Q σ := by
  intro fr cells A s L cl m ρ u us X W r ra E Qc k
  rw [r.val_at]
  refine args1 ra fun u1 e r1 => r1.at fun ax e1 hx => ?_
  rw [e, e1]
  obtain ⟨x', us, g1, ⟨kk, g2⟩, g3⟩ := W.obj _ _ hs
  rw [hx] at g1; cases g1
  have hL : s.heap.IsList _ us.toArray := ⟨_, g2, rfl, kk, rfl⟩
  have hz : us.length ≤ 1000 := g3.length ▸ hl
  refine len_list hL (by rw [List.size_toArray]; omega) ?_
  have : ((us.toArray.size : Nat) : Int) = (vs.length : Int) := by rw [List.size_toArray, g3.length]
  rw [this]
  exact k _ _ _ _ s.heap _ h (.int _ _) X W (Sp.refl _ _ _)
end

section
variable {N : Type} [DecidableEq N] {prog : Program} {w : World} {hB : Heap} {K : Frag} {mg mb : Str → Option Value} {S : Scope} {d : Nat} {cells : List (Str × N)} {fr : LF N} {σ : Sg N}
  {A : Around} {L : Addr} {cl : List (Str × Addr)} {m : Str → Option Value} {ρ ρ' : Rho N} {h h' : Heap}

inductive WSt (prog : Program) (w : World) (hB : Heap) (d : Nat) (cells : List (Str × N)) (A : Around) (L : Addr) (cl : List (Str × Addr)) (ρ₀ : Rho N) (s : Shared) (G : Nat → LF N → Sg N → Prop) (n : Nat) : Shared → Prop
  | mk {fr : LF N} {σ : Sg N} {ρ : Rho N} {m : Str → Option Value} {h : Heap} {tk : Tok} : G n fr σ → FS hB d fr cells A L cl m ρ h → Wd prog w hB ρ σ h → Sp (some L) ρ₀ ρ s.heap h → WSt prog w hB d cells A L cl ρ₀ s G n { s with heap := h, toks := tk }
/-! ## while -/
theorem x_while {test : Expr} {body : List Stmt} {pos : Pos} {Q : Fl N → LF N → Sg N → Prop} (I : Nat → LF N → Sg N → Prop)
    (step : ∀ n fr σ, I n fr σ → MWt prog w hB S d cells test fr (fun b σ₁ => if b = true then MWs prog w hB S d cells body fr (fun fl fr' σ' => match fl with | .next => ∃ k, k < n ∧ I k fr' σ' | .ret v => Q (.ret v) fr' σ') σ₁ else Q .next fr σ₁) σ)
    (n : Nat) (hI : I n fr σ) : MWx prog w hB S d cells (.While test body [] pos) fr Q σ := by
  intro A s L q f cd frm cl m ρ X W E Qc k
  refine wpAny_While (codeAny_whileLoop (WSt prog w hB d cells A L cl ρ s I) (fun n s' H => ?_) n (.mk hI X W (Sp.refl _ _ _)))
  cases H with | @mk fr₁ σ₁ ρ₁ m₁ h₁ tk₁ hI₁ X₁ W₁ P₁ =>
  refine step n fr₁ σ₁ hI₁ A { s with heap := h₁, toks := tk₁ } L q f cd frm cl m₁ ρ₁ X₁ W₁ _ _ fun b σ₂ ρ₂ h₂ tk₂ H2 X2 W2 P2 => ?_
  cases b with
  | true =>
    refine H2 A { s with heap := h₂, toks := tk₂ } L q f cd frm cl m₁ ρ₂ X2 W2 _ _ fun fl flc fr₃ m₃ σ₃ ρ₃ h₃ tk₃ H3 r3 X3 W3 P3 => ?_
    cases r3 with
    | next => exact H3.elim fun k' H => ⟨k', H.1, .mk H.2 X3 W3 (P₁.trans (P2.trans P3))⟩
    | ret e => exact k _ _ fr₃ m₃ σ₃ ρ₃ h₃ tk₃ H3 (.ret e) X3 W3 (P₁.trans (P2.trans P3))
  | false => exact wpAny_execs_nil (k _ _ fr₁ m₁ σ₂ ρ₂ h₂ tk₂ H2 .next X2 W2 (P₁.trans P2))

/-! ## for over a list -/
theorem iter_next {s : Shared} {I ax : Addr} {i : Nat} {items : Array Value} {E : Value → Shared → Prop} {Qc : Option Value → Shared → Prop} (hh : A.handled = none) (hne : ax ≠ I) (hI : s.heap.IsListIter I ax i) (hl : s.heap.IsList ax items)
    (hmore : ∀ v, items[i]? = some v → ∀ h' tk, h'.IsListIter I ax (i + 1) → (∀ b o, b ≠ I → s.heap.get? b = some o → h'.get? b = some o) → Qc (some v) { s with heap := h', toks := tk })
    (hdone : items.size ≤ i → i = items.size → ∀ h' tk, (∀ b o, b ≠ I → s.heap.get? b = some o → h'.get? b = some o) → Qc none { s with heap := h', toks := tk }) (hi : i ≤ items.size) : wpAny (model prog w) A (pyNext (.ref I)) Qc E s := by
  have Wk := Walks.list (prog := prog) (w := w) hh I ax hne items
  by_cases q : i < items.size
  · refine Wk.item i s Qc E q ⟨hI, hl⟩ fun v h' tk hP hS hk => hmore v hP h' tk hS.1 fun b o hb e => hk b o (by simpa using hb) e
  · have : i = items.size := by omega
    subst this
    exact Wk.done s Qc E ⟨hI, hl⟩ fun h' tk hk => hdone (Nat.le_refl _) rfl h' tk fun b o hb e => hk b o (by simpa using hb) e

/-- a piece of the heap that is no one's turned, or came -/
theorem nobody (X : FS hB d fr cells A L cl m ρ h) (W : Wd prog w hB ρ σ h) {I : Addr} (hI : ∀ n, ρ n ≠ some I) (hIL : I ≠ L) (hIB : hB.get? I = none) (hk : ∀ b o, b ≠ I → h.get? b = some o → h'.get? b = some o) :
    FS hB d fr cells A L cl m ρ h' ∧ Wd prog w hB ρ σ h' := by
  refine ⟨⟨X.room, ⟨?_, fun b o e => hk b o (fun z => by rw [z, hIB] at e; cases e) (X.F.keep b o e), X.F.above⟩, X.nl, X.cr, X.fr⟩, W.same fun n a o e q => hk a o (fun z => hI n (z ▸ e)) q⟩
  obtain ⟨o, es, ep, hL, r⟩ := X.F.ns
  exact ⟨o, es, ep, hk L o (Ne.symm hIL) hL, r⟩

theorem Wd.list (W : Wd prog w hB ρ σ h) {n : N} {vs : List (MV N)} {x : Addr} (hs : σ n = some (.list vs)) (hx : ρ (n, false) = some x) : ∃ us k, h.get? x = some (PySem.W.listOf us.toArray k) ∧ All2 (VR ρ) vs us := by
  obtain ⟨x', us, g1, ⟨kk, g2⟩, g3⟩ := W.obj _ _ hs
  rw [hx] at g1; cases g1
  exact ⟨us, kk, g2, g3⟩

/-! ## loops over an iterator that stands at I -/
def Kp (I : Addr) (h h' : Heap) : Prop := ∀ b o, b ≠ I → h.get? b = some o → h'.get? b = some o

theorem Sp.kp {X : Option Addr} {ρ₁ : Rho N} {h₁ : Heap} {I : Addr} (P : Sp X ρ₁ ρ h₁ h) (hI : h₁.get? I = none) (hk : Kp I h h') : Sp X ρ₁ ρ h₁ h' :=
  ⟨P.mono, P.fresh, fun a o e n1 n2 => hk a o (fun z => by rw [z, hI] at e; cases e) (P.keep a o e n1 n2), fun a e z => by
    cases q : h.get? a with
    | none => exact P.alive a e q
    | some o => rw [hk a o (fun z => e (z ▸ hI)) q] at z; cases z⟩

structure Turns (prog : Program) (w : World) (hB : Heap) (A : Around) (X : Option Addr) (ρ₁ : Rho N) (h₁ : Heap) (I : Addr) (k : Nat) (G : Nat → Sg N → Prop) (P : Nat → Heap → Prop) (el : Nat → MV N → Prop) : Prop where
  stay : ∀ i h h', (∀ o, h.get? I = some o → h'.get? I = some o) → P i h → P i h'
  here : ∀ i h, P i h → h.get? I ≠ none
  next : ∀ i σ ρ s, i ≤ k → G i σ → Wd prog w hB ρ σ s.heap → Sp X ρ₁ ρ h₁ s.heap → P i s.heap → ∀ (Qc : Option Value → Shared → Prop) E,
    (∀ v u h' tk, el i v → i < k → VR ρ v u → P (i + 1) h' → Kp I s.heap h' → Qc (some u) { s with heap := h', toks := tk }) →
    (i = k → ∀ h' tk, Kp I s.heap h' → Qc none { s with heap := h', toks := tk }) → wpAny (model prog w) A (pyNext (.ref I)) Qc E s

inductive LSt (prog : Program) (w : World) (hB : Heap) (d : Nat) (cells : List (Str × N)) (A : Around) (L : Addr) (cl : List (Str × Addr)) (ρ₁ : Rho N) (h₁ : Heap) (I : Addr) (k : Nat) (s : Shared) (G : Nat → LF N → Sg N → Prop) (P : Nat → Heap → Prop) : Nat → Shared → Prop
  | mk {i : Nat} {fr : LF N} {σ : Sg N} {ρ : Rho N} {m : Str → Option Value} {h : Heap} {tk : Tok} : i ≤ k → G i fr σ → FS hB d fr cells A L cl m ρ h → Wd prog w hB ρ σ h → Sp (some L) ρ₁ ρ h₁ h → P i h → (∀ n, ρ n ≠ some I) →
    LSt prog w hB d cells A L cl ρ₁ h₁ I k s G P (k - i) { s with heap := h, toks := tk }

theorem for_turns {x : Str} {p : Pos} {body : List Stmt} {Q : Fl N → LF N → Sg N → Prop} {s : Shared} {I : Addr} {k : Nat} {ρ₁ : Rho N} {h₁ : Heap} {G : Nat → LF N → Sg N → Prop} {P : Nat → Heap → Prop} {el : Nat → MV N → Prop} {q : Str} {f : Option Addr} {cd : Value} {frm : Option Addr}
    {E : Value → Shared → Prop} {Qc : Flow → Shared → Prop}
    (T : Turns prog w hB A (some L) ρ₁ h₁ I k (fun i σ => ∃ fr, G i fr σ) P el) (hI1 : h₁.get? I = none) (hIL : I ≠ L) (hIB : hB.get? I = none)
    (h0 : LSt prog w hB d cells A L cl ρ₁ h₁ I k s G P k s)
    (turn : ∀ i v fr σ, i < k → el i v → G i fr σ → MWs prog w hB S d cells body ((x, v) :: fr) (fun fl fr' σ' => match fl with | .next => G (i + 1) fr' σ' | .ret v => Q (.ret v) fr' σ') σ)
    (done : ∀ fr σ, G k fr σ → Q .next fr σ)
    (kk : ∀ fl flc fr' m' σ' ρ' h' tk, Q fl fr' σ' → FlR ρ' fl flc → FS hB d fr' cells A L cl m' ρ' h' → Wd prog w hB ρ' σ' h' → Sp (some L) ρ₁ ρ' h₁ h' → Qc flc { s with heap := h', toks := tk })
    (hk : S.kind = .function) (hx : S.names.lookup x = some .local) :
    codeAny (model prog w) A (.forLoop (.Name x p) (.ref I) body [] (mkEnv S L cl q f cd frm)) (fun r s' => match r with | .ok f => Qc f s' | .error e => cameBackBy (model prog w) A (mkEnv S L cl q f cd frm) E e s') s := by
  refine codeAny_forLoop (LSt prog w hB d cells A L cl ρ₁ h₁ I k s G P) (fun k' s' H => ?_) k h0
  cases H with | @mk i fr₂ σ₂ ρ₂ m₂ h₂ tk₂ hi hG X2 W2 P2 hP hno =>
  refine T.next i σ₂ ρ₂ { s with heap := h₂, toks := tk₂ } hi ⟨_, hG⟩ W2 P2 hP _ _ (fun v u h₃ tk₃ hel hlt rv hP3 hk3 => ?_) (fun e h₃ tk₃ hk3 => ?_)
  · have N3 := nobody X2 W2 hno hIL hIB hk3
    have P3 := P2.kp hI1 hk3
    refine PyProof.Rows.assign_Name ?_
    refine store_local (s := { s with heap := h₃, toks := tk₃ }) N3.1 N3.2 rv hk hx fun h₄ tk₄ m₄ X4 W4 P4 => ?_
    have hP4 := T.stay _ h₃ h₄ (fun o e => P4.keep _ _ e (fun z => hIL (Option.some.inj z).symm) hno) hP3
    refine turn i v fr₂ σ₂ hlt hel hG A { s with heap := h₄, toks := tk₄ } L q f cd frm cl m₄ ρ₂ X4 W4 _ _ fun fl flc fr₅ m₅ σ₅ ρ₅ h₅ tk₅ H5 r5 X5 W5 P5 => ?_
    cases r5 with
    | next =>
      refine ⟨k - (i + 1), Nat.sub_lt_sub_left hlt (Nat.lt_succ_self i), .mk hlt H5 X5 W5 ((P3.trans P4).trans P5) (T.stay _ h₄ h₅ (fun o e => P5.keep _ _ e (fun z => hIL (Option.some.inj z).symm) hno) hP4) fun n e => ?_⟩
      exact (P5.fresh n _ e).elim (hno n) (T.here _ _ hP4)
    | ret e => exact kk _ _ fr₅ m₅ σ₅ ρ₅ h₅ tk₅ H5 (.ret e) X5 W5 ((P3.trans P4).trans P5)
  · have N3 := nobody X2 W2 hno hIL hIB hk3
    exact wpAny_execs_nil (kk _ _ fr₂ m₂ σ₂ ρ₂ h₃ tk₃ (done fr₂ σ₂ (e ▸ hG)) .next N3.1 N3.2 (P2.kp hI1 hk3))

theorem isListIter_at {h h' : Heap} {I ax : Addr} {i : Nat} (e : ∀ o, h.get? I = some o → h'.get? I = some o) (H : h.IsListIter I ax i) : h'.IsListIter I ax i := by
  obtain ⟨o, ho, r⟩ := H
  exact ⟨o, e o ho, r⟩
/-- over a list that is a name's -/
theorem Turns.list {n : N} {vs : List (MV N)} {ρ₁ : Rho N} {h₁ : Heap} {I ax : Addr} {X : Option Addr} {G : Nat → Sg N → Prop} (hh : A.handled = none) (hx : ρ₁ (n, false) = some ax) (hne : ax ≠ I) (hl : ∀ i σ, i ≤ vs.length → G i σ → σ n = some (.list vs)) :
    Turns prog w hB A X ρ₁ h₁ I vs.length G (fun i h => h.IsListIter I ax i) (fun i v => vs[i]? = some v) where
  stay := fun _ _ _ e H => isListIter_at e H
  here := fun i h H z => by
    obtain ⟨o, ho, _⟩ := H
    rw [ho] at z; cases z
  next := fun i σ ρ s hi hG W P hit Qc E h1 h2 => by
    obtain ⟨us, kk, y2, y3⟩ := W.list (hl i σ hi hG) (P.mono _ _ hx)
    have hlen : us.toArray.size = vs.length := by rw [List.size_toArray, y3.length]
    refine iter_next hh hne hit (items := us.toArray) ⟨_, y2, rfl, kk, rfl⟩ (fun u hu h' tk hit' hk => ?_) (fun _ e h' tk hk => h2 (e.trans hlen) h' tk hk) (by rw [hlen]; exact hi)
    obtain ⟨v, hv, rv⟩ := y3.getR i u (by simpa using hu)
    exact h1 v u h' tk hv (List.getElem?_eq_some_iff.mp hv).1 rv hit' hk

theorem x_for {x : Str} {p pos : Pos} {iter : Expr} {body : List Stmt} {Q : Fl N → LF N → Sg N → Prop}
    (hs : MWe prog w hB S d cells iter fr (fun v σ₁ => ∃ (I : Nat → LF N → Sg N → Prop) (n : N) (vs : List (MV N)), v = .ref n ∧ vs.length ≤ 1000 ∧ I 0 fr σ₁ ∧ (∀ i fr σ, i ≤ vs.length → I i fr σ → σ n = some (.list vs)) ∧
      (∀ i v fr σ, vs[i]? = some v → I i fr σ → MWs prog w hB S d cells body ((x, v) :: fr) (fun fl fr' σ' => match fl with | .next => I (i + 1) fr' σ' | .ret v => Q (.ret v) fr' σ') σ) ∧
      (∀ fr σ, I vs.length fr σ → Q .next fr σ)) σ)
    (hk : S.kind = .function := by rfl) (hx : S.names.lookup x = some .local := by rfl) (hf : ∀ (env : Env) v, foldedSetIterable iter env v = pure v := by intro _ _; rfl) : MWx prog w hB S d cells (.For (.Name x p) iter body [] pos) fr Q σ := by
  intro A s L q f cd frm cl m ρ X W E Qc k
  refine wpAny_For (hs A s L q f cd frm cl m ρ X W E _ fun v u σ₁ ρ₁ h₁ tk₁ H1 r1 X1 W1 P1 => ?_) (hf _)
  refine ex3 H1 fun I n vs H0 => and6 H0 fun e hl hI0 hlist hturn hdone => ?_
  subst e
  cases r1 with | @ref _ ax hx1 =>
  obtain ⟨us, kk, g2, g3⟩ := W1.list (hlist 0 fr σ₁ (Nat.zero_le _) hI0) hx1
  refine wpAny_pyIter_list (s := { s with heap := h₁, toks := tk₁ }) (items := us.toArray) ⟨_, g2, rfl, kk, rfl⟩ ?_
  have hno : ∀ n, ρ₁ n ≠ some h₁.objs.size := fun n e => W1.live n _ e (size_none h₁)
  obtain ⟨X2, W2, P2⟩ := came0 X1 W1 (h' := h₁.push { cls := Value.type "list_iterator", data := Data.fields #[Value.ref ax, Value.int 0 0] }) fun a ob e => Heap.get?_push_of_some _ e
  exact for_turns (Turns.list X1.room.hd hx1 (fun z => hno _ (z ▸ hx1)) fun i σ hi H => H.elim fun fr H => hlist i fr σ hi H) (size_none h₁) (fun z => X1.liveL (z ▸ size_none h₁)) (Base.size_none X1.base)
    (.mk (Nat.zero_le _) hI0 X2 W2 P2 ⟨_, Heap.get?_push_size _ rfl, rfl, rfl⟩ hno) (fun i v fr σ _ hv hI => hturn i v fr σ hv hI) hdone (fun fl flc fr' m' σ' ρ' h' tk H r X' W' P' => k fl flc fr' m' σ' ρ' h' tk H r X' W' (P1.trans P')) hk hx

/-! ## items -/
end

section
variable {N : Type} [DecidableEq N] {prog : Program} {w : World} {hB : Heap} {K : Frag} {mg mb : Str → Option Value} {S : Scope} {d : Nat} {cells : List (Str × N)} {fr : LF N} {σ : Sg N}
  {A : Around} {L : Addr} {cl : List (Str × Addr)} {m : Str → Option Value} {ρ ρ' : Rho N} {h h' : Heap}

theorem ints_of {ρ : Rho N} : ∀ {ns : List Int} {us : List Value}, All2 (VR ρ) (ns.map .int) us → IntsAre us ns
  | [], _, h => by cases h; exact .nil
  | n :: ns, _, h => by
    cases h with | cons h1 h2 =>
    cases h1
    exact .cons n _ (ints_of h2)
theorem of_ints {ρ : Rho N} {us : List Value} {ns : List Int} (h : IntsAre us ns) : All2 (VR ρ) (ns.map .int) us := by
  induction h with
  | nil => exact .nil
  | cons n t _ ih => exact .cons (.int n t) ih

/-! ## dicts -/
theorem kv_value {κ : Type} [DecidableEq κ] {ρ : Rho N} {kvs : List (κ × MV N)} {us : List (κ × Value)} (H : All2 (KVR ρ) kvs us) {k : κ} {v : MV N} (e : (kvs.find? fun p => decide (p.1 = k)) = some (k, v)) : ∃ u, valueAt us k = some u ∧ VR ρ v u := by
  induction H with
  | nil => cases e
  | @cons p q ps qs hp _ ih =>
    obtain ⟨h1, h2⟩ := hp
    rw [List.find?_cons] at e
    unfold valueAt
    rw [List.find?_cons, h1]
    by_cases z : p.1 = k
    · rw [decide_eq_true z] at e ⊢
      cases e
      exact ⟨_, rfl, h2⟩
    · rw [decide_eq_false z] at e ⊢
      obtain ⟨u, hu, hv⟩ := ih e
      exact ⟨u, hu, hv⟩
theorem kv_none {κ : Type} [DecidableEq κ] {ρ : Rho N} {kvs : List (κ × MV N)} {us : List (κ × Value)} (H : All2 (KVR ρ) kvs us) {k : κ} (e : (kvs.find? fun p => decide (p.1 = k)) = none) : valueAt us k = none := by
  induction H with
  | nil => rfl
  | @cons p q ps qs hp _ ih =>
    obtain ⟨h1, h2⟩ := hp
    rw [List.find?_cons] at e
    unfold valueAt
    rw [List.find?_cons, h1]
    by_cases z : p.1 = k
    · rw [decide_eq_true z] at e; cases e
    · rw [decide_eq_false z] at e ⊢
      exact ih e

def dget {κ : Type} [DecidableEq κ] (kvs : List (κ × MV N)) (k : κ) : Option (MV N) := (kvs.find? fun p => decide (p.1 = k)).map (·.2)
def dput {κ : Type} [DecidableEq κ] (kvs : List (κ × MV N)) (k : κ) (v : MV N) : List (κ × MV N) :=
  if (kvs.any fun p => decide (p.1 = k)) = true then kvs.map fun p => if p.1 = k then (p.1, v) else p else kvs ++ [(k, v)]
def ddel {κ : Type} [DecidableEq κ] (kvs : List (κ × MV N)) (k : κ) : List (κ × MV N) := kvs.filter fun p => decide (p.1 ≠ k)

theorem dget_find {κ : Type} [DecidableEq κ] {kvs : List (κ × MV N)} {k : κ} {v : MV N} (e : dget kvs k = some v) : (kvs.find? fun p => decide (p.1 = k)) = some (k, v) := by
  unfold dget at e
  obtain ⟨p, hp, rfl⟩ := Option.map_eq_some_iff.mp e
  have := List.find?_some hp
  simp only [decide_eq_true_eq] at this
  rw [hp, ← this]
theorem kv_any {κ : Type} [DecidableEq κ] {ρ : Rho N} {kvs : List (κ × MV N)} {us : List (κ × Value)} (H : All2 (KVR ρ) kvs us) (k : κ) : (us.any fun p => decide (p.1 = k)) = (kvs.any fun p => decide (p.1 = k)) := by
  induction H with
  | nil => rfl
  | cons hp _ ih => rw [List.any_cons, List.any_cons, ih, hp.1]
theorem kv_putMap {κ : Type} [DecidableEq κ] {ρ : Rho N} {kvs : List (κ × MV N)} {us : List (κ × Value)} (H : All2 (KVR ρ) kvs us) (k : κ) {v : MV N} {u : Value} (hv : VR ρ v u) :
    All2 (KVR ρ) (kvs.map fun p => if p.1 = k then (p.1, v) else p) (us.map fun p => if p.1 = k then (p.1, u) else p) := by
  induction H with
  | nil => exact .nil
  | @cons p q ps qs hp _ ih =>
    refine .cons ?_ ih
    dsimp only
    rw [hp.1]
    split
    · exact ⟨rfl, hv⟩
    · exact hp
theorem kv_put {κ : Type} [DecidableEq κ] {ρ : Rho N} {kvs : List (κ × MV N)} {us : List (κ × Value)} (H : All2 (KVR ρ) kvs us) (k : κ) {v : MV N} {u : Value} (hv : VR ρ v u) : All2 (KVR ρ) (dput kvs k v) (stored us k u) := by
  unfold dput stored
  rw [kv_any H]
  split
  · exact kv_putMap H k hv
  · exact H.append (.cons ⟨rfl, hv⟩ .nil)
theorem kv_del {κ : Type} [DecidableEq κ] {ρ : Rho N} {kvs : List (κ × MV N)} {us : List (κ × Value)} (H : All2 (KVR ρ) kvs us) (k : κ) : All2 (KVR ρ) (ddel kvs k) (without us k) := by
  unfold ddel without
  induction H with
  | nil => exact .nil
  | @cons p q ps qs hp _ ih =>
    rw [List.filter_cons, List.filter_cons, hp.1]
    split
    · exact .cons hp ih
    · exact ih

theorem e_itemS {value slice : Expr} {pos : Pos} {Q : MV N → Sg N → Prop}
    (h : MWe prog w hB S d cells value fr (fun o σ₁ => MWe prog w hB S d cells slice fr (fun i σ₂ => ∃ n kvs j v, o = .ref n ∧ i = .str j ∧ σ₂ n = some (.sdict kvs) ∧ dget kvs j = some v ∧ Q v σ₂) σ₁) σ)
    (hs : ∀ l k t, subscripted slice false (.ref l) (.str k t) = operate [.ref l, .str k t] (getItem (.ref l) (.str k t)) := by intros; rfl) : MWe prog w hB S d cells (.Subscript value slice pos) fr Q σ := by
  intro A s L q f cd frm cl m ρ X W E Qc k
  refine Subscript_ (h A s L q f cd frm cl m ρ X W E _ fun o ou σ₁ ρ₁ h₁ tk₁ H1 r1 X1 W1 P1 => ?_)
  refine H1 A { s with heap := h₁, toks := tk₁ } L q f cd frm cl m ρ₁ X1 W1 E _ fun i iu σ₂ ρ₂ h₂ tk₂ H2 r2 X2 W2 P2 => ?_
  refine ex4 H2 fun n kvs j v H0 => and5 H0 fun e e' hl hv HQ => ?_
  subst e e'
  refine r1.at fun x e1 hx => r2.str_at fun t e2 => W2.sdict hl (P2.mono _ _ hx) fun us g2 g3 => ?_
  obtain ⟨u, hu, rv⟩ := kv_value g3 (dget_find hv)
  rw [e1, e2]
  exact tail_any (s := { s with heap := h₂, toks := tk₂ }) g2.typeIs slot_dict_getitem.lookup (wpAny_getItem_of (strKind_is _ _ _ _) g2.mapOf hu (k _ _ σ₂ ρ₂ h₂ _ HQ rv X2 W2 (P1.trans P2))) (hs _ _ _)
/-- what a store under a key does -/
inductive PutR (σ : Sg N) (n : N) : MV N → MV N → MO N → Prop
  | str {kvs : List (Str × MV N)} {j : Str} {v : MV N} : σ n = some (.sdict kvs) → kvs.length ≤ 1000 → PutR σ n (.str j) v (.sdict (dput kvs j v))
  | int {kvs : List (Int × MV N)} {j : Int} {v : MV N} : σ n = some (.idict kvs) → kvs.length ≤ 1000 → PutR σ n (.int j) v (.idict (dput kvs j v))
theorem put_ok {s : Shared} {n : N} {x : Addr} {i v : MV N} {o' : MO N} {iu vu : Value} {E : Value → Shared → Prop} {Qc : Unit → Shared → Prop} (H : PutR σ n i v o') (X : FS hB d fr cells A L cl m ρ s.heap) (W : Wd prog w hB ρ σ s.heap) (hx : ρ (n, false) = some x) (ri : VR ρ i iu) (rv : VR ρ v vu)
    (k : ∀ h' tk, FS hB d fr cells A L cl m ρ h' → Wd prog w hB ρ (σ.set n o') h' → Sp (some L) ρ ρ s.heap h' → Qc () { s with heap := h', toks := tk }) : wpAny (model prog w) A (setItem (.ref x) iu vu) Qc E s := by
  cases H with
  | @str kvs j _ hl hz =>
    cases ri
    obtain ⟨x', us, g1, g2, g3⟩ := W.obj _ _ hl
    rw [hx] at g1; cases g1
    refine wpAny_setItem_pairs (strKind_is _ _ _ _) g2 (fun h' hD hs => ?_) (by rw [← g3.length]; exact Nat.le_trans hz (by decide))
    obtain ⟨X2, W2, P2⟩ := turn (o' := .sdict (dput kvs j v)) X W hx hs (by obtain ⟨o, _, _, ho, _⟩ := hD; rw [ho]; simp) ⟨x, _, hx, hD, kv_put g3 _ rv⟩
    exact k _ _ X2 W2 P2
  | @int kvs j _ hl hz =>
    cases ri
    obtain ⟨x', us, g1, g2, g3⟩ := W.obj _ _ hl
    rw [hx] at g1; cases g1
    refine wpAny_setItem_pairs (intKind_is _ _ _ _) g2 (fun h' hD hs => ?_) (by rw [← g3.length]; exact Nat.le_trans hz (by decide))
    obtain ⟨X2, W2, P2⟩ := turn (o' := .idict (dput kvs j v)) X W hx hs (by obtain ⟨o, _, _, ho, _⟩ := hD; rw [ho]; simp) ⟨x, _, hx, hD, kv_put g3 _ rv⟩
    exact k _ _ X2 W2 P2
theorem x_setitem {o i e : Expr} {p pos : Pos} {Q : Fl N → LF N → Sg N → Prop}
    (h : MWe prog w hB S d cells e fr (fun v σ₁ => MWe prog w hB S d cells o fr (fun ov σ₂ => MWe prog w hB S d cells i fr (fun iv σ₃ => ∃ n o', ov = .ref n ∧ PutR σ₃ n iv v o' ∧ Q .next fr (σ₃.set n o')) σ₂) σ₁) σ)
    (hs : ∀ env : Env, swapsWith e (some (.Subscript o i p)) pos.line env = pure false := by intro _; rfl) : MWx prog w hB S d cells (.Assign [.Subscript o i p] e pos) fr Q σ := by
  intro A s L q f cd frm cl m ρ X W E Qc k
  refine wpAny_Assign_Subscript (h A s L q f cd frm cl m ρ X W E _ fun v u σ₁ ρ₁ h₁ tk₁ H1 r1 X1 W1 P1 => ?_) (hs _)
  refine H1 A { s with heap := h₁, toks := tk₁ } L q f cd frm cl m ρ₁ X1 W1 E _ fun ov ou σ₂ ρ₂ h₂ tk₂ H2 r2 X2 W2 P2 => ?_
  refine H2 A { s with heap := h₂, toks := tk₂ } L q f cd frm cl m ρ₂ X2 W2 E _ fun iv iu σ₃ ρ₃ h₃ tk₃ H3 r3 X3 W3 P3 => ?_
  obtain ⟨n, o', rfl, hp, H4⟩ := H3
  cases r2 with | ref hx =>
  exact put_ok (s := { s with heap := h₃, toks := tk₃ }) hp X3 W3 (P3.mono _ _ hx) r3 ((r1.mono P2.mono).mono P3.mono) fun h₄ tk₄ X4 W4 P4 => k _ _ fr m _ ρ₃ h₄ tk₄ H4 .next X4 W4 (((P1.trans P2).trans P3).trans P4)

theorem kv_isSome {κ : Type} [DecidableEq κ] {ρ : Rho N} {kvs : List (κ × MV N)} {us : List (κ × Value)} (H : All2 (KVR ρ) kvs us) (k : κ) : (valueAt us k).isSome = (dget kvs k).isSome := by
  cases z : dget kvs k with
  | none =>
    unfold dget at z
    rw [kv_none H (Option.map_eq_none_iff.mp z)]; rfl
  | some v => obtain ⟨u, hu, _⟩ := kv_value H (dget_find z); rw [hu]; rfl
theorem kv_getD {ρ : Rho N} {kvs : List (Int × MV N)} {us : List (Int × Value)} (H : All2 (KVR ρ) kvs us) (k : Int) : VR ρ ((dget kvs k).getD .none) ((valueAt us k).getD .none) := by
  cases z : dget kvs k with
  | none =>
    unfold dget at z
    rw [kv_none H (Option.map_eq_none_iff.mp z)]; exact .none
  | some v => obtain ⟨u, hu, rv⟩ := kv_value H (dget_find z); rw [hu]; exact rv
theorem v_dget (T : Stat K mg mb hB) {n : N} {kvs : List (Int × MV N)} {j : Int} {Q : MV N → Sg N → Prop} (hs : σ n = some (.idict kvs)) (h : Q ((dget kvs j).getD .none) σ) : MWv prog w hB d (.val (.builtin "dict.get")) [.ref n, .int j] Q σ := by
  intro fr cells A s L cl m ρ u us X W r ra E Qc k
  rw [r.val_at]
  refine args2 ra fun u1 u2 e r1 r2 => r1.at fun x e1 hx => r2.int_at fun t e2 => W.idict hs hx fun kus g2 g3 => ?_
  rw [e, e1, e2]
  exact call_meetsIn PySem.F.slot_dict_get g2.typeIs PySem.F.entry_dict_get (PySem.F.args_dict_get_2 _ _) (meets_dict_get (intKind prog w) _ (intKind_is _ _ _ _) (W.notMods T hx)) ⟨_, g2.mapOf, k _ _ σ ρ s.heap _ h (kv_getD g3 j) X W (Sp.refl _ _ _)⟩
theorem v_dpop (T : Stat K mg mb hB) {n : N} {kvs : List (Int × MV N)} {j : Int} {v dflt : MV N} {Q : MV N → Sg N → Prop} (hs : σ n = some (.idict kvs)) (hl : kvs.length ≤ 1000) (hv : dget kvs j = some v) (h : Q v (σ.set n (.idict (ddel kvs j)))) : MWv prog w hB d (.val (.builtin "dict.pop")) [.ref n, .int j, dflt] Q σ := by
  intro fr cells A s L cl m ρ u us X W r ra E Qc k
  rw [r.val_at]
  refine args3 ra fun u1 u2 u3 e r1 r2 r3 => r1.at fun x e1 hx => r2.int_at fun t e2 => W.idict hs hx fun kus g2 g3 => ?_
  rw [e, e1, e2]
  obtain ⟨u, hu, rv⟩ := kv_value g3 (dget_find hv)
  refine call_meetsIn PySem.F.slot_dict_pop g2.typeIs PySem.F.entry_dict_pop (PySem.F.args_dict_pop_3 _ _ _) (meets_dict_pop_there (intKind prog w) _ (intKind_is _ _ _ _) [_] (.inr ⟨_, rfl⟩) rfl) ⟨kus, u, g2, by rw [← g3.length]; exact Nat.le_trans hl (by decide), hu, fun h' hD hs' => ?_⟩
  obtain ⟨X2, W2, P2⟩ := turn X W hx hs' (by obtain ⟨o, _, _, ho, _⟩ := hD; rw [ho]; exact Option.some_ne_none _) (o' := .idict (ddel kvs j)) ⟨_, _, hx, hD, kv_del g3 _⟩
  exact k _ _ _ _ _ _ h rv X2 W2 P2
/-- two lists of ints compared -/
theorem cmp_ints {neg : Bool} {op : CmpOp} {s : Shared} {ρ₁ : Rho N} {n n' : N} {ns ms : List Int} {u v : Value} {E : Value → Shared → Prop} {Qc : Value → Shared → Prop} (ho : op = if neg then .NotEq else .Eq) (X : FS hB d fr cells A L cl m ρ s.heap) (W : Wd prog w hB ρ σ s.heap) (r1 : VR ρ (.ref n) u) (r2 : VR ρ (.ref n') v)
    (hl : σ n = some (.list (ns.map .int))) (hl' : σ n' = some (.list (ms.map .int))) (k : Qc (.bool (neg != decide (ns = ms))) s) : wpAny (model prog w) A (compareOp op u v) Qc E s := by
  refine r1.at fun x e1 hx => r2.at fun x' e2 hx' => ?_
  rw [e1, e2]
  obtain ⟨us, kk, g2, g3⟩ := W.list hl hx
  obtain ⟨us', kk', g2', g3'⟩ := W.list hl' hx'
  have hu : A.units + 64 < cLine := by have := X.room.un; omega
  cases neg with
  | false =>
    subst ho
    exact eq_intsK ⟨_, g2, rfl, kk, rfl⟩ (ints_of g3) ⟨_, g2', rfl, kk', rfl⟩ (ints_of g3') hu (by rwa [Bool.false_bne] at k)
  | true =>
    subst ho
    exact ne_intsK ⟨_, g2, rfl, kk, rfl⟩ (ints_of g3) ⟨_, g2', rfl, kk', rfl⟩ (ints_of g3') hu (by rwa [Bool.true_bne] at k)
theorem e_cmpInts {neg : Bool} {op : CmpOp} {l r : Expr} {pos : Pos} {Q : MV N → Sg N → Prop} (ho : op = if neg then .NotEq else .Eq)
    (h : MWe prog w hB S d cells l fr (fun a σ₁ => MWe prog w hB S d cells r fr (fun b σ₂ => ∃ (n n' : N) (ns ms : List Int), a = .ref n ∧ b = .ref n' ∧ σ₂ n = some (.list (ns.map .int)) ∧ σ₂ n' = some (.list (ms.map .int)) ∧ Q (.bool (neg != decide (ns = ms))) σ₂) σ₁) σ)
    (hm : behindInMarks op r = false := by rfl) : MWe prog w hB S d cells (.Compare l [op] [r] pos) fr Q σ := by
  intro A s L q f cd frm cl m ρ X W E Qc k
  refine wpAny_Compare1 (h A s L q f cd frm cl m ρ X W E _ fun a u σ₁ ρ₁ h₁ tk₁ H1 r1 X1 W1 P1 => ?_) hm
  refine H1 A { s with heap := h₁, toks := tk₁ } L q f cd frm cl m ρ₁ X1 W1 E _ fun b v σ₂ ρ₂ h₂ tk₂ H2 r2 X2 W2 P2 => ?_
  refine ex4 H2 fun n n' ns ms H0 => and5 H0 fun e e' hl hl' HQ => ?_
  subst e e'
  exact cmp_ints (ρ₁ := ρ₁) (s := { s with heap := h₂, toks := tk₂ }) ho X2 W2 (r1.mono P2.mono) r2 hl hl' (k _ _ σ₂ ρ₂ h₂ tk₂ HQ (.bool _) X2 W2 (P1.trans P2))
end

section
variable {N : Type} [DecidableEq N] {prog : Program} {w : World} {hB : Heap} {K : Frag} {mg mb : Str → Option Value} {S : Scope} {d : Nat} {cells : List (Str × N)} {fr : LF N} {σ : Sg N}
  {A : Around} {L : Addr} {cl : List (Str × Addr)} {m : Str → Option Value} {ρ ρ' : Rho N} {h h' : Heap}

/-- nothing turned but the frame's own object -/
theorem stay (X : FS hB d fr cells A L cl m ρ h) (W : Wd prog w hB ρ σ h) (F' : Fr hB L h' m) (hk : ∀ a o, h.get? a = some o → a ≠ L → h'.get? a = some o) : FS hB d fr cells A L cl m ρ h' ∧ Wd prog w hB ρ σ h' ∧ Sp (some L) ρ ρ h h' := by
  have P : Sp (some L) ρ ρ h h' := ⟨fun _ _ e => e, fun _ _ e => .inl e, fun a o e n _ => hk a o e fun z => n (by rw [z]), fun a e => by
    by_cases z : a = L
    · obtain ⟨o, _, _, hL, _⟩ := F'.ns
      rw [z, hL]; simp
    · cases q : h.get? a with
      | none => exact absurd q e
      | some o => rw [hk a o q z]; simp⟩
  exact ⟨X.go F' P, W.same fun n a o e q => hk a o q fun z => X.nl n (z ▸ e), P⟩
theorem ledger_keep {news : List (Addr × Obj)} (X : FS hB d fr cells A L cl m ρ h) (hall : ∀ a o, h.get? a = some o → a ≠ L → hB.get? a = none → (a, o) ∈ news) (F' : Fr hB L h' m) (N' : ∀ p ∈ news, h'.get? p.1 = some p.2) : ∀ a o, h.get? a = some o → a ≠ L → h'.get? a = some o := fun a o e n => by
  cases z : hB.get? a with
  | some o' => have := X.F.keep a o' z; rw [e] at this; cases this; exact F'.keep a o z
  | none => exact N' _ (hall a o e n z)
/-- an object came, the frame's own object may have turned -/
theorem cameL (X : FS hB d fr cells A L cl m ρ h) (W : Wd prog w hB ρ σ h) {n : N} {x : Addr} {o' : MO N} (hn : σ n = none) (hx : h.get? x = none) (hxB : hB.get? x = none) (hxb : hB.objs.size ≤ x) (hx' : h'.get? x ≠ none) (F' : Fr hB L h' m) (hk : ∀ a o, h.get? a = some o → a ≠ L → h'.get? a = some o) (hr : OR prog w (ρ.add n x none) h' n o') :
    FS hB d fr cells A L cl m (ρ.add n x none) h' ∧ Wd prog w hB (ρ.add n x none) (σ.set n o') h' ∧ Sp (some L) ρ (ρ.add n x none) h h' := by
  have P : Sp (some L) ρ (ρ.add n x none) h h' := Sp.add W hn hx (fun y e => by cases e) (fun a ob e n => hk a ob e fun z => n (by rw [z])) fun a e => by
    cases e
    obtain ⟨o, _, _, hL, _⟩ := F'.ns
    rw [hL]; simp
  exact ⟨X.go F' P, W.new hn hx hxB hxb hx' (fun y e => by cases e) (fun a ob e ⟨k, hk'⟩ => hk a ob e fun z => X.nl k (z ▸ hk')) hr, P⟩

/-! ## built-ins -/
theorem v_max {i j : Int} {Q : MV N → Sg N → Prop} (h : Q (.int (max i j)) σ) : MWv prog w hB d (.val (.builtin "max")) [.int i, .int j] Q σ := by
  intro fr cells A s L cl m ρ u us X W r ra E Qc k
  cases r
  cases ra with | cons r1 ra => cases ra with | cons r2 ra => cases ra with | nil =>
  cases r1; cases r2
  obtain ⟨news, hN, hall, -⟩ := ledger (hB := hB) (h := s.heap) (L := L)
  refine max_two_N X.room.hd X.F hN fun h' tk F' N' => ?_
  obtain ⟨X2, W2, P2⟩ := stay X W F' (ledger_keep X hall F' fun p hp => (N' p hp).1)
  have e : (if j > i then j else i) = max i j := by split <;> omega
  rw [e]
  exact k _ _ σ ρ h' tk h (.int _ _) X2 W2 P2
theorem v_abs {i : Int} {Q : MV N → Sg N → Prop} (h : Q (.int i.natAbs) σ) : MWv prog w hB d (.val (.builtin "abs")) [.int i] Q σ := by
  intro fr cells A s L cl m ρ u us X W r ra E Qc k
  cases r
  cases ra with | cons r1 ra => cases ra with | nil =>
  cases r1
  refine call_abs_int fun u tk => ?_
  have e : (if i < 0 then -i else i) = (i.natAbs : Int) := by split <;> omega
  rw [e]
  exact k _ _ σ ρ s.heap tk h (.int _ _) X W (Sp.refl _ _ _)
theorem keys_all2 {ρ : Rho N} {kvs : List (Int × MV N)} {us : List (Int × Value)} (H : All2 (KVR ρ) kvs us) {acc : List Value} (hl : acc.length = us.length) (hv : ∀ (i : Nat) v, acc[i]? = some v → ∃ k x, us[i]? = some (k, x) ∧ (intKind prog w).is k v = true) : IntsAre acc (kvs.map (·.1)) := by
  induction H generalizing acc with
  | nil => cases acc with
    | nil => exact .nil
    | cons a acc => simp at hl
  | @cons p q ps qs hp _ ih => cases acc with
    | nil => simp at hl
    | cons a acc =>
      obtain ⟨k, x, e, hk⟩ := hv 0 a rfl
      simp at e
      have : ∃ t, a = .int k t := PyProof.V.Flat.int_inv (kdl_flat_int hk)
      obtain ⟨t, rfl⟩ := this
      have e1 : p.1 = k := by rw [← hp.1, e]
      show IntsAre _ (p.1 :: _)
      rw [e1]
      exact .cons k t (ih (by simpa using hl) fun i v e => hv (i + 1) v (by simpa using e))
/-- list(d) -/
theorem v_listDict (T : Stat K mg mb hB) {n nm : N} {kvs : List (Int × MV N)} {Q : MV N → Sg N → Prop} (hs : σ n = some (.idict kvs)) (hl : kvs.length ≤ 1000) (hn : σ nm = none) (h : Q (.ref nm) (σ.set nm (.list ((kvs.map (·.1)).map .int)))) : MWv prog w hB d (.val (.type "list")) [.ref n] Q σ := by
  intro fr cells A s L cl m ρ u us X W r ra E Qc k
  rw [r.val_at]
  refine args1 ra fun u1 e r1 => r1.at fun ax e1 hx => ?_
  rw [e, e1]
  obtain ⟨x', us, g1, g2, g3⟩ := W.obj _ _ hs
  rw [hx] at g1; cases g1
  obtain ⟨ep, hat⟩ := g2.dictAt
  refine kdl_call (kdl_dict (knd := intKind prog w) (kvs := us) (ep := ep) (W.notMods T hx)) X.room.hd hat (by rw [← g3.length]; exact Nat.le_trans hl (by decide)) fun h' tk acc c' hk hD hi => ?_
  have hI : IntsAre acc.toList (kvs.map (·.1)) := keys_all2 (prog := prog) (w := w) g3 (by simpa using hi.1) fun i v e => hi.2 i v (by simpa using e)
  obtain ⟨X2, W2, P2⟩ := came (o' := .list ((kvs.map (·.1)).map .int)) X W hn (size_none s.heap) (Base.size_none X.base) X.base.size (by rw [hD]; simp) hk ⟨s.heap.objs.size, acc.toList, Rho.add_self .., ⟨c', by rw [Array.toArray_toList]; exact hD⟩, of_ints hI⟩
  exact k _ _ _ _ h' tk h (.ref (Rho.add_self ..)) X2 W2 P2

/-- sorted(xs), ints -/
theorem v_sorted {n nm : N} {ns : List Int} {Q : MV N → Sg N → Prop} (hs : σ n = some (.list (ns.map .int))) (hl : ns.length < 64) (hn : σ nm = none) (h : ∀ ms : List Int, ms.Perm ns → ms.Pairwise (· ≤ ·) → Q (.ref nm) (σ.set nm (.list (ms.map .int)))) : MWv prog w hB d (.val (.builtin "sorted")) [.ref n] Q σ := by
  intro fr cells A s L cl m ρ u us X W r ra E Qc k
  rw [r.val_at]
  refine args1 ra fun u1 e r1 => r1.at fun ax e1 hx => ?_
  rw [e, e1]
  obtain ⟨us, kk, g2, g3⟩ := W.list hs hx
  obtain ⟨news, hN, hall, -⟩ := ledger (hB := hB) (h := s.heap) (L := L)
  refine sorted_N X.F hN ⟨_, g2, rfl, kk, rfl⟩ (ints_of g3) (by rw [← g3.length]; simpa using hl) fun h' vs' ms e F' N' hI hp hS => ?_
  have hD := N' _ (.head _)
  have hk := ledger_keep X hall F' fun p hp => (N' p (.tail _ hp)).1
  have hx0 : s.heap.get? (s.heap.objs.size + 1) = none := by
    cases q : s.heap.get? (s.heap.objs.size + 1) with
    | none => rfl
    | some o => exact absurd (Heap.lt_size q) (by show ¬ s.heap.objs.size + 1 < s.heap.objs.size; omega)
  obtain ⟨X2, W2, P2⟩ := cameL (o' := .list (ms.map .int)) X W hn hx0 hD.2.2 (Nat.le_succ_of_le X.base.size) (by rw [hD.1]; simp) F' hk ⟨_, vs', Rho.add_self .., ⟨e, hD.1⟩, of_ints hI⟩
  exact k _ _ _ _ h' s.toks (h ms hp hS) (.ref (Rho.add_self ..)) X2 W2 P2
/-- sorted(d), int keys -/
theorem v_sortedDict (T : Stat K mg mb hB) {n nm : N} {kvs : List (Int × MV N)} {Q : MV N → Sg N → Prop} (hs : σ n = some (.idict kvs)) (hl : kvs.length < 64) (hn : σ nm = none) (h : ∀ ms : List Int, ms.Perm (kvs.map (·.1)) → ms.Pairwise (· ≤ ·) → Q (.ref nm) (σ.set nm (.list (ms.map .int)))) : MWv prog w hB d (.val (.builtin "sorted")) [.ref n] Q σ := by
  intro fr cells A s L cl m ρ u us X W r ra E Qc k
  rw [r.val_at]
  refine args1 ra fun u1 e r1 => r1.at fun ax e1 hx => ?_
  rw [e, e1]
  obtain ⟨x', us, g1, g2, g3⟩ := W.obj _ _ hs
  rw [hx] at g1; cases g1
  obtain ⟨ep, hat⟩ := g2.dictAt
  obtain ⟨news, hN, hall, -⟩ := ledger (hB := hB) (h := s.heap) (L := L)
  have hlen : us.length = kvs.length := g3.length.symm
  refine kdu_sorted (kdl_dict (knd := intKind prog w) (kvs := us) (ep := ep) (W.notMods T hx)) X.room.hd X.F hN hat (by rw [hlen]; exact Nat.le_trans (Nat.le_of_lt hl) (by decide)) fun D h₁ tk₁ vs F₁ N₁ l₁ hvl hv => ?_
  have hI : IntsAre vs (kvs.map (·.1)) := keys_all2 (prog := prog) (w := w) g3 hvl hv
  have hD1 := N₁ _ (.head _)
  have hnotD : ∀ p ∈ news, p.1 ≠ D := fun p hp => Nat.ne_of_lt (l₁ p hp)
  have hx0 : s.heap.get? D = none := by
    cases q : s.heap.get? D with
    | none => rfl
    | some o => exact absurd rfl (hnotD _ (hall D o q hD1.2.1 hD1.2.2))
  have hxD : hB.objs.size ≤ D := by
    obtain ⟨oD, _, _, hoD, _⟩ := id g2
    have hxl := hall _ _ hoD (fun z => X.nl _ (z ▸ hx)) (W.off _ _ hx)
    exact Nat.le_trans (W.big _ _ hx) (Nat.le_of_lt (l₁ _ hxl))
  refine ksk_lsort (s := { s with heap := h₁, toks := tk₁ }) F₁ N₁ (fun o => Upd.head hnotD) rfl (by simpa using hI) (by simpa using hl) fun vs' ms c h' F' N' hI' _ hp hS _ => ?_
  have hD := N' _ (.head _)
  have hk := ledger_keep X hall F' fun p hp => (N' p (.tail _ hp)).1
  obtain ⟨X2, W2, P2⟩ := cameL (o' := .list (ms.map .int)) X W hn hx0 hD.2.2 hxD (by rw [hD.1]; simp) F' hk ⟨_, vs', Rho.add_self .., ⟨c, hD.1⟩, of_ints hI'⟩
  exact k _ _ _ _ h' tk₁ (h ms hp hS) (.ref (Rho.add_self ..)) X2 W2 P2

/-! ## a bound method as a value -/
structure BMethOk (K : Frag) (C : Addr) (name : Str) (f : Addr) : Prop where
  pg : plainGet K C name = true
  hd : hasDictIn K C = true
  fd : findIn K (.ref C) name = some (some (.ref f))
  sp : specialIn K (.ref f) "__get__" = some (some (.builtin "function.__get__"))
  tk : takesIn K (.ref f) = some false
  cp : copiedNames.contains name = false
  ty : typeIn K (.ref f) = some (.type "function")
theorem e_bmeth (T : Stat K mg mb hB) {o : Expr} {name : Str} {pos : Pos} {Q : MV N → Sg N → Prop}
    (h : MWe prog w hB S d cells o fr (fun v σ₁ => ∃ n C fs f nm, v = .ref n ∧ σ₁ n = some (.inst C fs) ∧ BMethOk K C name f ∧ fs.lookup name = none ∧ σ₁ nm = none ∧ Q (.ref nm) (σ₁.set nm (.meth f (.ref n)))) σ)
    (he : ∀ env, eval (.Attribute o name pos) env = (do let o' ← eval o env; standAt pos.atName; let r ← holding [o'] (getAttr o' name true); letTemporaryGo o o' r; pure r) := by intro _; rfl) : MWe prog w hB S d cells (.Attribute o name pos) fr Q σ := by
  intro A s L q f cd frm cl m ρ X W E Qc k
  refine Attribute_any_ (h A s L q f cd frm cl m ρ X W E _ fun v u σ₁ ρ₁ h₁ tk₁ H1 r1 X1 W1 P1 => ?_) (he _)
  obtain ⟨n, C, fs, fm, nm, rfl, h1, h2, h3, h4, H1⟩ := H1
  refine r1.at fun x0 e1 hx => W1.inst h1 hx fun dx es n' g2 g3 g4 g5 => ?_
  rw [e1]
  obtain ⟨cd', hcd, hdict⟩ := any_some h2.hd
  have hfo : findObj K C (some (dictOf es n')) name = some (.bind (.builtin "function.__get__") (.ref fm)) := by
    unfold findObj
    have hown : PySem.W.ownOf cd' (some (dictOf es n')) name = some none := by
      unfold PySem.W.ownOf
      rw [if_pos hdict]
      show lookIn name (dictOf es n') = _
      rw [lookIn_dict, fd_none g5 h3]
    rw [hcd, Option.bind_some, h2.fd, Option.bind_some]
    simp only [h2.sp, Option.bind_some, h2.tk, hown, h2.cp, Bool.false_and, Bool.false_eq_true, if_false]
  have hK : K.In h₁ := fun a o e => X1.F.keep _ _ (T.X a o e)
  refine get_bind (s := { s with heap := h₁, toks := tk₁ }) hK (show PySem.W.InstAt h₁ _ (instObj C dx) C (some (dictOf es n')) from ⟨g3, rfl, rfl, g4⟩) (plainGet_of h2.pg).1 hfo (plainGet_of h2.pg).2 ?_
  refine wpAny_call (fn_get (s := { s with heap := h₁, toks := tk₁ + 1 }) hK h2.ty ?_)
  obtain ⟨X2, W2, P2⟩ := came (o' := .meth fm (.ref n)) (h' := h₁.push (methodObj (.ref fm) (.ref _))) X1 W1 h4 (size_none h₁) (Base.size_none X1.base) X1.base.size (by rw [Heap.get?_push_size _ rfl]; simp) (fun a ob e => Heap.get?_push_of_some _ e)
    ⟨h₁.objs.size, _, Rho.add_self .., Heap.get?_push_size _ rfl, .ref (Rho.add_mono W1 h4 _ _ hx)⟩
  dsimp only
  rw [handedOut_of rfl]
  exact wpAny_pure (k _ _ _ _ _ _ H1 (.ref (Rho.add_self ..)) X2 W2 (P1.trans P2))
end

section
variable {N : Type} [DecidableEq N] {prog : Program} {w : World} {hB : Heap} {K : Frag} {mg mb : Str → Option Value} {S : Scope} {d : Nat} {cells : List (Str × N)} {fr : LF N} {σ : Sg N}
  {A : Around} {L : Addr} {cl : List (Str × Addr)} {m : Str → Option Value} {ρ ρ' : Rho N} {h h' : Heap}

/-! ## targets -/
/-- a value is stored into targets, left to right -/
def MWg (prog : Program) (w : World) (hB : Heap) (S : Scope) (d : Nat) (cells : List (Str × N)) : List Expr → List (MV N) → LF N → (LF N → Sg N → Prop) → Sg N → Prop
  | ts, vs, fr, Q, σ => ∀ (A : Around) (s : Shared) (L : Addr) (q : Str) (f : Option Addr) (cd : Value) (frm : Option Addr) (cl : List (Str × Addr)) (m : Str → Option Value) (ρ : Rho N) (us : List Value), FS hB d fr cells A L cl m ρ s.heap → Wd prog w hB ρ σ s.heap → All2 (VR ρ) vs us →
    ∀ (E : Value → Shared → Prop) (Qc : Unit → Shared → Prop), (∀ fr' m' σ' ρ' h' tk, Q fr' σ' → FS hB d fr' cells A L cl m' ρ' h' → Wd prog w hB ρ' σ' h' → Sp (some L) ρ ρ' s.heap h' → Qc () { s with heap := h', toks := tk }) →
      wpAny (model prog w) A (assignInOrder ((assignEach ts (mkEnv S L cl q f cd frm)).map (·.2)) us) Qc E s

theorem g_nil {Q : LF N → Sg N → Prop} (h : Q fr σ) : MWg prog w hB S d cells [] [] fr Q σ := by
  intro A s L q f cd frm cl m ρ us X W ra E Qc k
  cases ra
  exact assignInOrder_nil (k fr m σ ρ s.heap s.toks h X W (Sp.refl _ _ _))
theorem g_attr (T : Stat K mg mb hB) {o : Expr} {name : Str} {p : Pos} {ts : List Expr} {v : MV N} {vs : List (MV N)} {Q : LF N → Sg N → Prop}
    (h : MWe prog w hB S d cells o fr (fun ov σ₂ => ∃ n C fs, ov = .ref n ∧ σ₂ n = some (.inst C fs) ∧ SetOk K C name ∧ fs.length < 1000 ∧ MWg prog w hB S d cells ts vs fr Q (σ₂.set n (.inst C (fset name v fs)))) σ) :
    MWg prog w hB S d cells (.Attribute o name p :: ts) (v :: vs) fr Q σ := by
  intro A s L q f cd frm cl m ρ us X W ra E Qc k
  cases ra with | cons r1 ra =>
  refine assignInOrder_cons ?_
  show wpAny _ _ (assign (.Attribute o name p) _ _) _ _ _
  rw [assign_Attribute]
  refine wpAny_bind (wpAny_holding (h A s L q f cd frm cl m ρ X W E _ fun ov ou σ₂ ρ₂ h₂ tk₂ H2 r2 X2 W2 P2 => ?_))
  obtain ⟨n, C, fs, rfl, g1, g2, g3, H2⟩ := H2
  cases r2 with | ref hx =>
  refine wpAny_bind (wpAny_standAt (wpAny_bind (wpAny_holding ?_)))
  refine set_attr T (s := { s with heap := h₂, toks := tk₂ }) X2 W2 hx g1 g2 (r1.mono P2.mono) g3 fun h₃ tk₃ X3 W3 P3 => ?_
  refine wpAny_release ?_
  exact H2 A { s with heap := h₃, toks := tk₃ } L q f cd frm cl m ρ₂ _ X3 W3 (ra.mono fun _ _ z => z.mono P2.mono) E Qc fun fr' m' σ' ρ' h' tk H4 X4 W4 P4 => k fr' m' σ' ρ' h' tk H4 X4 W4 ((P2.trans P3).trans P4)
theorem g_item {o i : Expr} {p : Pos} {ts : List Expr} {v : MV N} {vs : List (MV N)} {Q : LF N → Sg N → Prop}
    (h : MWe prog w hB S d cells o fr (fun ov σ₂ => MWe prog w hB S d cells i fr (fun iv σ₃ => ∃ n o', ov = .ref n ∧ PutR σ₃ n iv v o' ∧ MWg prog w hB S d cells ts vs fr Q (σ₃.set n o')) σ₂) σ) :
    MWg prog w hB S d cells (.Subscript o i p :: ts) (v :: vs) fr Q σ := by
  intro A s L q f cd frm cl m ρ us X W ra E Qc k
  cases ra with | cons r1 ra =>
  refine assignInOrder_cons ?_
  show wpAny _ _ (assign (.Subscript o i p) _ _) _ _ _
  rw [assign_Subscript]
  refine wpAny_bind (wpAny_holding (h A s L q f cd frm cl m ρ X W E _ fun ov ou σ₂ ρ₂ h₂ tk₂ H2 r2 X2 W2 P2 => ?_))
  refine wpAny_bind (wpAny_holding (H2 A { s with heap := h₂, toks := tk₂ } L q f cd frm cl m ρ₂ X2 W2 E _ fun iv iu σ₃ ρ₃ h₃ tk₃ H3 r3 X3 W3 P3 => ?_))
  obtain ⟨n, o', rfl, hp, H4⟩ := H3
  cases r2 with | ref hx =>
  refine wpAny_bind (wpAny_standAt (wpAny_bind (wpAny_holding ?_)))
  refine put_ok (s := { s with heap := h₃, toks := tk₃ }) hp X3 W3 (P3.mono _ _ hx) r3 ((r1.mono P2.mono).mono P3.mono) fun h₄ tk₄ X4 W4 P4 => ?_
  refine wpAny_release ?_
  exact H4 A { s with heap := h₄, toks := tk₄ } L q f cd frm cl m ρ₃ _ X4 W4 (ra.mono fun _ _ z => (z.mono P2.mono).mono P3.mono) E Qc fun fr' m' σ' ρ' h' tk H5 X5 W5 P5 => k fr' m' σ' ρ' h' tk H5 X5 W5 (((P2.trans P3).trans P4).trans P5)

/-- a, b = (x, y), targets left to right -/
theorem x_tuple {ts es : List Expr} {k₁ k₂ : Nat} {p₁ p₂ pos : Pos} {Q : Fl N → LF N → Sg N → Prop}
    (h : MWl prog w hB S d cells es fr (fun vs σ₁ => vs.length = ts.length ∧ vs.length ≤ 1000 ∧ MWg prog w hB S d cells ts vs fr (fun fr' σ' => Q .next fr' σ') σ₁) σ)
    (hs : ∀ L cl q f cd frm, swapsWithSole [Expr.Tuple ts k₁ p₁] (.Tuple es k₂ p₂) pos.line (mkEnv S L cl q f cd frm) = pure false := by intros; rfl)
    (hw : ∀ L cl q f cd frm, swappedStores [Expr.Tuple ts k₁ p₁] (.Tuple es k₂ p₂) (mkEnv S L cl q f cd frm) = pure none := by intros; rfl)
    (ht : ∀ env : Env, (assignEach ts env).length = ts.length ∧ (assignEach ts env).findIdx? (·.1) = none := by exact fun _ => ⟨rfl, rfl⟩) : MWx prog w hB S d cells (.Assign [.Tuple ts k₁ p₁] (.Tuple es k₂ p₂) pos) fr Q σ := by
  intro A s L q f cd frm cl m ρ X W E Qc k
  refine Assign_Tuple (Tuple_ (h A s L q f cd frm cl m ρ X W p₂ E _ fun vs us σ₁ ρ₁ h₁ tk₁ H1 r1 X1 W1 P1 => ?_)) (hs _ _ _ _ _ _) (hw _ _ _ _ _ _)
  obtain ⟨hl, hz, H1⟩ := H1
  refine wpAny_newTuple ?_ (by rw [← r1.length]; exact Nat.le_trans hz (by decide))
  refine assign_Tuple_tuple (items := us.toArray) X1.room.hd ⟨_, Heap.get?_push_size _ rfl, rfl, 0, rfl⟩ (by rw [(ht _).1, List.size_toArray, ← r1.length, hl]) (ht _).2 fun h' he => ?_
  have hk : ∀ a ob, h₁.get? a = some ob → h'.get? a = some ob := fun a ob e => he a ob (by
    intro z
    have hz := Heap.lt_size e
    have : (h₁.push { cls := .type "tuple", data := .seq us.toArray }).objs.size = h₁.objs.size + 1 := Heap.size_push ..
    rw [z] at hz
    have hz' : (h₁.push { cls := .type "tuple", data := .seq us.toArray }).objs.size < h₁.objs.size := hz
    omega) (Heap.get?_push_of_some _ e)
  obtain ⟨X2, W2, P2⟩ := came0 X1 W1 hk
  exact H1 A { s with heap := h', toks := tk₁ } L q f cd frm cl m ρ₁ us X2 W2 r1 E _ fun fr' m' σ' ρ' h' tk H4 X4 W4 P4 => k _ _ fr' m' σ' ρ' h' tk H4 .next X4 W4 ((P1.trans P2).trans P4)

/-- names stored, the last first -/
theorem store_rev {q : Str} {f : Option Addr} {cd : Value} {frm : Option Addr} (hk : S.kind = .function) (ns : List Str) : ∀ (vs : List (MV N)) (us : List Value) (fr : LF N) (m : Str → Option Value) (s : Shared) (E : Value → Shared → Prop) (Qc : Unit → Shared → Prop), (∀ x ∈ ns, S.names.lookup x = some .local) → ns.length = vs.length →
    FS hB d fr cells A L cl m ρ s.heap → Wd prog w hB ρ σ s.heap → All2 (VR ρ) vs us →
    (∀ m' h' tk, FS hB d ((ns.zip vs).reverse ++ fr) cells A L cl m' ρ h' → Wd prog w hB ρ σ h' → Sp (some L) ρ ρ s.heap h' → Qc () { s with heap := h', toks := tk }) →
      wpAny (model prog w) A (assignInOrder (ns.map fun n => bindName (mkEnv S L cl q f cd frm) n) us) Qc E s := by
  induction ns with
  | nil =>
    intro vs us fr m s E Qc _ hl X W ra k
    cases ra with
    | nil => exact assignInOrder_nil (k m s.heap s.toks X W (Sp.refl _ _ _))
    | cons _ _ => cases hl
  | cons n ns ih =>
    intro vs us fr m s E Qc hx hl X W ra k
    cases ra with
    | nil => cases hl
    | @cons v u vs us r1 ra =>
      refine assignInOrder_cons (bindName_ (store_local X W r1 hk (hx n (.head _)) fun h₁ tk₁ m₁ X1 W1 P1 => ?_))
      refine ih vs us ((n, v) :: fr) m₁ { s with heap := h₁, toks := tk₁ } E Qc (fun x hx' => hx x (.tail _ hx')) (by simpa using hl) X1 W1 ra fun m' h' tk X2 W2 P2 => ?_
      refine k m' h' tk ?_ W2 (P1.trans P2)
      have e : ((n :: ns).zip (v :: vs)).reverse ++ fr = (ns.zip vs).reverse ++ (n, v) :: fr := by simp
      rw [e]; exact X2

theorem x_names {ns : List Str} {ts es : List Expr} {k₁ k₂ : Nat} {p₁ p₂ pos : Pos} {Q : Fl N → LF N → Sg N → Prop}
    (h : MWl prog w hB S d cells es fr (fun vs σ₁ => vs.length = ns.length ∧ vs.length ≤ 1000 ∧ Q .next ((ns.reverse.zip vs.reverse).reverse ++ fr) σ₁) σ)
    (hk : S.kind = .function := by rfl) (hx : (ns.all fun x => decide (S.names.lookup x = some .local)) = true := by rfl)
    (hs : ∀ L cl q f cd frm, swapsWithSole [Expr.Tuple ts k₁ p₁] (.Tuple es k₂ p₂) pos.line (mkEnv S L cl q f cd frm) = pure false := by intros; rfl)
    (hw : ∀ L cl q f cd frm, swappedStores [Expr.Tuple ts k₁ p₁] (.Tuple es k₂ p₂) (mkEnv S L cl q f cd frm) = pure (some ns) := by intros; rfl) : MWx prog w hB S d cells (.Assign [.Tuple ts k₁ p₁] (.Tuple es k₂ p₂) pos) fr Q σ := by
  intro A s L q f cd frm cl m ρ X W E Qc k
  refine Assign_Tuple_swapped (names := ns) (Tuple_ (h A s L q f cd frm cl m ρ X W p₂ E _ fun vs us σ₁ ρ₁ h₁ tk₁ H1 r1 X1 W1 P1 => ?_)) (hs _ _ _ _ _ _) (hw _ _ _ _ _ _)
  obtain ⟨hl, hz, H1⟩ := H1
  refine wpAny_newTuple ?_ (by rw [← r1.length]; exact Nat.le_trans hz (by decide))
  have hn : ns.length = us.toArray.size := by rw [List.size_toArray, ← r1.length, hl]
  rw [hn]
  refine unpackItems_tuple (items := us.toArray) X1.room.hd ⟨_, Heap.get?_push_size _ rfl, rfl, 0, rfl⟩ fun h' he => ?_
  have hk' : ∀ a ob, h₁.get? a = some ob → h'.get? a = some ob := fun a ob e => he a ob (by
    intro z
    have hz := Heap.lt_size e
    have : (h₁.push { cls := .type "tuple", data := .seq us.toArray }).objs.size = h₁.objs.size + 1 := Heap.size_push ..
    rw [z] at hz
    have hz' : (h₁.push { cls := .type "tuple", data := .seq us.toArray }).objs.size < h₁.objs.size := hz
    omega) (Heap.get?_push_of_some _ e)
  obtain ⟨X2, W2, P2⟩ := came0 X1 W1 hk'
  refine store_rev (s := { s with heap := h', toks := tk₁ }) hk ns.reverse vs.reverse us.reverse fr m E _ (fun x hx' => of_decide_eq_true (List.all_eq_true.mp hx x (List.mem_reverse.mp hx'))) (by simp [hl]) X2 W2 r1.reverse fun m' h₃ tk₃ X3 W3 P3 => ?_
  exact k _ _ _ m' σ₁ ρ₁ h₃ tk₃ H1 .next X3 W3 ((P1.trans P2).trans P3)

/-! ## a class is called -/
theorem OR.addr {n : N} {o : MO N} (r : OR prog w ρ h n o) : ∃ x, ρ (n, false) = some x := by
  cases o with
  | inst => obtain ⟨x, _, _, _, h, _⟩ := r; exact ⟨x, h⟩
  | list => obtain ⟨x, _, h, _⟩ := r; exact ⟨x, h⟩
  | idict => obtain ⟨x, _, h, _⟩ := r; exact ⟨x, h⟩
  | sdict => obtain ⟨x, _, h, _⟩ := r; exact ⟨x, h⟩
  | meth => obtain ⟨x, _, h, _⟩ := r; exact ⟨x, h⟩
  | cell => obtain ⟨x, _, h, _⟩ := r; exact ⟨x, h⟩
  | range => obtain ⟨x, _, _, _, h, _⟩ := r; exact ⟨x, h⟩
  | view => obtain ⟨x, _, h, _⟩ := r; exact ⟨x, h⟩
  | clo => obtain ⟨x, _, _, _, _, _, _, _, _, _, _, _, _, h, _⟩ := r; exact ⟨x, h⟩
theorem v_class (T : Stat K mg mb hB) {C fI : Addr} {n n₀ : N} {args : List (MV N)} {Q : MV N → Sg N → Prop} (hm : makesIn K C = true) (hi : findIn K (.ref C) "__init__" = some (some (.ref fI))) (hf : typeIn K (.ref fI) = some (.type "function")) (hn : σ n = none) (hn₀ : σ n₀ ≠ none)
    (h : MWc prog w hB d (.ref fI) (.ref n :: args) (fun v σ' => v = .none ∧ Q (.ref n) σ') (σ.set n (.inst C []))) : MWv prog w hB (d + 2) (.val (.ref C)) args Q σ := by
  intro fr cells A s L cl m ρ u us X W r ra E Qc k
  cases r
  obtain ⟨news, hN, hall, -⟩ := ledger (hB := hB) (h := s.heap) (L := L)
  refine wpAny_call (PySem.W.make_K X.F hN (fun a o e => X.F.keep _ _ (T.X a o e)) hm hi hf fun x dx h₁ F1 N1 l1 l2 => ?_)
  have hx1 := N1 _ (.head _)
  have hd1 := N1 _ (.tail _ (.head _))
  have hk := ledger_keep X hall F1 fun p hp => (N1 p (.tail _ (.tail _ hp))).1
  have big : ∃ a y, ρ a = some y := by
    cases q : σ n₀ with
    | none => exact absurd q hn₀
    | some o => obtain ⟨y, hy⟩ := (W.obj _ _ q).addr; exact ⟨_, y, hy⟩
  obtain ⟨a₀, y₀, hy₀⟩ := big
  have hy₀n : ∃ o, (y₀, o) ∈ news := by
    cases q : s.heap.get? y₀ with
    | none => exact absurd q (W.live _ _ hy₀)
    | some o => exact ⟨o, hall _ _ q (fun z => X.nl _ (z ▸ hy₀)) (W.off _ _ hy₀)⟩
  obtain ⟨o₀, ho₀⟩ := hy₀n
  have hdb : hB.objs.size ≤ dx := Nat.le_trans (W.big _ _ hy₀) (Nat.le_of_lt (l1 _ ho₀))
  have hdx : s.heap.get? dx = none := by
    cases q : s.heap.get? dx with
    | none => rfl
    | some o => exact absurd (l1 _ (hall _ _ q hd1.2.1 hd1.2.2)) (Nat.lt_irrefl _)
  have hx : s.heap.get? x = none := by
    cases q : s.heap.get? x with
    | none => rfl
    | some o => exact absurd (Nat.lt_trans (l1 _ (hall _ _ q hx1.2.1 hx1.2.2)) l2) (Nat.lt_irrefl _)
  have W1 : Wd prog w hB (ρ.add n x (some dx)) (σ.set n (.inst C [])) h₁ := W.new hn hx hx1.2.2 (Nat.le_trans hdb (Nat.le_of_lt l2)) (by rw [hx1.1]; simp) (fun y e => by
    cases e
    exact ⟨hdx, hd1.2.2, by rw [hd1.1]; simp, Nat.ne_of_lt l2, hdb⟩) (fun a ob e ⟨j, hj⟩ => hk a ob e fun z => X.nl j (z ▸ hj))
    ⟨x, dx, [], 0, Rho.add_self .., Rho.add_dict .., hx1.1, hd1.1, .nil⟩
  have P1 : Sp (some L) ρ (ρ.add n x (some dx)) s.heap h₁ := Sp.add W hn hx (fun y e => by cases e; exact hdx) (fun a ob e n => hk a ob e fun z => n (by rw [z])) fun a e => by
    cases e
    obtain ⟨o, _, _, hL, _⟩ := F1.ns
    rw [hL]; simp
  have X1 := X.go F1 P1
  have room : Room (A.under (.builtin "type.__call__" ⟨.ref C :: us, []⟩)) d := ⟨X.room.hd, by rw [depth_under_make]; have := X.room.dep; omega, by rw [units_under_make]; have := X.room.un; omega⟩
  refine h _ { s with heap := h₁ } _ (.ref x :: us) room X1.base W1 (.cons (.ref (Rho.add_self ..)) (ra.mono fun _ _ z => z.mono P1.mono)) _ fun v u σ' ρ' h' tk H r W' P => ?_
  obtain ⟨rfl, H⟩ := H
  cases r
  exact ⟨rfl, k _ _ σ' ρ' h' tk H (.ref (P.mono _ _ (Rho.add_self ..))) (X1.step W1 P) W' (P1.trans P.weak)⟩

/-! ## ranges -/
theorem v_range {i : Int} {nm : N} {Q : MV N → Sg N → Prop} (hn : σ nm = none) (h : Q (.ref nm) (σ.set nm (.range i))) : MWv prog w hB d (.val (.type "range")) [.int i] Q σ := by
  intro fr cells A s L cl m ρ u us X W r ra E Qc k
  cases r
  cases ra with | cons r1 ra => cases ra with | nil =>
  cases r1
  refine call_range_1 ?_
  obtain ⟨X2, W2, P2⟩ := came (o' := .range i) X W hn (size_none s.heap) (Base.size_none X.base) X.base.size (by rw [Heap.get?_push_size _ rfl]; simp) (fun a ob e => Heap.get?_push_of_some _ e)
    ⟨s.heap.objs.size, _, _, _, Rho.add_self .., Heap.get?_push_size _ rfl⟩
  exact k _ _ _ _ _ _ h (.ref (Rho.add_self ..)) X2 W2 P2
end

section
variable {N : Type} [DecidableEq N] {prog : Program} {w : World} {hB : Heap} {K : Frag} {mg mb : Str → Option Value} {S : Scope} {d : Nat} {cells : List (Str × N)} {fr : LF N} {σ : Sg N}
  {A : Around} {L : Addr} {cl : List (Str × Addr)} {m : Str → Option Value} {ρ ρ' : Rho N} {h h' : Heap}

/-- an object that stands gets a name -/
theorem Wd.adopt (W : Wd prog w hB ρ σ h) {n : N} {o' : MO N} {x : Addr} (hn : σ n = none) (hx : ∀ a, ρ a ≠ some x) (hxB : hB.get? x = none) (hxb : hB.objs.size ≤ x) (hx' : h.get? x ≠ none) (hr : OR prog w (ρ.add n x none) h n o') : Wd prog w hB (ρ.add n x none) (σ.set n o') h := by
  have no : ∀ b, ρ (n, b) = none := fun b => W.noName hn b
  have cs : ∀ a y, (ρ.add n x none) a = some y → (a = (n, false) ∧ y = x) ∨ (a.1 ≠ n ∧ ρ a = some y) := fun a y e => by
    obtain ⟨a1, a2⟩ := a
    unfold Rho.add at e
    dsimp only at e
    by_cases q : a1 = n
    · subst q
      rw [if_pos rfl] at e
      cases a2 with
      | false => left; exact ⟨rfl, (Option.some.inj e).symm⟩
      | true => cases e
    · rw [if_neg q] at e; right; exact ⟨q, e⟩
  have mono := Rho.add_mono W hn (x := x) (dx := none)
  refine ⟨fun a b y ea eb => ?_, fun a y e => ?_, fun a y e => ?_, fun a y e => ?_, fun k b y e => ?_, fun k o e => ?_⟩
  · rcases cs a y ea with ⟨h1, h2⟩ | ⟨h1, h2⟩ <;> rcases cs b y eb with ⟨g1, g2⟩ | ⟨g1, g2⟩
    · rw [h1, g1]
    · exact absurd (h2 ▸ g2) (hx b)
    · exact absurd (g2 ▸ h2) (hx a)
    · exact W.inj a b y h2 g2
  · rcases cs a y e with ⟨_, h2⟩ | ⟨_, h2⟩
    · rw [h2]; exact hxB
    · exact W.off a y h2
  · rcases cs a y e with ⟨_, h2⟩ | ⟨_, h2⟩
    · rw [h2]; exact hxb
    · exact W.big a y h2
  · rcases cs a y e with ⟨_, h2⟩ | ⟨_, h2⟩
    · rw [h2]; exact hx'
    · exact W.live a y h2
  · by_cases q : k = n
    · rw [q, Sg.set_self]; simp
    · rw [Sg.set_ne _ _ q]
      rcases cs _ y e with ⟨h1, _⟩ | ⟨_, h2⟩
      · exact absurd (congrArg Prod.fst h1) q
      · exact W.dom k b y h2
  · by_cases q : k = n
    · subst q; rw [Sg.set_self] at e; cases e; exact hr
    · rw [Sg.set_ne _ _ q] at e
      exact (W.obj k o e).step mono fun b y ob q1 q2 => q2

/-! ## for over a range -/
theorem Turns.range {k : Nat} {ρ₁ : Rho N} {h₁ : Heap} {I : Addr} {X : Option Addr} {G : Nat → Sg N → Prop} (hh : A.handled = none) :
    Turns prog w hB A X ρ₁ h₁ I k G (fun i h => IsRangeIter h I i ((k : Int) - i) 1) (fun i v => v = .int i) where
  stay := fun _ _ _ e H => e _ H
  here := fun i h H z => by
    have H' : h.get? I = _ := H
    rw [H'] at z; cases z
  next := fun i σ ρ s hi hG W P hit Qc E h1 h2 => by
    by_cases hlt : i < k
    · refine wpAny_pyNext_range_item hit (by omega) fun h₃ hit3 hs3 => h1 _ _ h₃ _ rfl hlt (.int _ _) ?_ fun b o n e => (hs3.2 b n).trans e
      rw [show ((i + 1 : Nat) : Int) = (i : Int) + 1 by omega, show (k : Int) - ((i : Int) + 1) = (k : Int) - i - 1 by omega]
      exact hit3
    · exact wpAny_pyNext_range_end hh hit (by omega) fun h₃ he3 => h2 (by omega) h₃ _ fun b o n e => he3 b o n e

theorem x_forRange {x : Str} {p pos : Pos} {iter : Expr} {body : List Stmt} {Q : Fl N → LF N → Sg N → Prop}
    (hs : MWe prog w hB S d cells iter fr (fun v σ₁ => ∃ (I : Nat → LF N → Sg N → Prop) (n : N) (k : Nat), v = .ref n ∧ σ₁ n = some (.range (Int.ofNat k)) ∧ k ≤ 1000000 ∧ I 0 fr σ₁ ∧
      (∀ i fr σ, i < k → I i fr σ → MWs prog w hB S d cells body ((x, .int i) :: fr) (fun fl fr' σ' => match fl with | .next => I (i + 1) fr' σ' | .ret v => Q (.ret v) fr' σ') σ) ∧
      (∀ fr σ, I k fr σ → Q .next fr σ)) σ)
    (hk : S.kind = .function := by rfl) (hx : S.names.lookup x = some .local := by rfl) (hf : ∀ (env : Env) v, foldedSetIterable iter env v = pure v := by intro _ _; rfl) : MWx prog w hB S d cells (.For (.Name x p) iter body [] pos) fr Q σ := by
  intro A s L q f cd frm cl m ρ X W E Qc kk
  refine wpAny_For (hs A s L q f cd frm cl m ρ X W E _ fun v u σ₁ ρ₁ h₁ tk₁ H1 r1 X1 W1 P1 => ?_) (hf _)
  refine ex3 H1 fun I n k H0 => and6 H0 fun e hrg hkb hI0 hturn hdone => ?_
  subst e
  cases r1 with | ref hx1 =>
  obtain ⟨x', t1, t2, t3, g1, g2⟩ := W1.obj _ _ hrg
  rw [hx1] at g1; cases g1
  have hsm : Builtin.Range.small 0 (Int.ofNat k) 1 = true := small_one (by decide) (by decide) (by show -(2 ^ 62) ≤ (k : Int); omega) (by show (k : Int) < 2 ^ 62; omega)
  have hsz : Builtin.Range.rangeSize 0 (Int.ofNat k) 1 = (k : Int) := by
    unfold Builtin.Range.rangeSize
    rw [if_pos (by decide)]
    show (if (0 : Int) < (k : Int) then ((k : Int) - 0 - 1) / 1 + 1 else 0) = k
    split <;> omega
  refine wpAny_pyIter_range (s := { s with heap := h₁, toks := tk₁ }) g2 hsm ?_
  rw [hsz]
  have hno : ∀ n, ρ₁ n ≠ some h₁.objs.size := fun n e => W1.live n _ e (size_none h₁)
  obtain ⟨X2, W2, P2⟩ := came0 (h' := h₁.push { cls := .type "range_iterator", data := .fields #[rawInt 0, rawInt (k : Int), rawInt 1] }) X1 W1 (fun a ob e => Heap.get?_push_of_some _ e)
  refine for_turns (Turns.range X1.room.hd) (size_none h₁) (fun z => X1.liveL (z ▸ size_none h₁)) (Base.size_none X1.base)
    (.mk (Nat.zero_le _) hI0 X2 W2 P2 ?_ hno) (fun i v fr σ hi hv hI => hv ▸ hturn i fr σ hi hI) hdone (fun fl flc fr' m' σ' ρ' h' tk H r X' W' P' => kk fl flc fr' m' σ' ρ' h' tk H r X' W' (P1.trans P')) hk hx
  show Heap.get? _ _ = _
  rw [Heap.get?_push_size _ rfl]
  simp

end

section
variable {N : Type} [DecidableEq N] {prog : Program} {w : World} {hB : Heap} {K : Frag} {mg mb : Str → Option Value} {S : Scope} {d : Nat} {cells : List (Str × N)} {fr : LF N} {σ : Sg N}
  {A : Around} {L : Addr} {cl : List (Str × Addr)} {m : Str → Option Value} {ρ ρ' : Rho N} {h h' : Heap}

/-! ## cells -/
def setCells (cv : Str → Option (MV N)) : List (Str × N) → Sg N → Sg N
  | [], σ => σ
  | p :: r, σ => setCells cv r (σ.set p.2 (.cell (cv p.1)))

theorem adopt_cells {cv : Str → Option (MV N)} {cm : Str → Option Value} : ∀ {cn : List (Str × N)} {cs : List (Str × Addr)} (_ : cs.map (·.1) = cn.map (·.1)) {ρ : Rho N} {σ : Sg N} (_ : Wd prog w hB ρ σ h) (_ : ∀ y ∈ cn, OVR ρ (cv y.1) (cm y.1)) (_ : ∀ p ∈ cs, h.IsCell p.2 (cm p.1) ∧ (∀ a, ρ a ≠ some p.2) ∧ hB.get? p.2 = none ∧ hB.objs.size ≤ p.2)
    (_ : (cs.map (·.2)).Nodup) (_ : (cn.map (·.2)).Nodup) (_ : ∀ p ∈ cn, σ p.2 = none),
    ∃ ρ', Wd prog w hB ρ' (setCells cv cn σ) h ∧ CR ρ' cn cs ∧ (∀ a x, ρ a = some x → ρ' a = some x) ∧ (∀ a x, ρ' a = some x → ρ a = some x ∨ x ∈ cs.map (·.2)) := by
  intro cn
  induction cn with
  | nil =>
    intro cs e ρ σ W _ _ _ _ _
    cases cs with
    | nil => exact ⟨ρ, W, .nil, fun _ _ q => q, fun _ _ q => .inl q⟩
    | cons => cases e
  | cons p cn ih =>
    intro cs e ρ σ W hv hc hn1 hn2 hf
    cases cs with
    | nil => cases e
    | cons q cs =>
      rw [List.map_cons, List.map_cons] at e
      obtain ⟨e1, e2⟩ := List.cons.inj e
      obtain ⟨c1, c2, c3, c4⟩ := hc q (.head _)
      rw [List.map_cons] at hn1 hn2
      have d1 := List.nodup_cons.mp hn1
      have d2 := List.nodup_cons.mp hn2
      have hnone := hf p (.head _)
      have hl : h.get? q.2 ≠ none := by obtain ⟨o, ho, _⟩ := c1; rw [ho]; simp
      have W1 := W.adopt (o' := .cell (cv p.1)) hnone c2 c3 c4 hl ⟨q.2, cm q.1, Rho.add_self .., c1, by rw [e1]; exact (hv p (.head _)).mono (Rho.add_mono W hnone)⟩
      have fr1 : ∀ a x, (ρ.add p.2 q.2 none) a = some x → ρ a = some x ∨ x = q.2 := fun a x ea => by
        obtain ⟨a1, a2⟩ := a
        unfold Rho.add at ea
        dsimp only at ea
        split at ea
        · cases a2 with
          | true => cases ea
          | false => exact .inr (Option.some.inj ea).symm
        · exact .inl ea
      obtain ⟨ρ', W', hC, hm, hfr⟩ := ih e2 W1 (fun y hy => (hv y (.tail _ hy)).mono (Rho.add_mono W hnone)) (fun r hr => ⟨(hc r (.tail _ hr)).1, fun a ea => by
          rcases fr1 a _ ea with z | z
          · exact (hc r (.tail _ hr)).2.1 a z
          · exact d1.1 (z ▸ List.mem_map_of_mem (f := fun x : Str × Addr => x.2) hr), (hc r (.tail _ hr)).2.2⟩) d1.2 d2.2 (fun r hr => by
          rw [Sg.set_ne]
          · exact hf r (.tail _ hr)
          · intro z; exact d2.1 (z ▸ List.mem_map_of_mem (f := fun x : Str × N => x.2) hr))
      refine ⟨ρ', W', .cons ⟨e1, hm _ _ (Rho.add_self ..)⟩ hC, fun a x ea => hm _ _ (Rho.add_mono W hnone a x ea), fun a x ea => ?_⟩
      rcases hfr a x ea with z | z
      · rcases fr1 a x z with z | z
        · exact .inl z
        · exact .inr (by rw [z]; exact .head _)
      · exact .inr (.tail _ z)

theorem cellsFrom_fst : ∀ (names : List (Str × NameKind)) (n n' : Nat) (acc acc' : List (Str × Addr)), acc.map (·.1) = acc'.map (·.1) → (cellsFrom n names acc).map (·.1) = (cellsFrom n' names acc').map (·.1)
  | [], _, _, _, _, e => e
  | (x, k) :: r, n, n', acc, acc', e => by
    unfold cellsFrom
    split
    · exact cellsFrom_fst r _ _ _ _ (by simp [e])
    · exact cellsFrom_fst r _ _ _ _ e
theorem pairwise_nodup : ∀ {cs : List (Str × Addr)}, cs.Pairwise (fun x y => x.2 ≠ y.2) → (cs.map (·.2)).Nodup
  | [], _ => .nil
  | p :: r, .cons h t => by
    rw [List.map_cons]
    exact List.nodup_cons.mpr ⟨fun hm => by obtain ⟨q, hq, e⟩ := List.mem_map.mp hm; exact h q hq e.symm, pairwise_nodup t⟩
theorem mem_lookup : ∀ {cs : List (Str × Addr)}, (cs.map (·.1)).Nodup → ∀ p ∈ cs, cs.lookup p.1 = some p.2
  | q :: r, hn, p, hp => by
    rw [List.map_cons] at hn
    have d := List.nodup_cons.mp hn
    rcases List.mem_cons.mp hp with rfl | hp
    · rw [List.lookup_cons, beq_self_eq_true]
    · have : (p.1 == q.1) = false := by
        simp only [beq_eq_false_iff_ne, ne_eq]
        intro z; exact d.1 (z ▸ List.mem_map_of_mem (f := fun x : Str × Addr => x.1) hp)
      rw [List.lookup_cons, this]
      exact mem_lookup d.2 p hp

/-- a def of one argument that is a cell -/
theorem c_defC {name qual x : Str} {params : Arguments} {body : List Stmt} {scope : Scope} {dV kV doc pm cdv ct oc : Value} {an od : Option Addr} {osl : Array (Option Value)} {f : Addr} {a : MV N} {cn : List (Str × N)} {Q : MV N → Sg N → Prop}
    (T : Stat K mg mb hB) (ho : K.lookup f = some ⟨oc, od, .func (fnOf name qual params body scope dV kV doc pm an cdv ct), osl⟩) (hcd : codeIn K cdv qual = true)
    (hb : ∀ u : Value, bindArgs (fnOf name qual params body scope dV kV doc pm an cdv ct) ⟨[u], []⟩ = pure [(x, u)]) (hx : scope.names.lookup x = some .cell) (hx' : ((cellsFrom 0 scope.names []).lookup x).isSome = true)
    (hcn : cn.map (·.1) = (cellsFrom 0 scope.names []).map (·.1)) (hnd : ((cellsFrom 0 scope.names []).map (·.1)).Nodup) (hnn : (cn.map (·.2)).Nodup) (hnf : ∀ p ∈ cn, σ p.2 = none)
    (h : MWs prog w hB scope d cn body [] (fun fl _ σ₁ => Q fl.val σ₁) (setCells (fun y => if y = x then some a else none) cn σ))
    (hco : scope.isCoroutine = false := by rfl) (hgen : scope.isGenerator = false := by rfl) (hk : scope.kind = .function := by rfl) : MWc prog w hB (d + 1) (.ref f) [a] Q σ := by
  intro A s ρ us r B W ha R k
  cases ha with | @cons _ u _ _ ra ha => cases ha with | nil =>
  have hdep : A.depth < recursionLimit := by have := r.dep; omega
  refine codeAny_call_function (fd := fnOf name qual params body scope dV kV doc pm an cdv ct) (body := body) hdep (B.stay _ _ (T.X _ _ ho)) rfl hco hgen rfl (codeRec_of (fun a o e => B.stay _ _ (T.X a o e)) hcd) ?_
  rw [hb]
  refine wpAny_pure ?_
  refine wpAny_newFunctionEnv_cells hk (fun y hy => ?_) fun env' he s' Xc => ?_
  · rw [List.mem_singleton.mp hy]
    refine .inr ⟨hx, ?_⟩
    have e := cellsFrom_fst scope.names (s.heap.objs.size + 1) 0 [] [] rfl
    obtain ⟨c, hc⟩ := Option.isSome_iff_exists.mp hx'
    have hm : x ∈ (cellsFrom (s.heap.objs.size + 1) scope.names []).map (·.1) := by rw [e]; exact List.mem_map_of_mem (f := fun q : Str × Addr => q.1) (mem_of_lookup hc)
    obtain ⟨q, hq, e'⟩ := List.mem_map.mp hm
    have := mem_lookup (e ▸ hnd) q hq
    have e'' : q.1 = x := e'
    rw [← e'', this]; rfl
  subst he
  have hk₁ := Xc.toInCall.keep
  refine ⟨(T.lim.keeps B.stay).keeps hk₁, codeAny_func ?_⟩
  obtain ⟨h₁, tk, rfl, -⟩ := Xc.done
  have newL : s.heap.get? s.heap.objs.size = none := size_none s.heap
  have hns : h₁.Ns s.heap.objs.size (fun _ => none) := by
    have := Xc.toInCall.ns
    have e : bindL (newEnv scope s.heap.objs.size mainGlobals (cellsFrom (s.heap.objs.size + 1) scope.names []) (qual ++ Str.ofString ".<locals>.") (some f) cdv none builtinsNs).kindOf [(x, u)] (fun _ => none) = fun _ => none := by
      unfold bindL
      have : (newEnv scope s.heap.objs.size mainGlobals (cellsFrom (s.heap.objs.size + 1) scope.names []) (qual ++ Str.ofString ".<locals>.") (some f) cdv none builtinsNs).kindOf x ≠ some .local := by
        show scope.names.lookup x ≠ _
        rw [hx]; simp
      rw [if_neg this]; rfl
    exact e ▸ this
  have hcm : bindC (newEnv scope s.heap.objs.size mainGlobals (cellsFrom (s.heap.objs.size + 1) scope.names []) (qual ++ Str.ofString ".<locals>.") (some f) cdv none builtinsNs).kindOf [(x, u)] (fun _ => none) = fun y => if y = x then some u else none := by
    unfold bindC
    have : (newEnv scope s.heap.objs.size mainGlobals (cellsFrom (s.heap.objs.size + 1) scope.names []) (qual ++ Str.ofString ".<locals>.") (some f) cdv none builtinsNs).kindOf x ≠ some .local := by
      show scope.names.lookup x ≠ _
      rw [hx]; simp
    rw [if_neg this]; rfl
  have P0 : Sp none ρ ρ s.heap h₁ := ⟨fun _ _ e => e, fun _ _ e => .inl e, fun a o e _ _ => hk₁ a o e, fun a e => by
    cases q : s.heap.get? a with
    | none => exact absurd q e
    | some o => rw [show h₁.get? a = some o from hk₁ a o q]; simp⟩
  have W0 : Wd prog w hB ρ σ h₁ := W.same fun n a o _ q => hk₁ a o q
  have efst := cellsFrom_fst scope.names (s.heap.objs.size + 1) 0 [] [] rfl
  have hnew : ∀ p ∈ cellsFrom (s.heap.objs.size + 1) scope.names [], s.heap.objs.size < p.2 := fun p hp => Xc.above p.1 p.2 hp
  have hget : ∀ y, s.heap.objs.size < y → s.heap.get? y = none := fun y hy => by
    cases q : s.heap.get? y with
    | none => rfl
    | some o => exact absurd (Nat.lt_trans (Heap.lt_size q) hy) (Nat.lt_irrefl _)
  obtain ⟨ρ', W1, hC, hm, hfr⟩ := adopt_cells (cv := fun y => if y = x then some a else none) (cm := fun y => if y = x then some u else none) (cn := cn) (cs := cellsFrom (s.heap.objs.size + 1) scope.names []) (by rw [hcn]; exact efst) W0
    (fun y _ => by
      by_cases z : y.1 = x
      · simp only [z, if_true]; exact .ss ra
      · simp only [z, if_false]; exact .nn)
    (fun p hp => ⟨(by
        have := Xc.cell p.1 p.2 (mem_lookup (efst ▸ hnd) p hp)
        have h2 : h₁.IsCell p.2 (bindC (newEnv scope s.heap.objs.size mainGlobals (cellsFrom (s.heap.objs.size + 1) scope.names []) (qual ++ Str.ofString ".<locals>.") (some f) cdv none builtinsNs).kindOf [(x, u)] (fun _ => none) p.1) := this
        rw [hcm] at h2; exact h2), fun b e => W.live b _ e (hget _ (hnew p hp)), (by
        cases q : hB.get? p.2 with
        | none => rfl
        | some o => have := B.stay _ _ q; rw [hget _ (hnew p hp)] at this; cases this), Nat.le_trans B.size (Nat.le_of_lt (hnew p hp))⟩) (pairwise_nodup Xc.apart) hnn hnf
  have F : Fr hB s.heap.objs.size h₁ (fun _ => none) := ⟨hns, fun b o e => hk₁ b o (B.stay b o e), B.size⟩
  have nl : ∀ b, ρ' b ≠ some s.heap.objs.size := fun b e => by
    rcases hfr b _ e with z | z
    · exact W.live b _ z newL
    · obtain ⟨p, hp, e'⟩ := List.mem_map.mp z
      have := hnew p hp
      have e'' : p.2 = s.heap.objs.size := e'
      rw [e''] at this
      exact absurd this (Nat.lt_irrefl _)
  refine h (A.deeper (newEnv scope s.heap.objs.size mainGlobals (cellsFrom (s.heap.objs.size + 1) scope.names []) (qual ++ Str.ofString ".<locals>.") (some f) cdv none builtinsNs)) { s with heap := h₁, toks := tk } s.heap.objs.size _ _ _ _ (cellsFrom (s.heap.objs.size + 1) scope.names []) _ ρ'
    ⟨r.deeper, F, nl, hC, fun y v e => by cases e⟩ W1 _ _ fun fl flc fr' m' σ' ρ₂ h' tk' H1 r1 X1 W2 P1 => ?_
  have P : Sp none ρ ρ₂ s.heap h' := ⟨fun a y e => P1.mono _ _ (hm _ _ e), (fun a y e => by
      rcases P1.fresh a y e with z | z
      · rcases hfr a y z with z | z
        · exact .inl z
        · obtain ⟨p, hp, e'⟩ := List.mem_map.mp z
          exact .inr (by rw [← show p.2 = y from e']; exact hget _ (hnew p hp))
      · right
        cases q : s.heap.get? y with
        | none => rfl
        | some o => have : h₁.get? y = some o := hk₁ y o q; rw [this] at z; cases z),
    fun b o e _ n => P1.keep b o (hk₁ b o e) (fun z => by rw [← Option.some.inj z, newL] at e; cases e) (fun c z => by
      rcases hfr c b z with z | z
      · exact n c z
      · obtain ⟨p, hp, e'⟩ := List.mem_map.mp z
        rw [← show p.2 = b from e', hget _ (hnew p hp)] at e; cases e), fun b e => P1.alive b (P0.alive b e)⟩
  cases r1 with
  | next => exact k .none .none σ' ρ₂ h' tk' H1 .none W2 P
  | ret e => exact k _ _ σ' ρ₂ h' tk' H1 e W2 P

end

section
variable {N : Type} [DecidableEq N] {prog : Program} {w : World} {hB : Heap} {K : Frag} {mg mb : Str → Option Value} {S : Scope} {d : Nat} {cells : List (Str × N)} {fr : LF N} {σ : Sg N}
  {A : Around} {L : Addr} {cl : List (Str × Addr)} {m : Str → Option Value} {ρ ρ' : Rho N} {h h' : Heap}

/-! ## comprehensions over a list, the world as it was -/
def relS (scope S : Scope) : Scope :=
  { scope with names := scope.names.map fun (n, k) => if (k == .free && S.kind == .function && S.names.lookup n == some .cell) then (n, .cell) else (n, k) }

/-- the tests -/
def MWi (prog : Program) (w : World) (hB : Heap) (S : Scope) (d : Nat) (cells : List (Str × N)) (ifs : List Expr) (fr : LF N) (b : Bool) (σ : Sg N) : Prop :=
  match ifs with
  | [] => b = true
  | [c] => MWt prog w hB S d cells c fr (fun r σ' => r = b ∧ σ' = σ) σ
  | _ => False

theorem Sp.strong {C : Addr} (P : Sp (some C) ρ ρ' h h') (hC : h.get? C = none) : Sp none ρ ρ' h h' :=
  ⟨P.mono, P.fresh, fun a o e _ n => P.keep a o e (fun z => by rw [← Option.some.inj z, hC] at e; cases e) n, P.alive⟩
theorem Sp.no {X : Option Addr} {y : Addr} (P : Sp X ρ ρ' h h') (hn : ∀ a, ρ a ≠ some y) (hy : h.get? y ≠ none) : ∀ a, ρ' a ≠ some y := fun a e => (P.fresh a y e).elim (hn a) hy
theorem ns_at {C : Addr} (H : h.Ns C m) (e : ∀ o, h.get? C = some o → h'.get? C = some o) : h'.Ns C m := by
  obtain ⟨o, es, ep, ho, r⟩ := H
  exact ⟨o, es, ep, e _ ho, r⟩
theorem ns_live {C : Addr} (H : h.Ns C m) : h.get? C ≠ none := by
  obtain ⟨o, es, ep, ho, r⟩ := H
  rw [ho]; exact Option.some_ne_none _

/-- the turns of a comprehension -/
inductive CSt (prog : Program) (w : World) (hB : Heap) (ρ₁ : Rho N) (h₁ : Heap) (σ : Sg N) (I D C : Addr) (vs : List (MV N)) (p : MV N → Bool) (g : MV N → MV N) (s : Shared) (P : Nat → Heap → Prop) : Nat → Shared → Prop
  | mk {i : Nat} {acc : List Value} {kc : Nat} {ρ : Rho N} {h : Heap} {tk : Tok} {m : Str → Option Value} : i ≤ vs.length → Wd prog w hB ρ σ h → Sp none ρ₁ ρ h₁ h → P i h → h.get? D = some (PySem.W.listOf acc.toArray kc) → h.Ns C m →
    (∀ a, ρ a ≠ some I) → (∀ a, ρ a ≠ some D) → (∀ a, ρ a ≠ some C) → All2 (VR ρ) (((vs.take i).filter p).map g) acc → CSt prog w hB ρ₁ h₁ σ I D C vs p g s P (vs.length - i) { s with heap := h, toks := tk }

theorem comp_turns {elt iter : Expr} {x : Str} {px pos : Pos} {ifs : List Expr} {scope S' : Scope} {cells₁ : List (Str × N)} {cl₁ : List (Str × Addr)} {vs : List (MV N)} {p : MV N → Bool} {g : MV N → MV N} {ρ₁ : Rho N} {h₁ : Heap} {I D C : Addr} {P : Nat → Heap → Prop} {s : Shared}
    {R : Result → Shared → Prop} {q : Str} {cd : Value} {frm : Option Addr}
    (T : Turns prog w hB A none ρ₁ h₁ I vs.length (fun _ σ' => σ' = σ) P (fun i v => vs[i]? = some v))
    (nI : h₁.get? I = none) (nD : h₁.get? D = none) (nC : h₁.get? C = none) (hDI : D ≠ I) (hCI : C ≠ I) (hCD : C ≠ D) (B : Base hB h₁) (hC : hB.objs.size ≤ C) (rm : Room A d) (hcr : CR ρ₁ cells₁ cl₁) (off : ∀ a x, ρ₁ a = some x → hB.get? x = none) (hl : vs.length ≤ 1000)
    (htest : ∀ u ∈ vs, MWi prog w hB S' d cells₁ ifs [(x, u)] (p u) σ) (helt : ∀ u ∈ vs, p u = true → MWe prog w hB S' d cells₁ elt [(x, u)] (fun y σ' => y = g u ∧ σ' = σ) σ) (hkind : S'.kind = .function) (hx : S'.names.lookup x = some .local)
    (h0 : CSt prog w hB ρ₁ h₁ σ I D C vs p g s P vs.length s)
    (fin : ∀ {ρ : Rho N} {h : Heap} {tk : Tok} {acc : List Value} {kc : Nat} {m : Str → Option Value}, Wd prog w hB ρ σ h → Sp none ρ₁ ρ h₁ h → h.get? D = some (PySem.W.listOf acc.toArray kc) → h.Ns C m → (∀ a, ρ a ≠ some D) → (∀ a, ρ a ≠ some C) → All2 (VR ρ) ((vs.filter p).map g) acc → R (.ok .next) { s with heap := h, toks := tk }) :
    codeAny (model prog w) A (.compLoop (.ListComp elt [⟨.Name x px, iter, ifs, 0⟩] scope pos) 0 (.ref I) (.ref D) (mkEnv S' C cl₁ q none cd frm)) R s := by
  refine codeAny_compLoop_tests (CSt prog w hB ρ₁ h₁ σ I D C vs p g s P) (fun k' s' H => ?_) vs.length h0
  cases H with | @mk i acc kc ρ₂ h₂ tk₂ m₂ hi W2 P2 hP eD hns oI oD oC hacc =>
  refine T.next i σ ρ₂ { s with heap := h₂, toks := tk₂ } hi rfl W2 P2 hP _ _ (fun v u h₃ tk₃ hv hlt rv hP3 hk3 => ?_) (fun e h₃ tk₃ hk3 => ?_)
  · have W3 := W2.same fun a y o e q => hk3 y o (fun z => oI a (z ▸ e)) q
    have P3 := P2.kp nI hk3
    have eD3 := hk3 _ _ hDI eD
    have hns3 := ns_at hns fun o e => hk3 _ _ hCI e
    have X3 : FS hB d ([] : LF N) cells₁ A C cl₁ m₂ ρ₂ h₃ := ⟨rm, ⟨hns3, fun b o e => P3.keep b o (B.stay b o e) (fun z => by cases z) (fun a z => by rw [off a b z] at e; cases e), hC⟩, oC, hcr.mono P3.mono, fun y v e => by cases e⟩
    refine PyProof.Rows.assign_Name ?_
    refine store_local (s := { s with heap := h₃, toks := tk₃ }) X3 W3 rv hkind hx fun h₄ tk₄ m₄ X4 W4 P4 => ?_
    have tk_take : vs.take (i + 1) = vs.take i ++ [v] := by rw [List.take_add_one, hv]; rfl
    -- what stays of the comprehension's own
    have go : ∀ {ρ₇ : Rho N} {h₇ : Heap}, Sp (some C) ρ₂ ρ₇ h₄ h₇ → Sp none ρ₁ ρ₇ h₁ h₇ ∧ P (i + 1) h₇ ∧ h₇.get? D = some (PySem.W.listOf acc.toArray kc) ∧ (∀ a, ρ₇ a ≠ some I) ∧ (∀ a, ρ₇ a ≠ some D) ∧ ∀ a, ρ₇ a ≠ some C := fun P7 => by
      have P37 := P4.trans P7
      exact ⟨(P3.weak.trans P37).strong nC, T.stay _ _ _ (fun o e => P37.keep _ _ e (fun z => hCI (Option.some.inj z)) oI) hP3, P37.keep _ _ eD3 (fun z => hCD (Option.some.inj z)) oD,
        P37.no oI (T.here _ _ hP3), P37.no oD (by rw [eD3]; exact Option.some_ne_none _), P37.no oC (ns_live hns3)⟩
    have after : ∀ {b : Bool} {ρ₇ : Rho N} {h₇ : Heap} {tk₇ : Nat}, b = p v → FS hB d [(x, v)] cells₁ A C cl₁ m₄ ρ₇ h₇ → Wd prog w hB ρ₇ σ h₇ → Sp (some C) ρ₂ ρ₇ h₄ h₇ →
        if b = true then wpAny (model prog w) A (eval elt (mkEnv S' C cl₁ q none cd frm)) (fun y s₄ => wpAny (model prog w) A (call (Value.builtin "list.append") [Value.ref D, y]) (fun _ s₅ => ∃ mm, mm < vs.length - i ∧ CSt prog w hB ρ₁ h₁ σ I D C vs p g s P mm s₅)
            (notedBy (model prog w) A (mkEnv S' C cl₁ q none cd frm) fun e s' => R (Except.error e) s') s₄) (notedBy (model prog w) A (mkEnv S' C cl₁ q none cd frm) fun e s' => R (Except.error e) s') { s with heap := h₇, toks := tk₇ }
        else ∃ mm, mm < vs.length - i ∧ CSt prog w hB ρ₁ h₁ σ I D C vs p g s P mm { s with heap := h₇, toks := tk₇ } := fun {b ρ₇ h₇ tk₇} hb X7 W7 P7 => by
      subst hb
      have hlt' := Nat.sub_lt_sub_left hlt (Nat.lt_succ_self i)
      split
      · rename_i hp
        refine helt v (List.mem_of_getElem? hv) hp A { s with heap := h₇, toks := tk₇ } C q none cd frm cl₁ m₄ ρ₇ X7 W7 _ _ fun y yu σ₈ ρ₈ h₈ tk₈ H8 r8 X8 W8 P8 => ?_
        obtain ⟨rfl, rfl⟩ := H8
        obtain ⟨Q1, Q2, Q3, Q4, Q5, Q6⟩ := go (P7.trans P8)
        have ra := hacc.mono fun _ _ z => z.mono (P4.trans (P7.trans P8)).mono
        have hal : acc.length ≤ 1000 := by
          rw [← hacc.length, List.length_map]
          exact Nat.le_trans (List.length_filter_le _ _) (Nat.le_trans (by rw [List.length_take]; exact Nat.min_le_right _ _) hl)
        refine append_at (s := { s with heap := h₈, toks := tk₈ }) Q3 (fun h₉ hs9 ho9 => ?_) (by rw [List.size_toArray]; exact Nat.le_trans hal (by decide))
        have k9 : Kp D h₈ h₉ := fun a o n e => (hs9.2 a n).trans e
        refine ⟨_, hlt', .mk (acc := acc ++ [yu]) (kc := kc + 1) hlt (W8.same fun a z o e q => k9 z o (fun y => Q5 a (y ▸ e)) q) (Q1.kp nD k9) (T.stay _ _ _ (fun o e => k9 _ _ (Ne.symm hDI) e) Q2) ?_ (ns_at X8.F.ns fun o e => k9 _ _ hCD e) Q4 Q5 Q6 ?_⟩
        · rw [ho9]; simp
        · rw [tk_take, List.filter_append, List.map_append]
          refine ra.append ?_
          rw [List.filter_cons_of_pos hp]
          exact .cons r8 .nil
      · rename_i hp
        obtain ⟨Q1, Q2, Q3, Q4, Q5, Q6⟩ := go P7
        refine ⟨_, hlt', .mk hlt W7 Q1 Q2 Q3 X7.F.ns Q4 Q5 Q6 ?_⟩
        rw [tk_take, List.filter_append, List.filter_cons_of_neg hp, List.filter_nil, List.append_nil]
        exact hacc.mono fun _ _ z => z.mono (P4.trans P7).mono
    have ht := htest v (List.mem_of_getElem? hv)
    unfold MWi at ht
    split at ht
    · exact wpAny_tests_nil (after ht.symm X4 W4 (Sp.refl _ _ _))
    · refine wpAny_tests_one (ht A { s with heap := h₄, toks := tk₄ } C q none cd frm cl₁ m₄ ρ₂ X4 W4 _ _ fun b σ₇ ρ₇ h₇ tk₇ H7 X7 W7 P7 => ?_)
      obtain ⟨e1, rfl⟩ := H7
      exact after e1 X7 W7 P7
    · exact ht.elim
  · rw [e, List.take_length] at hacc
    exact fin (W2.same fun a y o e q => hk3 y o (fun z => oI a (z ▸ e)) q) (P2.kp nI hk3) (hk3 _ _ hDI eD) (ns_at hns fun o e => hk3 _ _ hCI e) oD oC hacc

theorem comp_open {e : Expr} {scope : Scope} {cl₁ : List (Str × Addr)} {h₁ : Heap} {s : Shared} {tk₁ : Tok} {itObj : Obj} {q : Str} {f : Option Addr} {cd : Value} {frm : Option Addr} {E : Value → Shared → Prop} {Qc : Value → Shared → Prop}
    (hit : itObj.isFreed = false) (hcell : ∀ y ∈ scope.names, y.2 ≠ .cell) (hkind : scope.kind = .function)
    (k : ∀ D C h₃ tk m, h₁.objs.size ≤ D → h₁.objs.size ≤ C → D ≠ h₁.objs.size → C ≠ h₁.objs.size → C ≠ D → (∀ a ob, h₁.get? a = some ob → h₃.get? a = some ob) → h₃.get? h₁.objs.size = some itObj → h₃.get? D = some (PySem.W.listOf ([] : List Value).toArray 0) → h₃.Ns C m →
      codeAny (model prog w) A (.compStart e 0 (.ref h₁.objs.size) (.ref D) (mkEnv (relS scope S) C cl₁ q none cd frm)) (compPost (model prog w) A E none Qc (.ref D) C) { s with heap := h₃, toks := tk }) :
    wpAny (model prog w) A (newList []) (fun acc s₃ => wpAny (model prog w) A (newFunctionEnv scope mainGlobals cl₁ [] q none .none (some (mkEnv S L cl q f cd frm))) (fun cenv s₄ =>
      codeAny (model prog w) A (.compStart e 0 (.ref h₁.objs.size) acc { cenv with scope := relabel scope (mkEnv S L cl q f cd frm) }) (compPost (model prog w) A E none Qc acc cenv.locals) s₄) E s₃) E { s with heap := h₁.push itObj, toks := tk₁ } := by
  have kH1 : ∀ a ob, h₁.get? a = some ob → (h₁.push itObj).get? a = some ob := fun a ob e => Heap.get?_push_of_some _ e
  have eI : (h₁.push itObj).get? h₁.objs.size = some itObj := Heap.get?_push_size _ hit
  have sz1 : (h₁.push itObj).objs.size = h₁.objs.size + 1 := Heap.size_push ..
  generalize h₁.push itObj = H1' at *
  refine wpAny_newList ?_ (by decide)
  have kH2 : ∀ a ob, H1'.get? a = some ob → (H1'.push { cls := Value.type "list", data := Data.seq ([] : List Value).toArray }).get? a = some ob := fun a ob e => Heap.get?_push_of_some _ e
  have eD : (H1'.push { cls := Value.type "list", data := Data.seq ([] : List Value).toArray }).get? H1'.objs.size = some (PySem.W.listOf ([] : List Value).toArray 0) := Heap.get?_push_size _ rfl
  have sz2 : (H1'.push { cls := Value.type "list", data := Data.seq ([] : List Value).toArray }).objs.size = H1'.objs.size + 1 := Heap.size_push ..
  dsimp only
  generalize H1'.push { cls := Value.type "list", data := Data.seq ([] : List Value).toArray } = H2 at *
  refine wpAny_newFunctionEnv (s := { s with heap := H2, toks := tk₁ }) hcell (by intro y hy; cases hy) (fun h₃ hns₃ hsb₃ => ?_) hkind
  have old : ∀ a ob, H2.get? a = some ob → h₃.get? a = some ob := fun a ob e => (hsb₃.2 a (Nat.ne_of_lt (Heap.lt_size e))).trans (Heap.get?_push_of_some _ e)
  exact k _ _ h₃ _ _ (by rw [sz1]; exact Nat.le_succ _) (by rw [sz2, sz1]; exact Nat.le_succ_of_le (Nat.le_succ _)) (by rw [sz1]; exact Nat.succ_ne_self _) (Nat.ne_of_gt (by rw [sz2, sz1]; exact Nat.lt_succ_of_lt (Nat.lt_succ_self _))) (by rw [sz2]; exact Nat.succ_ne_self _)
    (fun a ob e => old a ob (kH2 a ob (kH1 a ob e))) (old _ _ (kH2 _ _ eI)) (old _ _ eD) hns₃

theorem gone {h : Heap} {y : Addr} (hy : h.objs.size ≤ y) : h.get? y = none := by
  cases q : h.get? y with
  | none => rfl
  | some o => exact absurd (Nat.lt_of_lt_of_le (Heap.lt_size q) hy) (Nat.lt_irrefl _)

theorem comp_tail {elt iter : Expr} {x : Str} {px pos : Pos} {ifs : List Expr} {scope : Scope} {cells₁ : List (Str × N)} {cl₁ : List (Str × Addr)} {vs : List (MV N)} {p : MV N → Bool} {g : MV N → MV N} {ρ₁ : Rho N} {h₁ : Heap} {P : Nat → Heap → Prop} {s : Shared} {tk₁ : Tok} {nm : N} {itObj : Obj}
    {q : Str} {f : Option Addr} {cd : Value} {frm : Option Addr} {E : Value → Shared → Prop} {Qc : Value → Shared → Prop}
    (X1 : FS hB d fr cells A L cl m ρ₁ h₁) (W1 : Wd prog w hB ρ₁ σ h₁) (hnm : σ nm = none)
    (T : Turns prog w hB A none ρ₁ h₁ h₁.objs.size vs.length (fun _ σ' => σ' = σ) P (fun i v => vs[i]? = some v)) (hP0 : ∀ h', h'.get? h₁.objs.size = some itObj → P 0 h')
    (hself : ∀ (s' : Shared) (Q : Value → Shared → Prop) E, P 0 s'.heap → (∀ a ob, h₁.get? a = some ob → s'.heap.get? a = some ob) → Q (.ref h₁.objs.size) s' → wpAny (model prog w) A (pyIter (.ref h₁.objs.size)) Q E s')
    (hit : itObj.isFreed = false) (hcr : CR ρ₁ cells₁ cl₁) (hl : vs.length ≤ 1000)
    (htest : ∀ u ∈ vs, MWi prog w hB (relS scope S) d cells₁ ifs [(x, u)] (p u) σ) (helt : ∀ u ∈ vs, p u = true → MWe prog w hB (relS scope S) d cells₁ elt [(x, u)] (fun y σ' => y = g u ∧ σ' = σ) σ)
    (hcell : ∀ y ∈ scope.names, y.2 ≠ .cell) (hkind : scope.kind = .function) (hx : scope.names.lookup x = some .local)
    (k : ∀ u ρ' h' tk, VR ρ' (.ref nm) u → FS hB d fr cells A L cl m ρ' h' → Wd prog w hB ρ' (σ.set nm (.list ((vs.filter p).map g))) h' → Sp (some L) ρ₁ ρ' h₁ h' → Qc u { s with heap := h', toks := tk }) :
    wpAny (model prog w) A (newList []) (fun acc s₃ => wpAny (model prog w) A (newFunctionEnv scope mainGlobals cl₁ [] q none .none (some (mkEnv S L cl q f cd frm))) (fun cenv s₄ =>
      codeAny (model prog w) A (.compStart (.ListComp elt [⟨.Name x px, iter, ifs, 0⟩] scope pos) 0 (.ref h₁.objs.size) acc { cenv with scope := relabel scope (mkEnv S L cl q f cd frm) }) (compPost (model prog w) A E none Qc acc cenv.locals) s₄) E s₃) E { s with heap := h₁.push itObj, toks := tk₁ } := by
  refine comp_open hit hcell hkind fun D C h₃ tk m' lD lC hDI hCI hCD oldh eI eD hns₃ => ?_
  have ρn : ∀ y, h₁.objs.size ≤ y → ∀ a, ρ₁ a ≠ some y := fun y hy a e => W1.live a y e (gone hy)
  have hP3 := hP0 h₃ eI
  have loop : codeAny (model prog w) A (.compLoop (.ListComp elt [⟨.Name x px, iter, ifs, 0⟩] scope pos) 0 (.ref h₁.objs.size) (.ref D) (mkEnv (relS scope S) C cl₁ q none cd frm))
      (compPost (model prog w) A E none Qc (.ref D) C) { s with heap := h₃, toks := tk } := by
    refine comp_turns (s := { s with heap := h₃, toks := tk }) T (gone (Nat.le_refl _)) (gone lD) (gone lC) hDI hCI hCD X1.base (Nat.le_trans X1.base.size lC) X1.room hcr W1.off hl htest helt hkind (lookup_relabel_local (env := mkEnv S L cl q f cd frm) hx)
      (.mk (acc := []) (Nat.zero_le _) (W1.same fun _ a o _ e => oldh a o e) ⟨fun _ _ e => e, fun _ _ e => .inl e, fun a o e _ _ => oldh a o e, fun a e z => ?_⟩ hP3 eD hns₃ (ρn _ (Nat.le_refl _)) (ρn _ lD) (ρn _ lC) .nil) fun {ρ h tk acc kc m} W5 P5 eD5 hns5 nD5 nC5 ra => ?_
    · cases q : h₁.get? a with
      | none => exact e q
      | some o => rw [oldh a o q] at z; cases z
    · refine ⟨_, hns5, fun h₆ hs6 => ?_⟩
      have k6 : Kp C h h₆ := fun a o n e => (hs6.2 a n).trans e
      have W6 := W5.same (h' := h₆) fun a z o e q => k6 z o (fun y => nC5 a (y ▸ e)) q
      have eD6 := k6 _ _ (Ne.symm hCD) eD5
      have P6 := P5.kp (gone lC) k6
      have W7 := W6.adopt (o' := .list ((vs.filter p).map g)) hnm nD5 (by cases q : hB.get? D with | none => rfl | some o => exact absurd (X1.base.stay _ _ q) (by rw [gone lD]; exact fun z => by cases z)) (Nat.le_trans X1.base.size lD) (by rw [eD6]; exact Option.some_ne_none _)
        ⟨_, acc, Rho.add_self .., ⟨kc, eD6⟩, ra.mono fun _ _ z => z.mono (Rho.add_mono W6 hnm)⟩
      have P7 : Sp none ρ₁ (ρ.add nm D none) h₁ h₆ := ⟨fun a y e => Rho.add_mono W6 hnm _ _ (P6.mono a y e), fun a y e => by
        obtain ⟨a1, a2⟩ := a
        unfold Rho.add at e
        dsimp only at e
        split at e
        · cases a2 with
          | true => cases e
          | false => right; rw [← Option.some.inj e]; exact gone lD
        · exact P6.fresh _ y e, P6.keep, P6.alive⟩
      exact k _ _ _ _ (.ref (Rho.add_self ..)) (X1.step W1 P7) W7 P7.weak
  exact codeAny_compStart_list loop (hself _ _ _ hP3 oldh loop)

/-- over a list -/
theorem e_comp {elt iter : Expr} {x : Str} {px pos : Pos} {ifs : List Expr} {scope : Scope} {cells₁ : List (Str × N)} {Q : MV N → Sg N → Prop}
    (h : MWe prog w hB S d cells iter fr (fun v σ₁ => ∃ (n nm : N) (vs : List (MV N)) (p : MV N → Bool) (g : MV N → MV N), v = .ref n ∧ vs.length ≤ 1000 ∧ σ₁ n = some (.list vs) ∧ σ₁ nm = none ∧
      (∀ u ∈ vs, MWi prog w hB (relS scope S) d cells₁ ifs [(x, u)] (p u) σ₁) ∧ (∀ u ∈ vs, p u = true → MWe prog w hB (relS scope S) d cells₁ elt [(x, u)] (fun y σ' => y = g u ∧ σ' = σ₁) σ₁) ∧
      Q (.ref nm) (σ₁.set nm (.list ((vs.filter p).map g)))) σ)
    (hcl : ∀ L cl q f cd frm (ρ : Rho N), CR ρ cells cl → ∃ cl₁, closureFor scope (mkEnv S L cl q f cd frm) = pure cl₁ ∧ CR ρ cells₁ cl₁)
    (hcell : ∀ y ∈ scope.names, y.2 ≠ .cell) (hkind : scope.kind = .function) (hnames : ∀ y ∈ scope.names, y.2 = .local → scope.names.lookup y.1 = some .local) (hx : scope.names.lookup x = some .local)
    (hs : ∀ (env : Env) v, foldedSetIterable iter env v = pure v := by intro _ _; rfl) :
    MWe prog w hB S d cells (.ListComp elt [⟨.Name x px, iter, ifs, 0⟩] scope pos) fr Q σ := by
  intro A s L q f cd frm cl m ρ X W E Qc k
  obtain ⟨cl₁, hclos, hcr⟩ := hcl L cl q f cd frm ρ X.cr
  rw [eval_ListComp]
  refine wpAny_comprehension_free (use := none) rfl (hs _) hclos hkind hnames (h A s L q f cd frm cl m ρ X W E _ fun v u σ₁ ρ₁ h₁ tk₁ H1 r1 X1 W1 P1 => ?_)
  refine ex5 H1 fun n nm vs p g H0 => and7 H0 fun e hl hn hnm htest helt HQ => ?_
  subst e
  cases r1 with | @ref _ ax hx1 =>
  obtain ⟨us, kk, g2, g3⟩ := W1.list hn hx1
  refine wpAny_pyIter_list (s := { s with heap := h₁, toks := tk₁ }) (items := us.toArray) ⟨_, g2, rfl, kk, rfl⟩ ?_
  have hax : ax ≠ h₁.objs.size := fun z => W1.live _ _ hx1 (z ▸ size_none h₁)
  refine comp_tail (s := s) X1 W1 hnm (Turns.list X1.room.hd hx1 hax fun i σ' _ e => e ▸ hn) (fun h' e => ⟨_, e, rfl, rfl⟩) (fun s' Q E hP _ hQ => wpAny_pyIter_listiter hP hQ) rfl (hcr.mono P1.mono) hl htest helt hcell hkind hx
    fun u ρ' h' tk r X' W' P' => k _ u _ ρ' h' tk HQ r X' W' (P1.trans P')
end

section
variable {N : Type} [DecidableEq N] {prog : Program} {w : World} {hB : Heap} {K : Frag} {mg mb : Str → Option Value} {S : Scope} {d : Nat} {cells : List (Str × N)} {fr : LF N} {σ : Sg N}
  {A : Around} {L : Addr} {cl : List (Str × Addr)} {m : Str → Option Value} {ρ ρ' : Rho N} {h h' : Heap}

end

section
variable {N : Type} [DecidableEq N] {prog : Program} {w : World} {hB : Heap} {K : Frag} {mg mb : Str → Option Value} {S : Scope} {d : Nat} {cells : List (Str × N)} {fr : LF N} {σ : Sg N}
  {A : Around} {L : Addr} {cl : List (Str × Addr)} {m : Str → Option Value} {ρ ρ' : Rho N} {h h' : Heap}

/-- a list's item, whatever the list was read from -/
theorem e_itemListT {value slice : Expr} {pos : Pos} {Q : MV N → Sg N → Prop}
    (h : MWe prog w hB S d cells value fr (fun o σ₁ => MWe prog w hB S d cells slice fr (fun i σ₂ => ∃ n vs j v, o = .ref n ∧ i = .int j ∧ σ₂ n = some (.list vs) ∧ 0 ≤ j ∧ j < 1000000 ∧ vs[j.toNat]? = some v ∧ Q v σ₂) σ₁) σ)
    (hs : ∀ l k t, subscripted slice false (.ref l) (.int k t) = operate [.ref l, .int k t] (getItem (.ref l) (.int k t)) := by intros; rfl) : MWe prog w hB S d cells (.Subscript value slice pos) fr Q σ := by
  intro A s L q f cd frm cl m ρ X W E Qc k
  refine Subscript_ (h A s L q f cd frm cl m ρ X W E _ fun o ou σ₁ ρ₁ h₁ tk₁ H1 r1 X1 W1 P1 => ?_)
  refine H1 A { s with heap := h₁, toks := tk₁ } L q f cd frm cl m ρ₁ X1 W1 E _ fun i iu σ₂ ρ₂ h₂ tk₂ H2 r2 X2 W2 P2 => ?_
  refine ex4 H2 fun n vs j v H0 => and7 H0 fun e e' hl h0 hhi hv H3 => ?_
  subst e e'
  cases r2
  cases r1 with | ref hx =>
  obtain ⟨x', us, g1, ⟨kk, g2⟩, g3⟩ := W2.obj _ _ hl
  rw [P2.mono _ _ hx] at g1; cases g1
  obtain ⟨y, hy, ry⟩ := g3.get _ v hv
  have hL : h₂.IsList _ us.toArray := ⟨_, g2, rfl, kk, rfl⟩
  exact tail_any (s := { s with heap := h₂, toks := tk₂ }) hL.typeIs slot_list_getitem.lookup (wpAny_getItem_list (x := y) hL h0 (by omega) (by simpa using hy) (k _ _ σ₂ ρ₂ h₂ tk₂ H3 ry X2 W2 (P1.trans P2))) (hs _ _ _)
end

section
variable {N : Type} [DecidableEq N] {prog : Program} {w : World} {hB : Heap} {K : Frag} {mg mb : Str → Option Value} {S : Scope} {d : Nat} {cells : List (Str × N)} {fr : LF N} {σ : Sg N}
  {A : Around} {L : Addr} {cl : List (Str × Addr)} {m : Str → Option Value} {ρ ρ' : Rho N} {h h' : Heap}

/-- j not in a list of ints -/
theorem t_notin {l r : Expr} {pos : Pos} {Q : Bool → Sg N → Prop}
    (h : MWe prog w hB S d cells l fr (fun a σ₁ => MWe prog w hB S d cells r fr (fun b σ₂ => ∃ (j : Int) (n : N) (ns : List Int), a = .int j ∧ b = .ref n ∧ σ₂ n = some (.list (ns.map .int)) ∧ Q (true != decide (j ∈ ns)) σ₂) σ₁) σ)
    (hm : behindInMarks .NotIn r = false := by rfl) : MWt prog w hB S d cells (.Compare l [.NotIn] [r] pos) fr Q σ := by
  intro A s L q f cd frm cl m ρ X W E Qc k
  refine wpAny_isTrue_Compare1 (h A s L q f cd frm cl m ρ X W E _ fun a u σ₁ ρ₁ h₁ tk₁ H1 r1 X1 W1 P1 => ?_) hm
  refine H1 A { s with heap := h₁, toks := tk₁ } L q f cd frm cl m ρ₁ X1 W1 E _ fun b v σ₂ ρ₂ h₂ tk₂ H2 r2 X2 W2 P2 => ?_
  refine ex3 H2 fun j n ns H0 => and4 H0 fun e e' hl HQ => ?_
  subst e e'
  refine r1.int_at fun t e1 => r2.at fun x e2 hx => ?_
  obtain ⟨us, kk, g2, g3⟩ := W2.list hl hx
  have e : (ns.any fun x => x == j) = decide (j ∈ ns) := by
    rw [Bool.eq_iff_iff]; simp
  rw [e1, e2]
  exact notin_list_ints (s := { s with heap := h₂, toks := tk₂ }) ⟨_, g2, rfl, kk, rfl⟩ (ints_of g3) (by rw [e]; exact wpAny_truthy_bool (k _ σ₂ ρ₂ h₂ tk₂ (by rwa [Bool.true_bne] at HQ) X2 W2 (P1.trans P2)))

/-- two lists of ints compared -/
theorem t_cmpInts {neg : Bool} {op : CmpOp} {l r : Expr} {pos : Pos} {Q : Bool → Sg N → Prop} (ho : op = if neg then .NotEq else .Eq)
    (h : MWe prog w hB S d cells l fr (fun a σ₁ => MWe prog w hB S d cells r fr (fun b σ₂ => ∃ (n n' : N) (ns ms : List Int), a = .ref n ∧ b = .ref n' ∧ σ₂ n = some (.list (ns.map .int)) ∧ σ₂ n' = some (.list (ms.map .int)) ∧ Q ((neg != decide (ns = ms))) σ₂) σ₁) σ)
    (hm : behindInMarks op r = false := by rfl) : MWt prog w hB S d cells (.Compare l [op] [r] pos) fr Q σ := by
  intro A s L q f cd frm cl m ρ X W E Qc k
  refine wpAny_isTrue_Compare1 (h A s L q f cd frm cl m ρ X W E _ fun a u σ₁ ρ₁ h₁ tk₁ H1 r1 X1 W1 P1 => ?_) hm
  refine H1 A { s with heap := h₁, toks := tk₁ } L q f cd frm cl m ρ₁ X1 W1 E _ fun b v σ₂ ρ₂ h₂ tk₂ H2 r2 X2 W2 P2 => ?_
  refine ex4 H2 fun n n' ns ms H0 => and5 H0 fun e e' hl hl' HQ => ?_
  subst e e'
  exact cmp_ints (ρ₁ := ρ₁) (s := { s with heap := h₂, toks := tk₂ }) ho X2 W2 (r1.mono P2.mono) r2 hl hl' (wpAny_truthy_bool (k _ σ₂ ρ₂ h₂ tk₂ HQ X2 W2 (P1.trans P2)))
end

section
variable {N : Type} [DecidableEq N] {prog : Program} {w : World} {hB : Heap} {K : Frag} {mg mb : Str → Option Value} {S : Scope} {d : Nat} {cells : List (Str × N)} {fr : LF N} {σ : Sg N}
  {A : Around} {L : Addr} {cl : List (Str × Addr)} {m : Str → Option Value} {ρ ρ' : Rho N} {h h' : Heap}

/-- over a list of ints that no name has -/
theorem Turns.own {us : List Value} {kk : Nat} {ρ₁ : Rho N} {h₁ : Heap} {I ax : Addr} {G : Nat → Sg N → Prop} (hh : A.handled = none) (hax : h₁.get? ax = some (W.listOf us.toArray kk)) (hne : ax ≠ I) (hno : ∀ n, ρ₁ n ≠ some ax) (haL : ax ≠ L) (hus : ∀ u ∈ us, ∃ j t, u = .int j t) :
    Turns prog w hB A (some L) ρ₁ h₁ I us.length G (fun i h => h.IsListIter I ax i) (fun i v => ∃ j, v = .int j) where
  stay := fun _ _ _ e H => isListIter_at e H
  here := fun i h H z => by
    obtain ⟨o, ho, _⟩ := H
    rw [ho] at z; cases z
  next := fun i σ ρ s hi hG W P hit Qc E h1 h2 => by
    have y2 := P.keep ax _ hax (fun z => haL (Option.some.inj z).symm) hno
    refine iter_next hh hne hit (items := us.toArray) ⟨_, y2, rfl, kk, rfl⟩ (fun u hu h' tk hit' hk => ?_) (fun _ e h' tk hk => h2 (e.trans List.size_toArray) h' tk hk) (by rw [List.size_toArray]; exact hi)
    have hu' : us[i]? = some u := by simpa using hu
    obtain ⟨j, t, rfl⟩ := hus u (List.mem_of_getElem? hu')
    exact h1 (.int j) _ h' tk ⟨j, rfl⟩ (List.getElem?_eq_some_iff.mp hu').1 (.int j t) hit' hk
theorem for_atU {s₁ : Shared} {σ₁ : Sg N} {ρ₁ : Rho N} {ax : Addr} {x : Str} {p : Pos} {body : List Stmt} {Q : Fl N → LF N → Sg N → Prop} {E : Value → Shared → Prop} {Qc : Flow → Shared → Prop} {q : Str} {f : Option Addr} {cd : Value} {frm : Option Addr} (I : Nat → LF N → Sg N → Prop) (us : List Value) (kk : Nat)
    (X1 : FS hB d fr cells A L cl m ρ₁ s₁.heap) (W1 : Wd prog w hB ρ₁ σ₁ s₁.heap) (hax : s₁.heap.get? ax = some (W.listOf us.toArray kk)) (hno : ∀ n, ρ₁ n ≠ some ax) (haL : ax ≠ L) (hI0 : I 0 fr σ₁) (hus : ∀ u ∈ us, ∃ j t, u = .int j t)
    (hturn : ∀ i j fr σ, i < us.length → I i fr σ → MWs prog w hB S d cells body ((x, .int j) :: fr) (fun fl fr' σ' => match fl with | .next => I (i + 1) fr' σ' | .ret v => Q (.ret v) fr' σ') σ)
    (hdone : ∀ fr σ, I us.length fr σ → Q .next fr σ)
    (k : ∀ fl flc fr' m' σ' ρ' h' tk, Q fl fr' σ' → FlR ρ' fl flc → FS hB d fr' cells A L cl m' ρ' h' → Wd prog w hB ρ' σ' h' → Sp (some L) ρ₁ ρ' s₁.heap h' → Qc flc { s₁ with heap := h', toks := tk })
    (hk : S.kind = .function := by rfl) (hx : S.names.lookup x = some .local := by rfl) :
    wpAny (model prog w) A (pyIter (.ref ax)) (fun it s₂ => codeAny (model prog w) A (.forLoop (.Name x p) it body [] (mkEnv S L cl q f cd frm)) (fun r s' => match r with | .ok f => Qc f s' | .error e => cameBackBy (model prog w) A (mkEnv S L cl q f cd frm) E e s') s₂) E s₁ := by
  have hno1 : ∀ n, ρ₁ n ≠ some s₁.heap.objs.size := fun n e => W1.live n _ e (size_none s₁.heap)
  refine wpAny_pyIter_list (s := s₁) (items := us.toArray) ⟨_, hax, rfl, kk, rfl⟩ ?_
  obtain ⟨X2, W2, P2⟩ := came0 X1 W1 (h' := s₁.heap.push { cls := Value.type "list_iterator", data := Data.fields #[Value.ref ax, Value.int 0 0] }) fun a ob e => Heap.get?_push_of_some _ e
  refine for_turns (Turns.own X1.room.hd hax (fun z => by rw [z, size_none] at hax; cases hax) hno haL hus) (size_none s₁.heap) (fun z => X1.liveL (z ▸ size_none s₁.heap)) (Base.size_none X1.base)
    (.mk (Nat.zero_le _) hI0 X2 W2 P2 ⟨_, Heap.get?_push_size _ rfl, rfl, rfl⟩ hno1) (fun i v fr σ hi hv hI => ?_) hdone k hk hx
  obtain ⟨j, rfl⟩ := hv
  exact hturn i j fr σ hi hI

end

section
variable {N : Type} [DecidableEq N] {prog : Program} {w : World} {hB : Heap} {K : Frag} {mg mb : Str → Option Value} {S : Scope} {d : Nat} {cells : List (Str × N)} {fr : LF N} {σ : Sg N}
  {A : Around} {L : Addr} {cl : List (Str × Addr)} {m : Str → Option Value} {ρ ρ' : Rho N} {h h' : Heap}

/-- an empty dict -/
theorem e_dict0 {pos : Pos} {n : N} {Q : MV N → Sg N → Prop} (hn : σ n = none) (h : Q (.ref n) (σ.set n (.idict []))) : MWe prog w hB S d cells (.Dict [] [] pos) fr Q σ := by
  intro A s L q f cd frm cl m ρ X W E Qc k
  refine wpAny_Dict_empty ?_
  obtain ⟨X2, W2, P2⟩ := came (o' := .idict []) X W hn (size_none s.heap) (Base.size_none X.base) X.base.size (by rw [Heap.get?_push_size _ rfl]; simp) (fun a ob e => Heap.get?_push_of_some _ e)
    ⟨s.heap.objs.size, [], Rho.add_self .., Heap.DictOf.new s.heap, .nil⟩
  exact k _ _ _ _ _ s.toks h (.ref (Rho.add_self ..)) X2 W2 P2

/-- for over the front of a list of ints that stood ahead of the call -/
theorem x_forSlice {value : Expr} {i : Int} {kd : Nat} {cp p1 p2 p pos : Pos} {x : Str} {body : List Stmt} {Q : Fl N → LF N → Sg N → Prop} (h0 : 0 ≤ i)
    (h : MWe prog w hB S d cells value fr (fun o σ₁ => ∃ (a : Addr) (us : List Value) (I : Nat → LF N → Sg N → Prop), o = .val (.ref a) ∧ hB.IsList a us.toArray ∧ us.length ≤ 1000 ∧ (∀ u ∈ us, ∃ j t, u = .int j t) ∧ I 0 fr σ₁ ∧
      (∀ k j fr σ, k < i.toNat → I k fr σ → MWs prog w hB S d cells body ((x, .int j) :: fr) (fun fl fr' σ' => match fl with | .next => I (k + 1) fr' σ' | .ret v => Q (.ret v) fr' σ') σ) ∧
      (∀ k fr σ, k ≤ i.toNat → I k fr σ → Q .next fr σ)) σ)
    (hk : S.kind = .function := by rfl) (hx : S.names.lookup x = some .local := by rfl) (hf : ∀ (env : Env) v, foldedSetIterable (.Subscript value (.Slice none (some (.Constant (.int i) kd cp)) none p1) p2) env v = pure v := by intro _ _; rfl)
    (hs : ∃ f : Value → Value → List Value, ∀ l s, subscripted (.Slice none (some (.Constant (.int i) kd cp)) none p1) false (.ref l) (.ref s) = operate (f (.ref l) (.ref s)) (getItem (.ref l) (.ref s)) := by exact ⟨fun a b => [b, a], fun _ _ => rfl⟩) :
    MWx prog w hB S d cells (.For (.Name x p) (.Subscript value (.Slice none (some (.Constant (.int i) kd cp)) none p1) p2) body [] pos) fr Q σ := by
  intro A s L q f cd frm cl m ρ X W E Qc k
  obtain ⟨ff, hs⟩ := hs
  refine wpAny_For ?_ (hf _)
  refine Subscript_ (h A s L q f cd frm cl m ρ X W E _ fun o ou σ₁ ρ₁ h₁ tk₁ H1 r1 X1 W1 P1 => ?_)
  refine ex3 H1 fun a us I H0 => and7 H0 fun e hb hz hus hI hturn hdone => ?_
  subst e
  cases r1
  refine wpAny_Slice (evalPart_none_step (evalPart_some_step (wpAny_Constant_int (evalPart_none_step ?_))))
  have e : slicePick us.toArray none (some i) none = (us.take i.toNat).toArray := by
    have := slicePick_upto' us.toArray i.toNat
    rw [Int.toNat_of_nonneg h0] at this
    exact this
  dsimp only
  generalize hH : h₁.push { cls := Value.type "slice", data := Data.fields #[Value.none, Value.int i tk₁, Value.none] } = H
  have hk1 : ∀ a ob, h₁.get? a = some ob → H.get? a = some ob := fun a ob e => hH ▸ Heap.get?_push_of_some _ e
  obtain ⟨X2, W2, P2⟩ := came0 X1 W1 hk1
  have hIs : H.IsList a us.toArray := by
    obtain ⟨o, ho, r⟩ := hb
    exact ⟨o, hk1 _ _ (X1.base.stay _ _ ho), r⟩
  have hSl : H.IsSliceOf h₁.objs.size Value.none (Value.int i tk₁) Value.none := by rw [← hH]; exact Heap.IsSliceOf.new ..
  refine tail_any (s := { s with heap := H, toks := tk₁ + 1 }) (T := "list") hIs.typeIs list_getitem_lookup (wpAny_getItem_list_slice (s := { s with heap := H, toks := tk₁ + 1 }) hIs hSl .none (.int _ _) .none (by simp) ?_ (by rw [List.size_toArray]; exact Nat.le_trans hz (by decide))) (hs _ _)
  dsimp only
  rw [e]
  have hk2 : ∀ a ob, H.get? a = some ob → (H.push (PySem.W.listOf (us.take i.toNat).toArray 0)).get? a = some ob := fun a ob e => Heap.get?_push_of_some _ e
  obtain ⟨X3, W3, P3⟩ := came0 X2 W2 hk2
  refine for_atU (s₁ := { s with heap := H.push (PySem.W.listOf (us.take i.toNat).toArray 0), toks := tk₁ + 1 }) (Q := Q) I (us.take i.toNat) 0 X3 W3 (Heap.get?_push_size _ rfl) (fun n e => W2.live n _ e (size_none H)) (fun z => X2.liveL (z ▸ size_none H)) hI (fun u hu => hus u (List.mem_of_mem_take hu)) ?_ ?_ ?_ hk hx
  · intro j v fr σ hj hI'
    exact hturn j v fr σ (by rw [List.length_take] at hj; omega) hI'
  · intro fr σ hI'
    exact hdone _ fr σ (by rw [List.length_take]; omega) hI'
  · intro fl flc fr' m' σ' ρ' h' tk H r X' W' P'
    exact k _ _ fr' m' σ' ρ' h' tk H r X' W' (P1.trans (P2.trans (P3.trans P')))
end

section
variable {N : Type} [DecidableEq N] {prog : Program} {w : World} {hB : Heap} {K : Frag} {mg mb : Str → Option Value} {S : Scope} {d : Nat} {cells : List (Str × N)} {fr : LF N} {σ : Sg N}
  {A : Around} {L : Addr} {cl : List (Str × Addr)} {m : Str → Option Value} {ρ ρ' : Rho N} {h h' : Heap}

/-- len(d) -/
theorem v_lenDict (T : Stat K mg mb hB) {n : N} {kvs : List (Int × MV N)} {Q : MV N → Sg N → Prop} (hs : σ n = some (.idict kvs)) (hl : kvs.length ≤ 1000) (h : Q (.int kvs.length) σ) : MWv prog w hB d (.val (.builtin "len")) [.ref n] Q σ := by
  intro fr cells A s L cl m ρ u us X W r ra E Qc k
  rw [r.val_at]
  refine args1 ra fun u1 e r1 => r1.at fun x e1 hx => W.idict hs hx fun kus g2 g3 => ?_
  rw [e, e1]
  refine call_len_dict (W.notMods T hx) g2 (by rw [← g3.length]; omega) ?_
  rw [← g3.length]
  exact k _ _ _ _ s.heap _ h (.int _ _) X W (Sp.refl _ _ _)

/-- xs.extend(ys) -/
theorem v_extend {n n' : N} {vs vs' : List (MV N)} {Q : MV N → Sg N → Prop} (hs : σ n = some (.list vs)) (hs' : σ n' = some (.list vs')) (hl : vs.length + vs'.length ≤ 1000) (h : Q .none (σ.set n (.list (vs ++ vs')))) : MWv prog w hB d (.val (.builtin "list.extend")) [.ref n, .ref n'] Q σ := by
  intro fr cells A s L cl m ρ u us X W r ra E Qc k
  rw [r.val_at]
  refine args2 ra fun u1 u2 e r1 r2 => r1.at fun x e1 hx => r2.at fun x' e2 hx' => ?_
  rw [e, e1, e2]
  obtain ⟨us, kk, g2, g3⟩ := W.list hs hx
  obtain ⟨us', kk', g2', g3'⟩ := W.list hs' hx'
  have hz : us.toArray.size + us'.toArray.size ≤ sizeLine := by rw [List.size_toArray, List.size_toArray, ← g3.length, ← g3'.length]; exact Nat.le_trans hl (by decide)
  refine call_meets PySem.F.slot_list_extend ⟨_, g2, rfl⟩ PySem.F.entry_list_extend (PySem.F.args_list_extend_2 _ _) (AutoSeq1.list_extend_list_list_0 x us.toArray kk x' us'.toArray kk' (extend_door hz) (Nat.le_trans (Nat.le_add_right _ _) hz)) ⟨g2, g2', ?_⟩
  obtain ⟨X2, W2, P2⟩ := list_turn (s := s) (f := fun xs => xs ++ us'.toArray) (vs' := vs ++ vs') X W hx g2 (by rw [Array.toList_append]; exact g3.append g3')
  exact k _ _ _ _ _ s.toks h .none X2 W2 P2

/-- xs.pop(i) -/
theorem v_popAt {n : N} {vs : List (MV N)} {i : Int} {v : MV N} {Q : MV N → Sg N → Prop} (hs : σ n = some (.list vs)) (hl : vs.length ≤ 1000) (h0 : 0 ≤ i) (hv : vs[i.toNat]? = some v) (h : Q v (σ.set n (.list (vs.eraseIdx i.toNat)))) : MWv prog w hB d (.val (.builtin "list.pop")) [.ref n, .int i] Q σ := by
  intro fr cells A s L cl m ρ u us X W r ra E Qc k
  rw [r.val_at]
  refine args2 ra fun u1 u2 e r1 r2 => r1.at fun x e1 hx => r2.int_at fun t e2 => ?_
  rw [e, e1, e2]
  obtain ⟨us, kk, g2, g3⟩ := W.list hs hx
  obtain ⟨y, hy, ry⟩ := g3.get i.toNat v hv
  have hi : i.toNat < us.length := (List.getElem?_eq_some_iff.mp hy).1
  have hz : us.length ≤ 1000 := g3.length ▸ hl
  have hsz : us.toArray.size ≤ sizeLine := by rw [List.size_toArray]; exact Nat.le_trans hz (by decide)
  have hfit : Builtin.List.listFitsIndex i = true := PySem.fitsIndex_of h0 (by show i < 9223372036854775808; omega)
  have hk : seqIndex? i us.toArray.size = some i.toNat := PySem.seqIndex_of h0 (by rw [List.size_toArray]; omega)
  have hy' : us.toArray[i.toNat]? = some y := by simpa using hy
  refine call_meets PySem.F.slot_list_pop ⟨_, g2, rfl⟩ PySem.F.entry_list_pop (PySem.F.args_list_pop_2 _ _) (PySem.MeetsSeq.list_pop_at _ _ kk i t _ y hfit hk hy' hsz) ⟨g2, ?_⟩
  obtain ⟨X2, W2, P2⟩ := list_turn (s := s) (f := fun xs => xs.eraseIdxIfInBounds i.toNat) (vs' := vs.eraseIdx i.toNat) X W hx g2 (by rw [Array.toList_eraseIdxIfInBounds]; exact g3.eraseIdx _)
  exact k _ _ _ _ _ s.toks h ry X2 W2 P2

/-- d.values() -/
theorem v_values (T : Stat K mg mb hB) {n nm : N} {kvs : List (Int × MV N)} {Q : MV N → Sg N → Prop} (hs : σ n = some (.idict kvs)) (hn : σ nm = none) (h : Q (.ref nm) (σ.set nm (.view n))) : MWv prog w hB d (.val (.builtin "dict.values")) [.ref n] Q σ := by
  intro fr cells A s L cl m ρ u us X W r ra E Qc k
  rw [r.val_at]
  refine args1 ra fun u1 e r1 => r1.at fun x e1 hx => W.idict hs hx fun kus g2 g3 => ?_
  rw [e, e1]
  refine call_meetsIn PySem.F.slot_dict_values g2.typeIs PySem.F.entry_dict_values (PySem.F.args_dict_values_1 _) (meets_dict_values (intKind prog w) _ (W.notMods T hx)) ⟨⟨_, g2⟩, ?_⟩
  obtain ⟨X2, W2, P2⟩ := came (o' := .view n) (h' := s.heap.push { cls := .type "dict_values", data := .fields #[.ref x] }) X W hn (size_none s.heap) (Base.size_none X.base) X.base.size (by rw [Heap.get?_push_size _ rfl]; simp) (fun a ob e => Heap.get?_push_of_some _ e)
    ⟨_, x, Rho.add_self .., Rho.add_mono W hn _ _ hx, Heap.get?_push_size _ rfl⟩
  exact k _ _ _ _ _ s.toks h (.ref (Rho.add_self ..)) X2 W2 P2
theorem vals_all2 {ρ : Rho N} {kvs : List (Int × MV N)} {us : List (Int × Value)} (H : All2 (KVR ρ) kvs us) {acc : List Value} (hl : acc.length = us.length) (hv : ∀ (i : Nat) v, acc[i]? = some v → ∃ k, us[i]? = some (k, v)) : All2 (VR ρ) (kvs.map (·.2)) acc := by
  induction H generalizing acc with
  | nil => cases acc with
    | nil => exact .nil
    | cons a acc => cases hl
  | @cons p q ps qs hp _ ih => cases acc with
    | nil => cases hl
    | cons a acc =>
      obtain ⟨k, e⟩ := hv 0 a rfl
      cases e
      exact .cons hp.2 (ih (Nat.succ.inj hl) fun i v e => hv (i + 1) v e)

/-- list(d.values()) -/
theorem v_listView {n nm nd : N} {kvs : List (Int × MV N)} {Q : MV N → Sg N → Prop} (hs : σ n = some (.view nd)) (hd : σ nd = some (.idict kvs)) (hl : kvs.length ≤ 1000) (hn : σ nm = none) (h : Q (.ref nm) (σ.set nm (.list (kvs.map (·.2))))) : MWv prog w hB d (.val (.type "list")) [.ref n] Q σ := by
  intro fr cells A s L cl m ρ u us X W r ra E Qc k
  rw [r.val_at]
  refine args1 ra fun u1 e r1 => r1.at fun x e1 hx => ?_
  rw [e, e1]
  obtain ⟨x', y, g1, g2, g3⟩ := W.obj _ _ hs
  rw [hx] at g1; cases g1
  refine W.idict hd g2 fun kus g4 g5 => ?_
  obtain ⟨ep, hat⟩ := g4.dictAt
  refine kdl_call (kdl_values (knd := intKind prog w) (kvs := kus) (ep := ep)) X.room.hd ⟨⟨_, g3, rfl, rfl⟩, hat⟩ (by rw [← g5.length]; exact Nat.le_trans hl (by decide)) fun h' tk acc c' hk hD hi => ?_
  obtain ⟨X2, W2, P2⟩ := came (o' := .list (kvs.map (·.2))) X W hn (size_none s.heap) (Base.size_none X.base) X.base.size (by rw [hD]; simp) hk ⟨s.heap.objs.size, acc.toList, Rho.add_self .., ⟨c', by rw [Array.toArray_toList]; exact hD⟩,
    (vals_all2 g5 (by simpa using hi.1) fun i v e => hi.2 i v (by simpa using e)).mono fun _ _ z => z.mono (Rho.add_mono W hn)⟩
  exact k _ _ _ _ h' tk h (.ref (Rho.add_self ..)) X2 W2 P2

theorem paired_all2 {ρ : Rho N} {g : MV N → MV N} {F : Value → Value → Prop} : ∀ {as : List (MV N)} {vs ys : List Value}, All2 (VR ρ) as vs → Paired F vs ys → (∀ a v y, a ∈ as → VR ρ a v → F v y → VR ρ (g a) y) → All2 (VR ρ) (as.map g) ys
  | _, _, _, .nil, .nil, _ => .nil
  | _, _, _, .cons r t, .cons f t', h => .cons (h _ _ _ (.head _) r f) (paired_all2 t t' fun a v y m => h a v y (.tail _ m))

/-- [x.name for x in d.values()] -/
theorem e_compVals (T : Stat K mg mb hB) {iter : Expr} {x name : Str} {px p1 p2 pos : Pos} {scope : Scope} {Q : MV N → Sg N → Prop}
    (h : MWe prog w hB S d cells iter fr (fun v σ₁ => ∃ (n nd nm : N) (kvs : List (Int × MV N)) (g : MV N → MV N), v = .ref n ∧ σ₁ n = some (.view nd) ∧ σ₁ nd = some (.idict kvs) ∧ kvs.length ≤ 1000 ∧ σ₁ nm = none ∧
      (∀ q ∈ kvs.map (·.2), ∃ o C fs, q = .ref o ∧ σ₁ o = some (.inst C fs) ∧ FieldOk K C name ∧ fs.lookup name = some (g q)) ∧ Q (.ref nm) (σ₁.set nm (.list ((kvs.map (·.2)).map g)))) σ)
    (hcl : ∀ L cl q f cd frm, ∃ cl₁, closureFor scope (mkEnv S L cl q f cd frm) = pure cl₁) (hcell : ∀ y ∈ scope.names, y.2 ≠ .cell) (hkind : scope.kind = .function) (hnames : ∀ y ∈ scope.names, y.2 = .local → scope.names.lookup y.1 = some .local) (hx : scope.names.lookup x = some .local) (hd : (x == ("__debug__" : Str)) = false)
    (hs : ∀ (env : Env) v, foldedSetIterable iter env v = pure v := by intro _ _; rfl)
    (he : ∀ env, eval (.Attribute (.Name x p1) name p2) env = (do let o' ← eval (.Name x p1) env; standAt p2.atName; let r ← holding [o'] (getAttr o' name true); letTemporaryGo (.Name x p1) o' r; pure r) := by intro _; rfl) :
    MWe prog w hB S d cells (.ListComp (.Attribute (.Name x p1) name p2) [⟨.Name x px, iter, [], 0⟩] scope pos) fr Q σ := by
  intro A s L q f cd frm cl m ρ X W E Qc k
  obtain ⟨cl₁, hclos⟩ := hcl L cl q f cd frm
  rw [eval_ListComp]
  refine wpAny_comprehension_free (use := none) rfl (hs _) hclos hkind hnames (h A s L q f cd frm cl m ρ X W E _ fun v u σ₁ ρ₁ h₁ tk₁ H1 r1 X1 W1 P1 => ?_)
  refine ex5 H1 fun n nd nm kvs g H0 => and7 H0 fun e hv hdi hl hn hf HQ => ?_
  subst e
  refine r1.at fun ax e1 hx1 => ?_
  rw [e1]
  obtain ⟨x', y, g1, g2, g3⟩ := W1.obj _ _ hv
  rw [hx1] at g1; cases g1
  refine W1.idict hdi g2 fun kus g4 g5 => ?_
  obtain ⟨ep, hat⟩ := g4.dictAt
  have hys : y < h₁.objs.size := hat.lt_size
  have vr : ∀ a, a ∈ kvs.map (·.2) → ∃ o, a = .ref o := fun a hm => (hf a hm).elim fun o h => ⟨o, h.elim fun _ h => h.elim fun _ h => h.1⟩
  refine wpAny_pyIter_values (s := { s with heap := h₁, toks := tk₁ }) (knd := intKind prog w) ⟨_, g3, rfl, rfl⟩ hat ?_
  refine comp_open rfl hcell hkind fun D C h₃ tk m' lD lC hDI hCI hCD oldh eI eD hns₃ => ?_
  have W3 := Walks.dictValues (prog := prog) (w := w) (A := A) (knd := intKind prog w) X1.room.hd h₁.objs.size y (Nat.ne_of_lt hys) kus ep
  have st : h₃.IsValIter h₁.objs.size y 0 kus.length ep ∧ h₃.DictAt (intKind prog w) y kus ep := ⟨⟨_, eI, rfl, rfl⟩, hat.at' fun o e => oldh _ _ e⟩
  have nin : ∀ z, z = D ∨ z = C → z ∉ [h₁.objs.size, y] := fun z hz hm => by
    rcases List.mem_cons.mp hm with e | e
    · rcases hz with q | q
      · exact hDI (q ▸ e)
      · exact hCI (q ▸ e)
    · have := List.mem_singleton.mp e
      rcases hz with q | q
      · exact Nat.lt_irrefl _ (Nat.lt_of_lt_of_le hys (this ▸ q ▸ lD))
      · exact Nat.lt_irrefl _ (Nat.lt_of_lt_of_le hys (this ▸ q ▸ lC))
  have loop : codeAny (model prog w) A (.compLoop (.ListComp (.Attribute (.Name x p1) name p2) [⟨.Name x px, iter, [], 0⟩] scope pos) 0 (.ref h₁.objs.size) (.ref D) (mkEnv (relS scope S) C cl₁ q none cd frm))
      (compPost (model prog w) A E none Qc (.ref D) C) { s with heap := h₃, toks := tk } := by
    refine codeAny_compLoop_walk (s := { s with heap := h₃, toks := tk }) (cenv := mkEnv (relS scope S) C cl₁ q none cd frm) (hsz := by rw [← g5.length]; exact Nat.le_trans hl (by decide)) W3 (fun _ => true) (fun v y => ∃ o x, v = .ref x ∧ ρ₁ (o, false) = some x ∧ VR ρ₁ (g (.ref o)) y)
      (lookup_relabel_local (env := mkEnv S L cl q f cd frm) hx) (by show (scope.kind == .class || (scope.kind == .module && _)) = false; rw [hkind]; rfl) (Ne.symm hCD) (nin D (.inl rfl)) (nin C (.inr rfl)) st ⟨0, eD⟩ hns₃ (fun _ _ _ _ _ _ _ _ _ => wpAny_tests_nil ⟨rfl, _, _, rfl, fun _ _ e => e⟩) (fun i v s₃ m₃ hP _ hns hm hk _ => ?_) fun h' tk' m' ys vs hns hlD hpl hlen hP hF hk => ?_
    · obtain ⟨kk, hkk⟩ := hP
      obtain ⟨pq, hpq, hkv, rv⟩ := g5.getR i _ hkk
      obtain ⟨o, Co, fs, eo, ho, hok, hlk⟩ := hf _ (List.mem_map_of_mem (List.mem_of_getElem? hpq))
      rw [eo] at rv hlk
      refine rv.at fun xo e2 hxo => ?_
      dsimp only at e2
      subst e2
      obtain ⟨x₂, dx, es, n', h1, h2, h3, h4, h5⟩ := W1.obj o _ ho
      rw [hxo] at h1; cases h1
      obtain ⟨u, hu, hvu⟩ := fd_get h5 hlk
      have old : ∀ a ob, h₁.get? a = some ob → s₃.heap.get? a = some ob := fun a ob e => hk a ob (fun z => by rw [z, gone lC] at e; cases e) (fun hb => Nat.ne_of_lt (Heap.lt_size e) (List.mem_singleton.mp hb)) (fun z => by rw [z, gone lD] at e; cases e) (oldh _ _ e)
      have F3 : Fr hB C s₃.heap m₃ := ⟨hns, fun b o e => old _ _ (X1.F.keep b o e), Nat.le_trans X1.base.size lC⟩
      refine Attribute_any_ (wpAny_Name (wpAny_loadName_local (env := mkEnv (relS scope S) C cl₁ q none cd frm) hkind (lookup_relabel_local (env := mkEnv S L cl q f cd frm) hx) hns hm ?_) hd) (he _)
      exact get_own F3 T.X ⟨old _ _ h3, rfl, rfl, old _ _ h4⟩ hok.pg hok.hd hok.fd rfl hu hvu.handed ⟨⟨o, xo, rfl, hxo, hvu⟩, _, _, rfl, fun _ _ e => e⟩
    · have kD : ∀ h'', Heap.SameBut C h' h'' → ∀ a ob, h₁.get? a = some ob → h''.get? a = some ob := fun h'' hs'' a ob e => hs''.extBut a ob (by rintro rfl; rw [gone lC] at e; cases e) (hk a ob (fun z => by rw [z, gone lC] at e; cases e) (fun hb => Nat.ne_of_lt (Heap.lt_size e) (List.mem_singleton.mp hb)) (fun z => by rw [z, gone lD] at e; cases e) (oldh _ _ e))
      refine ⟨m', hns, fun h'' hs'' => ?_⟩
      obtain ⟨c', hpl'⟩ := hpl.extBut hs''.extBut (Ne.symm hCD)
      have ra : All2 (VR ρ₁) ((kvs.map (·.2)).map g) ys.toList := by
        refine paired_all2 (vals_all2 (acc := vs) g5 hlen fun i v e => hP i v e) (by rw [List.filter_eq_self.mpr fun _ _ => rfl] at hF; exact hF) fun a v yv hm r H => ?_
        obtain ⟨o, x2, e2, hx2, ry⟩ := H
        obtain ⟨o', rfl⟩ := vr a hm
        subst e2
        cases r with | ref r =>
        cases W1.inj _ _ _ r hx2
        exact ry
      obtain ⟨X2, W2, P2⟩ := came (h' := h'') (o' := .list ((kvs.map (·.2)).map g)) X1 W1 hn (gone lD) (by cases q : hB.get? D with | none => rfl | some o => exact absurd (X1.base.stay _ _ q) (by rw [gone lD]; exact fun z => by cases z)) (Nat.le_trans X1.base.size lD) (by rw [hpl']; simp) (kD h'' hs'') ⟨_, ys.toList, Rho.add_self .., ⟨c', by rw [Array.toArray_toList]; exact hpl'⟩, ra.mono fun _ _ z => z.mono (Rho.add_mono W1 hn)⟩
      exact k _ _ _ _ h'' tk' HQ (.ref (Rho.add_self ..)) X2 W2 (P1.trans P2)
  exact codeAny_compStart_list loop (W3.self 0 _ _ _ st loop)
end

section
variable {N : Type} [DecidableEq N] {prog : Program} {w : World} {hB : Heap} {K : Frag} {mg mb : Str → Option Value} {S : Scope} {d : Nat} {cells : List (Str × N)} {fr : LF N} {σ : Sg N}
  {A : Around} {L : Addr} {cl : List (Str × Addr)} {m : Str → Option Value} {ρ ρ' : Rho N} {h h' : Heap}

/-- sum(xs) -/
theorem v_sum {n : N} {ns : List Int} {Q : MV N → Sg N → Prop} (hs : σ n = some (.list (ns.map .int))) (h : Q (.int ns.sum) σ) : MWv prog w hB d (.val (.builtin "sum")) [.ref n] Q σ := by
  intro fr cells A s L cl m ρ u us X W r ra E Qc k
  rw [r.val_at]
  refine args1 ra fun u1 e r1 => r1.at fun x e1 hx => ?_
  rw [e, e1]
  obtain ⟨us, kk, g2, g3⟩ := W.list hs hx
  have hlen : us.length = ns.length := by rw [← g3.length, List.length_map]
  have hkp : ∀ a ob, s.heap.get? a = some ob → (s.heap.push { cls := Value.type "list_iterator", data := Data.fields #[Value.ref x, Value.int 0 0] }).get? a = some ob := fun a ob e => Heap.get?_push_of_some _ e
  refine call_sum_walkAnyS (wpAny_pyIter_list ⟨_, g2, rfl, kk, rfl⟩ ?_)
  refine ⟨_, _, _, _, _, _, _, fun i => ns.getD i 0, rfl, (Walks.list (A := A.in1) X.room.hd _ x (Nat.ne_of_lt (Heap.lt_size g2)) us.toArray).toS, ⟨⟨_, Heap.get?_push_size _ rfl, rfl, rfl⟩, ⟨_, hkp _ _ g2, rfl, kk, rfl⟩⟩, fun b hb => ?_, fun i v hv => ?_, fun s' t' hm => ?_⟩
  · dsimp only
    rw [Heap.size_push]
    rcases List.mem_cons.mp hb with e | e
    · rw [e]; exact Nat.lt_succ_self _
    · rw [List.mem_singleton.mp e]; exact Nat.lt_succ_of_lt (Heap.lt_size g2)
  · obtain ⟨a, ha, ra⟩ := g3.getR i v (by simpa using hv)
    rw [List.getElem?_map] at ha
    obtain ⟨j, hj, rfl⟩ := Option.map_eq_some_iff.mp ha
    refine ra.int_at fun t e => ⟨t, ?_⟩
    rw [e]
    show Value.int j t = Value.int (ns.getD i 0) t
    rw [List.getD_eq_getElem?_getD, hj]; rfl
  · have e5 : preSum (fun i => ns.getD i 0) us.toArray.size = ns.sum := by rw [preSum_getD, List.size_toArray, hlen, List.take_length]
    rw [e5, hm.eq_with]
    have hk : ∀ a ob, s.heap.get? a = some ob → s'.heap.get? a = some ob := fun a ob e => hm.heap a ob (fun z => Nat.ne_of_lt (Heap.lt_size e) (List.mem_singleton.mp z)) (hkp a ob e)
    obtain ⟨X2, W2, P2⟩ := came0 X W hk
    exact k _ _ _ _ s'.heap s'.toks h (.int _ _) X2 W2 P2

/-- d[i] -/
theorem e_itemD {value slice : Expr} {pos : Pos} {Q : MV N → Sg N → Prop}
    (h : MWe prog w hB S d cells value fr (fun o σ₁ => MWe prog w hB S d cells slice fr (fun i σ₂ => ∃ n kvs j v, o = .ref n ∧ i = .int j ∧ σ₂ n = some (.idict kvs) ∧ dget kvs j = some v ∧ Q v σ₂) σ₁) σ)
    (hs : ∀ l k t, subscripted slice false (.ref l) (.int k t) = operate [.ref l, .int k t] (getItem (.ref l) (.int k t)) := by intros; rfl) : MWe prog w hB S d cells (.Subscript value slice pos) fr Q σ := by
  intro A s L q f cd frm cl m ρ X W E Qc k
  refine Subscript_ (h A s L q f cd frm cl m ρ X W E _ fun o ou σ₁ ρ₁ h₁ tk₁ H1 r1 X1 W1 P1 => ?_)
  refine H1 A { s with heap := h₁, toks := tk₁ } L q f cd frm cl m ρ₁ X1 W1 E _ fun i iu σ₂ ρ₂ h₂ tk₂ H2 r2 X2 W2 P2 => ?_
  refine ex4 H2 fun n kvs j v H0 => and5 H0 fun e e' hl hv HQ => ?_
  subst e e'
  refine r1.at fun x e1 hx => r2.int_at fun t e2 => W2.idict hl (P2.mono _ _ hx) fun us g2 g3 => ?_
  obtain ⟨u, hu, rv⟩ := kv_value g3 (dget_find hv)
  rw [e1, e2]
  exact tail_any (s := { s with heap := h₂, toks := tk₂ }) g2.typeIs slot_dict_getitem.lookup (wpAny_getItem_of (intKind_is _ _ _ _) g2.mapOf hu (k _ _ σ₂ ρ₂ h₂ _ HQ rv X2 W2 (P1.trans P2))) (hs _ _ _)

/-- j in d, as a value -/
theorem e_inD (T : Stat K mg mb hB) {l r : Expr} {pos : Pos} {Q : MV N → Sg N → Prop}
    (h : MWe prog w hB S d cells l fr (fun a σ₁ => MWe prog w hB S d cells r fr (fun b σ₂ => ∃ n kvs j, a = .int j ∧ b = .ref n ∧ σ₂ n = some (.idict kvs) ∧ Q (.bool (dget kvs j).isSome) σ₂) σ₁) σ)
    (hm : behindInMarks .In r = false := by rfl) : MWe prog w hB S d cells (.Compare l [.In] [r] pos) fr Q σ := by
  intro A s L q f cd frm cl m ρ X W E Qc k
  refine wpAny_Compare1 (h A s L q f cd frm cl m ρ X W E _ fun a u σ₁ ρ₁ h₁ tk₁ H1 r1 X1 W1 P1 => ?_) hm
  refine H1 A { s with heap := h₁, toks := tk₁ } L q f cd frm cl m ρ₁ X1 W1 E _ fun b v σ₂ ρ₂ h₂ tk₂ H2 r2 X2 W2 P2 => ?_
  refine ex3 H2 fun n kvs j H0 => and4 H0 fun e e' hl HQ => ?_
  subst e e'
  refine r1.int_at fun t e1 => r2.at fun x e2 hx => W2.idict hl hx fun us g2 g3 => ?_
  have e := kv_isSome g3 j
  rw [e1, e2]
  exact wpAny_in_of (s := { s with heap := h₂, toks := tk₂ }) (intKind_is _ _ _ _) (W2.notMods T hx) g2.mapOf (by rw [e]; exact k _ _ σ₂ ρ₂ h₂ _ HQ (.bool _) X2 W2 (P1.trans P2))

/-- a cell's own name is set -/
theorem x_asgCell {x : Str} {p pos : Pos} {e : Expr} {n : N} {Q : Fl N → LF N → Sg N → Prop} (hc : cells.lookup x = some n) (h : MWe prog w hB S d cells e fr (fun v σ₁ => ∃ u₀, σ₁ n = some (.cell u₀) ∧ Q .next fr (σ₁.set n (.cell (some v)))) σ) (hk : S.kind = .function := by rfl) (hx : S.names.lookup x = some .cell := by rfl)
    (hs : ∀ L cl q f cd frm, swapsWith e (some (.Name x p)) pos.line (mkEnv S L cl q f cd frm) = pure false := by intros; rfl) : MWx prog w hB S d cells (.Assign [.Name x p] e pos) fr Q σ := by
  intro A s L q f cd frm cl m ρ X W E Qc k
  refine wpAny_Assign_Name (h A s L q f cd frm cl m ρ X W E _ fun v u σ₁ ρ₁ h₁ tk₁ H1 r1 X1 W1 P1 => ?_) (hs _ _ _ _ _ _)
  refine H1.elim fun u₀ H1 => ?_
  obtain ⟨c, h2, h3⟩ := X1.cr.lookup hc
  obtain ⟨x', u', g1, g2, g3⟩ := W1.obj n _ H1.1
  rw [h3] at g1; cases g1
  refine wpAny_storeName_cell (s := { s with heap := h₁, toks := tk₁ }) (env := mkEnv S L cl q f cd frm) hk hx h2 g2 fun h₂ hcell hsame => ?_
  obtain ⟨X2, W2, P2⟩ := turn (o' := .cell (some v)) X1 W1 h3 hsame (by obtain ⟨o, ho, _⟩ := hcell; rw [ho]; exact Option.some_ne_none _) ⟨_, _, h3, hcell, .ss r1⟩
  exact k .next _ fr m _ ρ₁ h₂ tk₁ H1.2 .next X2 W2 (P1.trans P2)
end

/-! ## the collector as plain data -/
structure Cy where
  n : Int
  mark : Int → Int
  size : Int → Int
  objs : List Int
  white : Int
  grey : List Int
  again : List Int
  root : List Int
  phase : Int
  swp : List Int
  total : Int
  estimate : Int
  debt : Int
  smax : Int
  threshold : Int
  cycles : Int

def Cy.rng (V : Cy) (i : Int) : Prop := 1 ≤ i ∧ i ≤ V.n
def Cy.setMark (V : Cy) (i m : Int) : Cy := { V with mark := fun j => if j = i then m else V.mark j }

structure Cy.Rg (V : Cy) : Prop where
  n0 : 0 ≤ V.n
  n1 : V.n ≤ 60
  g : ∀ i ∈ V.grey, V.rng i
  a : ∀ i ∈ V.again, V.rng i
  r : ∀ i ∈ V.root, V.rng i
  rl : V.root.length ≤ 60
  o : ∀ i ∈ V.objs, V.rng i
  on : V.objs.Nodup
  sl : V.swp.length ≤ 60

/-- marking goes on -/
structure Cy.Mk (V : Cy) : Prop where
  rg : V.Rg
  nd : (V.grey ++ V.again).Nodup
  gm : ∀ i ∈ V.grey ++ V.again, V.mark i = 2

theorem nodup_len : ∀ (k : Nat) (l : List Int), l.Nodup → (∀ i ∈ l, 1 ≤ i ∧ i ≤ (k : Int)) → l.length ≤ k
  | 0, l, _, h => by
    cases l with
    | nil => exact Nat.le_refl _
    | cons a l => have := h a (.head _); omega
  | k + 1, l, hn, h => by
    by_cases q : ((k + 1 : Nat) : Int) ∈ l
    · have h1 := List.length_erase_of_mem q
      have h2 := nodup_len k (l.erase ((k + 1 : Nat) : Int)) (hn.erase _) fun i hi => by
        have h3 := (List.Nodup.mem_erase_iff hn).mp hi
        have h4 := h i h3.2
        have h5 := h3.1
        refine ⟨h4.1, ?_⟩
        have : i ≠ ((k : Nat) : Int) + 1 := by simpa using h5
        have := h4.2
        push_cast at this
        omega
      omega
    · have h2 := nodup_len k l hn fun i hi => by
        have h4 := h i hi
        have : i ≠ ((k + 1 : Nat) : Int) := fun z => q (z ▸ hi)
        push_cast at *
        omega
      omega

theorem Cy.Rg.olen {V : Cy} (h : V.Rg) : V.objs.length ≤ 60 := by
  have := nodup_len V.n.toNat V.objs h.on fun i hi => by have := h.o i hi; have := h.n0; unfold Cy.rng at *; omega
  have := h.n1
  omega
theorem Cy.Mk.len {V : Cy} (h : V.Mk) : V.grey.length + V.again.length ≤ 60 := by
  have := nodup_len V.n.toNat (V.grey ++ V.again) h.nd fun i hi => by
    have h0 := h.rg.n0
    rcases List.mem_append.mp hi with q | q
    · have := h.rg.g i q; unfold Cy.rng at *; omega
    · have := h.rg.a i q; unfold Cy.rng at *; omega
  have h1 := h.rg.n1
  rw [List.length_append] at this
  omega

/-- how many are white -/
def Cy.whites (V : Cy) : Nat := (List.range V.n.toNat).countP fun k : Nat => decide (V.mark ((k : Int) + 1) < 2)
theorem Cy.whites_le (V : Cy) : V.whites ≤ V.n.toNat := by
  unfold Cy.whites
  exact Nat.le_trans List.countP_le_length (by simp)

theorem countP_lt {p q : Nat → Bool} : ∀ {l : List Nat}, (∀ x ∈ l, q x = true → p x = true) → ∀ {a : Nat}, a ∈ l → p a = true → q a = false → l.countP q < l.countP p
  | b :: l, h, a, ha, hp, hq => by
    rw [List.countP_cons, List.countP_cons]
    have hr : l.countP q ≤ l.countP p := List.countP_mono_left fun x hx => h x (.tail _ hx)
    rcases List.mem_cons.mp ha with rfl | ha'
    · rw [hp, hq]; simp; omega
    · have := countP_lt (fun x hx => h x (.tail _ hx)) ha' hp hq
      have hb : (if q b = true then 1 else 0) ≤ (if p b = true then 1 else 0) := by
        by_cases z : q b = true
        · rw [z, h b (.head _) z]; exact Nat.le_refl _
        · rw [if_neg z]; exact Nat.zero_le _
      omega
theorem Cy.whites_lt {V V' : Cy} (hn : V'.n = V.n) (h : ∀ j, V'.mark j < 2 → V.mark j < 2) {i : Int} (hi : V.rng i) (h1 : V.mark i < 2) (h2 : ¬ V'.mark i < 2) : V'.whites < V.whites := by
  unfold Cy.whites
  rw [hn]
  unfold Cy.rng at hi
  have e : (((i - 1).toNat : Nat) : Int) + 1 = i := by omega
  refine countP_lt (a := (i - 1).toNat) (fun x _ q => ?_) (List.mem_range.mpr (by omega)) (by rw [e]; simpa using h1) (by rw [e]; simpa using h2)
  have := h (x + 1) (by simpa using q)
  simpa using this
theorem Cy.whites_mono {V V' : Cy} (hn : V'.n = V.n) (h : ∀ j, V'.mark j < 2 → V.mark j < 2) : V'.whites ≤ V.whites := by
  unfold Cy.whites
  rw [hn]
  exact List.countP_mono_left fun x _ q => by have := h (x + 1) (by simpa using q); simpa using this

section
variable (kd : Int → List Int) (so : Int → Int)

def mark : Nat → Cy → Int → Cy
  | 0, V, _ => V
  | f + 1, V, i => if V.mark i < 2 then (if so i = 1 then (kd i).foldl (mark f) (V.setMark i 3) else { V.setMark i 2 with grey := V.grey ++ [i] }) else V

/-- fuel enough for all -/
abbrev MF : Nat := 61

def popd (V : Cy) (i : Int) : Cy :=
  if so i = 3 then { V.setMark i 2 with grey := V.grey.dropLast, again := V.again ++ [i] } else { V.setMark i 3 with grey := V.grey.dropLast }
def propagate (V : Cy) : Cy :=
  match V.grey.getLast? with
  | none => V
  | some i => (kd i).foldl (mark kd so MF) (popd so V i)
def pAll : Nat → Cy → Cy
  | 0, V => V
  | k + 1, V => if V.grey = [] then V else pAll k (propagate kd so V)
abbrev PF : Nat := 200
def finish (V : Cy) : Cy := pAll kd so PF { pAll kd so PF V with grey := (pAll kd so PF V).again, again := [] }
def begin' (V : Cy) : Cy := V.root.foldl (mark kd so MF) { V with grey := [], again := [] }

/-- what marking leaves alone -/
structure Cy.Same (V V' : Cy) : Prop where
  n : V'.n = V.n
  size : V'.size = V.size
  objs : V'.objs = V.objs
  white : V'.white = V.white
  root : V'.root = V.root
  phase : V'.phase = V.phase
  swp : V'.swp = V.swp
  total : V'.total = V.total
  estimate : V'.estimate = V.estimate
  debt : V'.debt = V.debt
  smax : V'.smax = V.smax
  threshold : V'.threshold = V.threshold
  cycles : V'.cycles = V.cycles
theorem Cy.Same.refl (V : Cy) : V.Same V := ⟨rfl, rfl, rfl, rfl, rfl, rfl, rfl, rfl, rfl, rfl, rfl, rfl, rfl⟩
theorem Cy.Same.trans {V V' V'' : Cy} (a : V.Same V') (b : V'.Same V'') : V.Same V'' :=
  ⟨b.n.trans a.n, b.size.trans a.size, b.objs.trans a.objs, b.white.trans a.white, b.root.trans a.root, b.phase.trans a.phase, b.swp.trans a.swp, b.total.trans a.total, b.estimate.trans a.estimate, b.debt.trans a.debt, b.smax.trans a.smax, b.threshold.trans a.threshold, b.cycles.trans a.cycles⟩

structure MarkR (V V' : Cy) : Prop where
  same : V.Same V'
  ok : V'.Mk
  again : V'.again = V.again
  wh : ∀ j, V'.mark j < 2 → V.mark j < 2
  old : ∀ j, ¬ V.mark j < 2 → V'.mark j = V.mark j
theorem MarkR.refl {V : Cy} (h : V.Mk) : MarkR V V := ⟨.refl V, h, rfl, fun _ q => q, fun _ _ => rfl⟩
theorem MarkR.trans {V V' V'' : Cy} (a : MarkR V V') (b : MarkR V' V'') : MarkR V V'' :=
  ⟨a.same.trans b.same, b.ok, b.again.trans a.again, fun j q => a.wh j (b.wh j q), fun j q => (b.old j (by rw [a.old j q]; exact q)).trans (a.old j q)⟩

variable {kd so}
theorem fold_markR {N : Int} {f : Nat} (hf : ∀ V i, V.Mk → V.rng i → V.n = N → MarkR V (mark kd so f V i)) : ∀ (l : List Int) (V : Cy), V.Mk → V.n = N → (∀ i ∈ l, V.rng i) → MarkR V (l.foldl (mark kd so f) V)
  | [], V, h, _, _ => .refl h
  | i :: l, V, h, hn, hl => by
    have h1 := hf V i h (hl i (.head _)) hn
    exact h1.trans (fold_markR hf l _ h1.ok (h1.same.n.trans hn) fun j hj => by have := hl j (.tail _ hj); unfold Cy.rng at *; rw [h1.same.n]; exact this)
theorem mark_R {N : Int} (hk : ∀ i, 1 ≤ i → i ≤ N → ∀ j ∈ kd i, 1 ≤ j ∧ j ≤ N) : ∀ (f : Nat) (V : Cy) (i : Int), V.Mk → V.rng i → V.n = N → MarkR V (mark kd so f V i)
  | 0, V, i, h, _, _ => .refl h
  | f + 1, V, i, h, hi, hn => by
    unfold mark
    split
    · rename_i hw
      have ni : i ∉ V.grey ++ V.again := fun z => by have := h.gm i z; omega
      split
      · have h1 : MarkR V (V.setMark i 3) := ⟨⟨rfl, rfl, rfl, rfl, rfl, rfl, rfl, rfl, rfl, rfl, rfl, rfl, rfl⟩, ⟨⟨h.rg.n0, h.rg.n1, h.rg.g, h.rg.a, h.rg.r, h.rg.rl, h.rg.o, h.rg.on, h.rg.sl⟩, h.nd, fun j hj => by
          show (if j = i then 3 else V.mark j) = 2
          rw [if_neg (fun (z : j = i) => ni (z ▸ hj))]; exact h.gm j hj⟩, rfl, fun j q => by
          by_cases z : j = i
          · rw [z]; exact hw
          · simpa [Cy.setMark, z] using q, fun j q => by
          show (if j = i then 3 else V.mark j) = _
          rw [if_neg (fun (z : j = i) => q (z ▸ hw))]⟩
        exact h1.trans (fold_markR (mark_R hk f) (kd i) _ h1.ok hn fun j hj => by have := hk i hi.1 (hn ▸ hi.2) j hj; unfold Cy.rng; rw [h1.same.n, hn]; exact this)
      · refine ⟨⟨rfl, rfl, rfl, rfl, rfl, rfl, rfl, rfl, rfl, rfl, rfl, rfl, rfl⟩, ⟨⟨h.rg.n0, h.rg.n1, fun j hj => ?_, h.rg.a, h.rg.r, h.rg.rl, h.rg.o, h.rg.on, h.rg.sl⟩, ?_, fun j hj => ?_⟩, rfl, fun j q => ?_, fun j q => ?_⟩
        · rcases List.mem_append.mp hj with z | z
          · exact h.rg.g j z
          · rw [List.mem_singleton.mp z]; exact hi
        · have := h.nd
          show ((V.grey ++ [i]) ++ V.again).Nodup
          rw [List.append_assoc, List.singleton_append]
          exact (List.perm_middle.nodup_iff).mpr (List.nodup_cons.mpr ⟨ni, h.nd⟩)
        · show (if j = i then 2 else V.mark j) = 2
          split
          · rfl
          · rename_i z
            refine h.gm j ?_
            have hj' : j ∈ (V.grey ++ [i]) ++ V.again := hj
            simp only [List.mem_append, List.mem_singleton] at hj' ⊢
            rcases hj' with (q | q) | q
            · exact .inl q
            · exact absurd q z
            · exact .inr q
        · by_cases z : j = i
          · rw [z]; exact hw
          · simpa [Cy.setMark, z] using q
        · show (if j = i then 2 else V.mark j) = _
          rw [if_neg (fun (z : j = i) => q (z ▸ hw))]
    · exact .refl h
def Cy.mu (V : Cy) : Nat := 2 * V.whites + V.grey.length

theorem fold_mu {N : Int} {f : Nat} (hf : ∀ V i, V.Mk → V.rng i → V.n = N → MarkR V (mark kd so f V i) ∧ (mark kd so f V i).mu ≤ V.mu) : ∀ (l : List Int) (V : Cy), V.Mk → V.n = N → (∀ i ∈ l, V.rng i) → (l.foldl (mark kd so f) V).mu ≤ V.mu
  | [], V, h, _, _ => Nat.le_refl _
  | i :: l, V, h, hn, hl => by
    have h1 := hf V i h (hl i (.head _)) hn
    exact Nat.le_trans (fold_mu hf l _ h1.1.ok (h1.1.same.n.trans hn) fun j hj => by have := hl j (.tail _ hj); unfold Cy.rng at *; rw [h1.1.same.n]; exact this) h1.2
theorem mark_mu {N : Int} (hk : ∀ i, 1 ≤ i → i ≤ N → ∀ j ∈ kd i, 1 ≤ j ∧ j ≤ N) : ∀ (f : Nat) (V : Cy) (i : Int), V.Mk → V.rng i → V.n = N → (mark kd so f V i).mu ≤ V.mu
  | 0, V, i, h, _, _ => Nat.le_refl _
  | f + 1, V, i, h, hi, hn => by
    unfold mark
    split
    · rename_i hw
      have lt : ∀ m, ¬ m < 2 → (V.setMark i m).whites < V.whites := fun m hm => Cy.whites_lt (V := V) rfl (fun j q => by
        by_cases z : j = i
        · rw [z]; exact hw
        · simpa [Cy.setMark, z] using q) hi hw (by simpa [Cy.setMark] using hm)
      split
      · have h1 := mark_R (kd := kd) (so := fun _ => 1) hk 1 V i h hi hn
        have M3 : (V.setMark i 3).Mk := ⟨⟨h.rg.n0, h.rg.n1, h.rg.g, h.rg.a, h.rg.r, h.rg.rl, h.rg.o, h.rg.on, h.rg.sl⟩, h.nd, fun j hj => by
          show (if j = i then 3 else V.mark j) = 2
          rw [if_neg (fun (z : j = i) => by have := h.gm j hj; rw [z] at this; omega)]; exact h.gm j hj⟩
        have h2 := fold_mu (N := N) (fun V i a b c => ⟨mark_R (so := so) hk f V i a b c, mark_mu hk f V i a b c⟩) (kd i) (V.setMark i 3) M3 hn fun j hj => by have := hk i hi.1 (hn ▸ hi.2) j hj; unfold Cy.rng; rw [show (V.setMark i 3).n = N from hn]; exact this
        refine Nat.le_trans h2 ?_
        have := lt 3 (by omega)
        unfold Cy.mu
        show 2 * _ + V.grey.length ≤ _
        omega
      · have := lt 2 (by omega)
        unfold Cy.mu
        show 2 * (V.setMark i 2).whites + (V.grey ++ [i]).length ≤ _
        rw [List.length_append, List.length_singleton]
        omega
    · exact Nat.le_refl _

theorem popd_ok {V : Cy} {i : Int} (h : V.Mk) (hg : V.grey.getLast? = some i) : (popd so V i).Mk ∧ V.Same (popd so V i) ∧ (∀ j, (popd so V i).mark j < 2 → V.mark j < 2) ∧ (popd so V i).mu < V.mu ∧ V.rng i := by
  have hne : V.grey ≠ [] := fun z => by rw [z] at hg; cases hg
  have e : V.grey = V.grey.dropLast ++ [i] := by
    have h1 := List.dropLast_concat_getLast hne
    have h2 : V.grey.getLast hne = i := by
      have := List.getLast?_eq_some_getLast hne
      rw [hg] at this
      exact (Option.some.inj this).symm
    rw [h2] at h1
    exact h1.symm
  have hmem : i ∈ V.grey := by rw [e]; simp
  have hm2 : V.mark i = 2 := h.gm i (List.mem_append_left _ hmem)
  have hnd := h.nd
  have hnd2 : ((V.grey.dropLast ++ [i]) ++ V.again).Nodup := by rw [← e]; exact h.nd
  have sub : ∀ j ∈ V.grey.dropLast, j ∈ V.grey := fun j hj => List.dropLast_sublist _ |>.subset hj
  have hlen : V.grey.length = V.grey.dropLast.length + 1 := by
    have := congrArg List.length e
    simpa using this
  have rg : ∀ (m : Int) (ag : List Int), (∀ j ∈ ag, V.rng j) → ({ V.setMark i m with grey := V.grey.dropLast, again := ag } : Cy).Rg := fun m ag ha => ⟨h.rg.n0, h.rg.n1, fun j hj => h.rg.g j (sub j hj), ha, h.rg.r, h.rg.rl, h.rg.o, h.rg.on, h.rg.sl⟩
  unfold popd
  split
  · refine ⟨⟨rg 2 _ fun j hj => ?_, ?_, fun j hj => ?_⟩, ⟨rfl, rfl, rfl, rfl, rfl, rfl, rfl, rfl, rfl, rfl, rfl, rfl, rfl⟩, fun j q => ?_, ?_, h.rg.g i hmem⟩
    · rcases List.mem_append.mp hj with z | z
      · exact h.rg.a j z
      · rw [List.mem_singleton.mp z]; exact h.rg.g i hmem
    · show (V.grey.dropLast ++ (V.again ++ [i])).Nodup
      refine (List.Perm.nodup_iff ?_).mp hnd2
      rw [List.append_assoc]
      exact List.Perm.append_left _ List.perm_append_comm
    · show (if j = i then 2 else V.mark j) = 2
      split
      · rfl
      · rename_i z
        refine h.gm j ?_
        have hj' : j ∈ V.grey.dropLast ++ (V.again ++ [i]) := hj
        simp only [List.mem_append, List.mem_singleton] at hj' ⊢
        rcases hj' with q | q | q
        · exact .inl (sub j q)
        · exact .inr q
        · exact absurd q z
    · have q' : (if j = i then 2 else V.mark j) < 2 := q
      split at q'
      · omega
      · exact q'
    · unfold Cy.mu
      have : ({ V.setMark i 2 with grey := V.grey.dropLast, again := V.again ++ [i] } : Cy).whites ≤ V.whites := Cy.whites_mono rfl fun j q => by
        have q' : (if j = i then 2 else V.mark j) < 2 := q
        split at q'
        · omega
        · exact q'
      show 2 * _ + V.grey.dropLast.length < _
      omega
  · refine ⟨⟨rg 3 _ h.rg.a, ?_, fun j hj => ?_⟩, ⟨rfl, rfl, rfl, rfl, rfl, rfl, rfl, rfl, rfl, rfl, rfl, rfl, rfl⟩, fun j q => ?_, ?_, h.rg.g i hmem⟩
    · show (V.grey.dropLast ++ V.again).Nodup
      refine List.Nodup.sublist ?_ hnd2
      rw [List.append_assoc]
      exact List.Sublist.append_left (List.sublist_append_right _ _) _
    · show (if j = i then 3 else V.mark j) = 2
      have hj' : j ∈ V.grey.dropLast ++ V.again := hj
      have ni : j ≠ i := fun z => by
        subst z
        rw [List.append_assoc] at hnd2
        have h3 := List.nodup_append.mp hnd2
        rcases List.mem_append.mp hj' with q | q
        · exact h3.2.2 j q j (by simp) rfl
        · have h4 := List.nodup_cons.mp h3.2.1
          exact h4.1 q
      rw [if_neg ni]
      refine h.gm j ?_
      rcases List.mem_append.mp hj' with q | q
      · exact List.mem_append_left _ (sub j q)
      · exact List.mem_append_right _ q
    · have q' : (if j = i then 3 else V.mark j) < 2 := q
      split at q'
      · omega
      · exact q'
    · unfold Cy.mu
      have : ({ V.setMark i 3 with grey := V.grey.dropLast } : Cy).whites ≤ V.whites := Cy.whites_mono rfl fun j q => by
        have q' : (if j = i then 3 else V.mark j) < 2 := q
        split at q'
        · omega
        · exact q'
      show 2 * _ + V.grey.dropLast.length < _
      omega

theorem propagate_ok {V : Cy} (hk : ∀ i, 1 ≤ i → i ≤ V.n → ∀ j ∈ kd i, 1 ≤ j ∧ j ≤ V.n) (h : V.Mk) (hg : V.grey ≠ []) : (propagate kd so V).Mk ∧ V.Same (propagate kd so V) ∧ (∀ j, (propagate kd so V).mark j < 2 → V.mark j < 2) ∧ (propagate kd so V).mu < V.mu := by
  have e := List.getLast?_eq_some_getLast hg
  obtain ⟨p1, p2, p3, p4, p5⟩ := popd_ok (so := so) h e
  unfold propagate
  rw [e]
  dsimp only
  have hl : ∀ j ∈ kd (V.grey.getLast hg), (popd so V (V.grey.getLast hg)).rng j := fun j hj => by
    have := hk _ p5.1 p5.2 j hj
    unfold Cy.rng; rw [p2.n]; exact this
  have r := fold_markR (N := V.n) (fun V i a b c => mark_R (so := so) hk MF V i a b c) _ _ p1 p2.n hl
  exact ⟨r.ok, p2.trans r.same, fun j q => p3 j (r.wh j q), Nat.lt_of_le_of_lt (fold_mu (N := V.n) (fun V i a b c => ⟨mark_R (so := so) hk MF V i a b c, mark_mu hk MF V i a b c⟩) _ _ p1 p2.n hl) p4⟩

theorem pAll_ok : ∀ (k : Nat) {V : Cy}, (∀ i, 1 ≤ i → i ≤ V.n → ∀ j ∈ kd i, 1 ≤ j ∧ j ≤ V.n) → V.Mk → V.mu ≤ k → (pAll kd so k V).Mk ∧ V.Same (pAll kd so k V) ∧ (∀ j, (pAll kd so k V).mark j < 2 → V.mark j < 2) ∧ (pAll kd so k V).grey = []
  | 0, V, hk, h, hm => ⟨h, .refl V, fun _ q => q, by
    show V.grey = []
    unfold Cy.mu at hm
    exact List.length_eq_zero_iff.mp (by omega)⟩
  | k + 1, V, hk, h, hm => by
    unfold pAll
    split
    · rename_i hg
      exact ⟨h, .refl V, fun _ q => q, hg⟩
    · rename_i hg
      obtain ⟨a, b, c, e⟩ := propagate_ok (so := so) hk h hg
      have := pAll_ok k (V := propagate kd so V) (by rw [b.n]; exact hk) a (by omega)
      exact ⟨this.1, b.trans this.2.1, fun j q => c j (this.2.2.1 j q), this.2.2.2⟩
theorem Cy.mu_le {V : Cy} (h : V.Mk) : V.mu ≤ PF := by
  unfold Cy.mu
  have h1 := V.whites_le
  have h2 := h.len
  have h3 := h.rg.n1
  have h4 := h.rg.n0
  show _ ≤ 200
  omega
theorem Cy.whites_MF {V : Cy} (h : V.Rg) : V.whites < MF := by
  have h1 := V.whites_le
  have h3 := h.n1
  have h4 := h.n0
  show _ < 61
  omega
end

inductive Nm where
  | cyc | mks | objs
  | ob (i : Int)
  | t (k : Nat)
  | x (i : Nat)
  deriving DecidableEq

structure En (KK : Params → Frag) where
  prog : Program
  w : World
  hB : Heap
  mg : Str → Option Value
  mb : Str → Option Value
  T : Stat (KK w.params) mg mb hB

structure Cx (KK : Params → Frag) where
  E : En KK
  S : Scope
  d : Nat
  cells : List (Str × Nm)
abbrev VQ := MV Nm → Sg Nm → Prop
abbrev FQ := LF Nm → Sg Nm → Prop
abbrev BQ := Bool → Sg Nm → Prop
abbrev LQ := List (MV Nm) → Sg Nm → Prop

def nx (Qn : FQ) (Qr : VQ) : Fl Nm → LF Nm → Sg Nm → Prop
  | .next, fr, σ => Qn fr σ
  | .ret v, _, σ => Qr v σ
section
variable {KK : Params → Frag}
@[irreducible] def We (X : Cx KK) (e : Expr) (fr : LF Nm) (Q : VQ) (σ : Sg Nm) : Prop := MWe X.E.prog X.E.w X.E.hB X.S X.d X.cells e fr Q σ
@[irreducible] def Wt (X : Cx KK) (e : Expr) (fr : LF Nm) (Q : BQ) (σ : Sg Nm) : Prop := MWt X.E.prog X.E.w X.E.hB X.S X.d X.cells e fr Q σ
@[irreducible] def Wl (X : Cx KK) (es : List Expr) (fr : LF Nm) (Q : LQ) (σ : Sg Nm) : Prop := MWl X.E.prog X.E.w X.E.hB X.S X.d X.cells es fr Q σ
@[irreducible] def Wx (X : Cx KK) (st : Stmt) (fr : LF Nm) (Qn : FQ) (Qr : VQ) (σ : Sg Nm) : Prop := MWx X.E.prog X.E.w X.E.hB X.S X.d X.cells st fr (nx Qn Qr) σ
@[irreducible] def Ws (X : Cx KK) (b : List Stmt) (fr : LF Nm) (Qn : FQ) (Qr : VQ) (σ : Sg Nm) : Prop := MWs X.E.prog X.E.w X.E.hB X.S X.d X.cells b fr (nx Qn Qr) σ
@[irreducible] def Wb (X : Cx KK) (op : BoolOp) (es : List Expr) (fr : LF Nm) (Q : BQ) (σ : Sg Nm) : Prop := MWb X.E.prog X.E.w X.E.hB X.S X.d X.cells op es fr Q σ
@[irreducible] def Wg (X : Cx KK) (ts : List Expr) (vs : List (MV Nm)) (fr : LF Nm) (Q : FQ) (σ : Sg Nm) : Prop := MWg X.E.prog X.E.w X.E.hB X.S X.d X.cells ts vs fr Q σ
@[irreducible] def Wv (E : En KK) (d : Nat) (f : MV Nm) (args : List (MV Nm)) (Q : VQ) (σ : Sg Nm) : Prop := MWv E.prog E.w E.hB d f args Q σ
@[irreducible] def Wc (E : En KK) (d : Nat) (f : Value) (args : List (MV Nm)) (Q : VQ) (σ : Sg Nm) : Prop := MWc E.prog E.w E.hB d f args Q σ

theorem MWe.imp {prog : Program} {w : World} {hB : Heap} {S : Scope} {d : Nat} {cells : List (Str × Nm)} {e : Expr} {fr : LF Nm} {σ : Sg Nm} {Q Q' : VQ} (h : MWe prog w hB S d cells e fr Q σ) (k : ∀ v σ', Q v σ' → Q' v σ') : MWe prog w hB S d cells e fr Q' σ := by
  intro A s L q f cd frm cl m ρ X W E Qc kk
  exact h A s L q f cd frm cl m ρ X W E Qc fun v u σ' ρ' h' tk H => kk v u σ' ρ' h' tk (k _ _ H)
theorem MWt.imp {prog : Program} {w : World} {hB : Heap} {S : Scope} {d : Nat} {cells : List (Str × Nm)} {e : Expr} {fr : LF Nm} {σ : Sg Nm} {Q Q' : BQ} (h : MWt prog w hB S d cells e fr Q σ) (k : ∀ v σ', Q v σ' → Q' v σ') : MWt prog w hB S d cells e fr Q' σ := by
  intro A s L q f cd frm cl m ρ X W E Qc kk
  exact h A s L q f cd frm cl m ρ X W E Qc fun v σ' ρ' h' tk H => kk v σ' ρ' h' tk (k _ _ H)
theorem MWx.imp {prog : Program} {w : World} {hB : Heap} {S : Scope} {d : Nat} {cells : List (Str × Nm)} {st : Stmt} {fr : LF Nm} {σ : Sg Nm} {Q Q' : Fl Nm → LF Nm → Sg Nm → Prop} (h : MWx prog w hB S d cells st fr Q σ) (k : ∀ fl fr' σ', Q fl fr' σ' → Q' fl fr' σ') : MWx prog w hB S d cells st fr Q' σ := by
  intro A s L q f cd frm cl m ρ X W E Qc kk
  exact h A s L q f cd frm cl m ρ X W E Qc fun fl flc fr' m' σ' ρ' h' tk H => kk fl flc fr' m' σ' ρ' h' tk (k _ _ _ H)
theorem MWs.imp {prog : Program} {w : World} {hB : Heap} {S : Scope} {d : Nat} {cells : List (Str × Nm)} {b : List Stmt} {fr : LF Nm} {σ : Sg Nm} {Q Q' : Fl Nm → LF Nm → Sg Nm → Prop} (h : MWs prog w hB S d cells b fr Q σ) (k : ∀ fl fr' σ', Q fl fr' σ' → Q' fl fr' σ') : MWs prog w hB S d cells b fr Q' σ := by
  intro A s L q f cd frm cl m ρ X W E Qc kk
  exact h A s L q f cd frm cl m ρ X W E Qc fun fl flc fr' m' σ' ρ' h' tk H => kk fl flc fr' m' σ' ρ' h' tk (k _ _ _ H)
/-! ## what waits behind an expression -/
def AttrK (X : Cx KK) (name : Str) (Q : VQ) : VQ := fun v σ => ∃ n C fs u, v = .ref n ∧ σ n = some (.inst C fs) ∧ FieldOk (KK X.E.w.params) C name ∧ fs.lookup name = some u ∧ Q u σ
def BmA (X : Cx KK) (name : Str) (Q : VQ) : VQ := fun v σ => ∃ n C fs f nm, v = .ref n ∧ σ n = some (.inst C fs) ∧ BMethOk (KK X.E.w.params) C name f ∧ fs.lookup name = none ∧ σ nm = none ∧ Q (.ref nm) (σ.set nm (.meth f (.ref n)))
def BinB (op : Operator) (a : MV Nm) (Q : VQ) : VQ := fun b σ => ∃ c, binV op a b = some c ∧ Q c σ
def BinA (X : Cx KK) (r : Expr) (fr : LF Nm) (op : Operator) (Q : VQ) : VQ := fun a σ => We X r fr (BinB op a Q) σ
def CmpB (op : CmpOp) (a : MV Nm) (Q : VQ) : VQ := fun b σ => ∃ c, cmpV op a b = some c ∧ Q (.bool c) σ
def CmpA (X : Cx KK) (r : Expr) (fr : LF Nm) (op : CmpOp) (Q : VQ) : VQ := fun a σ => We X r fr (CmpB op a Q) σ
def TcmB (op : CmpOp) (a : MV Nm) (Q : BQ) : VQ := fun b σ => ∃ c, cmpV op a b = some c ∧ Q c σ
def TcmA (X : Cx KK) (r : Expr) (fr : LF Nm) (op : CmpOp) (Q : BQ) : VQ := fun a σ => We X r fr (TcmB op a Q) σ
def TinB (neg : Bool) (a : MV Nm) (Q : BQ) : VQ := fun b σ => ∃ (j : Int) (n : Nm) (ns : List Int), a = .int j ∧ b = .ref n ∧ σ n = some (.list (ns.map .int)) ∧ Q (true != decide (j ∈ ns)) σ
def TinA (X : Cx KK) (r : Expr) (fr : LF Nm) (neg : Bool) (Q : BQ) : VQ := fun a σ => We X r fr (TinB neg a Q) σ
def TciB (neg : Bool) (a : MV Nm) (Q : BQ) : VQ := fun b σ => ∃ (n n' : Nm) (ns ms : List Int), a = .ref n ∧ b = .ref n' ∧ σ n = some (.list (ns.map .int)) ∧ σ n' = some (.list (ms.map .int)) ∧ Q ((neg != decide (ns = ms))) σ
def TciA (X : Cx KK) (r : Expr) (fr : LF Nm) (neg : Bool) (Q : BQ) : VQ := fun a σ => We X r fr (TciB neg a Q) σ
def EciB (neg : Bool) (a : MV Nm) (Q : VQ) : VQ := fun b σ => ∃ (n n' : Nm) (ns ms : List Int), a = .ref n ∧ b = .ref n' ∧ σ n = some (.list (ns.map .int)) ∧ σ n' = some (.list (ms.map .int)) ∧ Q (.bool (neg != decide (ns = ms))) σ
def EciA (X : Cx KK) (r : Expr) (fr : LF Nm) (neg : Bool) (Q : VQ) : VQ := fun a σ => We X r fr (EciB neg a Q) σ
def TruK (Q : BQ) : VQ := fun v σ => ∃ c, truV v = some c ∧ Q c σ
def NotT (Q : BQ) : BQ := fun c σ => Q (!c) σ
def AndT (X : Cx KK) (r : List Expr) (fr : LF Nm) (Q : BQ) : BQ := fun c σ => if c = true then Wb X .And r fr Q σ else Q false σ
def OrT (X : Cx KK) (r : List Expr) (fr : LF Nm) (Q : BQ) : BQ := fun c σ => if c = true then Q true σ else Wb X .Or r fr Q σ
def AndV (X : Cx KK) (e : Expr) (fr : LF Nm) (Q : VQ) : VQ := fun v σ => ∃ c, truV v = some c ∧ if c = true then We X e fr Q σ else Q v σ
def OrV (X : Cx KK) (e : Expr) (fr : LF Nm) (Q : VQ) : VQ := fun v σ => ∃ c, truV v = some c ∧ if c = true then Q v σ else We X e fr Q σ
def IfE (X : Cx KK) (a b : Expr) (fr : LF Nm) (Q : VQ) : BQ := fun c σ => if c = true then We X a fr Q σ else We X b fr Q σ
def IfS (X : Cx KK) (a b : List Stmt) (fr : LF Nm) (Qn : FQ) (Qr : VQ) : BQ := fun c σ => if c = true then Ws X a fr Qn Qr σ else Ws X b fr Qn Qr σ
def SeqK (X : Cx KK) (r : List Stmt) (Qn : FQ) (Qr : VQ) : FQ := fun fr σ => Ws X r fr Qn Qr σ
def DropK (fr : LF Nm) (Qn : FQ) : VQ := fun _ σ => Qn fr σ
def AsgK (x : Str) (fr : LF Nm) (Qn : FQ) : VQ := fun v σ => Qn ((x, v) :: fr) σ
def SetB (X : Cx KK) (name : Str) (v : MV Nm) (fr : LF Nm) (Qn : FQ) : VQ := fun ov σ => ∃ n C fs, ov = .ref n ∧ σ n = some (.inst C fs) ∧ SetOk (KK X.E.w.params) C name ∧ fs.length < 1000 ∧ Qn fr (σ.set n (.inst C (fset name v fs)))
def SetA (X : Cx KK) (o : Expr) (name : Str) (fr : LF Nm) (Qn : FQ) : VQ := fun v σ => We X o fr (SetB X name v fr Qn) σ
def AugB (X : Cx KK) (n : Nm) (op : Operator) (name : Str) (i : Int) (fr : LF Nm) (Qn : FQ) : VQ := fun v σ => ∃ C' fs' j c, v = .int j ∧ ((op = .Add ∧ c = i + j) ∨ (op = .Sub ∧ c = i - j)) ∧ σ n = some (.inst C' fs') ∧ SetOk (KK X.E.w.params) C' name ∧ fs'.length < 1000 ∧ Qn fr (σ.set n (.inst C' (fset name (.int c) fs')))
def AugA (X : Cx KK) (e : Expr) (op : Operator) (name : Str) (fr : LF Nm) (Qn : FQ) : VQ := fun ov σ => ∃ n C fs i, ov = .ref n ∧ σ n = some (.inst C fs) ∧ FieldOk (KK X.E.w.params) C name ∧ fs.lookup name = some (.int i) ∧ We X e fr (AugB X n op name i fr Qn) σ
def AugN (x : Str) (op : Operator) (i : Int) (fr : LF Nm) (Qn : FQ) : VQ := fun v σ => ∃ j c, v = .int j ∧ ((op = .Add ∧ c = i + j) ∨ (op = .Sub ∧ c = i - j)) ∧ Qn ((x, .int c) :: fr) σ
def ItSB (o : MV Nm) (Q : VQ) : VQ := fun i σ => ∃ n kvs j v, o = .ref n ∧ i = .str j ∧ σ n = some (.sdict kvs) ∧ dget kvs j = some v ∧ Q v σ
def ItSA (X : Cx KK) (slice : Expr) (fr : LF Nm) (Q : VQ) : VQ := fun o σ => We X slice fr (ItSB o Q) σ
def ItLB (o : MV Nm) (Q : VQ) : VQ := fun i σ => ∃ n vs j v, o = .ref n ∧ i = .int j ∧ σ n = some (.list vs) ∧ 0 ≤ j ∧ j < 1000000 ∧ vs[j.toNat]? = some v ∧ Q v σ
def ItLA (X : Cx KK) (slice : Expr) (fr : LF Nm) (Q : VQ) : VQ := fun o σ => We X slice fr (ItLB o Q) σ
def ConB (v : MV Nm) (Q : LQ) : LQ := fun vs σ => Q (v :: vs) σ
def ConA (X : Cx KK) (es : List Expr) (fr : LF Nm) (Q : LQ) : VQ := fun v σ => Wl X es fr (ConB v Q) σ
def FinK (X : Cx KK) (f : MV Nm) (first : List (MV Nm)) (Q : VQ) : LQ := fun vs σ => Keeps (KK X.E.w.params) σ f ∧ Wv X.E X.d f (first ++ vs) Q σ
def CallA (X : Cx KK) (args : List Expr) (fr : LF Nm) (Q : VQ) : VQ := fun f σ => MWw (KK X.E.w.params) X.E.prog X.E.w X.E.hB X.S X.d X.cells f [] args fr Q σ
def MethA (X : Cx KK) (name : Str) (args : List Expr) (fr : LF Nm) (Q : VQ) : VQ := fun ov σ => ∃ f first, MRes (KK X.E.w.params) σ name ov f first ∧ MWw (KK X.E.w.params) X.E.prog X.E.w X.E.hB X.S X.d X.cells f first args fr Q σ
def ListK (Q : VQ) : LQ := fun vs σ => ∃ n, σ n = none ∧ vs.length ≤ 1000 ∧ Q (.ref n) (σ.set n (.list vs))
def TupK (X : Cx KK) (ts : List Expr) (fr : LF Nm) (Qn : FQ) : LQ := fun vs σ => vs.length = ts.length ∧ vs.length ≤ 1000 ∧ Wg X ts vs fr Qn σ
def NamK (ns : List Str) (fr : LF Nm) (Qn : FQ) : LQ := fun vs σ => vs.length = ns.length ∧ vs.length ≤ 1000 ∧ Qn ((ns.reverse.zip vs.reverse).reverse ++ fr) σ
def GatA (X : Cx KK) (name : Str) (ts : List Expr) (v : MV Nm) (vs : List (MV Nm)) (fr : LF Nm) (Q : FQ) : VQ := fun ov σ => ∃ n C fs, ov = .ref n ∧ σ n = some (.inst C fs) ∧ SetOk (KK X.E.w.params) C name ∧ fs.length < 1000 ∧ Wg X ts vs fr Q (σ.set n (.inst C (fset name v fs)))
def GitB (X : Cx KK) (ts : List Expr) (ov v : MV Nm) (vs : List (MV Nm)) (fr : LF Nm) (Q : FQ) : VQ := fun iv σ => ∃ n o', ov = .ref n ∧ PutR σ n iv v o' ∧ Wg X ts vs fr Q (σ.set n o')
def GitA (X : Cx KK) (i : Expr) (ts : List Expr) (v : MV Nm) (vs : List (MV Nm)) (fr : LF Nm) (Q : FQ) : VQ := fun ov σ => We X i fr (GitB X ts ov v vs fr Q) σ
def SitC (ov v : MV Nm) (fr : LF Nm) (Qn : FQ) : VQ := fun iv σ => ∃ n o', ov = .ref n ∧ PutR σ n iv v o' ∧ Qn fr (σ.set n o')
def SitB (X : Cx KK) (i : Expr) (v : MV Nm) (fr : LF Nm) (Qn : FQ) : VQ := fun ov σ => We X i fr (SitC ov v fr Qn) σ
def SitA (X : Cx KK) (o i : Expr) (fr : LF Nm) (Qn : FQ) : VQ := fun v σ => We X o fr (SitB X i v fr Qn) σ
def LessK (I : Nat → FQ) (n : Nat) : FQ := fun fr σ => ∃ k, k < n ∧ I k fr σ
def WhK (X : Cx KK) (body : List Stmt) (I : Nat → FQ) (n : Nat) (fr : LF Nm) (Qn : FQ) (Qr : VQ) : BQ := fun b σ => if b = true then Ws X body fr (LessK I n) Qr σ else Qn fr σ
def RanK (X : Cx KK) (x : Str) (body : List Stmt) (fr : LF Nm) (Qn : FQ) (Qr : VQ) : VQ := fun v σ => ∃ (I : Nat → FQ) (n : Nm) (k : Nat), v = .ref n ∧ σ n = some (.range (Int.ofNat k)) ∧ k ≤ 1000000 ∧ I 0 fr σ ∧ (∀ i fr σ, i < k → I i fr σ → Ws X body ((x, .int i) :: fr) (I (i + 1)) Qr σ) ∧ (∀ fr σ, I k fr σ → Qn fr σ)
def ForK (X : Cx KK) (x : Str) (body : List Stmt) (fr : LF Nm) (Qn : FQ) (Qr : VQ) : VQ := fun v σ => ∃ (I : Nat → FQ) (n : Nm) (vs : List (MV Nm)), v = .ref n ∧ vs.length ≤ 1000 ∧ I 0 fr σ ∧ (∀ i fr σ, i ≤ vs.length → I i fr σ → σ n = some (.list vs)) ∧ (∀ i v fr σ, vs[i]? = some v → I i fr σ → Ws X body ((x, v) :: fr) (I (i + 1)) Qr σ) ∧ (∀ fr σ, I vs.length fr σ → Qn fr σ)
def RetN (Q : VQ) : FQ := fun _ σ => Q .none σ

/-! ## expressions -/
def locOk (S : Scope) (x : Str) (k : NameKind) : Bool := decide (S.kind = .function) && (decide (S.names.lookup x = some k) && !(x == ("__debug__" : Str)))
theorem locOkA {S : Scope} {x : Str} {k : NameKind} (h : locOk S x k = true) : S.kind = .function ∧ S.names.lookup x = some k ∧ (x == ("__debug__" : Str)) = false := by
  unfold locOk at h
  rw [Bool.and_eq_true, Bool.and_eq_true] at h
  exact ⟨of_decide_eq_true h.1, of_decide_eq_true h.2.1, by simpa using h.2.2⟩
variable {X : Cx KK} {E : En KK} {S : Scope} {d : Nat} {cells : List (Str × Nm)} {fr : LF Nm} {σ : Sg Nm} {Q : VQ} {B : BQ} {Qn : FQ} {Qr : VQ} {Ql : LQ}

theorem w_local {x : Str} {pos : Pos} {v : MV Nm} (hl : fr.lookup x = some v) (h : Q v σ) (ho : locOk X.S x .local = true := by rfl) : We X (.Name x pos) fr Q σ := by with_unfolding_all exact e_local hl h (locOkA ho).1 (locOkA ho).2.1 (locOkA ho).2.2
theorem w_glob {x : Str} {pos : Pos} {v : Value} {u : MV Nm} (e : nsIn (KK X.E.w.params) mainGlobals x = some (some v)) (hv : ∀ ρ : Rho Nm, VR ρ u v) (h : Q u σ) (ho : locOk X.S x .globalImplicit = true := by rfl) : We X (.Name x pos) fr Q σ := by with_unfolding_all exact e_glob X.E.T e hv h (locOkA ho).1 (locOkA ho).2.1 (locOkA ho).2.2
theorem w_builtin {x : Str} {pos : Pos} {v : Value} (e : nsIn (KK X.E.w.params) mainGlobals x = some none) (hb : bootBuiltins x = some v) (h : Q (.val v) σ) (hv : handedIn v = true := by rfl) (ho : locOk X.S x .globalImplicit = true := by rfl) (hn : x ≠ "__name__" := by decide) : We X (.Name x pos) fr Q σ := by with_unfolding_all exact e_builtin X.E.T e hb h hv (locOkA ho).1 (locOkA ho).2.1 hn (locOkA ho).2.2
theorem w_free {x : Str} {pos : Pos} {n : Nm} {v : MV Nm} (hc : X.cells.lookup x = some n) (hs : σ n = some (.cell (some v))) (h : Q v σ) (ho : locOk X.S x .free = true := by rfl) (hn : (x == ("__classdict__" : Str)) = false := by decide) : We X (.Name x pos) fr Q σ := by with_unfolding_all exact e_free hc hs h (locOkA ho).1 (locOkA ho).2.1 (locOkA ho).2.2 hn
theorem w_cell {x : Str} {pos : Pos} {n : Nm} {v : MV Nm} (hc : X.cells.lookup x = some n) (hs : σ n = some (.cell (some v))) (h : Q v σ) (ho : locOk X.S x .cell = true := by rfl) : We X (.Name x pos) fr Q σ := by with_unfolding_all exact e_cell hc hs h (locOkA ho).1 (locOkA ho).2.1 (locOkA ho).2.2
theorem w_int {i : Int} {kd : Nat} {pos : Pos} (h : Q (.int i) σ) : We X (.Constant (.int i) kd pos) fr Q σ := by with_unfolding_all exact e_int h
theorem w_str {i : Str} {kd : Nat} {pos : Pos} (h : Q (.str i) σ) : We X (.Constant (.str i) kd pos) fr Q σ := by with_unfolding_all exact e_str h
theorem w_bool {i : Bool} {kd : Nat} {pos : Pos} (h : Q (.bool i) σ) : We X (.Constant (.bool i) kd pos) fr Q σ := by with_unfolding_all exact e_bool h
theorem w_none {kd : Nat} {pos : Pos} (h : Q .none σ) : We X (.Constant .none kd pos) fr Q σ := by with_unfolding_all exact e_none h
theorem w_lnil (h : Ql [] σ) : Wl X [] fr Ql σ := by with_unfolding_all exact l_nil h
theorem w_lcons {e : Expr} {es : List Expr} (h : We X e fr (ConA X es fr Ql) σ) (he : ∀ env, starEach (e :: es) env = (false, eval e env) :: starEach es env := by intro _; rfl) : Wl X (e :: es) fr Ql σ := by with_unfolding_all exact l_cons h he
theorem w_conA {es : List Expr} {v : MV Nm} (h : Wl X es fr (ConB v Ql) σ) : ConA X es fr Ql v σ := by with_unfolding_all exact h
theorem w_conB {v : MV Nm} {vs : List (MV Nm)} (h : Ql (v :: vs) σ) : ConB v Ql vs σ := by with_unfolding_all exact h
theorem w_bin {op : Operator} {l r : Expr} {pos : Pos} (h : We X l fr (BinA X r fr op Q) σ) : We X (.BinOp l op r pos) fr Q σ := by with_unfolding_all exact e_bin h
theorem w_binA {op : Operator} {r : Expr} {a : MV Nm} (h : We X r fr (BinB op a Q) σ) : BinA X r fr op Q a σ := by with_unfolding_all exact h
theorem w_binB {op : Operator} {a b c : MV Nm} (e : binV op a b = some c) (h : Q c σ) : BinB op a Q b σ := by with_unfolding_all exact ⟨c, e, h⟩
theorem w_cmp {op : CmpOp} {l r : Expr} {pos : Pos} (h : We X l fr (CmpA X r fr op Q) σ) (hm : behindInMarks op r = false := by rfl) : We X (.Compare l [op] [r] pos) fr Q σ := by with_unfolding_all exact e_cmp h hm
theorem w_cmpA {op : CmpOp} {r : Expr} {a : MV Nm} (h : We X r fr (CmpB op a Q) σ) : CmpA X r fr op Q a σ := by with_unfolding_all exact h
theorem w_cmpB {op : CmpOp} {a b : MV Nm} {c : Bool} (e : cmpV op a b = some c) (h : Q (.bool c) σ) : CmpB op a Q b σ := by with_unfolding_all exact ⟨c, e, h⟩
theorem w_tcmp {op : CmpOp} {l r : Expr} {pos : Pos} (h : We X l fr (TcmA X r fr op B) σ) (hm : behindInMarks op r = false := by rfl) : Wt X (.Compare l [op] [r] pos) fr B σ := by with_unfolding_all exact t_cmp h hm
theorem w_tcmA {op : CmpOp} {r : Expr} {a : MV Nm} (h : We X r fr (TcmB op a B) σ) : TcmA X r fr op B a σ := by with_unfolding_all exact h
theorem w_tcmB {op : CmpOp} {a b : MV Nm} {c : Bool} (e : cmpV op a b = some c) (h : B c σ) : TcmB op a B b σ := by with_unfolding_all exact ⟨c, e, h⟩
theorem w_tnin {l r : Expr} {pos : Pos} (h : We X l fr (TinA X r fr true B) σ) (hm : behindInMarks .NotIn r = false := by rfl) : Wt X (.Compare l [.NotIn] [r] pos) fr B σ := by with_unfolding_all exact t_notin h hm
theorem w_tinA {neg : Bool} {r : Expr} {a : MV Nm} (h : We X r fr (TinB neg a B) σ) : TinA X r fr neg B a σ := by with_unfolding_all exact h
theorem w_tinL {j : Int} {n : Nm} {ns : List Int} (hs : σ n = some (.list (ns.map .int))) (h : B (true != decide (j ∈ ns)) σ) : TinB true (.int j) B (.ref n) σ := ⟨j, n, ns, rfl, rfl, hs, h⟩
theorem w_tciA {neg : Bool} {r : Expr} {a : MV Nm} (h : We X r fr (TciB neg a B) σ) : TciA X r fr neg B a σ := by with_unfolding_all exact h
theorem w_tciB {neg : Bool} {n n' : Nm} {ns ms : List Int} (h1 : σ n = some (.list (ns.map .int))) (h2 : σ n' = some (.list (ms.map .int))) (h : B (neg != decide (ns = ms)) σ) : TciB neg (.ref n) B (.ref n') σ := by with_unfolding_all exact ⟨n, n', ns, ms, rfl, rfl, h1, h2, h⟩
theorem w_eci {l r : Expr} {pos : Pos} (h : We X l fr (EciA X r fr false Q) σ) (hm : behindInMarks .Eq r = false := by rfl) : We X (.Compare l [.Eq] [r] pos) fr Q σ := by with_unfolding_all exact e_cmpInts (neg := false) rfl h hm
theorem w_eciA {neg : Bool} {r : Expr} {a : MV Nm} (h : We X r fr (EciB neg a Q) σ) : EciA X r fr neg Q a σ := by with_unfolding_all exact h
theorem w_eciB {neg : Bool} {n n' : Nm} {ns ms : List Int} (h1 : σ n = some (.list (ns.map .int))) (h2 : σ n' = some (.list (ms.map .int))) (h : Q (.bool (neg != decide (ns = ms))) σ) : EciB neg (.ref n) Q (.ref n') σ := by with_unfolding_all exact ⟨n, n', ns, ms, rfl, rfl, h1, h2, h⟩
theorem w_plain {e : Expr} (h : We X e fr (TruK B) σ) (hp : ∀ env whole, PySem.isTrue e env whole = (do let v ← whole; standAt e.pos; holding [v] (truthy v)) := by intro _ _; rfl) : Wt X e fr B σ := by with_unfolding_all exact t_plain h hp
theorem w_tru {v : MV Nm} {c : Bool} (e : truV v = some c) (h : B c σ) : TruK B v σ := by with_unfolding_all exact ⟨c, e, h⟩
theorem w_tnot {e : Expr} {pos : Pos} (h : Wt X e fr (NotT B) σ) : Wt X (.UnaryOp .Not e pos) fr B σ := by with_unfolding_all exact t_not h
theorem w_notT {c : Bool} (h : B (!c) σ) : NotT B c σ := by with_unfolding_all exact h
theorem w_tbool {op : BoolOp} {es : List Expr} {pos : Pos} (h : Wb X op es fr B σ) : Wt X (.BoolOp op es pos) fr B σ := by with_unfolding_all exact t_bool h
theorem w_bandN (h : B true σ) : Wb X .And [] fr B σ := by with_unfolding_all exact b_andNil h
theorem w_borN (h : B false σ) : Wb X .Or [] fr B σ := by with_unfolding_all exact b_orNil h
theorem w_band {e : Expr} {r : List Expr} (h : Wt X e fr (AndT X r fr B) σ) : Wb X .And (e :: r) fr B σ := by with_unfolding_all exact b_and h
theorem w_bor {e : Expr} {r : List Expr} (h : Wt X e fr (OrT X r fr B) σ) : Wb X .Or (e :: r) fr B σ := by with_unfolding_all exact b_or h
theorem w_andT {c : Bool} {r : List Expr} (e : c = true) (h : Wb X .And r fr B σ) : AndT X r fr B c σ := by unfold AndT; rw [if_pos e]; exact h
theorem w_andF {c : Bool} {r : List Expr} (e : c = false) (h : B false σ) : AndT X r fr B c σ := by unfold AndT; rw [if_neg (by rw [e]; simp)]; exact h
theorem w_orT {c : Bool} {r : List Expr} (e : c = true) (h : B true σ) : OrT X r fr B c σ := by unfold OrT; rw [if_pos e]; exact h
theorem w_orF {c : Bool} {r : List Expr} (e : c = false) (h : Wb X .Or r fr B σ) : OrT X r fr B c σ := by unfold OrT; rw [if_neg (by rw [e]; simp)]; exact h
theorem w_and {e₁ e₂ : Expr} {r : List Expr} {pos : Pos} (h : We X e₁ fr (AndV X (.BoolOp .And (e₂ :: r) pos) fr Q) σ) : We X (.BoolOp .And (e₁ :: e₂ :: r) pos) fr Q σ := by with_unfolding_all exact e_and h
theorem w_or {e₁ e₂ : Expr} {r : List Expr} {pos : Pos} (h : We X e₁ fr (OrV X (.BoolOp .Or (e₂ :: r) pos) fr Q) σ) : We X (.BoolOp .Or (e₁ :: e₂ :: r) pos) fr Q σ := by with_unfolding_all exact e_or h
theorem w_one {op : BoolOp} {e : Expr} {pos : Pos} (h : We X e fr Q σ) : We X (.BoolOp op [e] pos) fr Q σ := by with_unfolding_all exact e_one h
theorem w_andVT {e : Expr} {v : MV Nm} {c : Bool} (hc : truV v = some c) (e' : c = true) (h : We X e fr Q σ) : AndV X e fr Q v σ := by with_unfolding_all exact ⟨c, hc, by rw [if_pos e']; exact h⟩
theorem w_andVF {e : Expr} {v : MV Nm} {c : Bool} (hc : truV v = some c) (e' : c = false) (h : Q v σ) : AndV X e fr Q v σ := by with_unfolding_all exact ⟨c, hc, by rw [if_neg (by rw [e']; simp)]; exact h⟩
theorem w_orVT {e : Expr} {v : MV Nm} {c : Bool} (hc : truV v = some c) (e' : c = true) (h : Q v σ) : OrV X e fr Q v σ := by with_unfolding_all exact ⟨c, hc, by rw [if_pos e']; exact h⟩
theorem w_orVF {e : Expr} {v : MV Nm} {c : Bool} (hc : truV v = some c) (e' : c = false) (h : We X e fr Q σ) : OrV X e fr Q v σ := by with_unfolding_all exact ⟨c, hc, by rw [if_neg (by rw [e']; simp)]; exact h⟩
theorem w_if {t a b : Expr} {pos : Pos} (h : Wt X t fr (IfE X a b fr Q) σ) : We X (.IfExp t a b pos) fr Q σ := by with_unfolding_all exact e_if h
theorem w_ifT {c : Bool} {a b : Expr} (e : c = true) (h : We X a fr Q σ) : IfE X a b fr Q c σ := by unfold IfE; rw [if_pos e]; exact h
theorem w_ifF {c : Bool} {a b : Expr} (e : c = false) (h : We X b fr Q σ) : IfE X a b fr Q c σ := by unfold IfE; rw [if_neg (by rw [e]; simp)]; exact h
theorem w_attr {o : Expr} {name : Str} {pos : Pos} (h : We X o fr (AttrK X name Q) σ) (he : ∀ env, eval (.Attribute o name pos) env = (do let o' ← eval o env; standAt pos.atName; let r ← holding [o'] (getAttr o' name true); letTemporaryGo o o' r; pure r) := by intro _; rfl) : We X (.Attribute o name pos) fr Q σ := by with_unfolding_all exact e_attr X.E.T h he
theorem w_attrK {n : Nm} {C : Addr} {fs : List (Str × MV Nm)} {name : Str} {u : MV Nm} (hs : σ n = some (.inst C fs)) (ho : FieldOk (KK X.E.w.params) C name) (hl : fs.lookup name = some u) (h : Q u σ) : AttrK X name Q (.ref n) σ := by with_unfolding_all exact ⟨n, C, fs, u, rfl, hs, ho, hl, h⟩
theorem w_bmeth {o : Expr} {name : Str} {pos : Pos} (h : We X o fr (BmA X name Q) σ) (he : ∀ env, eval (.Attribute o name pos) env = (do let o' ← eval o env; standAt pos.atName; let r ← holding [o'] (getAttr o' name true); letTemporaryGo o o' r; pure r) := by intro _; rfl) : We X (.Attribute o name pos) fr Q σ := by with_unfolding_all exact e_bmeth X.E.T h he
theorem w_bmA {n nm : Nm} {C f : Addr} {fs : List (Str × MV Nm)} {name : Str} (hs : σ n = some (.inst C fs)) (ho : BMethOk (KK X.E.w.params) C name f) (hl : fs.lookup name = none) (hn : σ nm = none) (h : Q (.ref nm) (σ.set nm (.meth f (.ref n)))) : BmA X name Q (.ref n) σ := by with_unfolding_all exact ⟨n, C, fs, f, nm, rfl, hs, ho, hl, hn, h⟩
theorem w_itS {value slice : Expr} {pos : Pos} (h : We X value fr (ItSA X slice fr Q) σ) (hs : ∀ l k t, subscripted slice false (.ref l) (.str k t) = operate [.ref l, .str k t] (getItem (.ref l) (.str k t)) := by intros; rfl) : We X (.Subscript value slice pos) fr Q σ := by with_unfolding_all exact e_itemS h hs
theorem w_itSA {slice : Expr} {o : MV Nm} (h : We X slice fr (ItSB o Q) σ) : ItSA X slice fr Q o σ := by with_unfolding_all exact h
theorem w_itSB {n : Nm} {kvs : List (Str × MV Nm)} {j : Str} {v : MV Nm} (hs : σ n = some (.sdict kvs)) (hg : dget kvs j = some v) (h : Q v σ) : ItSB (.ref n) Q (.str j) σ := by with_unfolding_all exact ⟨n, kvs, j, v, rfl, rfl, hs, hg, h⟩
theorem w_itL {value slice : Expr} {pos : Pos} (h : We X value fr (ItLA X slice fr Q) σ) (hs : ∀ l k t, subscripted slice false (.ref l) (.int k t) = operate [.ref l, .int k t] (getItem (.ref l) (.int k t)) := by intros; rfl) : We X (.Subscript value slice pos) fr Q σ := by with_unfolding_all exact e_itemListT h hs
theorem w_itLA {slice : Expr} {o : MV Nm} (h : We X slice fr (ItLB o Q) σ) : ItLA X slice fr Q o σ := by with_unfolding_all exact h
theorem w_itLB {n : Nm} {vs : List (MV Nm)} {j : Int} {v : MV Nm} (hs : σ n = some (.list vs)) (h0 : 0 ≤ j) (h1 : j < 1000000) (hg : vs[j.toNat]? = some v) (h : Q v σ) : ItLB (.ref n) Q (.int j) σ := by with_unfolding_all exact ⟨n, vs, j, v, rfl, rfl, hs, h0, h1, hg, h⟩
theorem w_list {es : List Expr} {pos : Pos} (h : Wl X es fr (ListK Q) σ) : We X (.List es pos) fr Q σ := by with_unfolding_all exact e_list h
theorem w_listK {n : Nm} {vs : List (MV Nm)} (hn : σ n = none) (hl : vs.length ≤ 1000) (h : Q (.ref n) (σ.set n (.list vs))) : ListK Q vs σ := by with_unfolding_all exact ⟨n, hn, hl, h⟩

/-! ## calls -/
theorem w_call {x : Str} {np pos : Pos} {args : List Expr} (h : We X (.Name x np) fr (CallA X args fr Q) σ) (hp : PlainArgs args := by exact fun _ => ⟨fun _ => rfl, by first | trivial | rfl⟩) : We X (.Call (.Name x np) args [] pos) fr Q σ := by with_unfolding_all exact e_call X.E.T h hp
theorem w_callN {f : MV Nm} {e : Expr} {r : List Expr} (h : Wl X (e :: r) fr (FinK X f [] Q) σ) : CallA X (e :: r) fr Q f σ := by with_unfolding_all exact h
theorem w_fin {f : MV Nm} {first vs : List (MV Nm)} (hk : Keeps (KK E.w.params) σ f) (h : Wv E d f (first ++ vs) Q σ) : FinK ⟨E, S, d, cells⟩ f first Q vs σ := by with_unfolding_all exact ⟨hk, h⟩
theorem w_meth {o : Expr} {name : Str} {apos pos : Pos} {args : List Expr} {pl : Env → Sem Bool} (h : We X o fr (MethA X name args fr Q) σ)
    (he : ∀ env, eval (.Call (.Attribute o name apos) args [] pos) env = (do let ov ← eval o env; standAt apos.atName; let (f, first) ← holding [ov] (getMethod ov name (pl env)); callWith pos f first (backTo pos (starEach args env)) (backToKw pos (keywordEach [] env))) := by intro _; rfl)
    (hp : PlainArgs args := by exact fun _ => ⟨fun _ => rfl, by first | trivial | rfl⟩) : We X (.Call (.Attribute o name apos) args [] pos) fr Q σ := by with_unfolding_all exact e_meth X.E.T h he hp
theorem w_meth0 {ov f : MV Nm} {name : Str} {first : List (MV Nm)} (hm : MRes (KK E.w.params) σ name ov f first) (hk : Keeps (KK E.w.params) σ f) (h : Wv E d f first Q σ) : MethA ⟨E, S, d, cells⟩ name [] fr Q ov σ := by with_unfolding_all exact ⟨f, first, hm, hk, h⟩
theorem w_methN {ov f : MV Nm} {name : Str} {first : List (MV Nm)} {e : Expr} {r : List Expr} (hm : MRes (KK X.E.w.params) σ name ov f first) (h : Wl X (e :: r) fr (FinK X f first Q) σ) : MethA X name (e :: r) fr Q ov σ := by with_unfolding_all exact ⟨f, first, hm, h⟩
theorem k_code {f : Addr} {args : List (MV Nm)} {d' : Nat} {P : VQ} (h : Wc E d (.ref f) args P σ) (hd : d ≤ d') (k : ∀ v σ', P v σ' → Q v σ') : Wv E d' (.val (.ref f)) args Q σ := by
  with_unfolding_all
    refine v_code ?_
    intro A s ρ us r B W ra R kk
    exact h A s ρ us (r.less hd) B W ra R fun v u σ' ρ' h' tk H => kk v u σ' ρ' h' tk (k _ _ H)

theorem Wc.imp {f : Value} {args : List (MV Nm)} {d' : Nat} {P : VQ} (h : Wc E d f args P σ) (hd : d ≤ d') (k : ∀ v σ', P v σ' → Q v σ') : Wc E d' f args Q σ := by
  with_unfolding_all
    intro A s ρ us r B W ra R kk
    exact h A s ρ us (r.less hd) B W ra R fun v u σ' ρ' h' tk H => kk v u σ' ρ' h' tk (k _ _ H)
theorem k_meth {n : Nm} {f : Addr} {self : MV Nm} {args : List (MV Nm)} {d' : Nat} {P : VQ} (hs : σ n = some (.meth f self)) (h : Wc E d (.ref f) (self :: args) P σ) (hd : d ≤ d') (k : ∀ v σ', P v σ' → Q v σ') : Wv E d' (.ref n) args Q σ := by
  with_unfolding_all
    refine v_meth hs ?_
    intro A s ρ us r B W ra R kk
    exact h A s ρ us (r.less hd) B W ra R fun v u σ' ρ' h' tk H => kk v u σ' ρ' h' tk (k _ _ H)

theorem k_vimp {f : MV Nm} {args : List (MV Nm)} {d' : Nat} {P : VQ} (h : Wv E d f args P σ) (hd : d ≤ d') (k : ∀ v σ', P v σ' → Q v σ') : Wv E d' f args Q σ := by
  with_unfolding_all
    intro fr cells A s L cl m ρ u us X W r ra E Qc kk
    exact h fr cells A s L cl m ρ u us ⟨X.room.less hd, X.F, X.nl, X.cr, X.fr⟩ W r ra E Qc fun v u σ' ρ' h' tk H r X' => kk v u σ' ρ' h' tk (k _ _ H) r ⟨X.room, X'.F, X'.nl, X'.cr, X'.fr⟩

/-! ## statements -/
theorem w_snil (h : Qn fr σ) : Ws X [] fr Qn Qr σ := by with_unfolding_all exact s_nil h
theorem w_scons {st : Stmt} {r : List Stmt} (h : Wx X st fr (SeqK X r Qn Qr) Qr σ) : Ws X (st :: r) fr Qn Qr σ := by
  with_unfolding_all
    refine s_cons (MWx.imp h fun fl fr' σ' H => ?_)
    cases fl <;> exact H
theorem w_seq {r : List Stmt} (h : Ws X r fr Qn Qr σ) : SeqK X r Qn Qr fr σ := by with_unfolding_all exact h
/-- a statement apart -/
theorem w_mid {st : Stmt} {r : List Stmt} (P : FQ) (h : Wx X st fr P (fun _ _ => False) σ) (k : ∀ fr' σ', P fr' σ' → Ws X r fr' Qn Qr σ') : Ws X (st :: r) fr Qn Qr σ := by
  with_unfolding_all
    refine w_scons ?_
    intro A s L q f cd frm cl m ρ XX W E Qc kk
    refine h A s L q f cd frm cl m ρ XX W E Qc fun fl flc fr' m' σ' ρ' h' tk H => ?_
    cases fl with
    | next => exact kk .next flc fr' m' σ' ρ' h' tk (k _ _ H)
    | ret v => exact H.elim
theorem w_ret {e : Expr} {pos : Pos} (h : We X e fr Qr σ) : Wx X (.Return (some e) pos) fr Qn Qr σ := by with_unfolding_all exact x_ret h
theorem w_ret0 {pos : Pos} (h : Qr .none σ) : Wx X (.Return none pos) fr Qn Qr σ := by with_unfolding_all exact x_ret0 h
theorem w_expr {e : Expr} {pos : Pos} (h : We X e fr (DropK fr Qn) σ) (hk : X.S.kind = .function := by rfl) (hs : ∀ env : Env, swapsWith e none pos.line env = pure false := by intro _; rfl) : Wx X (.Expr e pos) fr Qn Qr σ := by with_unfolding_all exact x_expr h hk hs
theorem w_drop {v : MV Nm} (h : Qn fr σ) : DropK fr Qn v σ := by with_unfolding_all exact h
theorem w_xif {t : Expr} {a b : List Stmt} {pos : Pos} (h : Wt X t fr (IfS X a b fr Qn Qr) σ) : Wx X (.If t a b pos) fr Qn Qr σ := by with_unfolding_all exact x_if h
theorem w_sT {c : Bool} {a b : List Stmt} (e : c = true) (h : Ws X a fr Qn Qr σ) : IfS X a b fr Qn Qr c σ := by unfold IfS; rw [if_pos e]; exact h
theorem w_sF {c : Bool} {a b : List Stmt} (e : c = false) (h : Ws X b fr Qn Qr σ) : IfS X a b fr Qn Qr c σ := by unfold IfS; rw [if_neg (by rw [e]; simp)]; exact h
theorem w_asg {x : Str} {p pos : Pos} {e : Expr} (h : We X e fr (AsgK x fr Qn) σ) (ho : locOk X.S x .local = true := by rfl) (hs : ∀ L cl q f cd frm, swapsWith e (some (.Name x p)) pos.line (mkEnv X.S L cl q f cd frm) = pure false := by intros; rfl) : Wx X (.Assign [.Name x p] e pos) fr Qn Qr σ := by with_unfolding_all exact x_asg h (locOkA ho).1 (locOkA ho).2.1 hs
theorem w_asgK {x : Str} {v : MV Nm} (h : Qn ((x, v) :: fr) σ) : AsgK x fr Qn v σ := by with_unfolding_all exact h
theorem w_aug {x : Str} {p pos : Pos} {e : Expr} {op : Operator} {i : Int} (hl : fr.lookup x = some (.int i)) (h : We X e fr (AugN x op i fr Qn) σ) (ho : locOk X.S x .local = true := by rfl) : Wx X (.AugAssign (.Name x p) op e pos) fr Qn Qr σ := by with_unfolding_all exact x_aug hl h (locOkA ho).1 (locOkA ho).2.1
theorem w_augAdd {x : Str} {i j : Int} (h : Qn ((x, .int (i + j)) :: fr) σ) : AugN x .Add i fr Qn (.int j) σ := by with_unfolding_all exact ⟨j, _, rfl, .inl ⟨rfl, rfl⟩, h⟩
theorem w_augSub {x : Str} {i j : Int} (h : Qn ((x, .int (i - j)) :: fr) σ) : AugN x .Sub i fr Qn (.int j) σ := by with_unfolding_all exact ⟨j, _, rfl, .inr ⟨rfl, rfl⟩, h⟩
theorem w_set {o e : Expr} {name : Str} {p pos : Pos} (h : We X e fr (SetA X o name fr Qn) σ) (hs : ∀ env : Env, swapsWith e (some (.Attribute o name p)) pos.line env = pure false := by intro _; rfl) : Wx X (.Assign [.Attribute o name p] e pos) fr Qn Qr σ := by with_unfolding_all exact x_setattr X.E.T h hs
theorem w_setA {o : Expr} {name : Str} {v : MV Nm} (h : We X o fr (SetB X name v fr Qn) σ) : SetA X o name fr Qn v σ := by with_unfolding_all exact h
theorem w_setB {n : Nm} {C : Addr} {fs : List (Str × MV Nm)} {name : Str} {v : MV Nm} (hs : σ n = some (.inst C fs)) (ho : SetOk (KK X.E.w.params) C name) (hl : fs.length < 1000) (h : Qn fr (σ.set n (.inst C (fset name v fs)))) : SetB X name v fr Qn (.ref n) σ := by with_unfolding_all exact ⟨n, C, fs, rfl, hs, ho, hl, h⟩
theorem w_augat {o e : Expr} {name : Str} {op : Operator} {p pos : Pos} (h : We X o fr (AugA X e op name fr Qn) σ) : Wx X (.AugAssign (.Attribute o name p) op e pos) fr Qn Qr σ := by with_unfolding_all exact x_augattr X.E.T h
theorem w_augA {n : Nm} {C : Addr} {fs : List (Str × MV Nm)} {name : Str} {i : Int} {e : Expr} {op : Operator} (hs : σ n = some (.inst C fs)) (ho : FieldOk (KK X.E.w.params) C name) (hl : fs.lookup name = some (.int i)) (h : We X e fr (AugB X n op name i fr Qn) σ) : AugA X e op name fr Qn (.ref n) σ := by with_unfolding_all exact ⟨n, C, fs, i, rfl, hs, ho, hl, h⟩
theorem w_augBadd {n : Nm} {C : Addr} {fs : List (Str × MV Nm)} {name : Str} {i j : Int} (hs : σ n = some (.inst C fs)) (ho : SetOk (KK X.E.w.params) C name) (hl : fs.length < 1000) (h : Qn fr (σ.set n (.inst C (fset name (.int (i + j)) fs)))) : AugB X n .Add name i fr Qn (.int j) σ := by with_unfolding_all exact ⟨C, fs, j, _, rfl, .inl ⟨rfl, rfl⟩, hs, ho, hl, h⟩
theorem w_augBsub {n : Nm} {C : Addr} {fs : List (Str × MV Nm)} {name : Str} {i j : Int} (hs : σ n = some (.inst C fs)) (ho : SetOk (KK X.E.w.params) C name) (hl : fs.length < 1000) (h : Qn fr (σ.set n (.inst C (fset name (.int (i - j)) fs)))) : AugB X n .Sub name i fr Qn (.int j) σ := by with_unfolding_all exact ⟨C, fs, j, _, rfl, .inr ⟨rfl, rfl⟩, hs, ho, hl, h⟩
theorem w_sit {o i e : Expr} {p pos : Pos} (h : We X e fr (SitA X o i fr Qn) σ) (hs : ∀ env : Env, swapsWith e (some (.Subscript o i p)) pos.line env = pure false := by intro _; rfl) : Wx X (.Assign [.Subscript o i p] e pos) fr Qn Qr σ := by with_unfolding_all exact x_setitem h hs
theorem w_sitA {o i : Expr} {v : MV Nm} (h : We X o fr (SitB X i v fr Qn) σ) : SitA X o i fr Qn v σ := by with_unfolding_all exact h
theorem w_sitB {i : Expr} {v ov : MV Nm} (h : We X i fr (SitC ov v fr Qn) σ) : SitB X i v fr Qn ov σ := by with_unfolding_all exact h
theorem w_sitC {n : Nm} {v iv : MV Nm} {o' : MO Nm} (hp : PutR σ n iv v o') (h : Qn fr (σ.set n o')) : SitC (.ref n) v fr Qn iv σ := by with_unfolding_all exact ⟨n, o', rfl, hp, h⟩
theorem w_tup {ts es : List Expr} {k₁ k₂ : Nat} {p₁ p₂ pos : Pos} (h : Wl X es fr (TupK X ts fr Qn) σ)
    (hs : ∀ L cl q f cd frm, swapsWithSole [Expr.Tuple ts k₁ p₁] (.Tuple es k₂ p₂) pos.line (mkEnv X.S L cl q f cd frm) = pure false := by intros; rfl)
    (hw : ∀ L cl q f cd frm, swappedStores [Expr.Tuple ts k₁ p₁] (.Tuple es k₂ p₂) (mkEnv X.S L cl q f cd frm) = pure none := by intros; rfl)
    (ht : ∀ env : Env, (assignEach ts env).length = ts.length ∧ (assignEach ts env).findIdx? (·.1) = none := by exact fun _ => ⟨rfl, rfl⟩) : Wx X (.Assign [.Tuple ts k₁ p₁] (.Tuple es k₂ p₂) pos) fr Qn Qr σ := by with_unfolding_all exact x_tuple h hs hw ht
theorem w_tupK {ts : List Expr} {vs : List (MV Nm)} (h1 : vs.length = ts.length) (h2 : vs.length ≤ 1000) (h : Wg X ts vs fr Qn σ) : TupK X ts fr Qn vs σ := by with_unfolding_all exact ⟨h1, h2, h⟩
theorem w_nam {ns : List Str} {ts es : List Expr} {k₁ k₂ : Nat} {p₁ p₂ pos : Pos} (h : Wl X es fr (NamK ns fr Qn) σ)
    (hk : X.S.kind = .function := by rfl) (hx : (ns.all fun x => decide (X.S.names.lookup x = some .local)) = true := by rfl)
    (hs : ∀ L cl q f cd frm, swapsWithSole [Expr.Tuple ts k₁ p₁] (.Tuple es k₂ p₂) pos.line (mkEnv X.S L cl q f cd frm) = pure false := by intros; rfl)
    (hw : ∀ L cl q f cd frm, swappedStores [Expr.Tuple ts k₁ p₁] (.Tuple es k₂ p₂) (mkEnv X.S L cl q f cd frm) = pure (some ns) := by intros; rfl) : Wx X (.Assign [.Tuple ts k₁ p₁] (.Tuple es k₂ p₂) pos) fr Qn Qr σ := by with_unfolding_all exact x_names h hk hx hs hw
theorem w_namK {ns : List Str} {vs : List (MV Nm)} (h1 : vs.length = ns.length) (h2 : vs.length ≤ 1000) (h : Qn ((ns.reverse.zip vs.reverse).reverse ++ fr) σ) : NamK ns fr Qn vs σ := by with_unfolding_all exact ⟨h1, h2, h⟩
theorem w_gnil (h : Qn fr σ) : Wg X [] [] fr Qn σ := by with_unfolding_all exact g_nil h
theorem w_gat {o : Expr} {name : Str} {p : Pos} {ts : List Expr} {v : MV Nm} {vs : List (MV Nm)} (h : We X o fr (GatA X name ts v vs fr Qn) σ) : Wg X (.Attribute o name p :: ts) (v :: vs) fr Qn σ := by with_unfolding_all exact g_attr X.E.T h
theorem w_gatA {n : Nm} {C : Addr} {fs : List (Str × MV Nm)} {name : Str} {ts : List Expr} {v : MV Nm} {vs : List (MV Nm)} (hs : σ n = some (.inst C fs)) (ho : SetOk (KK X.E.w.params) C name) (hl : fs.length < 1000) (h : Wg X ts vs fr Qn (σ.set n (.inst C (fset name v fs)))) : GatA X name ts v vs fr Qn (.ref n) σ := by with_unfolding_all exact ⟨n, C, fs, rfl, hs, ho, hl, h⟩
theorem w_git {o i : Expr} {p : Pos} {ts : List Expr} {v : MV Nm} {vs : List (MV Nm)} (h : We X o fr (GitA X i ts v vs fr Qn) σ) : Wg X (.Subscript o i p :: ts) (v :: vs) fr Qn σ := by with_unfolding_all exact g_item h
theorem w_gitA {i : Expr} {ts : List Expr} {ov v : MV Nm} {vs : List (MV Nm)} (h : We X i fr (GitB X ts ov v vs fr Qn) σ) : GitA X i ts v vs fr Qn ov σ := by with_unfolding_all exact h
theorem w_gitB {n : Nm} {ts : List Expr} {v iv : MV Nm} {vs : List (MV Nm)} {o' : MO Nm} (hp : PutR σ n iv v o') (h : Wg X ts vs fr Qn (σ.set n o')) : GitB X ts (.ref n) v vs fr Qn iv σ := by with_unfolding_all exact ⟨n, o', rfl, hp, h⟩

/-! ## loops and defs -/
theorem w_while {test : Expr} {body : List Stmt} {pos : Pos} (I : Nat → FQ) (step : ∀ n fr σ, I n fr σ → Wt X test fr (WhK X body I n fr Qn Qr) σ) (n : Nat) (hI : I n fr σ) : Wx X (.While test body [] pos) fr Qn Qr σ := by
  with_unfolding_all
    refine x_while I (fun n fr σ h => MWt.imp (step n fr σ h) fun b σ₁ H => ?_) n hI
    unfold WhK at H
    cases b with
    | true => exact MWs.imp H fun fl _ _ H => by cases fl <;> exact H
    | false => exact H
theorem w_whT {b : Bool} {body : List Stmt} {I : Nat → FQ} {n : Nat} (e : b = true) (h : Ws X body fr (LessK I n) Qr σ) : WhK X body I n fr Qn Qr b σ := by unfold WhK; rw [if_pos e]; exact h
theorem w_whF {b : Bool} {body : List Stmt} {I : Nat → FQ} {n : Nat} (e : b = false) (h : Qn fr σ) : WhK X body I n fr Qn Qr b σ := by unfold WhK; rw [if_neg (by rw [e]; simp)]; exact h
theorem w_less {I : Nat → FQ} {n k : Nat} (hk : k < n) (h : I k fr σ) : LessK I n fr σ := by with_unfolding_all exact ⟨k, hk, h⟩
theorem w_range {x : Str} {p pos : Pos} {iter : Expr} {body : List Stmt} (h : We X iter fr (RanK X x body fr Qn Qr) σ) (ho : locOk X.S x .local = true := by rfl) (hf : ∀ (env : Env) v, foldedSetIterable iter env v = pure v := by intro _ _; rfl) : Wx X (.For (.Name x p) iter body [] pos) fr Qn Qr σ := by
  with_unfolding_all
    refine x_forRange ?_ (locOkA ho).1 (locOkA ho).2.1 hf
    refine MWe.imp h fun v σ₁ H => ?_
    obtain ⟨I, n, k, a, b, c, d, e, f⟩ := H
    exact ⟨I, n, k, a, b, c, d, fun i fr σ h1 h2 => MWs.imp (e i fr σ h1 h2) fun fl _ _ H => by cases fl <;> exact H, f⟩
theorem w_ranK {x : Str} {body : List Stmt} {n : Nm} (I : Nat → FQ) (k : Nat) (hs : σ n = some (.range (Int.ofNat k))) (hk : k ≤ 1000000) (h0 : I 0 fr σ) (turn : ∀ i fr σ, i < k → I i fr σ → Ws X body ((x, .int i) :: fr) (I (i + 1)) Qr σ) (done : ∀ fr σ, I k fr σ → Qn fr σ) : RanK X x body fr Qn Qr (.ref n) σ := by with_unfolding_all exact ⟨I, n, k, rfl, hs, hk, h0, turn, done⟩
theorem w_for {x : Str} {p pos : Pos} {iter : Expr} {body : List Stmt} (h : We X iter fr (ForK X x body fr Qn Qr) σ) (ho : locOk X.S x .local = true := by rfl) (hf : ∀ (env : Env) v, foldedSetIterable iter env v = pure v := by intro _ _; rfl) : Wx X (.For (.Name x p) iter body [] pos) fr Qn Qr σ := by
  with_unfolding_all
    refine x_for ?_ (locOkA ho).1 (locOkA ho).2.1 hf
    refine MWe.imp h fun v σ₁ H => ?_
    obtain ⟨I, n, vs, a, b, c, d, e, f⟩ := H
    exact ⟨I, n, vs, a, b, c, d, fun i v fr σ h1 h2 => MWs.imp (e i v fr σ h1 h2) fun fl _ _ H => by cases fl <;> exact H, f⟩
theorem w_forK {x : Str} {body : List Stmt} {n : Nm} {vs : List (MV Nm)} (I : Nat → FQ) (hl : vs.length ≤ 1000) (h0 : I 0 fr σ) (hs : ∀ i fr σ, i ≤ vs.length → I i fr σ → σ n = some (.list vs)) (turn : ∀ i v fr σ, vs[i]? = some v → I i fr σ → Ws X body ((x, v) :: fr) (I (i + 1)) Qr σ) (done : ∀ fr σ, I vs.length fr σ → Qn fr σ) : ForK X x body fr Qn Qr (.ref n) σ := by with_unfolding_all exact ⟨I, n, vs, rfl, hl, h0, hs, turn, done⟩

theorem nx_val : nx (RetN Q) Q = (fun (fl : Fl Nm) (_ : LF Nm) σ₁ => Q fl.val σ₁) := by
  funext fl fr' σ'
  cases fl <;> rfl
theorem binds0 {P : List Value → Prop} (h : P []) : ∀ us : List Value, us.length = 0 → P us
  | [], _ => h
theorem bindsS {P : List Value → Prop} {k : Nat} (h : ∀ a, ∀ us : List Value, us.length = k → P (a :: us)) : ∀ us : List Value, us.length = k + 1 → P us
  | a :: us, e => h a us (Nat.succ.inj e)
theorem binds1 {P : List Value → Prop} (h : ∀ a, P [a]) : ∀ us : List Value, us.length = 1 → P us := bindsS fun a => binds0 (h a)
theorem binds2 {P : List Value → Prop} (h : ∀ a b, P [a, b]) : ∀ us : List Value, us.length = 2 → P us := bindsS fun a => bindsS fun b => binds0 (h a b)
theorem binds3 {P : List Value → Prop} (h : ∀ a b c, P [a, b, c]) : ∀ us : List Value, us.length = 3 → P us := bindsS fun a => bindsS fun b => bindsS fun c => binds0 (h a b c)
theorem binds4 {P : List Value → Prop} (h : ∀ a b c d, P [a, b, c, d]) : ∀ us : List Value, us.length = 4 → P us := bindsS fun a => bindsS fun b => bindsS fun c => bindsS fun d => binds0 (h a b c d)
theorem binds6 {P : List Value → Prop} (h : ∀ a b c d e f, P [a, b, c, d, e, f]) : ∀ us : List Value, us.length = 6 → P us := bindsS fun a => bindsS fun b => bindsS fun c => bindsS fun d => bindsS fun e => bindsS fun f => binds0 (h a b c d e f)
theorem w_def {name qual : Str} {params : Arguments} {body : List Stmt} {scope : Scope} {dV kV doc pm cdv ct oc : Value} {an od : Option Addr} {osl : Array (Option Value)} {f : Addr} {args : List (MV Nm)}
    (ho : (KK E.w.params).lookup f = some ⟨oc, od, .func (fnOf name qual params body scope dV kV doc pm an cdv ct), osl⟩) (hcd : codeIn (KK E.w.params) cdv qual = true)
    (hb : ∀ us : List Value, us.length = args.length → bindArgs (fnOf name qual params body scope dV kV doc pm an cdv ct) ⟨us, []⟩ = pure ((params.args.map (·.arg)).zip us)) (hloc : ((params.args.map (·.arg)).all fun y => decide (scope.names.lookup y = some .local)) = true)
    (h : Ws ⟨E, scope, d, []⟩ body ((params.args.map (·.arg)).zip args).reverse (RetN Q) Q σ)
    (hco : scope.isCoroutine = false := by rfl) (hgen : scope.isGenerator = false := by rfl) (hk : scope.kind = .function := by rfl) (hcell : ∀ x ∈ scope.names, x.2 ≠ .cell := by decide) : Wc E (d + 1) (.ref f) args Q σ := by
  with_unfolding_all
    refine c_def E.T ho hcd hb hloc ?_ hco hgen hk hcell
    rw [← nx_val]; exact h
theorem w_defC {name qual x : Str} {params : Arguments} {body : List Stmt} {scope : Scope} {dV kV doc pm cdv ct oc : Value} {an od : Option Addr} {osl : Array (Option Value)} {f : Addr} {a : MV Nm} {cn : List (Str × Nm)}
    (ho : (KK E.w.params).lookup f = some ⟨oc, od, .func (fnOf name qual params body scope dV kV doc pm an cdv ct), osl⟩) (hcd : codeIn (KK E.w.params) cdv qual = true)
    (hb : ∀ u : Value, bindArgs (fnOf name qual params body scope dV kV doc pm an cdv ct) ⟨[u], []⟩ = pure [(x, u)]) (hx : scope.names.lookup x = some .cell) (hx' : ((cellsFrom 0 scope.names []).lookup x).isSome = true)
    (hcn : cn.map (·.1) = (cellsFrom 0 scope.names []).map (·.1)) (hnd : ((cellsFrom 0 scope.names []).map (·.1)).Nodup) (hnn : (cn.map (·.2)).Nodup) (hnf : ∀ p ∈ cn, σ p.2 = none)
    (h : Ws ⟨E, scope, d, cn⟩ body [] (RetN Q) Q (setCells (fun y => if y = x then some a else none) cn σ))
    (hco : scope.isCoroutine = false := by rfl) (hgen : scope.isGenerator = false := by rfl) (hk : scope.kind = .function := by rfl) : Wc E (d + 1) (.ref f) [a] Q σ := by
  with_unfolding_all
    refine c_defC E.T ho hcd hb hx hx' hcn hnd hnn hnf ?_ hco hgen hk
    rw [← nx_val]; exact h
theorem w_clo {n : Nm} {params : Arguments} {body : List Stmt} {scope : Scope} {cells₀ : List (Str × Nm)} {args : List (MV Nm)} (hs : σ n = some (.clo params body scope cells₀))
    (hb : ∀ (us : List Value) name qual cl doc pm an cdv ct, us.length = args.length → bindArgs (fnX name qual params body scope cl .none .none doc pm an cdv ct) ⟨us, []⟩ = pure ((params.args.map (·.arg)).zip us)) (hloc : ((params.args.map (·.arg)).all fun y => decide (scope.names.lookup y = some .local)) = true)
    (h : Ws ⟨E, scope, d, cells₀⟩ body ((params.args.map (·.arg)).zip args).reverse (RetN Q) Q σ)
    (hco : scope.isCoroutine = false := by rfl) (hgen : scope.isGenerator = false := by rfl) (hk : scope.kind = .function := by rfl) (hcell : ∀ x ∈ scope.names, x.2 ≠ .cell := by decide) : Wv E (d + 1) (.ref n) args Q σ := by
  with_unfolding_all
    refine v_clo E.T hs hb hloc ?_ hco hgen hk hcell
    rw [← nx_val]; exact h
theorem wv {f : MV Nm} {args : List (MV Nm)} (h : MWv E.prog E.w E.hB d f args Q σ) : Wv E d f args Q σ := by with_unfolding_all exact h
theorem Wc.o {f : Value} {args : List (MV Nm)} (h : Wc E d f args Q σ) : MWc E.prog E.w E.hB d f args Q σ := by with_unfolding_all exact h
theorem Wx.o {st : Stmt} (h : Wx X st fr Qn Qr σ) : MWx X.E.prog X.E.w X.E.hB X.S X.d X.cells st fr (nx Qn Qr) σ := by with_unfolding_all exact h
theorem Ws.o {b : List Stmt} (h : Ws X b fr Qn Qr σ) : MWs X.E.prog X.E.w X.E.hB X.S X.d X.cells b fr (nx Qn Qr) σ := by with_unfolding_all exact h
/-- the post is any that the facts give -/
theorem cps {f : Value} {args : List (MV Nm)} {P : VQ} (h : ∀ Q : VQ, (∀ v σ', P v σ' → Q v σ') → Wc E d f args Q σ) : Wc E d f args P σ := by with_unfolding_all exact h P fun _ _ h => h
theorem cpv {f : MV Nm} {args : List (MV Nm)} {P : VQ} (h : ∀ Q : VQ, (∀ v σ', P v σ' → Q v σ') → Wv E d f args Q σ) : Wv E d f args P σ := by with_unfolding_all exact h P fun _ _ h => h
end

section
variable {KK : Params → Frag} {X : Cx KK} {E : En KK} {S : Scope} {d : Nat} {cells : List (Str × Nm)} {fr : LF Nm} {σ : Sg Nm} {Q : VQ} {B : BQ} {Qn : FQ} {Qr : VQ} {Ql : LQ}
theorem w_dict0 {pos : Pos} {n : Nm} (hn : σ n = none) (h : Q (.ref n) (σ.set n (.idict []))) : We X (.Dict [] [] pos) fr Q σ := by with_unfolding_all exact e_dict0 hn h
def FsK (X : Cx KK) (x : Str) (i : Int) (body : List Stmt) (fr : LF Nm) (Qn : FQ) (Qr : VQ) : VQ := fun o σ => ∃ (a : Addr) (us : List Value) (I : Nat → FQ), o = .val (.ref a) ∧ X.E.hB.IsList a us.toArray ∧ us.length ≤ 1000 ∧ (∀ u ∈ us, ∃ j t, u = .int j t) ∧ I 0 fr σ ∧
  (∀ k j fr σ, k < i.toNat → I k fr σ → Ws X body ((x, .int j) :: fr) (I (k + 1)) Qr σ) ∧ (∀ k fr σ, k ≤ i.toNat → I k fr σ → Qn fr σ)
theorem w_fs {x : Str} {value : Expr} {i : Int} {kd : Nat} {cp p1 p2 p pos : Pos} {body : List Stmt} (h0 : 0 ≤ i) (h : We X value fr (FsK X x i body fr Qn Qr) σ) (ho : locOk X.S x .local = true := by rfl)
    (hf : ∀ (env : Env) v, foldedSetIterable (.Subscript value (.Slice none (some (.Constant (.int i) kd cp)) none p1) p2) env v = pure v := by intro _ _; rfl)
    (hs : ∃ f : Value → Value → List Value, ∀ l s, subscripted (.Slice none (some (.Constant (.int i) kd cp)) none p1) false (.ref l) (.ref s) = operate (f (.ref l) (.ref s)) (getItem (.ref l) (.ref s)) := by exact ⟨fun a b => [b, a], fun _ _ => rfl⟩) :
    Wx X (.For (.Name x p) (.Subscript value (.Slice none (some (.Constant (.int i) kd cp)) none p1) p2) body [] pos) fr Qn Qr σ := by
  with_unfolding_all
    refine x_forSlice h0 ?_ (locOkA ho).1 (locOkA ho).2.1 hf hs
    refine MWe.imp h fun v σ₁ H => ?_
    obtain ⟨a, us, I, a1, a2, a3, a4, a5, a6, a7⟩ := H
    exact ⟨a, us, I, a1, a2, a3, a4, a5, fun k j fr σ h1 h2 => MWs.imp (a6 k j fr σ h1 h2) fun fl _ _ H => by cases fl <;> exact H, a7⟩
theorem w_fsK {x : Str} {i : Int} {body : List Stmt} {a : Addr} {us : List Value} (I : Nat → FQ) (hb : X.E.hB.IsList a us.toArray) (hl : us.length ≤ 1000) (hu : ∀ u ∈ us, ∃ j t, u = .int j t) (h0 : I 0 fr σ)
    (turn : ∀ k j fr σ, k < i.toNat → I k fr σ → Ws X body ((x, .int j) :: fr) (I (k + 1)) Qr σ) (done : ∀ k fr σ, k ≤ i.toNat → I k fr σ → Qn fr σ) : FsK X x i body fr Qn Qr (.val (.ref a)) σ := ⟨a, us, I, rfl, hb, hl, hu, h0, turn, done⟩
end

section
variable {KK : Params → Frag} {X : Cx KK} {E : En KK} {S : Scope} {d : Nat} {cells : List (Str × Nm)} {fr : LF Nm} {σ : Sg Nm} {Q : VQ} {B : BQ} {Qn : FQ} {Qr : VQ} {Ql : LQ}
def ItDB (o : MV Nm) (Q : VQ) : VQ := fun i σ => ∃ n kvs j v, o = .ref n ∧ i = .int j ∧ σ n = some (.idict kvs) ∧ dget kvs j = some v ∧ Q v σ
def ItDA (X : Cx KK) (slice : Expr) (fr : LF Nm) (Q : VQ) : VQ := fun o σ => We X slice fr (ItDB o Q) σ
theorem w_itD {value slice : Expr} {pos : Pos} (h : We X value fr (ItDA X slice fr Q) σ) (hs : ∀ l k t, subscripted slice false (.ref l) (.int k t) = operate [.ref l, .int k t] (getItem (.ref l) (.int k t)) := by intros; rfl) : We X (.Subscript value slice pos) fr Q σ := by with_unfolding_all exact e_itemD h hs
theorem w_itDA {slice : Expr} {o : MV Nm} (h : We X slice fr (ItDB o Q) σ) : ItDA X slice fr Q o σ := by with_unfolding_all exact h
theorem w_itDB {n : Nm} {kvs : List (Int × MV Nm)} {j : Int} {v : MV Nm} (hs : σ n = some (.idict kvs)) (hg : dget kvs j = some v) (h : Q v σ) : ItDB (.ref n) Q (.int j) σ := ⟨n, kvs, j, v, rfl, rfl, hs, hg, h⟩
def InDB (a : MV Nm) (Q : VQ) : VQ := fun b σ => ∃ n kvs j, a = .int j ∧ b = .ref n ∧ σ n = some (.idict kvs) ∧ Q (.bool (dget kvs j).isSome) σ
def InDA (X : Cx KK) (r : Expr) (fr : LF Nm) (Q : VQ) : VQ := fun a σ => We X r fr (InDB a Q) σ
theorem w_inD {l r : Expr} {pos : Pos} (h : We X l fr (InDA X r fr Q) σ) (hm : behindInMarks .In r = false := by rfl) : We X (.Compare l [.In] [r] pos) fr Q σ := by with_unfolding_all exact e_inD X.E.T h hm
theorem w_inDA {r : Expr} {a : MV Nm} (h : We X r fr (InDB a Q) σ) : InDA X r fr Q a σ := by with_unfolding_all exact h
theorem w_inDB {n : Nm} {kvs : List (Int × MV Nm)} {j : Int} (hs : σ n = some (.idict kvs)) (h : Q (.bool (dget kvs j).isSome) σ) : InDB (.int j) Q (.ref n) σ := ⟨n, kvs, j, rfl, rfl, hs, h⟩
theorem w_tcn {l r : Expr} {pos : Pos} (h : We X l fr (TciA X r fr true B) σ) (hm : behindInMarks .NotEq r = false := by rfl) : Wt X (.Compare l [.NotEq] [r] pos) fr B σ := by with_unfolding_all exact t_cmpInts (neg := true) rfl h hm
theorem w_ecn {l r : Expr} {pos : Pos} (h : We X l fr (EciA X r fr true Q) σ) (hm : behindInMarks .NotEq r = false := by rfl) : We X (.Compare l [.NotEq] [r] pos) fr Q σ := by with_unfolding_all exact e_cmpInts (neg := true) rfl h hm
/-! comprehensions over a list -/
def CmpK (X : Cx KK) (elt : Expr) (x : Str) (scope : Scope) (cells₁ : List (Str × Nm)) (Q : VQ) : VQ := fun v σ₁ => ∃ (n nm : Nm) (vs : List (MV Nm)) (p : MV Nm → Bool) (g : MV Nm → MV Nm), v = .ref n ∧ vs.length ≤ 1000 ∧ σ₁ n = some (.list vs) ∧ σ₁ nm = none ∧
  (∀ u ∈ vs, p u = true) ∧ (∀ u ∈ vs, p u = true → We ⟨X.E, relS scope X.S, X.d, cells₁⟩ elt [(x, u)] (fun y σ' => y = g u ∧ σ' = σ₁) σ₁) ∧ Q (.ref nm) (σ₁.set nm (.list ((vs.filter p).map g)))
def CmpI (X : Cx KK) (elt t : Expr) (x : Str) (scope : Scope) (cells₁ : List (Str × Nm)) (Q : VQ) : VQ := fun v σ₁ => ∃ (n nm : Nm) (vs : List (MV Nm)) (p : MV Nm → Bool) (g : MV Nm → MV Nm), v = .ref n ∧ vs.length ≤ 1000 ∧ σ₁ n = some (.list vs) ∧ σ₁ nm = none ∧
  (∀ u ∈ vs, Wt ⟨X.E, relS scope X.S, X.d, cells₁⟩ t [(x, u)] (fun r σ' => r = p u ∧ σ' = σ₁) σ₁) ∧ (∀ u ∈ vs, p u = true → We ⟨X.E, relS scope X.S, X.d, cells₁⟩ elt [(x, u)] (fun y σ' => y = g u ∧ σ' = σ₁) σ₁) ∧ Q (.ref nm) (σ₁.set nm (.list ((vs.filter p).map g)))
theorem w_comp {elt iter : Expr} {x : Str} {px pos : Pos} {scope : Scope} {cells₁ : List (Str × Nm)} (h : We X iter fr (CmpK X elt x scope cells₁ Q) σ)
    (hcl : ∀ L cl q f cd frm (ρ : Rho Nm), CR ρ X.cells cl → ∃ cl₁, closureFor scope (mkEnv X.S L cl q f cd frm) = pure cl₁ ∧ CR ρ cells₁ cl₁)
    (hcell : ∀ y ∈ scope.names, y.2 ≠ .cell := by decide) (hkind : scope.kind = .function := by rfl) (hnames : ∀ y ∈ scope.names, y.2 = .local → scope.names.lookup y.1 = some .local := by decide) (hx : scope.names.lookup x = some .local := by rfl)
    (hs : ∀ (env : Env) v, foldedSetIterable iter env v = pure v := by intro _ _; rfl) : We X (.ListComp elt [⟨.Name x px, iter, [], 0⟩] scope pos) fr Q σ := by with_unfolding_all exact e_comp h hcl hcell hkind hnames hx hs
theorem w_compI {elt t iter : Expr} {x : Str} {px pos : Pos} {scope : Scope} {cells₁ : List (Str × Nm)} (h : We X iter fr (CmpI X elt t x scope cells₁ Q) σ)
    (hcl : ∀ L cl q f cd frm (ρ : Rho Nm), CR ρ X.cells cl → ∃ cl₁, closureFor scope (mkEnv X.S L cl q f cd frm) = pure cl₁ ∧ CR ρ cells₁ cl₁)
    (hcell : ∀ y ∈ scope.names, y.2 ≠ .cell := by decide) (hkind : scope.kind = .function := by rfl) (hnames : ∀ y ∈ scope.names, y.2 = .local → scope.names.lookup y.1 = some .local := by decide) (hx : scope.names.lookup x = some .local := by rfl)
    (hs : ∀ (env : Env) v, foldedSetIterable iter env v = pure v := by intro _ _; rfl) : We X (.ListComp elt [⟨.Name x px, iter, [t], 0⟩] scope pos) fr Q σ := by with_unfolding_all exact e_comp h hcl hcell hkind hnames hx hs
theorem w_cmpK {elt : Expr} {x : Str} {scope : Scope} {cells₁ : List (Str × Nm)} {n : Nm} (nm : Nm) {vs : List (MV Nm)} (g : MV Nm → MV Nm) (hs : σ n = some (.list vs)) (hl : vs.length ≤ 1000) (hn : σ nm = none)
    (he : ∀ u ∈ vs, We ⟨X.E, relS scope X.S, X.d, cells₁⟩ elt [(x, u)] (fun y σ' => y = g u ∧ σ' = σ) σ) (h : Q (.ref nm) (σ.set nm (.list (vs.map g)))) : CmpK X elt x scope cells₁ Q (.ref n) σ :=
  ⟨n, nm, vs, fun _ => true, g, rfl, hl, hs, hn, fun _ _ => rfl, fun u hu _ => he u hu, by rw [List.filter_eq_self.mpr fun _ _ => rfl]; exact h⟩
def CmvK (X : Cx KK) (name : Str) (Q : VQ) : VQ := fun v σ₁ => ∃ (n nd nm : Nm) (kvs : List (Int × MV Nm)) (g : MV Nm → MV Nm), v = .ref n ∧ σ₁ n = some (.view nd) ∧ σ₁ nd = some (.idict kvs) ∧ kvs.length ≤ 1000 ∧ σ₁ nm = none ∧
      (∀ q ∈ kvs.map (·.2), ∃ o C fs, q = .ref o ∧ σ₁ o = some (.inst C fs) ∧ FieldOk (KK X.E.w.params) C name ∧ fs.lookup name = some (g q)) ∧ Q (.ref nm) (σ₁.set nm (.list ((kvs.map (·.2)).map g)))
theorem w_compV {iter : Expr} {x name : Str} {px p1 p2 pos : Pos} {scope : Scope} (h : We X iter fr (CmvK X name Q) σ) (hcl : ∀ L cl q f cd frm, ∃ cl₁, closureFor scope (mkEnv X.S L cl q f cd frm) = pure cl₁ := by exact fun _ _ _ _ _ _ => ⟨_, rfl⟩)
    (hcell : ∀ y ∈ scope.names, y.2 ≠ .cell := by decide) (hkind : scope.kind = .function := by rfl) (hnames : ∀ y ∈ scope.names, y.2 = .local → scope.names.lookup y.1 = some .local := by decide) (hx : scope.names.lookup x = some .local := by rfl) (hd : (x == ("__debug__" : Str)) = false := by decide)
    (hs : ∀ (env : Env) v, foldedSetIterable iter env v = pure v := by intro _ _; rfl)
    (he : ∀ env, eval (.Attribute (.Name x p1) name p2) env = (do let o' ← eval (.Name x p1) env; standAt p2.atName; let r ← holding [o'] (getAttr o' name true); letTemporaryGo (.Name x p1) o' r; pure r) := by intro _; rfl) :
    We X (.ListComp (.Attribute (.Name x p1) name p2) [⟨.Name x px, iter, [], 0⟩] scope pos) fr Q σ := by with_unfolding_all exact e_compVals X.E.T h hcl hcell hkind hnames hx hd hs he
/-- one cell goes along -/
theorem cells1 {S : Scope} {x : Str} {n : Nm} {scope : Scope} (h : ∀ L c q f cd frm, closureFor scope (mkEnv S L [(x, c)] q f cd frm) = pure [(x, c)]) : ∀ L cl q f cd frm (ρ : Rho Nm), CR ρ [(x, n)] cl → ∃ cl₁, closureFor scope (mkEnv S L cl q f cd frm) = pure cl₁ ∧ CR ρ [(x, n)] cl₁ := by
  intro L cl q f cd frm ρ hcr
  cases hcr with | @cons a b as bs hab t => cases t with | nil =>
  obtain ⟨b1, b2⟩ := b
  obtain ⟨g1, g2⟩ := hab
  dsimp only at g1 g2
  subst g1
  exact ⟨[(_, b2)], h .., .cons ⟨rfl, g2⟩ .nil⟩
theorem Wt.imp {e : Expr} {B' : BQ} (h : Wt X e fr B σ) (k : ∀ b σ', B b σ' → B' b σ') : Wt X e fr B' σ := by with_unfolding_all exact MWt.imp h k
/-- a last test that turns nothing -/
theorem w_and1 {c v : Bool} {e : Expr} (h : Wt X e fr (fun c' σ' => c' = v ∧ σ' = σ) σ) (k : B (c && v) σ) : AndT X [e] fr B c σ := by
  cases c with
  | false => exact w_andF rfl k
  | true =>
    refine w_andT rfl (w_band (h.imp ?_))
    rintro b _ ⟨rfl, rfl⟩
    cases b with
    | true => exact w_andT rfl (w_bandN k)
    | false => exact w_andF rfl k
def AsgC (n : Nm) (fr : LF Nm) (Qn : FQ) : VQ := fun v σ => ∃ u₀, σ n = some (.cell u₀) ∧ Qn fr (σ.set n (.cell (some v)))
theorem w_asgC {x : Str} {p pos : Pos} {e : Expr} {n : Nm} (hc : X.cells.lookup x = some n) (h : We X e fr (AsgC n fr Qn) σ) (ho : locOk X.S x .cell = true := by rfl) (hs : ∀ L cl q f cd frm, swapsWith e (some (.Name x p)) pos.line (mkEnv X.S L cl q f cd frm) = pure false := by intros; rfl) : Wx X (.Assign [.Name x p] e pos) fr Qn Qr σ := by with_unfolding_all exact x_asgCell hc h (locOkA ho).1 (locOkA ho).2.1 hs
theorem w_asgCK {n : Nm} {v : MV Nm} {u₀ : Option (MV Nm)} (hs : σ n = some (.cell u₀)) (h : Qn fr (σ.set n (.cell (some v)))) : AsgC n fr Qn v σ := ⟨u₀, hs, h⟩
theorem cells2s {S : Scope} {x y : Str} {n m : Nm} {scope : Scope} (h : ∀ L c c' q f cd frm, closureFor scope (mkEnv S L [(x, c), (y, c')] q f cd frm) = pure [(y, c'), (x, c)]) : ∀ L cl q f cd frm (ρ : Rho Nm), CR ρ [(x, n), (y, m)] cl → ∃ cl₁, closureFor scope (mkEnv S L cl q f cd frm) = pure cl₁ ∧ CR ρ [(y, m), (x, n)] cl₁ := by
  intro L cl q f cd frm ρ hcr
  cases hcr with | @cons a b as bs hab t => cases t with | @cons a2 b2 as2 bs2 hab2 t2 => cases t2 with | nil =>
  obtain ⟨b1, c1⟩ := b
  obtain ⟨b2, c2⟩ := b2
  obtain ⟨g1, g2⟩ := hab
  obtain ⟨g3, g4⟩ := hab2
  dsimp only at g1 g2 g3 g4
  subst g1 g3
  exact ⟨_, h .., .cons ⟨rfl, g4⟩ (.cons ⟨rfl, g2⟩ .nil)⟩
end

section
local macro_rules | `(tactic| o_head $_) => `(tactic| assumption)
/-- for its K alone: the written part of the heap, made ahead of the contracts -/
theorem P (h : PySem.Challenge.rw_pc0170_01.row.Holds) : PySem.Challenge.rw_pc0170_01.row.Holds := by
  k_head
end
theorem filled : (PySem.Challenge.rw_pc0170_01, P.heap_1) = (PySem.Challenge.rw_pc0170_01, P.heap_1) := by
  k_fill
  rfl

structure Kn where
  r : Nat
  g : Nat
  a : Nat
  w : Nat
  s : Nat

def rf (l : List Int) : List (MV Nm) := l.map fun i => .ref (.ob i)
def cycF (V : Cy) (κ : Kn) : List (Str × MV Nm) :=
  [("objects", .ref .objs), ("marks", .ref .mks), ("root_list", .ref (.t κ.r)), ("phase", .int V.phase), ("to_sweep", .ref (.t κ.s)), ("total", .int V.total), ("estimate", .int V.estimate), ("debt", .int V.debt),
   ("step_size", .int 64), ("sweep_max", .int V.smax), ("threshold", .int V.threshold), ("pause", .int 200), ("step_mul", .int 200), ("cycles", .int V.cycles)]
def mksF (V : Cy) (κ : Kn) : List (Str × MV Nm) :=
  [("children", .ref (.x 0)), ("sort_of", .ref (.x 1)), ("white", .int V.white), ("grey", .ref (.t κ.g)), ("grey_again", .ref (.t κ.a)), ("weak", .ref (.t κ.w))]
def obF (V : Cy) (i : Int) : List (Str × MV Nm) := [("number", .int i), ("mark", .int (V.mark i)), ("size", .int (V.size i))]

structure Rep (V : Cy) (κ : Kn) (c : Nat) (σ : Sg Nm) : Prop where
  cyc : σ .cyc = some (.inst 346 (cycF V κ))
  mks : σ .mks = some (.inst 136 (mksF V κ))
  gr : σ (.t κ.g) = some (.list (rf V.grey))
  ag : σ (.t κ.a) = some (.list (rf V.again))
  wk : σ (.t κ.w) = some (.list [])
  rt : σ (.t κ.r) = some (.list (rf V.root))
  sw : σ (.t κ.s) = some (.list (V.swp.map .int))
  os : σ .objs = some (.idict (V.objs.map fun i => (i, .ref (.ob i))))
  o : ∀ i, V.rng i → σ (.ob i) = some (.inst 367 (obF V i))
  no : ∀ i, ¬ V.rng i → σ (.ob i) = none
  lo : ∀ k, c ≤ k → σ (.t k) = none
  kc : κ.g < c ∧ κ.a < c ∧ κ.w < c ∧ κ.r < c ∧ κ.s < c
  kd : κ.g ≠ κ.a ∧ κ.g ≠ κ.w ∧ κ.g ≠ κ.r ∧ κ.g ≠ κ.s ∧ κ.a ≠ κ.w ∧ κ.a ≠ κ.r ∧ κ.a ≠ κ.s ∧ κ.w ≠ κ.r ∧ κ.w ≠ κ.s ∧ κ.r ≠ κ.s

structure Out (κ : Kn) (c : Nat) (σ σ' : Sg Nm) : Prop where
  x : ∀ i, σ' (.x i) = σ (.x i)
  t : ∀ k, k < c → k ≠ κ.g → k ≠ κ.a → k ≠ κ.w → k ≠ κ.r → k ≠ κ.s → σ' (.t k) = σ (.t k)
theorem Out.refl (κ : Kn) (c : Nat) (σ : Sg Nm) : Out κ c σ σ := ⟨fun _ => rfl, fun _ _ _ _ _ _ _ => rfl⟩

theorem lk_cons {x y : Str} {v : MV Nm} {fr : LF Nm} (h : (y == x) = false) : List.lookup y ((x, v) :: fr) = fr.lookup y := by rw [List.lookup_cons, h]
theorem binV_mulr {N : Type} {i j : Int} (h : Builtin.Int.intBits j ≤ 64) : binV .Mult (.int i : MV N) (.int j) = some (.int (i * j)) := by
  show (if decide (Builtin.Int.intBits i ≤ 64) || decide (Builtin.Int.intBits j ≤ 64) then some (MV.int (i * j)) else none : Option (MV N)) = _
  rw [if_pos (by simp [h])]

local macro_rules | `(tactic| walk_at "loc") => `(tactic| first | rfl | assumption | exact (lk_cons (by decide)).trans (by walk_at "loc"))
local macro_rules | `(tactic| walk_at "ne") => `(tactic| first | (intro e; cases e; done) | (intro e; injection e with e; (try dsimp only at e); omega))
local macro_rules | `(tactic| walk_at "lk") => `(tactic| first
  | assumption
  | exact Sg.set_self _ _ _
  | exact Rep.cyc (by assumption)
  | exact Rep.mks (by assumption)
  | exact Rep.o (by assumption) _ (by assumption)
  | exact Rep.os (by assumption)
  | exact Rep.gr (by assumption)
  | exact Rep.ag (by assumption)
  | exact Rep.wk (by assumption)
  | exact Rep.rt (by assumption)
  | exact Rep.sw (by assumption)
  | exact (Sg.set_ne _ _ (by walk_at "ne")).trans (by walk_at "lk"))
local macro_rules | `(tactic| walk_at "fo") => `(tactic| exact ⟨by k_is, by k_is, by k_is⟩)
local macro_rules | `(tactic| walk_at "so") => `(tactic| exact ⟨by k_is, by k_is, by k_is, by k_is⟩)
local macro_rules | `(tactic| walk_at "mr") => `(tactic| first
  | exact MRes.meth (by walk_at "lk") ⟨by k_is, by k_is, by k_is⟩ (by rfl)
  | exact MRes.field (by walk_at "lk") ⟨by k_is, by k_is, by k_is⟩ (by rfl)
  | exact MRes.list (by walk_at "lk") (by first | exact ⟨PySem.F.slot_list_append, PySem.F.type_list_append⟩ | exact ⟨PySem.F.slot_list_extend, PySem.F.type_list_extend⟩ | exact ⟨PySem.F.slot_list_pop, PySem.F.type_list_pop⟩ | exact ⟨PySem.F.slot_list_index, PySem.F.type_list_index⟩ | exact ⟨PySem.F.slot_list_remove, PySem.F.type_list_remove⟩) rfl
  | exact MRes.idict (by walk_at "lk") (by first | exact ⟨PySem.F.slot_dict_values, PySem.F.type_dict_values⟩ | exact ⟨PySem.F.slot_dict_get, PySem.F.type_dict_get⟩ | exact ⟨PySem.F.slot_dict_pop, PySem.F.type_dict_pop⟩) rfl)
local macro_rules | `(tactic| walk_at "keeps") => `(tactic| first | exact .inl (by k_is) | exact .inr (.inl ⟨_, rfl⟩) | exact .inr (.inr ⟨_, rfl⟩))
local macro_rules | `(tactic| walk_at "fresh") => `(tactic| first
  | assumption
  | exact Rep.lo (by assumption) _ (by omega)
  | exact Rep.no (by assumption) _ (by assumption)
  | exact (Sg.set_ne _ _ (by walk_at "ne")).trans (by walk_at "fresh"))
local macro_rules | `(tactic| walk_at "tr") => `(tactic| first | assumption | rfl | decide)
local macro_rules | `(tactic| walk_at "bin") => `(tactic| first | exact binV_mulr (by decide) | rfl)
local macro_rules | `(tactic| walk_at "len") => `(tactic| exact Nat.le_of_ble_eq_true rfl)
local macro_rules | `(tactic| walk_at "mw1") => `(tactic| first
  | ((with_reducible show We _ _ _ _ _); first
      | ((with_reducible show We _ (Expr.Attribute _ (Str.ofString "is_dead") _) _ _ _); refine w_bmeth ?_)
      | ((with_reducible show We _ (Expr.Attribute _ (Str.ofString "free") _) _ _ _); refine w_bmeth ?_)
      | ((with_reducible show We _ (Expr.Attribute _ (Str.ofString "make_white") _) _ _ _); refine w_bmeth ?_)
      | ((with_reducible show We _ (Expr.Compare _ [CmpOp.In] _ _) _ _ _); refine w_inD ?_)
      | ((with_reducible show We _ (Expr.Compare (Expr.List _ _) [CmpOp.NotEq] _ _) _ _ _); refine w_ecn ?_)
      | ((with_reducible show We _ (Expr.Compare (Expr.List _ _) [CmpOp.Eq] _ _) _ _ _); refine w_eci ?_)
      | ((with_reducible show We _ (Expr.Compare (Expr.Call _ _ _ _) _ _ _) _ _ _); refine w_eci ?_)
      | ((with_reducible show We _ (Expr.Subscript _ (Expr.Constant (Const.str _) _ _) _) _ _ _); refine w_itS ?_)
      | refine w_local (by walk_at "loc") ?_ | refine w_int ?_ | refine w_none ?_ | refine w_str ?_ | refine w_bool ?_ | refine w_cell (by rfl) (by walk_at "lk") ?_ | refine w_free (by rfl) (by walk_at "lk") ?_ | refine w_attr ?_ | refine w_cmp ?_ | refine w_bin ?_ | refine w_call ?_ | refine w_meth ?_
      | refine w_glob (by k_is) (fun _ => by first | exact .int _ _ | exact .val _ rfl) ?_ | refine w_builtin (by k_is) rfl ?_ | refine w_or ?_ | refine w_and ?_ | refine w_one ?_ | refine w_not ?_ | refine w_if ?_ | refine w_list ?_)
  | ((with_reducible show AttrK _ _ _ _ _); refine w_attrK (by walk_at "lk") (by walk_at "fo") (by rfl) ?_)
  | ((with_reducible show Ws _ _ _ _ _ _); first | refine w_scons ?_ | refine w_snil ?_)
  | ((with_reducible show SeqK _ _ _ _ _ _); refine w_seq ?_)
  | ((with_reducible show DropK _ _ _ _); refine w_drop ?_)
  | ((with_reducible show AsgK _ _ _ _ _); refine w_asgK ?_)
  | ((with_reducible show Wx _ _ _ _ _ _); first | refine w_xif ?_ | refine w_ret ?_ | refine w_ret0 ?_ | refine w_expr ?_ | refine w_asg ?_ | refine w_set ?_ | refine w_augat ?_ | refine w_tup ?_ | refine w_sit ?_ | refine w_aug (by walk_at "loc") ?_)
  | ((with_reducible show Wt _ _ _ _ _); first
      | ((with_reducible show Wt _ (Expr.Compare _ [CmpOp.In] _ _) _ _ _); refine w_tin ?_)
      | ((with_reducible show Wt _ (Expr.Compare _ [CmpOp.NotIn] _ _) _ _ _); refine w_tnin ?_)
      | ((with_reducible show Wt _ (Expr.Compare _ [CmpOp.Eq] [Expr.List _ _] _) _ _ _); refine w_tci ?_)
      | ((with_reducible show Wt _ (Expr.Compare _ [CmpOp.NotEq] [Expr.List _ _] _) _ _ _); refine w_tcn ?_)
      | ((with_reducible show Wt _ (Expr.Compare (Expr.Call _ _ _ _) [CmpOp.NotEq] _ _) _ _ _); refine w_tcn ?_)
      | refine w_tcmp ?_ | refine w_tnot ?_ | refine w_tbool ?_ | refine w_plain ?_)
  | ((with_reducible show TcmA _ _ _ _ _ _ _); refine w_tcmA ?_)
  | ((with_reducible show TcmB _ _ _ _ _); refine w_tcmB (by rfl) ?_)
  | ((with_reducible show IfS _ _ _ _ _ _ _ _); first | refine w_sT (by walk_at "tr") ?_ | refine w_sF (by walk_at "tr") ?_)
  | ((with_reducible show WhK _ _ _ _ _ _ _ _ _); first | refine w_whT (by walk_at "tr") ?_ | refine w_whF (by walk_at "tr") ?_)
  | ((with_reducible show SetA _ _ _ _ _ _ _); refine w_setA ?_)
  | ((with_reducible show SetB _ _ _ _ _ _ _); refine w_setB (by walk_at "lk") (by walk_at "so") (by walk_at "len") ?_)
  | ((with_reducible show BinA _ _ _ _ _ _ _); refine w_binA ?_)
  | ((with_reducible show BinB _ _ _ _ _); refine w_binB (by walk_at "bin") ?_)
  | ((with_reducible show CmpA _ _ _ _ _ _ _); refine w_cmpA ?_)
  | ((with_reducible show CmpB _ _ _ _ _); refine w_cmpB (by rfl) ?_)
  | ((with_reducible show CallA _ _ _ _ _ _); first | refine w_callN ?_ | refine w_call0 (by walk_at "keeps") ?_)
  | ((with_reducible show MethA _ _ _ _ _ _ _); first | refine w_methN (by walk_at "mr") ?_ | refine w_meth0 (by walk_at "mr") (by walk_at "keeps") ?_)
  | ((with_reducible show Wl _ _ _ _ _); first | refine w_lcons ?_ | refine w_lnil ?_)
  | ((with_reducible show ConA _ _ _ _ _ _); refine w_conA ?_)
  | ((with_reducible show ConB _ _ _ _); refine w_conB ?_)
  | ((with_reducible show FinK _ _ _ _ _ _); refine w_fin (by walk_at "keeps") ?_)
  | ((with_reducible show TruK _ _ _); refine w_tru (by rfl) ?_)
  | ((with_reducible show NotT _ _ _); refine w_notT ?_)
  | ((with_reducible show NotV _ _ _); refine w_notV (by rfl) ?_)
  | ((with_reducible show AugA _ _ _ _ _ _ _ _); refine w_augA (by walk_at "lk") (by walk_at "fo") (by rfl) ?_)
  | ((with_reducible show AugB _ _ _ _ _ _ _ _ _); first | refine w_augBadd (by walk_at "lk") (by walk_at "so") (by walk_at "len") ?_ | refine w_augBsub (by walk_at "lk") (by walk_at "so") (by walk_at "len") ?_)
  | ((with_reducible show AugN _ _ _ _ _ _ _); first | refine w_augAdd ?_ | refine w_augSub ?_)
  | ((with_reducible show Wb _ _ _ _ _ _); first | refine w_band ?_ | refine w_bor ?_ | refine w_bandN ?_ | refine w_borN ?_)
  | ((with_reducible show AndT _ _ _ _ _ _); first | refine w_andT (by walk_at "tr") ?_ | refine w_andF (by walk_at "tr") ?_)
  | ((with_reducible show OrT _ _ _ _ _ _); first | refine w_orT (by walk_at "tr") ?_ | refine w_orF (by walk_at "tr") ?_)
  | ((with_reducible show AndV _ _ _ _ _ _); first | refine w_andVT (by rfl) (by walk_at "tr") ?_ | refine w_andVF (by rfl) (by walk_at "tr") ?_)
  | ((with_reducible show OrV _ _ _ _ _ _); first | refine w_orVT (by rfl) (by walk_at "tr") ?_ | refine w_orVF (by rfl) (by walk_at "tr") ?_)
  | ((with_reducible show IfE _ _ _ _ _ _ _); first | refine w_ifT (by walk_at "tr") ?_ | refine w_ifF (by walk_at "tr") ?_)
  | ((with_reducible show ItDA _ _ _ _ _ _); refine w_itDA ?_)
  | ((with_reducible show InDA _ _ _ _ _ _); refine w_inDA ?_)
  | ((with_reducible show ItSA _ _ _ _ _ _); refine w_itSA ?_)
  | ((with_reducible show ItSB _ _ _ _); refine w_itSB (by walk_at "lk") (by rfl) ?_)
  | ((with_reducible show Wg _ _ _ _ _ _); first | refine w_gat ?_ | refine w_gnil ?_ | refine w_git ?_)
  | ((with_reducible show GatA _ _ _ _ _ _ _ _ _); refine w_gatA (by walk_at "lk") (by walk_at "so") (by walk_at "len") ?_)
  | ((with_reducible show GitA _ _ _ _ _ _ _ _ _); refine w_gitA ?_)
  | ((with_reducible show GitB _ _ _ _ _ _ _ _ _); refine w_gitB (.str (by walk_at "lk") (by walk_at "len")) ?_)
  | ((with_reducible show SitA _ _ _ _ _ _ _); refine w_sitA ?_)
  | ((with_reducible show SitB _ _ _ _ _ _ _); refine w_sitB ?_)
  | ((with_reducible show SitC _ _ _ _ _ _); refine w_sitC (.str (by walk_at "lk") (by walk_at "len")) ?_)
  | ((with_reducible show TupK _ _ _ _ _ _); refine w_tupK rfl (by walk_at "len") ?_)
  | ((with_reducible show NamK _ _ _ _ _); refine w_namK rfl (by walk_at "len") ?_)
  | ((with_reducible show TinA _ _ _ _ _ _ _); refine w_tinA ?_)
  | ((with_reducible show TciA _ _ _ _ _ _ _); refine w_tciA ?_)
  | ((with_reducible show EciA _ _ _ _ _ _ _); refine w_eciA ?_)
  | ((with_reducible show ItLA _ _ _ _ _ _); refine w_itLA ?_))
local macro_rules | `(tactic| walk_at "mw") => `(tactic| (repeat (walk_at "mw1")))
local macro_rules | `(tactic| walk_at "binds") => `(tactic| first
  | exact binds1 (fun _ => rfl) | exact binds2 (fun _ _ => rfl) | exact binds3 (fun _ _ _ => rfl) | exact binds4 (fun _ _ _ _ => rfl) | exact binds6 (fun _ _ _ _ _ _ => rfl))

section
variable {E : En P.heap_1} {V : Cy} {κ : Kn} {c : Nat} {σ : Sg Nm}

theorem c_isWhite (R : Rep V κ c σ) {i : Int} (hi : V.rng i) : Wc E 1 (.ref 28) [.ref (.ob i)] (fun v σ' => v = .bool (decide (V.mark i < 2)) ∧ σ = σ') σ := by
  refine cps fun Q hQ => ?_
  refine w_def (by k_is) (by k_is) (by walk_at "binds") (by rfl) ?_
  walk_at "mw"
  exact hQ _ _ ⟨rfl, rfl⟩

theorem Rep.setMark (R : Rep V κ c σ) {i : Int} (hi : V.rng i) (m : Int) : Rep (V.setMark i m) κ c (σ.set (.ob i) (.inst 367 (obF (V.setMark i m) i))) where
  cyc := (Sg.set_ne _ _ (by simp)).trans R.cyc
  mks := (Sg.set_ne _ _ (by simp)).trans R.mks
  gr := (Sg.set_ne _ _ (by simp)).trans R.gr
  ag := (Sg.set_ne _ _ (by simp)).trans R.ag
  wk := (Sg.set_ne _ _ (by simp)).trans R.wk
  rt := (Sg.set_ne _ _ (by simp)).trans R.rt
  sw := (Sg.set_ne _ _ (by simp)).trans R.sw
  os := (Sg.set_ne _ _ (by simp)).trans R.os
  o := fun j hj => by
    by_cases q : j = i
    · subst q; exact Sg.set_self ..
    · rw [Sg.set_ne _ _ (by intro e; injection e; exact q (by assumption)), R.o j hj]
      simp [obF, Cy.setMark, q]
  no := fun j hj => by
    have q : j ≠ i := fun z => hj (z ▸ hi)
    rw [Sg.set_ne _ _ (by intro e; injection e; exact q (by assumption)), R.no j hj]
  lo := fun k hk => by simpa [Sg.set] using R.lo k hk
  kc := R.kc
  kd := R.kd
theorem fset_mark {V : Cy} {i m : Int} : fset "mark" (.int m) (obF V i) = obF (V.setMark i m) i := by
  unfold obF Cy.setMark
  simp only [fset]
  rw [if_neg (by decide), if_pos (by decide)]
  simp
theorem Out.ob {i : Int} {o : MO Nm} : Out κ c σ (σ.set (.ob i) o) := ⟨fun _ => by simp [Sg.set], fun _ _ _ _ _ _ _ => by simp [Sg.set]⟩
theorem Out.trans {κ κ' : Kn} {c c' : Nat} {σ σ' σ'' : Sg Nm} (a : Out κ c σ σ') (b : Out κ' c' σ' σ'') (hc : c ≤ c') (hk : ∀ k, k < c → k ≠ κ.g → k ≠ κ.a → k ≠ κ.w → k ≠ κ.r → k ≠ κ.s → k ≠ κ'.g ∧ k ≠ κ'.a ∧ k ≠ κ'.w ∧ k ≠ κ'.r ∧ k ≠ κ'.s) : Out κ c σ σ'' :=
  ⟨fun i => (b.x i).trans (a.x i), fun k h0 h1 h2 h3 h4 h5 => by
    obtain ⟨g1, g2, g3, g4, g5⟩ := hk k h0 h1 h2 h3 h4 h5
    exact (b.t k (Nat.lt_of_lt_of_le h0 hc) g1 g2 g3 g4 g5).trans (a.t k h0 h1 h2 h3 h4 h5)⟩
theorem Out.trans' {κ : Kn} {c c' : Nat} {σ σ' σ'' : Sg Nm} (a : Out κ c σ σ') (b : Out κ c' σ' σ'') (hc : c ≤ c') : Out κ c σ σ'' := a.trans b hc fun _ _ h1 h2 h3 h4 h5 => ⟨h1, h2, h3, h4, h5⟩

def Cy.dead (V : Cy) (i : Int) : Bool := V.mark i == 4 || (decide (V.mark i < 2) && V.mark i != V.white)
theorem c_isDead (R : Rep V κ c σ) {i : Int} (hi : V.rng i) : Wc E 2 (.ref 49) [.ref .mks, .ref (.ob i)] (fun v σ' => v = .bool (V.dead i) ∧ σ = σ') σ := by
  refine cps fun Q hQ => ?_
  refine w_def (by k_is) (by k_is) (by walk_at "binds") (by rfl) ?_
  cases h : (V.mark i == 4) with
  | true =>
    walk_at "mw"
    exact hQ _ _ ⟨by rw [Cy.dead, h]; rfl, rfl⟩
  | false =>
    walk_at "mw"
    refine k_code (c_isWhite R hi) (by decide) ?_
    rintro _ _ ⟨rfl, rfl⟩
    cases h2 : decide (V.mark i < 2) with
    | true =>
      walk_at "mw"
      exact hQ _ _ ⟨by rw [Cy.dead, h, h2]; rfl, rfl⟩
    | false =>
      walk_at "mw"
      exact hQ _ _ ⟨by rw [Cy.dead, h, h2]; rfl, rfl⟩
theorem c_makeWhite (R : Rep V κ c σ) {i : Int} (hi : V.rng i) : Wc E 1 (.ref 56) [.ref .mks, .ref (.ob i)] (fun v σ' => v = .none ∧ Rep (V.setMark i V.white) κ c σ' ∧ Out κ c σ σ') σ := by
  refine cps fun Q hQ => ?_
  refine w_def (by k_is) (by k_is) (by walk_at "binds") (by rfl) ?_
  walk_at "mw"
  refine hQ _ _ ⟨rfl, ?_⟩
  rw [fset_mark]
  exact ⟨R.setMark hi _, .ob⟩

theorem rf_get {l : List Int} {j : Nat} {v : MV Nm} (h : (rf l)[j]? = some v) : ∃ k, v = .ref (.ob k) ∧ l[j]? = some k := by
  unfold rf at h
  rw [List.getElem?_map] at h
  obtain ⟨k, hk, rfl⟩ := Option.map_eq_some_iff.mp h
  exact ⟨k, rfl, hk⟩
theorem rf_len (l : List Int) : (rf l).length = l.length := List.length_map ..

structure Law {KK : Params → Frag} (E : En KK) (n : Int) (P : Sg Nm → Prop) (kd : Int → List Int) (so : Int → Int) : Prop where
  keep : ∀ σ σ', (∀ i, σ' (.x i) = σ (.x i)) → P σ → P σ'
  kn : ∀ i, 1 ≤ i → i ≤ n → ∀ j ∈ kd i, 1 ≤ j ∧ j ≤ n
  kl : ∀ i, (kd i).length ≤ 1000
  so3 : ∀ i, so i = 0 ∨ so i = 1 ∨ so i = 3
  led : ∀ V κ c σ i, V.n = n → P σ → Rep V κ c σ → V.rng i → Keeps (KK E.w.params) σ (.ref (.x 0)) ∧ Wv E 2 (.ref (.x 0)) [.ref (.ob i)] (fun v σ' => ∃ m c', v = .ref (.t m) ∧ c ≤ m ∧ m < c' ∧ Rep V κ c' σ' ∧ Out κ c σ σ' ∧ σ' (.t m) = some (.list (rf (kd i)))) σ
  how : ∀ V κ c σ i, V.n = n → P σ → Rep V κ c σ → V.rng i → Keeps (KK E.w.params) σ (.ref (.x 1)) ∧ Wv E 1 (.ref (.x 1)) [.ref (.ob i)] (fun v σ' => v = .int (so i) ∧ σ = σ') σ

theorem Law.out {n : Int} {P : Sg Nm → Prop} {kd : Int → List Int} {so : Int → Int} (Lw : Law E n P kd so) {σ' : Sg Nm} (O : Out κ c σ σ') (h : P σ) : P σ' := Lw.keep _ _ O.x h
theorem Law.put {n : Int} {P : Sg Nm → Prop} {kd : Int → List Int} {so : Int → Int} (Lw : Law E n P kd so) {m : Nm} {o : MO Nm} (h : P σ) (hm : ∀ i, m ≠ .x i := by intro i e; cases e) : P (σ.set m o) :=
  Lw.keep _ _ (fun i => Sg.set_ne _ _ (fun e => hm i e.symm)) h

theorem tne {a b : Nat} (h : a ≠ b) : (Nm.t a) ≠ Nm.t b := fun e => h (Nm.t.inj e)
theorem Rep.put (R : Rep V κ c σ) {k : Nat} (hk : k < c ∧ k ≠ κ.g ∧ k ≠ κ.a ∧ k ≠ κ.w ∧ k ≠ κ.r ∧ k ≠ κ.s) (o : MO Nm) : Rep V κ c (σ.set (.t k) o) where
  cyc := (Sg.set_ne _ _ Nm.noConfusion).trans R.cyc
  mks := (Sg.set_ne _ _ Nm.noConfusion).trans R.mks
  gr := (Sg.set_ne _ _ (tne (Ne.symm hk.2.1))).trans R.gr
  ag := (Sg.set_ne _ _ (tne (Ne.symm hk.2.2.1))).trans R.ag
  wk := (Sg.set_ne _ _ (tne (Ne.symm hk.2.2.2.1))).trans R.wk
  rt := (Sg.set_ne _ _ (tne (Ne.symm hk.2.2.2.2.1))).trans R.rt
  sw := (Sg.set_ne _ _ (tne (Ne.symm hk.2.2.2.2.2))).trans R.sw
  os := (Sg.set_ne _ _ Nm.noConfusion).trans R.os
  o := fun j hj => (Sg.set_ne _ _ Nm.noConfusion).trans (R.o j hj)
  no := fun j hj => (Sg.set_ne _ _ Nm.noConfusion).trans (R.no j hj)
  lo := fun j hj => (Sg.set_ne _ _ (tne (Nat.ne_of_gt (Nat.lt_of_lt_of_le hk.1 hj)))).trans (R.lo j hj)
  kc := R.kc
  kd := R.kd
theorem Rep.putX (R : Rep V κ c σ) (i : Nat) (o : MO Nm) : Rep V κ c (σ.set (.x i) o) where
  cyc := (Sg.set_ne _ _ Nm.noConfusion).trans R.cyc
  mks := (Sg.set_ne _ _ Nm.noConfusion).trans R.mks
  gr := (Sg.set_ne _ _ Nm.noConfusion).trans R.gr
  ag := (Sg.set_ne _ _ Nm.noConfusion).trans R.ag
  wk := (Sg.set_ne _ _ Nm.noConfusion).trans R.wk
  rt := (Sg.set_ne _ _ Nm.noConfusion).trans R.rt
  sw := (Sg.set_ne _ _ Nm.noConfusion).trans R.sw
  os := (Sg.set_ne _ _ Nm.noConfusion).trans R.os
  o := fun j hj => (Sg.set_ne _ _ Nm.noConfusion).trans (R.o j hj)
  no := fun j hj => (Sg.set_ne _ _ Nm.noConfusion).trans (R.no j hj)
  lo := fun j hj => (Sg.set_ne _ _ Nm.noConfusion).trans (R.lo j hj)
  kc := R.kc
  kd := R.kd
theorem Rep.more (R : Rep V κ c σ) {c' : Nat} (h : c ≤ c') : Rep V κ c' σ :=
  ⟨R.cyc, R.mks, R.gr, R.ag, R.wk, R.rt, R.sw, R.os, R.o, R.no, fun k hk => R.lo k (Nat.le_trans h hk), ⟨Nat.lt_of_lt_of_le R.kc.1 h, Nat.lt_of_lt_of_le R.kc.2.1 h, Nat.lt_of_lt_of_le R.kc.2.2.1 h, Nat.lt_of_lt_of_le R.kc.2.2.2.1 h, Nat.lt_of_lt_of_le R.kc.2.2.2.2 h⟩, R.kd⟩
theorem Rep.tmp (R : Rep V κ c σ) (o : MO Nm) : Rep V κ (c + 1) (σ.set (.t c) o) :=
  (R.more (Nat.le_succ c)).put ⟨Nat.lt_succ_self c, Nat.ne_of_gt R.kc.1, Nat.ne_of_gt R.kc.2.1, Nat.ne_of_gt R.kc.2.2.1, Nat.ne_of_gt R.kc.2.2.2.1, Nat.ne_of_gt R.kc.2.2.2.2⟩ o
/-- the record's lists, when one object of theirs changed -/
theorem Rep.grTo (R : Rep V κ c σ) (l : List Int) : Rep { V with grey := l } κ c (σ.set (.t κ.g) (.list (rf l))) where
  cyc := (Sg.set_ne _ _ Nm.noConfusion).trans R.cyc
  mks := (Sg.set_ne _ _ Nm.noConfusion).trans R.mks
  gr := Sg.set_self ..
  ag := (Sg.set_ne _ _ (tne (Ne.symm R.kd.1))).trans R.ag
  wk := (Sg.set_ne _ _ (tne (Ne.symm R.kd.2.1))).trans R.wk
  rt := (Sg.set_ne _ _ (tne (Ne.symm R.kd.2.2.1))).trans R.rt
  sw := (Sg.set_ne _ _ (tne (Ne.symm R.kd.2.2.2.1))).trans R.sw
  os := (Sg.set_ne _ _ Nm.noConfusion).trans R.os
  o := fun j hj => (Sg.set_ne _ _ Nm.noConfusion).trans (R.o j hj)
  no := fun j hj => (Sg.set_ne _ _ Nm.noConfusion).trans (R.no j hj)
  lo := fun j hj => (Sg.set_ne _ _ (tne (Nat.ne_of_gt (Nat.lt_of_lt_of_le R.kc.1 hj)))).trans (R.lo j hj)
  kc := R.kc
  kd := R.kd
theorem Rep.agTo (R : Rep V κ c σ) (l : List Int) : Rep { V with again := l } κ c (σ.set (.t κ.a) (.list (rf l))) where
  cyc := (Sg.set_ne _ _ Nm.noConfusion).trans R.cyc
  mks := (Sg.set_ne _ _ Nm.noConfusion).trans R.mks
  gr := (Sg.set_ne _ _ (tne R.kd.1)).trans R.gr
  ag := Sg.set_self ..
  wk := (Sg.set_ne _ _ (tne (Ne.symm R.kd.2.2.2.2.1))).trans R.wk
  rt := (Sg.set_ne _ _ (tne (Ne.symm R.kd.2.2.2.2.2.1))).trans R.rt
  sw := (Sg.set_ne _ _ (tne (Ne.symm R.kd.2.2.2.2.2.2.1))).trans R.sw
  os := (Sg.set_ne _ _ Nm.noConfusion).trans R.os
  o := fun j hj => (Sg.set_ne _ _ Nm.noConfusion).trans (R.o j hj)
  no := fun j hj => (Sg.set_ne _ _ Nm.noConfusion).trans (R.no j hj)
  lo := fun j hj => (Sg.set_ne _ _ (tne (Nat.ne_of_gt (Nat.lt_of_lt_of_le R.kc.2.1 hj)))).trans (R.lo j hj)
  kc := R.kc
  kd := R.kd
theorem Rep.swTo (R : Rep V κ c σ) (l : List Int) : Rep { V with swp := l } κ c (σ.set (.t κ.s) (.list (l.map .int))) where
  cyc := (Sg.set_ne _ _ Nm.noConfusion).trans R.cyc
  mks := (Sg.set_ne _ _ Nm.noConfusion).trans R.mks
  gr := (Sg.set_ne _ _ (tne R.kd.2.2.2.1)).trans R.gr
  ag := (Sg.set_ne _ _ (tne R.kd.2.2.2.2.2.2.1)).trans R.ag
  wk := (Sg.set_ne _ _ (tne R.kd.2.2.2.2.2.2.2.2.1)).trans R.wk
  rt := (Sg.set_ne _ _ (tne R.kd.2.2.2.2.2.2.2.2.2)).trans R.rt
  sw := Sg.set_self ..
  os := (Sg.set_ne _ _ Nm.noConfusion).trans R.os
  o := fun j hj => (Sg.set_ne _ _ Nm.noConfusion).trans (R.o j hj)
  no := fun j hj => (Sg.set_ne _ _ Nm.noConfusion).trans (R.no j hj)
  lo := fun j hj => (Sg.set_ne _ _ (tne (Nat.ne_of_gt (Nat.lt_of_lt_of_le R.kc.2.2.2.2 hj)))).trans (R.lo j hj)
  kc := R.kc
  kd := R.kd
theorem Rep.objsTo (R : Rep V κ c σ) (l : List Int) : Rep { V with objs := l } κ c (σ.set .objs (.idict (l.map fun i => (i, .ref (.ob i))))) where
  cyc := (Sg.set_ne _ _ Nm.noConfusion).trans R.cyc
  mks := (Sg.set_ne _ _ Nm.noConfusion).trans R.mks
  gr := (Sg.set_ne _ _ Nm.noConfusion).trans R.gr
  ag := (Sg.set_ne _ _ Nm.noConfusion).trans R.ag
  wk := (Sg.set_ne _ _ Nm.noConfusion).trans R.wk
  rt := (Sg.set_ne _ _ Nm.noConfusion).trans R.rt
  sw := (Sg.set_ne _ _ Nm.noConfusion).trans R.sw
  os := Sg.set_self ..
  o := fun j hj => (Sg.set_ne _ _ Nm.noConfusion).trans (R.o j hj)
  no := fun j hj => (Sg.set_ne _ _ Nm.noConfusion).trans (R.no j hj)
  lo := fun j hj => (Sg.set_ne _ _ Nm.noConfusion).trans (R.lo j hj)
  kc := R.kc
  kd := R.kd
/-- what the collector's own object and its marks do not tell -/
structure Cy.Eqv (V V' : Cy) : Prop where
  n : V'.n = V.n
  mark : V'.mark = V.mark
  size : V'.size = V.size
  objs : V'.objs = V.objs
theorem Rep.cycTo (R : Rep V κ c σ) (V' : Cy) (κ' : Kn) (e : V.Eqv V') (ew : V'.white = V.white) (eg : V'.grey = V.grey) (ea : V'.again = V.again) (hg : κ'.g = κ.g) (ha : κ'.a = κ.a) (hw : κ'.w = κ.w) (r' : σ (.t κ'.r) = some (.list (rf V'.root))) (s' : σ (.t κ'.s) = some (.list (V'.swp.map .int)))
    (kc' : κ'.g < c ∧ κ'.a < c ∧ κ'.w < c ∧ κ'.r < c ∧ κ'.s < c) (kd' : κ'.g ≠ κ'.a ∧ κ'.g ≠ κ'.w ∧ κ'.g ≠ κ'.r ∧ κ'.g ≠ κ'.s ∧ κ'.a ≠ κ'.w ∧ κ'.a ≠ κ'.r ∧ κ'.a ≠ κ'.s ∧ κ'.w ≠ κ'.r ∧ κ'.w ≠ κ'.s ∧ κ'.r ≠ κ'.s) : Rep V' κ' c (σ.set .cyc (.inst 346 (cycF V' κ'))) where
  cyc := Sg.set_self ..
  mks := (Sg.set_ne _ _ Nm.noConfusion).trans (R.mks.trans (by unfold mksF; rw [ew, hg, ha, hw]))
  gr := (Sg.set_ne _ _ Nm.noConfusion).trans (by rw [hg, eg]; exact R.gr)
  ag := (Sg.set_ne _ _ Nm.noConfusion).trans (by rw [ha, ea]; exact R.ag)
  wk := (Sg.set_ne _ _ Nm.noConfusion).trans (by rw [hw]; exact R.wk)
  rt := (Sg.set_ne _ _ Nm.noConfusion).trans r'
  sw := (Sg.set_ne _ _ Nm.noConfusion).trans s'
  os := (Sg.set_ne _ _ Nm.noConfusion).trans (by rw [e.objs]; exact R.os)
  o := fun j hj => (Sg.set_ne _ _ Nm.noConfusion).trans (by unfold obF; rw [e.mark, e.size]; exact R.o j (by unfold Cy.rng at hj ⊢; rw [← e.n]; exact hj))
  no := fun j hj => (Sg.set_ne _ _ Nm.noConfusion).trans (R.no j (by unfold Cy.rng at hj ⊢; rw [← e.n]; exact hj))
  lo := fun j hj => (Sg.set_ne _ _ Nm.noConfusion).trans (R.lo j hj)
  kc := kc'
  kd := kd'
theorem Rep.cycS (R : Rep V κ c σ) (V' : Cy) (e : V.Eqv V') (ew : V'.white = V.white) (eg : V'.grey = V.grey) (ea : V'.again = V.again) (er : V'.root = V.root) (es : V'.swp = V.swp) : Rep V' κ c (σ.set .cyc (.inst 346 (cycF V' κ))) :=
  R.cycTo V' κ e ew eg ea rfl rfl rfl (by rw [er]; exact R.rt) (by rw [es]; exact R.sw) R.kc R.kd
theorem Rep.mksTo (R : Rep V κ c σ) (V' : Cy) (κ' : Kn) (e : V.Eqv V') (ec : cycF V' κ' = cycF V κ) (er : V'.root = V.root) (es : V'.swp = V.swp) (hr : κ'.r = κ.r) (hs : κ'.s = κ.s) (g' : σ (.t κ'.g) = some (.list (rf V'.grey))) (a' : σ (.t κ'.a) = some (.list (rf V'.again))) (w' : σ (.t κ'.w) = some (.list []))
    (kc' : κ'.g < c ∧ κ'.a < c ∧ κ'.w < c ∧ κ'.r < c ∧ κ'.s < c) (kd' : κ'.g ≠ κ'.a ∧ κ'.g ≠ κ'.w ∧ κ'.g ≠ κ'.r ∧ κ'.g ≠ κ'.s ∧ κ'.a ≠ κ'.w ∧ κ'.a ≠ κ'.r ∧ κ'.a ≠ κ'.s ∧ κ'.w ≠ κ'.r ∧ κ'.w ≠ κ'.s ∧ κ'.r ≠ κ'.s) : Rep V' κ' c (σ.set .mks (.inst 136 (mksF V' κ'))) where
  cyc := (Sg.set_ne _ _ Nm.noConfusion).trans (by rw [ec]; exact R.cyc)
  mks := Sg.set_self ..
  gr := (Sg.set_ne _ _ Nm.noConfusion).trans g'
  ag := (Sg.set_ne _ _ Nm.noConfusion).trans a'
  wk := (Sg.set_ne _ _ Nm.noConfusion).trans w'
  rt := (Sg.set_ne _ _ Nm.noConfusion).trans (by rw [hr, er]; exact R.rt)
  sw := (Sg.set_ne _ _ Nm.noConfusion).trans (by rw [hs, es]; exact R.sw)
  os := (Sg.set_ne _ _ Nm.noConfusion).trans (by rw [e.objs]; exact R.os)
  o := fun j hj => (Sg.set_ne _ _ Nm.noConfusion).trans (by unfold obF; rw [e.mark, e.size]; exact R.o j (by unfold Cy.rng at hj ⊢; rw [← e.n]; exact hj))
  no := fun j hj => (Sg.set_ne _ _ Nm.noConfusion).trans (R.no j (by unfold Cy.rng at hj ⊢; rw [← e.n]; exact hj))
  lo := fun j hj => (Sg.set_ne _ _ Nm.noConfusion).trans (R.lo j hj)
  kc := kc'
  kd := kd'
theorem Rep.pushGrey (R : Rep V κ c σ) (i : Int) : Rep { V with grey := V.grey ++ [i] } κ c (σ.set (.t κ.g) (.list (rf V.grey ++ [.ref (.ob i)]))) := by
  have := R.grTo (V.grey ++ [i])
  rwa [show rf (V.grey ++ [i]) = rf V.grey ++ [.ref (.ob i)] by simp [rf]] at this
theorem Out.put {n : Nm} {σ' : Sg Nm} (O : Out κ c σ σ') (o : MO Nm) (h1 : ∀ i, n ≠ .x i) (h2 : ∀ k, k < c → k ≠ κ.g → k ≠ κ.a → k ≠ κ.w → k ≠ κ.r → k ≠ κ.s → n ≠ .t k) : Out κ c σ (σ'.set n o) :=
  ⟨fun i => (Sg.set_ne _ _ (Ne.symm (h1 i))).trans (O.x i), fun k a b c d e f => (Sg.set_ne _ _ (Ne.symm (h2 k a b c d e f))).trans (O.t k a b c d e f)⟩
theorem Out.cyc {σ' : Sg Nm} {o : MO Nm} (O : Out κ c σ σ') : Out κ c σ (σ'.set .cyc o) := O.put o (fun _ => Nm.noConfusion) fun _ _ _ _ _ _ _ => Nm.noConfusion
theorem Out.mks {σ' : Sg Nm} {o : MO Nm} (O : Out κ c σ σ') : Out κ c σ (σ'.set .mks o) := O.put o (fun _ => Nm.noConfusion) fun _ _ _ _ _ _ _ => Nm.noConfusion
theorem Out.objs {σ' : Sg Nm} {o : MO Nm} (O : Out κ c σ σ') : Out κ c σ (σ'.set .objs o) := O.put o (fun _ => Nm.noConfusion) fun _ _ _ _ _ _ _ => Nm.noConfusion
theorem Out.obb {σ' : Sg Nm} {i : Int} {o : MO Nm} (O : Out κ c σ σ') : Out κ c σ (σ'.set (.ob i) o) := O.put o (fun _ => Nm.noConfusion) fun _ _ _ _ _ _ _ => Nm.noConfusion
theorem Out.new {σ' : Sg Nm} {k : Nat} {o : MO Nm} (hk : c ≤ k) (O : Out κ c σ σ') : Out κ c σ (σ'.set (.t k) o) := O.put o (fun _ => Nm.noConfusion) fun j hj _ _ _ _ _ => tne (Nat.ne_of_gt (Nat.lt_of_lt_of_le hj hk))
theorem Out.sw {σ' : Sg Nm} {o : MO Nm} (O : Out κ c σ σ') : Out κ c σ (σ'.set (.t κ.s) o) := O.put o (fun _ => Nm.noConfusion) fun _ _ _ _ _ _ h => tne (Ne.symm h)
theorem Out.tmp (o : MO Nm) : Out κ c σ (σ.set (.t c) o) := Out.new (Nat.le_refl _) (.refl ..)
theorem Out.grey {o : MO Nm} : Out κ c σ (σ.set (.t κ.g) o) := ⟨fun _ => by simp [Sg.set], fun k _ h _ _ _ _ => by simp [Sg.set, h]⟩
theorem setMark2 {V : Cy} {i a b : Int} : (V.setMark i a).setMark i b = V.setMark i b := by
  unfold Cy.setMark
  congr 1
  funext j
  dsimp only
  split <;> rfl

end

local macro_rules | `(tactic| walk_at "outx") => `(tactic| first
  | with_reducible assumption
  | with_reducible exact Out.refl _ _ _
  | (with_reducible refine Out.cyc ?_; walk_at "outx")
  | (with_reducible refine Out.mks ?_; walk_at "outx")
  | (with_reducible refine Out.objs ?_; walk_at "outx")
  | (with_reducible refine Out.obb ?_; walk_at "outx")
  | (with_reducible refine Out.sw ?_; walk_at "outx")
  | (with_reducible refine Out.new ?_ ?_; (· omega); walk_at "outx"))

section
variable {E : En P.heap_1} {V : Cy} {κ : Kn} {c : Nat} {σ : Sg Nm}

/-- what mark does, as a call -/
def MarkC {KK : Params → Frag} (E : En KK) (n : Int) (P : Sg Nm → Prop) (kd : Int → List Int) (so : Int → Int) (f : Nat) : Prop :=
  ∀ (V : Cy) (κ : Kn) (c : Nat) (σ : Sg Nm) (i : Int), V.Mk → V.n = n → V.rng i → V.whites < f → P σ → Rep V κ c σ →
    Wc E (f + 4) (.ref 84) [.ref .mks, .ref (.ob i)] (fun v σ' => v = .none ∧ ∃ c', c ≤ c' ∧ Rep (mark kd so f V i) κ c' σ' ∧ Out κ c σ σ') σ

theorem Out.keepT {κ : Kn} {c m : Nat} {σ' : Sg Nm} (R : κ.g < c ∧ κ.a < c ∧ κ.w < c ∧ κ.r < c ∧ κ.s < c) {c₁ : Nat} (h1 : c ≤ m) {σ₁ : Sg Nm} (O1 : Out κ c₁ σ₁ σ') (hm : m < c₁) : σ' (.t m) = σ₁ (.t m) :=
  O1.t m hm (by omega) (by omega) (by omega) (by omega) (by omega)

theorem x_kids {n : Int} {P : Sg Nm → Prop} {kd : Int → List Int} {so : Int → Int} (Lw : Law E n P kd so) {f D : Nat} (hm : MarkC E n P kd so f) {S : Scope} {p1 p2 p3 p4 p5 p6 p7 p8 p9 p10 p11 : Pos} {pl1 pl2 : Env → Sem Bool} {fr : LF Nm} {i : Int} {Qn : FQ} {Qr : VQ}
    (hM : V.Mk) (hn : V.n = n) (hi : V.rng i) (hf : V.whites < f) (hP : P σ) (R : Rep V κ c σ) (hD : f + 4 ≤ D) (l1 : fr.lookup ("self" : Str) = some (.ref .mks)) (l2 : fr.lookup ("obj" : Str) = some (.ref (.ob i)))
    (s1 : locOk S "self" .local = true) (s2 : locOk S "obj" .local = true) (s3 : locOk S "child" .local = true)
    (he1 : ∀ env, eval (.Call (.Attribute (.Name "self" p2) "children" p3) [.Name "obj" p4] [] p5) env = (do let ov ← eval (.Name "self" p2) env; standAt p3.atName; let (f, first) ← holding [ov] (getMethod ov "children" (pl1 env)); callWith p5 f first (backTo p5 (starEach [.Name "obj" p4] env)) (backToKw p5 (keywordEach [] env)))) (he2 : ∀ env, eval (.Call (.Attribute (.Name "self" p6) "mark" p7) [.Name "child" p8] [] p9) env = (do let ov ← eval (.Name "self" p6) env; standAt p7.atName; let (f, first) ← holding [ov] (getMethod ov "mark" (pl2 env)); callWith p9 f first (backTo p9 (starEach [.Name "child" p8] env)) (backToKw p9 (keywordEach [] env))))
    (k : ∀ c' σ' fr', c ≤ c' → Rep ((kd i).foldl (mark kd so f) V) κ c' σ' → Out κ c σ σ' → (∀ y, (y == ("child" : Str)) = false → fr'.lookup y = fr.lookup y) → Qn fr' σ') :
    Wx ⟨E, S, D, []⟩ (.For (.Name "child" p1) (.Call (.Attribute (.Name "self" p2) "children" p3) [.Name "obj" p4] [] p5) [.Expr (.Call (.Attribute (.Name "self" p6) "mark" p7) [.Name "child" p8] [] p9) p10] [] p11) fr Qn Qr σ := by
  refine w_for (w_meth (w_local l1 (w_methN (.field R.mks ⟨by k_is, by k_is, by k_is⟩ (by rfl)) (w_lcons (w_local l2 (w_conA (w_lnil (w_conB ?_))) s2))) s1) he1) s3
  have hH := Lw.led V κ c σ i hn hP R hi
  refine w_fin hH.1 (k_vimp hH.2 (by show 2 ≤ D; omega) ?_)
  rintro _ σ₁ ⟨m, c₁, rfl, hm1, hm2, R1, O1, hl1⟩
  have P1 := Lw.out O1 hP
  have fm : ∀ j, MarkR V (((kd i).take j).foldl (mark kd so f) V) := fun j => fold_markR (N := n) (fun V i hM hi hn => mark_R (N := n) Lw.kn f V i hM hi hn) _ V hM hn fun x hx => by
    have := Lw.kn i hi.1 (hn ▸ hi.2) x (List.mem_of_mem_take hx)
    unfold Cy.rng
    rw [hn]; exact this
  refine w_forK (n := .t m) (vs := rf (kd i)) (fun j fr' σ' => ∃ c', c₁ ≤ c' ∧ Rep (((kd i).take j).foldl (mark kd so f) V) κ c' σ' ∧ Out κ c₁ σ₁ σ' ∧ ∀ y, (y == ("child" : Str)) = false → fr'.lookup y = fr.lookup y) (by rw [rf_len]; exact Lw.kl i) ⟨c₁, Nat.le_refl _, R1, .refl .., fun _ _ => rfl⟩ ?_ ?_ ?_
  · rintro j fr' σ' hj ⟨c', hc', R', O', hfr'⟩
    rw [Out.keepT R.kc hm1 O' hm2]
    exact hl1
  · rintro j v fr' σ' hv ⟨c', hc', R', O', hfr'⟩
    obtain ⟨x, rfl, hx⟩ := rf_get hv
    have hxm : x ∈ kd i := List.mem_of_getElem? hx
    have hxr := Lw.kn i hi.1 (hn ▸ hi.2) x hxm
    have M' := fm j
    have hn' : (((kd i).take j).foldl (mark kd so f) V).n = n := M'.same.n.trans hn
    refine w_scons (w_expr (w_meth (w_local ((lk_cons (by decide)).trans ((hfr' _ (by decide)).trans l1)) (w_methN (.meth R'.mks ⟨by k_is, by k_is, by k_is⟩ (by rfl)) (w_lcons (w_local (by rw [List.lookup_cons]; rfl) (w_conA (w_lnil (w_conB (w_fin (.inl (by k_is)) (k_code (hm _ κ c' σ' x M'.ok hn' (by unfold Cy.rng; rw [hn']; exact hxr) (Nat.lt_of_le_of_lt (Cy.whites_mono M'.same.n M'.wh) hf) (Lw.out O' P1) R') hD ?_))))) s3))) s1) he2) (locOkA s1).1)
    rintro _ σ'' ⟨rfl, c'', hc'', R'', O''⟩
    refine w_drop (w_seq (w_snil ⟨c'', by omega, ?_, O'.trans' O'' hc', fun y hy => (lk_cons hy).trans (hfr' y hy)⟩))
    rw [List.take_add_one, hx, List.foldl_append]
    exact R''
  · rintro fr' σ' ⟨c', hc', R', O', hfr'⟩
    rw [rf_len, List.take_length] at R'
    exact k c' σ' fr' (by omega) R' (O1.trans' O' (by omega)) hfr'
theorem c_mark {n : Int} {P : Sg Nm → Prop} {kd : Int → List Int} {so : Int → Int} (Lw : Law E n P kd so) : ∀ (f : Nat), MarkC E n P kd so f := by
  intro f
  induction f with
  | zero => exact fun _ _ _ _ _ _ _ _ hf _ _ => absurd hf (Nat.not_lt_zero _)
  | succ f ih =>
    intro V κ c σ i hM hn hi hf hP R
    refine cps fun Q hQ => ?_
    refine w_def (by k_is) (by k_is) (by walk_at "binds") (by rfl) ?_
    walk_at "mw"
    refine k_code (c_isWhite R hi) (by omega) ?_
    rintro _ _ ⟨rfl, rfl⟩
    by_cases hw : V.mark i < 2
    · have ew : decide (V.mark i < 2) = true := by simp [hw]
      rw [ew]
      walk_at "mw"
      rw [fset_mark]
      have R1 := R.setMark hi 2
      have P1 := Lw.put hP (m := .ob i) (o := .inst 367 (obF (V.setMark i 2) i))
      have O1 := Out.ob (κ := κ) (c := c) (σ := σ) (i := i) (o := .inst 367 (obF (V.setMark i 2) i))
      have hH := Lw.how (V.setMark i 2) κ c _ i hn P1 R1 hi
      refine w_fin hH.1 (k_vimp hH.2 (by omega) ?_)
      rintro _ _ ⟨rfl, rfl⟩
      walk_at "mw"
      have hlen := hM.len
      have push : so i ≠ 1 → ∀ σ₁ : Sg Nm, Rep (V.setMark i 2) κ c σ₁ → Rep (mark kd so (f + 1) V i) κ c (σ₁.set (.t κ.g) (.list (rf V.grey ++ [.ref (.ob i)]))) := fun z σ₁ R1 => by
        unfold mark
        rw [if_pos hw, if_neg z]
        exact R1.pushGrey i
      rcases Lw.so3 i with e | e | e
      · rw [e]
        walk_at "mw"
        refine wv (v_append R1.gr (by rw [rf_len]; show V.grey.length ≤ _; omega) ?_)
        walk_at "mw"
        exact hQ _ _ ⟨rfl, c, Nat.le_refl _, push (by omega) _ R1, O1.trans' Out.grey (Nat.le_refl _)⟩
      · rw [e]
        walk_at "mw"
        rw [fset_mark]
        have R2 := R1.setMark (i := i) hi 3
        have hM' := (mark_R (kd := kd) (so := so) (N := n) Lw.kn (f + 1) V i hM hi hn)
        have em : mark kd so (f + 1) V i = (kd i).foldl (mark kd so f) (V.setMark i 3) := by
          rw [mark, if_pos hw, if_pos e]
        have M2 : ((V.setMark i 2).setMark i 3).Mk := by
          rw [setMark2]
          exact ⟨⟨hM.rg.n0, hM.rg.n1, hM.rg.g, hM.rg.a, hM.rg.r, hM.rg.rl, hM.rg.o, hM.rg.on, hM.rg.sl⟩, hM.nd, fun j hj => by
            show (if j = i then 3 else V.mark j) = 2
            rw [if_neg (fun (z : j = i) => by have := hM.gm j hj; rw [z] at this; omega)]
            exact hM.gm j hj⟩
        refine x_kids Lw ih M2 hn hi (Nat.lt_of_lt_of_le (Cy.whites_lt (V := V) rfl (fun j q => ?_) hi hw ?_) (Nat.le_of_lt_succ hf)) (Lw.put P1) R2 (by omega) (by rfl) (by rfl) (by rfl) (by rfl) (by rfl) (fun _ => rfl) (fun _ => rfl) fun c' σ' fr' hc' R' O' _ => ?_
        · rw [setMark2] at q
          by_cases z : j = i
          · rw [z]; exact hw
          · simpa [Cy.setMark, z] using q
        · rw [setMark2]; simp [Cy.setMark]
        · walk_at "mw"
          rw [setMark2, ← em] at R'
          exact hQ _ _ ⟨rfl, c', hc', R', (O1.trans' Out.ob (Nat.le_refl _)).trans' O' (Nat.le_refl _)⟩
      · rw [e]
        walk_at "mw"
        refine wv (v_append R1.gr (by rw [rf_len]; show V.grey.length ≤ _; omega) ?_)
        walk_at "mw"
        exact hQ _ _ ⟨rfl, c, Nat.le_refl _, push (by omega) _ R1, O1.trans' Out.grey (Nat.le_refl _)⟩
    · have ew : decide (V.mark i < 2) = false := by simp [hw]
      rw [ew]
      walk_at "mw"
      refine hQ _ _ ⟨rfl, c, Nat.le_refl _, ?_, .refl ..⟩
      unfold mark
      rw [if_neg hw]
      exact R
end

section
variable {E : En P.heap_1} {V : Cy} {κ : Kn} {c : Nat} {σ : Sg Nm}

/-- from one moment of the collector's to a later one -/
structure Go (κ : Kn) (c : Nat) (σ : Sg Nm) (κ' : Kn) (c' : Nat) (σ' : Sg Nm) : Prop where
  le : c ≤ c'
  out : Out κ c σ σ'
  kk : ∀ k, k < c → k ≠ κ.g → k ≠ κ.a → k ≠ κ.w → k ≠ κ.r → k ≠ κ.s → k ≠ κ'.g ∧ k ≠ κ'.a ∧ k ≠ κ'.w ∧ k ≠ κ'.r ∧ k ≠ κ'.s
  r : κ'.r = κ.r
theorem Go.refl (κ : Kn) (c : Nat) (σ : Sg Nm) : Go κ c σ κ c σ := ⟨Nat.le_refl _, .refl .., fun _ _ a b d e f => ⟨a, b, d, e, f⟩, rfl⟩
theorem Go.of {κ : Kn} {c c' : Nat} {σ σ' : Sg Nm} (h : c ≤ c') (O : Out κ c σ σ') : Go κ c σ κ c' σ' := ⟨h, O, fun _ _ a b d e f => ⟨a, b, d, e, f⟩, rfl⟩
theorem Go.trans {κ κ' κ'' : Kn} {c c' c'' : Nat} {σ σ' σ'' : Sg Nm} (a : Go κ c σ κ' c' σ') (b : Go κ' c' σ' κ'' c'' σ'') : Go κ c σ κ'' c'' σ'' :=
  ⟨Nat.le_trans a.le b.le, a.out.trans b.out a.le a.kk, fun k h0 h1 h2 h3 h4 h5 => by
    obtain ⟨g1, g2, g3, g4, g5⟩ := a.kk k h0 h1 h2 h3 h4 h5
    exact b.kk k (Nat.lt_of_lt_of_le h0 a.le) g1 g2 g3 g4 g5, b.r.trans a.r⟩

theorem Rep.newG (R : Rep V κ c σ) : Rep { V with grey := [] } { κ with g := c } (c + 1) ((σ.set (.t c) (.list [])).set .mks (.inst 136 (mksF { V with grey := [] } { κ with g := c }))) := by
  have R1 := R.tmp (.list [])
  have hkc := R.kc
  have hkd := R.kd
  exact R1.mksTo { V with grey := [] } { κ with g := c } ⟨rfl, rfl, rfl, rfl⟩ rfl rfl rfl rfl rfl (Sg.set_self ..) R1.ag R1.wk (by dsimp only; clear R R1; omega) (by dsimp only; clear R R1; refine ⟨?_, ?_, ?_, ?_, hkd.2.2.2.2⟩ <;> omega)
theorem Rep.newA (R : Rep V κ c σ) : Rep { V with again := [] } { κ with a := c } (c + 1) ((σ.set (.t c) (.list [])).set .mks (.inst 136 (mksF { V with again := [] } { κ with a := c }))) := by
  have R1 := R.tmp (.list [])
  have hkc := R.kc
  have hkd := R.kd
  exact R1.mksTo { V with again := [] } { κ with a := c } ⟨rfl, rfl, rfl, rfl⟩ rfl rfl rfl rfl rfl R1.gr (Sg.set_self ..) R1.wk (by dsimp only; clear R R1; omega) (by dsimp only; clear R R1; refine ⟨?_, hkd.2.1, hkd.2.2.1, hkd.2.2.2.1, ?_, ?_, ?_, hkd.2.2.2.2.2.2.2⟩ <;> omega)
theorem Rep.newW (R : Rep V κ c σ) : Rep V { κ with w := c } (c + 1) ((σ.set (.t c) (.list [])).set .mks (.inst 136 (mksF V { κ with w := c }))) := by
  have R1 := R.tmp (.list [])
  have hkc := R.kc
  have hkd := R.kd
  exact R1.mksTo V { κ with w := c } ⟨rfl, rfl, rfl, rfl⟩ rfl rfl rfl rfl rfl R1.gr R1.ag (Sg.set_self ..) (by dsimp only; clear R R1; omega) (by dsimp only; clear R R1; refine ⟨hkd.1, ?_, hkd.2.2.1, hkd.2.2.2.1, ?_, hkd.2.2.2.2.2.1, hkd.2.2.2.2.2.2.1, ?_, ?_, hkd.2.2.2.2.2.2.2.2.2⟩ <;> omega)

theorem c_forget (R : Rep V κ c σ) : Wc E 1 (.ref 70) [.ref .mks] (fun v σ' => v = .none ∧ ∃ κ' c', Go κ c σ κ' c' σ' ∧ κ'.s = κ.s ∧ Rep { V with grey := [], again := [] } κ' c' σ') σ := by
  refine cps fun Q hQ => ?_
  refine w_def (by k_is) (by k_is) (by walk_at "binds") (by rfl) ?_
  walk_at "mw"
  refine w_listK (n := .t c) (R.lo c (Nat.le_refl _)) (by decide) ?_
  walk_at "mw"
  have R1 := R.newG
  have O1 : Out κ c σ ((σ.set (.t c) (.list [])).set .mks (.inst 136 (mksF { V with grey := [] } { κ with g := c }))) := (Out.tmp _).mks
  refine w_listK (n := .t (c + 1)) (R1.lo _ (Nat.le_refl _)) (by decide) ?_
  walk_at "mw"
  have R2 := R1.newA
  have O2 := (Out.new (k := c + 1) (o := .list []) (Nat.le_succ c) O1).mks (o := .inst 136 (mksF { V with grey := [], again := [] } { κ with g := c, a := c + 1 }))
  refine w_listK (n := .t (c + 2)) (R2.lo _ (Nat.le_refl _)) (by decide) ?_
  walk_at "mw"
  have O3 := (Out.new (k := c + 2) (o := .list []) (Nat.le_add_right c 2) O2).mks (o := .inst 136 (mksF { V with grey := [], again := [] } { κ with g := c, a := c + 1, w := c + 2 }))
  refine hQ _ _ ⟨rfl, { κ with g := c, a := c + 1, w := c + 2 }, c + 3, ⟨Nat.le_add_right c 3, O3, ?_, rfl⟩, rfl, R2.newW⟩
  intro k h0 h1 h2 h3 h4 h5
  exact ⟨Nat.ne_of_lt h0, Nat.ne_of_lt (Nat.lt_succ_of_lt h0), Nat.ne_of_lt (Nat.lt_of_lt_of_le h0 (Nat.le_add_right c 2)), h4, h5⟩

theorem c_begin {n : Int} {P : Sg Nm → Prop} {kd : Int → List Int} {so : Int → Int} (Lw : Law E n P kd so) (hV : V.Rg) (hn : V.n = n) (hP : P σ) (R : Rep V κ c σ) :
    Wc E 70 (.ref 77) [.ref .mks, .ref (.t κ.r)] (fun v σ' => v = .none ∧ ∃ κ' c', Go κ c σ κ' c' σ' ∧ Rep (begin' kd so V) κ' c' σ') σ := by
  refine cps fun Q hQ => ?_
  refine w_def (by k_is) (by k_is) (by walk_at "binds") (by rfl) ?_
  walk_at "mw"
  refine k_code (c_forget R) (by omega) ?_
  rintro _ σ₁ ⟨rfl, κ₁, c₁, G1, -, R1⟩
  walk_at "mw"
  have M1 : ({ V with grey := [], again := [] } : Cy).Mk := ⟨⟨hV.n0, hV.n1, (fun i h => by cases h), (fun i h => by cases h), hV.r, hV.rl, hV.o, hV.on, hV.sl⟩, .nil, (fun i h => by cases h)⟩
  have fm : ∀ j, MarkR { V with grey := [], again := [] } ((V.root.take j).foldl (mark kd so MF) { V with grey := [], again := [] }) := fun j => fold_markR (N := n) (fun V i hM hi hn => mark_R (N := n) Lw.kn MF V i hM hi hn) _ _ M1 hn fun x hx => hV.r x (List.mem_of_mem_take hx)
  have hP1 := Lw.out G1.out hP
  refine w_for ?_
  walk_at "mw"
  refine w_forK (n := .t κ.r) (vs := rf V.root) (fun j fr' σ' => ∃ c', c₁ ≤ c' ∧ Rep ((V.root.take j).foldl (mark kd so MF) { V with grey := [], again := [] }) κ₁ c' σ' ∧ Out κ₁ c₁ σ₁ σ' ∧ fr'.lookup ("self" : Str) = some (.ref .mks)) (by rw [rf_len]; exact Nat.le_trans hV.rl (by decide)) ⟨c₁, Nat.le_refl _, R1, .refl .., rfl⟩ ?_ ?_ ?_
  · rintro j fr' σ' hj ⟨c', hc', R', O', hfr'⟩
    have := R'.rt
    rw [G1.r, (fm j).same.root] at this
    exact this
  · rintro j v fr' σ' hv ⟨c', hc', R', O', hfr'⟩
    obtain ⟨x, rfl, hx⟩ := rf_get hv
    have M' := fm j
    have hn' : ((V.root.take j).foldl (mark kd so MF) { V with grey := [], again := [] }).n = n := M'.same.n.trans hn
    have hxr := hV.r x (List.mem_of_getElem? hx)
    have l1 : List.lookup ("self" : Str) (("obj", (.ref (.ob x) : MV Nm)) :: fr') = some (.ref .mks) := (lk_cons (by decide)).trans hfr'
    have l2 : List.lookup ("obj" : Str) (("obj", (.ref (.ob x) : MV Nm)) :: fr') = some (.ref (.ob x)) := by rw [List.lookup_cons]; rfl
    walk_at "mw"
    refine k_code (c_mark Lw MF _ κ₁ c' σ' x M'.ok hn' (by unfold Cy.rng at hxr ⊢; rw [hn', ← hn]; exact hxr) (Cy.whites_MF M'.ok.rg) (Lw.out O' hP1) R') (by decide) ?_
    rintro _ σ'' ⟨rfl, c'', hc'', R'', O''⟩
    walk_at "mw"
    refine ⟨c'', by omega, ?_, O'.trans' O'' hc', l1⟩
    rw [List.take_add_one, hx, List.foldl_append]
    exact R''
  · rintro fr' σ' ⟨c', hc', R', O', hfr'⟩
    walk_at "mw"
    rw [rf_len, List.take_length] at R'
    exact hQ _ _ ⟨rfl, κ₁, c', G1.trans (.of hc' O'), R'⟩

theorem rf_last {l : List Int} {i : Int} (h : l.getLast? = some i) : (rf l).getLast? = some (.ref (.ob i)) := by
  unfold rf
  rw [List.getLast?_map, h]; rfl
theorem rf_drop (l : List Int) : (rf l).dropLast = rf l.dropLast := by
  unfold rf
  rw [List.map_dropLast]

theorem Rep.popGrey (R : Rep V κ c σ) : Rep { V with grey := V.grey.dropLast } κ c (σ.set (.t κ.g) (.list (rf V.grey).dropLast)) := by
  rw [rf_drop]
  exact R.grTo _
theorem Rep.pushAgain (R : Rep V κ c σ) (i : Int) : Rep { V with again := V.again ++ [i] } κ c (σ.set (.t κ.a) (.list (rf V.again ++ [.ref (.ob i)]))) := by
  rw [show rf V.again ++ [.ref (.ob i)] = rf (V.again ++ [i]) by simp [rf]]
  exact R.agTo _
theorem Out.again {o : MO Nm} : Out κ c σ (σ.set (.t κ.a) o) := ⟨fun _ => by simp [Sg.set], fun k _ _ h _ _ _ => by simp [Sg.set, h]⟩

theorem c_propagate {n : Int} {P : Sg Nm → Prop} {kd : Int → List Int} {so : Int → Int} (Lw : Law E n P kd so) (hM : V.Mk) (hn : V.n = n) (hP : P σ) (R : Rep V κ c σ) {i : Int} (hg : V.grey.getLast? = some i) :
    Wc E 70 (.ref 91) [.ref .mks] (fun v σ' => v = .int (max 1 (V.size i)) ∧ ∃ c', c ≤ c' ∧ Out κ c σ σ' ∧ Rep (propagate kd so V) κ c' σ') σ := by
  have hlen := hM.len
  obtain ⟨p1, p2, p3, p4, p5⟩ := popd_ok (so := so) hM hg
  have ep : propagate kd so V = (kd i).foldl (mark kd so MF) (popd so V i) := by unfold propagate; rw [hg]
  refine cps fun Q hQ => ?_
  refine w_def (by k_is) (by k_is) (by walk_at "binds") (by rfl) ?_
  walk_at "mw"
  refine wv (v_pop R.gr (by rw [rf_len]; omega) (rf_last hg) ?_)
  have R1 := R.popGrey
  have P1 := Lw.put hP (m := .t κ.g) (o := .list (rf V.grey).dropLast)
  have O1 : Out κ c σ _ := Out.grey (o := .list (rf V.grey).dropLast)
  generalize σ.set (.t κ.g) (.list (rf V.grey).dropLast) = σ₁ at *
  have p5' : ({ V with grey := V.grey.dropLast } : Cy).rng i := p5
  walk_at "mw"
  rw [fset_mark]
  have R2 := R1.setMark p5' 3
  have P2 := Lw.put P1 (m := .ob i) (o := .inst 367 (obF (Cy.setMark { V with grey := V.grey.dropLast } i 3) i))
  have O2 := O1.trans' (Out.ob (c := c) (i := i) (o := .inst 367 (obF (Cy.setMark { V with grey := V.grey.dropLast } i 3) i))) (Nat.le_refl _)
  generalize σ₁.set (.ob i) (.inst 367 (obF (Cy.setMark { V with grey := V.grey.dropLast } i 3) i)) = σ₂ at *
  have hH := Lw.how (Cy.setMark { V with grey := V.grey.dropLast } i 3) κ c σ₂ i hn P2 R2 p5'
  refine w_fin hH.1 (k_vimp hH.2 (by decide) ?_)
  rintro _ _ ⟨rfl, rfl⟩
  have hn2 : (popd so V i).n = n := p2.n.trans hn
  have hr2 : (popd so V i).rng i := by unfold Cy.rng; rw [p2.n]; exact p5
  have hf2 : (popd so V i).whites < MF := Cy.whites_MF p1.rg
  have hsz : ∀ j, V.size j = (popd so V i).size j := fun j => by rw [p2.size]
  by_cases e3 : so i = 3
  · rw [e3]
    walk_at "mw"
    refine wv (v_append R2.ag (by rw [rf_len]; show V.again.length ≤ _; omega) ?_)
    have R3 := R2.pushAgain i
    have P3 := Lw.put P2 (m := .t κ.a) (o := .list (rf V.again ++ [.ref (.ob i)]))
    have O3 := O2.trans' (Out.again (c := c) (o := .list (rf V.again ++ [.ref (.ob i)]))) (Nat.le_refl _)
    have e0 : (Cy.setMark { V with grey := V.grey.dropLast } i 3).again = V.again := rfl
    rw [e0] at R3 ⊢
    generalize σ₂.set (.t κ.a) (.list (rf V.again ++ [.ref (.ob i)])) = σ₃ at *
    walk_at "mw"
    rw [fset_mark]
    have R4 := R3.setMark (i := i) p5 2
    have e4 : Cy.setMark { Cy.setMark { V with grey := V.grey.dropLast } i 3 with again := V.again ++ [i] } i 2 = popd so V i := by
      unfold popd
      rw [if_pos e3]
      unfold Cy.setMark
      congr 1
      funext j
      dsimp only
      split <;> rfl
    rw [e4] at R4
    have P4 := Lw.put P3 (m := .ob i) (o := .inst 367 (obF (popd so V i) i))
    have O4 := O3.trans' (Out.ob (c := c) (i := i) (o := .inst 367 (obF (popd so V i) i))) (Nat.le_refl _)
    have e5 : obF ({ Cy.setMark { V with grey := V.grey.dropLast } i 3 with again := V.again ++ [i] }.setMark i 2) i = obF (popd so V i) i := by rw [e4]
    rw [e5]
    generalize σ₃.set (.ob i) (.inst 367 (obF (popd so V i) i)) = σ₄ at *
    walk_at "mw"
    refine x_kids Lw (c_mark Lw MF) p1 hn2 hr2 hf2 P4 R4 (by decide) (by rfl) (by rfl) (by rfl) (by rfl) (by rfl) (fun _ => rfl) (fun _ => rfl) fun c' σ' fr' hc' R' O' hfr => ?_
    rw [← ep] at R'
    have l2 : List.lookup ("obj" : Str) fr' = some (.ref (.ob i)) := (hfr _ (by decide)).trans (by rfl)
    have hr' : (propagate kd so V).rng i := by obtain ⟨-, q, -⟩ := propagate_ok (so := so) (by rw [hn]; exact Lw.kn) hM (fun z => by rw [z] at hg; cases hg); unfold Cy.rng; rw [q.n]; exact p5
    have hs' : (propagate kd so V).size i = V.size i := by obtain ⟨-, q, -⟩ := propagate_ok (so := so) (by rw [hn]; exact Lw.kn) hM (fun z => by rw [z] at hg; cases hg); rw [q.size]
    walk_at "mw"
    refine wv (v_max ?_)
    rw [hs']
    exact hQ _ _ ⟨rfl, c', hc', O4.trans' O' (Nat.le_refl _), R'⟩
  · have e3' : (so i == 3) = false := by simpa using e3
    have e4' : (so i == 4) = false := by rcases Lw.so3 i with q | q | q <;> rw [q] <;> rfl
    walk_at "mw"
    have e4 : Cy.setMark { V with grey := V.grey.dropLast } i 3 = popd so V i := by
      unfold popd
      rw [if_neg e3]
      rfl
    rw [e4] at R2
    refine x_kids Lw (c_mark Lw MF) p1 hn2 hr2 hf2 P2 R2 (by decide) (by rfl) (by rfl) (by rfl) (by rfl) (by rfl) (fun _ => rfl) (fun _ => rfl) fun c' σ' fr' hc' R' O' hfr => ?_
    rw [← ep] at R'
    have l2 : List.lookup ("obj" : Str) fr' = some (.ref (.ob i)) := (hfr _ (by decide)).trans (by rfl)
    have hr' : (propagate kd so V).rng i := by obtain ⟨-, q, -⟩ := propagate_ok (so := so) (by rw [hn]; exact Lw.kn) hM (fun z => by rw [z] at hg; cases hg); unfold Cy.rng; rw [q.n]; exact p5
    have hs' : (propagate kd so V).size i = V.size i := by obtain ⟨-, q, -⟩ := propagate_ok (so := so) (by rw [hn]; exact Lw.kn) hM (fun z => by rw [z] at hg; cases hg); rw [q.size]
    walk_at "mw"
    refine wv (v_max ?_)
    rw [hs']
    exact hQ _ _ ⟨rfl, c', hc', O2.trans' O' (Nat.le_refl _), R'⟩
end

section
variable {E : En P.heap_1} {V : Cy} {κ : Kn} {c : Nat} {σ : Sg Nm}

theorem c_propagateAll {n : Int} {P : Sg Nm → Prop} {kd : Int → List Int} {so : Int → Int} (Lw : Law E n P kd so) (hM : V.Mk) (hn : V.n = n) (hP : P σ) (R : Rep V κ c σ) :
    Wc E 71 (.ref 98) [.ref .mks] (fun _ σ' => ∃ c', c ≤ c' ∧ Out κ c σ σ' ∧ Rep (pAll kd so PF V) κ c' σ') σ := by
  refine cps fun Q hQ => ?_
  refine w_def (by k_is) (by k_is) (by walk_at "binds") (by rfl) ?_
  walk_at "mw"
  refine w_while (fun k fr' σ' => ∃ (V' : Cy) (c' : Nat) (a : Int), c ≤ c' ∧ Out κ c σ σ' ∧ Rep V' κ c' σ' ∧ V'.Mk ∧ V'.n = n ∧ V'.mu ≤ k ∧ pAll kd so k V' = pAll kd so PF V ∧ fr'.lookup ("self" : Str) = some (.ref .mks) ∧ fr'.lookup ("work" : Str) = some (.int a)) ?_ PF ⟨V, c, 0, Nat.le_refl _, .refl .., R, hM, hn, Cy.mu_le hM, rfl, by rfl, by rfl⟩
  rintro k fr' σ' ⟨V', c', a, hc', O', R', M', hn', hmu, he, l1, l2⟩
  have hlen := M'.len
  walk_at "mw"
  refine wv (e_lenList R'.gr (by rw [rf_len]; omega) ?_)
  walk_at "mw"
  rw [rf_len]
  by_cases hg : V'.grey = []
  · have e0 : decide ((0 : Int) < (V'.grey.length : Int)) = false := by rw [hg]; rfl
    walk_at "mw"
    have e1 : pAll kd so PF V = V' := by
      rw [← he]
      cases k with
      | zero => rfl
      | succ k => unfold pAll; rw [if_pos hg]
    exact hQ _ _ ⟨c', hc', O', e1 ▸ R'⟩
  · have e0 : decide ((0 : Int) < (V'.grey.length : Int)) = true := by
      have : 0 < V'.grey.length := List.length_pos_iff.mpr hg
      simp; omega
    obtain ⟨q1, q2, -, q4⟩ := propagate_ok (so := so) (by rw [hn']; exact Lw.kn) M' hg
    walk_at "mw"
    refine k_code (c_propagate Lw M' hn' (Lw.out O' hP) R' (List.getLast?_eq_some_getLast hg)) (by decide) ?_
    rintro _ σ'' ⟨rfl, c'', hc'', O'', R''⟩
    walk_at "mw"
    cases k with
    | zero => omega
    | succ k =>
      refine w_less (Nat.lt_succ_self k) ⟨propagate kd so V', c'', _, Nat.le_trans hc' hc'', O'.trans' O'' hc', R'', q1, q2.n.trans hn', Nat.le_of_lt_succ (Nat.lt_of_lt_of_le q4 hmu), ?_, (lk_cons (by decide)).trans l1, by rw [List.lookup_cons]; rfl⟩
      rw [← he]
      rw [pAll, if_neg hg]

theorem Rep.finG (R : Rep V κ c σ) : Rep { V with grey := [] } { κ with g := κ.w, w := c } (c + 1) ((σ.set (.t c) (.list [])).set .mks (.inst 136 (mksF { V with grey := [] } { κ with g := κ.w, w := c }))) := by
  have R1 := R.tmp (.list [])
  have hkc := R.kc
  have hkd := R.kd
  exact R1.mksTo { V with grey := [] } { κ with g := κ.w, w := c } ⟨rfl, rfl, rfl, rfl⟩ rfl rfl rfl rfl rfl R1.wk R1.ag (Sg.set_self ..) (by dsimp only; clear R R1; omega) (by dsimp only; clear R R1; refine ⟨Ne.symm hkd.2.2.2.2.1, ?_, hkd.2.2.2.2.2.2.2.1, hkd.2.2.2.2.2.2.2.2.1, ?_, hkd.2.2.2.2.2.1, hkd.2.2.2.2.2.2.1, ?_, ?_, hkd.2.2.2.2.2.2.2.2.2⟩ <;> omega)
theorem Go.finG : Go κ c σ { κ with g := κ.w, w := c } (c + 1) ((σ.set (.t c) (.list [])).set .mks (.inst 136 (mksF { V with grey := [] } { κ with g := κ.w, w := c }))) :=
  ⟨Nat.le_succ c, (Out.tmp _).mks, fun k h0 h1 h2 h3 h4 h5 => ⟨h3, h2, Nat.ne_of_lt h0, h4, h5⟩, rfl⟩
theorem Rep.finA (R : Rep V κ c σ) : Rep { V with grey := V.again, again := [] } { κ with g := κ.a, a := c } (c + 1) ((σ.set (.t c) (.list [])).set .mks (.inst 136 (mksF { V with grey := V.again, again := [] } { κ with g := κ.a, a := c }))) := by
  have R1 := R.tmp (.list [])
  have hkc := R.kc
  have hkd := R.kd
  exact R1.mksTo { V with grey := V.again, again := [] } { κ with g := κ.a, a := c } ⟨rfl, rfl, rfl, rfl⟩ rfl rfl rfl rfl rfl R1.ag (Sg.set_self ..) R1.wk (by dsimp only; clear R R1; omega) (by dsimp only; clear R R1; refine ⟨?_, hkd.2.2.2.2.1, hkd.2.2.2.2.2.1, hkd.2.2.2.2.2.2.1, ?_, ?_, ?_, hkd.2.2.2.2.2.2.2⟩ <;> omega)
theorem Go.finA : Go κ c σ { κ with g := κ.a, a := c } (c + 1) ((σ.set (.t c) (.list [])).set .mks (.inst 136 (mksF { V with grey := V.again, again := [] } { κ with g := κ.a, a := c }))) :=
  ⟨Nat.le_succ c, (Out.tmp _).mks, fun k h0 h1 h2 h3 h4 h5 => ⟨h2, Nat.ne_of_lt h0, h3, h4, h5⟩, rfl⟩

theorem Sg.set_set {N : Type} [DecidableEq N] (σ : Sg N) (n : N) (o o' : MO N) : (σ.set n o).set n o' = σ.set n o' := by
  funext k
  unfold Sg.set
  split <;> rfl
theorem c_finish {n : Int} {P : Sg Nm → Prop} {kd : Int → List Int} {so : Int → Int} (Lw : Law E n P kd so) (hM : V.Mk) (hn : V.n = n) (hP : P σ) (R : Rep V κ c σ) {m : Nat} (hm : m < c) (hmk : m ≠ κ.g ∧ m ≠ κ.a ∧ m ≠ κ.w ∧ m ≠ κ.r ∧ m ≠ κ.s) (hl : σ (.t m) = some (.list [])) :
    Wc E 72 (.ref 105) [.ref .mks, .ref (.t m)] (fun v σ' => v = .none ∧ ∃ κ' c', Go κ c σ κ' c' σ' ∧ κ'.s = κ.s ∧ Rep (finish kd so V) κ' c' σ') σ := by
  have hk : ∀ i, 1 ≤ i → i ≤ V.n → ∀ j ∈ kd i, 1 ≤ j ∧ j ≤ V.n := by rw [hn]; exact Lw.kn
  obtain ⟨m1, s1, w1, g1⟩ := pAll_ok (so := so) PF hk hM (Cy.mu_le hM)
  refine cps fun Q hQ => ?_
  refine w_def (by k_is) (by k_is) (by walk_at "binds") (by rfl) ?_
  walk_at "mw"
  refine k_code (c_propagateAll Lw hM hn hP R) (by decide) ?_
  rintro _ σ₁ ⟨c₁, hc₁, O₁, R₁⟩
  walk_at "mw"
  have hkc := R₁.kc
  have hkd := R₁.kd
  have hl₁ : σ₁ (.t m) = some (.list []) := by rw [O₁.t m hm hmk.1 hmk.2.1 hmk.2.2.1 hmk.2.2.2.1 hmk.2.2.2.2]; exact hl
  refine w_listK (n := .t c₁) (by walk_at "fresh") (by decide) ?_
  walk_at "mw"
  rw [Sg.set_set]
  have R₂ := R₁.finG
  have G₂ := Go.finG (κ := κ) (c := c₁) (σ := σ₁) (V := pAll kd so PF V)
  have eg : ({ pAll kd so PF V with grey := [] } : Cy) = pAll kd so PF V := by
    generalize pAll kd so PF V = U at g1
    cases U
    cases g1
    rfl
  rw [eg] at R₂ G₂
  have es : (σ₁.set (.t c₁) (.list [])).set .mks (.inst 136 (fset "weak" (.ref (.t c₁)) (fset "grey" (.ref (.t κ.w)) (mksF (pAll kd so PF V) κ)))) = (σ₁.set (.t c₁) (.list [])).set .mks (.inst 136 (mksF (pAll kd so PF V) { κ with g := κ.w, w := c₁ })) := rfl
  rw [es]
  generalize (σ₁.set (.t c₁) (.list [])).set .mks (.inst 136 (mksF (pAll kd so PF V) { κ with g := κ.w, w := c₁ })) = σ₂ at *
  have GG := (Go.of hc₁ O₁).trans G₂
  have P₂ := Lw.out GG.out hP
  have hl₂ : σ₂ (.t m) = some (.list []) := by rw [GG.out.t m hm hmk.1 hmk.2.1 hmk.2.2.1 hmk.2.2.2.1 hmk.2.2.2.2]; exact hl
  refine w_for ?_
  walk_at "mw"
  refine w_forK (n := .t m) (vs := []) (fun j fr' σ' => j = 0 ∧ σ₂ = σ' ∧ fr'.lookup ("self" : Str) = some (.ref .mks)) (by decide) ⟨rfl, rfl, by rfl⟩ ?_ ?_ ?_
  · rintro j fr' σ' - ⟨-, rfl, -⟩
    exact hl₂
  · intro j v fr' σ' hv
    cases hv
  rintro fr' _ ⟨-, rfl, l1⟩
  walk_at "mw"
  refine k_code (c_propagateAll Lw m1 (s1.n.trans hn) P₂ R₂) (by decide) ?_
  rintro _ σ₃ ⟨c₃, hc₃, O₃, R₃⟩
  have ep : pAll kd so PF (pAll kd so PF V) = pAll kd so PF V := by
    generalize pAll kd so PF V = U at g1
    unfold pAll
    rw [if_pos g1]
  rw [ep] at R₃
  have GG₃ := GG.trans (.of hc₃ O₃)
  generalize hκ : ({ κ with g := κ.w, w := c₁ } : Kn) = κ₃ at *
  have hκg : κ₃.s = κ.s := by rw [← hκ]
  walk_at "mw"
  have hkc₃ := R₃.kc
  have hkd₃ := R₃.kd
  refine w_listK (n := .t c₃) (by walk_at "fresh") (by decide) ?_
  walk_at "mw"
  rw [Sg.set_set]
  have R₄ := R₃.finA
  have G₄ := Go.finA (κ := κ₃) (c := c₃) (σ := σ₃) (V := pAll kd so PF V)
  have es4 : (σ₃.set (.t c₃) (.list [])).set .mks (.inst 136 (fset "grey_again" (.ref (.t c₃)) (fset "grey" (.ref (.t κ₃.a)) (mksF (pAll kd so PF V) κ₃)))) = (σ₃.set (.t c₃) (.list [])).set .mks (.inst 136 (mksF { pAll kd so PF V with grey := (pAll kd so PF V).again, again := [] } { κ₃ with g := κ₃.a, a := c₃ })) := rfl
  rw [es4]
  have P₄ := Lw.out (GG₃.trans G₄).out hP
  generalize (σ₃.set (.t c₃) (.list [])).set .mks (.inst 136 (mksF { pAll kd so PF V with grey := (pAll kd so PF V).again, again := [] } { κ₃ with g := κ₃.a, a := c₃ })) = σ₄ at *
  have m4 : ({ pAll kd so PF V with grey := (pAll kd so PF V).again, again := [] } : Cy).Mk := by
    have nd := m1.nd
    rw [g1] at nd
    refine ⟨⟨m1.rg.n0, m1.rg.n1, m1.rg.a, (fun i h => by cases h), m1.rg.r, m1.rg.rl, m1.rg.o, m1.rg.on, m1.rg.sl⟩, ?_, fun i hi => m1.gm i ?_⟩
    · show ((pAll kd so PF V).again ++ []).Nodup
      rw [List.append_nil]; exact nd
    · have hi' : i ∈ (pAll kd so PF V).again ++ [] := hi
      rw [List.append_nil] at hi'
      exact List.mem_append_right _ hi'
  refine k_code (c_propagateAll Lw m4 (s1.n.trans hn) P₄ R₄) (by decide) ?_
  rintro _ σ₅ ⟨c₅, hc₅, O₅, R₅⟩
  walk_at "mw"
  exact hQ _ _ ⟨rfl, _, c₅, (GG₃.trans G₄).trans (.of hc₅ O₅), hκg, R₅⟩

theorem c_flip (R : Rep V κ c σ) : Wc E 1 (.ref 112) [.ref .mks] (fun v σ' => v = .none ∧ Out κ c σ σ' ∧ Rep { V with white := 1 - V.white } κ c σ') σ := by
  refine cps fun Q hQ => ?_
  refine w_def (by k_is) (by k_is) (by walk_at "binds") (by rfl) ?_
  walk_at "mw"
  exact hQ _ _ ⟨rfl, (Out.refl ..).mks, R.mksTo { V with white := 1 - V.white } κ ⟨rfl, rfl, rfl, rfl⟩ rfl rfl rfl rfl rfl R.gr R.ag R.wk R.kc R.kd⟩

def barrier (kd : Int → List Int) (so : Int → Int) (V : Cy) (p q : Int) (b : Bool) : Cy :=
  if V.mark p ≠ 3 ∨ ¬ V.mark q < 2 ∨ V.dead q = true then V else if b then mark kd so MF V q else V.setMark p V.white
theorem c_barrier {n : Int} {P : Sg Nm → Prop} {kd : Int → List Int} {so : Int → Int} (Lw : Law E n P kd so) (hn : V.n = n) (hP : P σ) (R : Rep V κ c σ) {p q : Int} {b : Bool} (hb : b = true → V.Mk) (hp : V.rng p) (hq : V.rng q) :
    Wc E 70 (.ref 119) [.ref .mks, .ref (.ob p), .ref (.ob q), .bool b] (fun v σ' => v = .none ∧ ∃ c', c ≤ c' ∧ Out κ c σ σ' ∧ Rep (barrier kd so V p q b) κ c' σ') σ := by
  refine cps fun Q hQ => ?_
  refine w_def (by k_is) (by k_is) (by walk_at "binds") (by rfl) ?_
  walk_at "mw"
  by_cases h1 : V.mark p = 3
  · have e1 : (V.mark p != 3) = false := by simp [h1]
    walk_at "mw"
    refine k_code (c_isWhite R hq) (by omega) ?_
    rintro _ _ ⟨rfl, rfl⟩
    walk_at "mw"
    by_cases h2 : V.mark q < 2
    · have e2 : (!decide (V.mark q < 2)) = false := by simp [h2]
      walk_at "mw"
      refine k_code (c_isDead R hq) (by omega) ?_
      rintro _ _ ⟨rfl, rfl⟩
      walk_at "mw"
      cases h3 : V.dead q with
      | true =>
        walk_at "mw"
        exact hQ _ _ ⟨rfl, c, Nat.le_refl _, .refl .., by unfold barrier; rw [if_pos (.inr (.inr h3))]; exact R⟩
      | false =>
        have e4 : ¬ (V.mark p ≠ 3 ∨ ¬ V.mark q < 2 ∨ V.dead q = true) := by simp [h1, h2, h3]
        walk_at "mw"
        cases b with
        | true =>
          walk_at "mw"
          refine k_code (c_mark Lw MF V κ c σ q (hb rfl) hn hq (Cy.whites_MF (hb rfl).rg) hP R) (by decide) ?_
          rintro _ σ' ⟨rfl, c', hc', R', O'⟩
          walk_at "mw"
          exact hQ _ _ ⟨rfl, c', hc', O', by unfold barrier; rw [if_neg e4, if_pos rfl]; exact R'⟩
        | false =>
          walk_at "mw"
          refine k_code (c_makeWhite R hp) (by decide) ?_
          rintro _ σ' ⟨rfl, R', O'⟩
          walk_at "mw"
          exact hQ _ _ ⟨rfl, c, Nat.le_refl _, O', by unfold barrier; rw [if_neg e4, if_neg (by simp)]; exact R'⟩
    · have e2 : (!decide (V.mark q < 2)) = true := by simp [h2]
      walk_at "mw"
      exact hQ _ _ ⟨rfl, c, Nat.le_refl _, .refl .., by unfold barrier; rw [if_pos (.inr (.inl h2))]; exact R⟩
  · have e1 : (V.mark p != 3) = true := by simp [h1]
    walk_at "mw"
    exact hQ _ _ ⟨rfl, c, Nat.le_refl _, .refl .., by unfold barrier; rw [if_pos (.inl h1)]; exact R⟩
end

section
variable {E : En P.heap_1} {V : Cy} {κ : Kn} {c : Nat} {σ : Sg Nm}

theorem c_hoInit {nm : Nm} {a b : Int} : Wc E 1 (.ref 364) [.ref nm, .int a, .int b] (fun v σ' => v = .none ∧ σ.set nm (.inst 367 [("number", .int a), ("mark", .int 0), ("size", .int b)]) = σ') (σ.set nm (.inst 367 [])) := by
  refine cps fun Q hQ => ?_
  refine w_def (by k_is) (by k_is) (by walk_at "binds") (by rfl) ?_
  walk_at "mw"
  refine hQ _ _ ⟨rfl, ?_⟩
  rw [Sg.set_set, Sg.set_set, Sg.set_set]
  rfl

def objsKV (l : List Int) : List (Int × MV Nm) := l.map fun i => (i, .ref (.ob i))
theorem objs_len (l : List Int) : (objsKV l).length = l.length := List.length_map ..
theorem objs_put {l : List Int} {j : Int} (h : j ∉ l) : dput (objsKV l) j (.ref (.ob j)) = objsKV (l ++ [j]) := by
  unfold dput
  rw [if_neg]
  · simp [objsKV]
  · intro z
    rw [List.any_eq_true] at z
    obtain ⟨p, hp, e⟩ := z
    obtain ⟨i, hi, rfl⟩ := List.mem_map.mp hp
    exact h ((of_decide_eq_true e) ▸ hi)
theorem objs_get {l : List Int} {j : Int} : dget (objsKV l) j = if j ∈ l then some (.ref (.ob j)) else none := by
  unfold dget objsKV
  induction l with
  | nil => rfl
  | cons a l ih =>
    rw [List.map_cons, List.find?_cons]
    by_cases q : a = j
    · subst q; simp
    · have q' : ¬ j = a := fun z => q z.symm
      simp only [q, decide_false]
      rw [ih]
      simp [q']
theorem objs_del {l : List Int} {j : Int} : ddel (objsKV l) j = objsKV (l.filter fun i => decide (i ≠ j)) := by
  unfold ddel objsKV
  rw [List.filter_map]
  rfl

def takeIn (V : Cy) (sz : Int) : Cy :=
  { V with n := V.n + 1, mark := fun j => if j = V.n + 1 then V.white else V.mark j, size := fun j => if j = V.n + 1 then sz else V.size j, objs := V.objs ++ [V.n + 1], total := V.total + sz }

theorem Rep.takeIn (R : Rep V κ c σ) (hV : V.Rg) (sz : Int) : Rep (takeIn V sz) κ c (((σ.set (.ob (V.n + 1)) (.inst 367 [("number", .int (V.n + 1)), ("mark", .int V.white), ("size", .int sz)])).set .objs (.idict (objsKV (V.objs ++ [V.n + 1])))).set .cyc (.inst 346 (cycF (Mine.takeIn V sz) κ))) where
  cyc := Sg.set_self ..
  mks := (Sg.set_ne _ _ Nm.noConfusion).trans ((Sg.set_ne _ _ Nm.noConfusion).trans ((Sg.set_ne _ _ Nm.noConfusion).trans R.mks))
  gr := (Sg.set_ne _ _ Nm.noConfusion).trans ((Sg.set_ne _ _ Nm.noConfusion).trans ((Sg.set_ne _ _ Nm.noConfusion).trans R.gr))
  ag := (Sg.set_ne _ _ Nm.noConfusion).trans ((Sg.set_ne _ _ Nm.noConfusion).trans ((Sg.set_ne _ _ Nm.noConfusion).trans R.ag))
  wk := (Sg.set_ne _ _ Nm.noConfusion).trans ((Sg.set_ne _ _ Nm.noConfusion).trans ((Sg.set_ne _ _ Nm.noConfusion).trans R.wk))
  rt := (Sg.set_ne _ _ Nm.noConfusion).trans ((Sg.set_ne _ _ Nm.noConfusion).trans ((Sg.set_ne _ _ Nm.noConfusion).trans R.rt))
  sw := (Sg.set_ne _ _ Nm.noConfusion).trans ((Sg.set_ne _ _ Nm.noConfusion).trans ((Sg.set_ne _ _ Nm.noConfusion).trans R.sw))
  os := (Sg.set_ne _ _ Nm.noConfusion).trans (Sg.set_self ..)
  o := fun i hi => (Sg.set_ne _ _ Nm.noConfusion).trans ((Sg.set_ne _ _ Nm.noConfusion).trans (by
    by_cases q : i = V.n + 1
    · subst q
      have e : obF (Mine.takeIn V sz) (V.n + 1) = ([("number", .int (V.n + 1)), ("mark", .int V.white), ("size", .int sz)] : List (Str × MV Nm)) := by simp [obF, Mine.takeIn]
      rw [e]
      exact Sg.set_self ..
    · have hi' : V.rng i := by
        have : 1 ≤ i ∧ i ≤ V.n + 1 := hi
        unfold Cy.rng
        omega
      have e : obF (Mine.takeIn V sz) i = obF V i := by
        unfold obF Mine.takeIn
        simp [q]
      rw [e]
      exact (Sg.set_ne _ _ (fun z => q (Nm.ob.inj z))).trans (R.o i hi')))
  no := fun i hi => (Sg.set_ne _ _ Nm.noConfusion).trans ((Sg.set_ne _ _ Nm.noConfusion).trans (by
    have q : i ≠ V.n + 1 := fun z => hi (by show 1 ≤ i ∧ i ≤ V.n + 1; have := hV.n0; omega)
    have hi' : ¬ V.rng i := fun z => hi ⟨z.1, by show i ≤ V.n + 1; have := z.2; omega⟩
    exact (Sg.set_ne _ _ (fun z => q (Nm.ob.inj z))).trans (R.no i hi')))
  lo := fun k hk => (Sg.set_ne _ _ Nm.noConfusion).trans ((Sg.set_ne _ _ Nm.noConfusion).trans ((Sg.set_ne _ _ Nm.noConfusion).trans (R.lo k hk)))
  kc := R.kc
  kd := R.kd
theorem c_takeIn (R : Rep V κ c σ) (hV : V.Rg) {a b s : Int} {j sz : Int} (hj : j = V.n + 1) :
    Wc E 1 (.ref 189) [.ref .cyc, .ref (.ob j), .int j, .int sz] (fun v σ' => v = .none ∧ Out κ c σ σ' ∧ Rep (takeIn V sz) κ c σ') (σ.set (.ob j) (.inst 367 [("number", .int a), ("mark", .int b), ("size", .int s)])) := by
  have hol := hV.olen
  refine cps fun Q hQ => ?_
  refine w_def (by k_is) (by k_is) (by walk_at "binds") (by rfl) ?_
  walk_at "mw"
  refine w_sitC (.int (kvs := objsKV V.objs) (by walk_at "lk") (by rw [objs_len]; omega)) ?_
  rw [objs_put (fun z => by have := hV.o j z; unfold Cy.rng at this; omega)]
  walk_at "mw"
  subst hj
  rw [Sg.set_set, Sg.set_set, Sg.set_set]
  refine hQ _ _ ⟨rfl, ?_, ?_⟩
  · exact Out.cyc (Out.objs (Out.obb (Out.refl _ _ _)))
  · have e1 : fset "size" (MV.int sz) (fset "mark" (MV.int V.white) (fset "number" (MV.int (V.n + 1)) ([("number", MV.int a), ("mark", MV.int b), ("size", MV.int s)] : List (Str × MV Nm)))) = ([("number", MV.int (V.n + 1)), ("mark", MV.int V.white), ("size", MV.int sz)] : List (Str × MV Nm)) := rfl
    have e2 : fset "total" (MV.int (V.total + sz)) (cycF V κ) = cycF (takeIn V sz) κ := rfl
    rw [e1, e2]
    exact R.takeIn hV sz
end

section
variable {E : En P.heap_1} {V : Cy} {κ : Kn} {c : Nat} {σ : Sg Nm}

theorem c_roots (R : Rep V κ c σ) : Wc E 1 (.ref 217) [.ref .cyc] (fun v σ' => v = .ref (.t κ.r) ∧ σ = σ') σ := by
  refine cps fun Q hQ => ?_
  refine w_def (by k_is) (by k_is) (by walk_at "binds") (by rfl) ?_
  walk_at "mw"
  exact hQ _ _ ⟨rfl, rfl⟩
theorem c_lateRoots (R : Rep V κ c σ) {a : MV Nm} : Wc E 1 (.ref 224) [.ref .cyc, a] (fun v σ' => v = .ref (.t c) ∧ σ.set (.t c) (.list []) = σ') σ := by
  refine cps fun Q hQ => ?_
  refine w_def (by k_is) (by k_is) (by walk_at "binds") (by rfl) ?_
  walk_at "mw"
  refine w_listK (n := .t c) (by walk_at "fresh") (by decide) ?_
  exact hQ _ _ ⟨rfl, rfl⟩
theorem c_atEnd (R : Rep V κ c σ) : Wc E 1 (.ref 238) [.ref .cyc] (fun v σ' => v = .int 0 ∧ σ = σ') σ := by
  refine cps fun Q hQ => ?_
  refine w_def (by k_is) (by k_is) (by walk_at "binds") (by rfl) ?_
  walk_at "mw"
  exact hQ _ _ ⟨rfl, rfl⟩

def markRoots (kd : Int → List Int) (so : Int → Int) (V : Cy) : Cy := { begin' kd so V with phase := 1 }
theorem c_markRoots {n : Int} {P : Sg Nm → Prop} {kd : Int → List Int} {so : Int → Int} (Lw : Law E n P kd so) (hV : V.Rg) (hn : V.n = n) (hP : P σ) (R : Rep V κ c σ) :
    Wc E 71 (.ref 231) [.ref .cyc] (fun v σ' => v = .none ∧ ∃ κ' c', Go κ c σ κ' c' σ' ∧ Rep (markRoots kd so V) κ' c' σ') σ := by
  refine cps fun Q hQ => ?_
  refine w_def (by k_is) (by k_is) (by walk_at "binds") (by rfl) ?_
  walk_at "mw"
  refine k_code (c_roots R) (by decide) ?_
  rintro _ _ ⟨rfl, rfl⟩
  walk_at "mw"
  refine k_code (c_begin Lw hV hn hP R) (by decide) ?_
  rintro _ σ₁ ⟨rfl, κ₁, c₁, G₁, R₁⟩
  walk_at "mw"
  exact hQ _ _ ⟨rfl, κ₁, c₁, G₁.trans (.of (Nat.le_refl _) (Out.refl ..).cyc), R₁.cycS (markRoots kd so V) ⟨rfl, rfl, rfl, rfl⟩ rfl rfl rfl rfl rfl⟩

def atomic (kd : Int → List Int) (so : Int → Int) (V : Cy) : Cy :=
  { finish kd so V with white := 1 - V.white, swp := V.objs, phase := 2, estimate := max 0 V.total }
theorem finish_ok {V : Cy} {kd : Int → List Int} {so : Int → Int} (hk : ∀ i, 1 ≤ i → i ≤ V.n → ∀ j ∈ kd i, 1 ≤ j ∧ j ≤ V.n) (hM : V.Mk) : (finish kd so V).Mk ∧ V.Same (finish kd so V) ∧ (finish kd so V).grey = [] := by
  obtain ⟨m1, s1, w1, g1⟩ := pAll_ok (so := so) PF hk hM (Cy.mu_le hM)
  have m4 : ({ pAll kd so PF V with grey := (pAll kd so PF V).again, again := [] } : Cy).Mk := by
    have nd := m1.nd
    rw [g1] at nd
    refine ⟨⟨m1.rg.n0, m1.rg.n1, m1.rg.a, (fun i h => by cases h), m1.rg.r, m1.rg.rl, m1.rg.o, m1.rg.on, m1.rg.sl⟩, ?_, fun i hi => m1.gm i ?_⟩
    · show ((pAll kd so PF V).again ++ []).Nodup
      rw [List.append_nil]; exact nd
    · have hi' : i ∈ (pAll kd so PF V).again ++ [] := hi
      rw [List.append_nil] at hi'
      exact List.mem_append_right _ hi'
  obtain ⟨m5, s5, w5, g5⟩ := pAll_ok (so := so) PF (V := { pAll kd so PF V with grey := (pAll kd so PF V).again, again := [] }) (by rw [show ({ pAll kd so PF V with grey := (pAll kd so PF V).again, again := [] } : Cy).n = V.n from s1.n]; exact hk) m4 (Cy.mu_le m4)
  exact ⟨m5, s1.trans (Cy.Same.trans (V' := { pAll kd so PF V with grey := (pAll kd so PF V).again, again := [] }) ⟨rfl, rfl, rfl, rfl, rfl, rfl, rfl, rfl, rfl, rfl, rfl, rfl, rfl⟩ s5), g5⟩

/-- a new list to sweep -/
theorem Rep.swNew (R : Rep V κ c σ) (V' : Cy) (e : V.Eqv V') (ew : V'.white = V.white) (eg : V'.grey = V.grey) (ea : V'.again = V.again) (er : V'.root = V.root) : Rep V' { κ with s := c } (c + 1) ((σ.set (.t c) (.list (V'.swp.map .int))).set .cyc (.inst 346 (cycF V' { κ with s := c }))) := by
  have R1 := R.tmp (.list (V'.swp.map .int))
  have hkc := R.kc
  have hkd := R.kd
  exact R1.cycTo V' { κ with s := c } e ew eg ea rfl rfl rfl (by rw [er]; exact R1.rt) (Sg.set_self ..) (by dsimp only; clear R R1; omega) (by dsimp only; clear R R1; refine ⟨hkd.1, hkd.2.1, hkd.2.2.1, ?_, hkd.2.2.2.2.1, hkd.2.2.2.2.2.1, ?_, hkd.2.2.2.2.2.2.2.1, ?_, ?_⟩ <;> omega)
theorem Go.swNew {σ' : Sg Nm} (O : Out κ c σ σ') : Go κ c σ { κ with s := c } (c + 1) σ' := ⟨Nat.le_succ c, O, fun k h0 h1 h2 h3 h4 h5 => ⟨h1, h2, h3, h4, Nat.ne_of_lt h0⟩, rfl⟩

theorem c_atomic {n : Int} {P : Sg Nm → Prop} {kd : Int → List Int} {so : Int → Int} (Lw : Law E n P kd so) (hM : V.Mk) (hn : V.n = n) (hP : P σ) (R : Rep V κ c σ) :
    Wc E 73 (.ref 245) [.ref .cyc, .none] (fun v σ' => v = .none ∧ ∃ κ' c', Go κ c σ κ' c' σ' ∧ Rep (atomic kd so V) κ' c' σ') σ := by
  have hk : ∀ i, 1 ≤ i → i ≤ V.n → ∀ j ∈ kd i, 1 ≤ j ∧ j ≤ V.n := by rw [hn]; exact Lw.kn
  have hol := hM.rg.olen
  obtain ⟨f1, f2, f3⟩ := finish_ok (so := so) hk hM
  refine cps fun Q hQ => ?_
  refine w_def (by k_is) (by k_is) (by walk_at "binds") (by rfl) ?_
  walk_at "mw"
  refine k_code (c_lateRoots R) (by decide) ?_
  rintro _ _ ⟨rfl, rfl⟩
  have hkc := R.kc
  have R₁ := R.tmp (.list [])
  have O₁ := Out.tmp (κ := κ) (c := c) (σ := σ) (.list [])
  have hl : (σ.set (.t c) (.list [])) (.t c) = some (.list []) := Sg.set_self ..
  have G₁ := Go.of (Nat.le_succ c) O₁
  generalize σ.set (.t c) (.list []) = σ₁ at *
  walk_at "mw"
  refine k_code (c_finish Lw hM hn (Lw.out O₁ hP) R₁ (Nat.lt_succ_self c) ⟨by omega, by omega, by omega, by omega, by omega⟩ hl) (by decide) ?_
  rintro _ σ₂ ⟨rfl, κ₂, c₂, G₂, -, R₂⟩
  walk_at "mw"
  refine k_code (c_atEnd R₂) (by decide) ?_
  rintro _ _ ⟨rfl, rfl⟩
  walk_at "mw"
  refine k_code (c_flip R₂) (by decide) ?_
  rintro _ σ₃ ⟨rfl, O₃, R₃⟩
  walk_at "mw"
  refine wv (v_listDict E.T (nm := .t c₂) (kvs := objsKV V.objs) (R₃.os.trans (by show some (MO.idict (objsKV (finish kd so V).objs)) = _; rw [f2.objs])) (by rw [objs_len]; omega) (by walk_at "fresh") ?_)
  have e1 : ((objsKV V.objs).map (·.1)).map (.int : Int → MV Nm) = V.objs.map .int := by unfold objsKV; simp
  rw [e1]
  walk_at "mw"
  refine wv (v_max ?_)
  walk_at "mw"
  have e2 : V.total - 0 = V.total := Int.sub_zero _
  have key : atomic kd so V = { { finish kd so V with white := 1 - (finish kd so V).white } with swp := V.objs, phase := 2, estimate := max 0 ((finish kd so V).total - 0) } := by
    unfold atomic
    rw [f2.white, f2.total, e2]
  refine hQ _ _ ⟨rfl, { κ₂ with s := c₂ }, c₂ + 1, ((G₁.trans G₂).trans (.of (Nat.le_refl _) O₃)).trans (Go.swNew (by walk_at "outx")), ?_⟩
  rw [key, Sg.set_set, Sg.set_set]
  exact R₃.swNew _ ⟨rfl, rfl, rfl, rfl⟩ rfl rfl rfl rfl
end

section
variable {E : En P.heap_1} {V : Cy} {κ : Kn} {c : Nat} {σ : Sg Nm}

def free (V : Cy) (i : Int) : Cy := Cy.setMark { V with objs := V.objs.filter (fun j => decide (j ≠ i)), total := V.total - V.size i } i 4
theorem c_free (R : Rep V κ c σ) (hV : V.Rg) {i : Int} (hi : i ∈ V.objs) : Wc E 1 (.ref 252) [.ref .cyc, .ref (.ob i)] (fun v σ' => v = .none ∧ Out κ c σ σ' ∧ Rep (free V i) κ c σ') σ := by
  have hr := hV.o i hi
  have hol := hV.olen
  refine cps fun Q hQ => ?_
  refine w_def (by k_is) (by k_is) (by walk_at "binds") (by rfl) ?_
  walk_at "mw"
  refine wv (v_dpop E.T (kvs := objsKV V.objs) (v := .ref (.ob i)) (by walk_at "lk") (by rw [objs_len]; omega) (by rw [objs_get, if_pos hi]) ?_)
  rw [objs_del]
  have R₁ := R.objsTo (V.objs.filter (fun j => decide (j ≠ i)))
  have O₁ := (Out.refl κ c σ).objs (o := .idict (objsKV (V.objs.filter (fun j => decide (j ≠ i)))))
  have eo : (V.objs.filter (fun j => decide (j ≠ i))).map (fun i => (i, (.ref (.ob i) : MV Nm))) = objsKV (V.objs.filter (fun j => decide (j ≠ i))) := rfl
  rw [eo] at R₁
  generalize σ.set .objs (.idict (objsKV (V.objs.filter (fun j => decide (j ≠ i))))) = σ₁ at *
  have hr₁ : ({ V with objs := V.objs.filter (fun j => decide (j ≠ i)) } : Cy).rng i := hr
  walk_at "mw"
  have R₂ := R₁.cycS { V with objs := V.objs.filter (fun j => decide (j ≠ i)), total := V.total - V.size i } ⟨rfl, rfl, rfl, rfl⟩ rfl rfl rfl rfl rfl
  have O₂ := (Out.refl κ c σ₁).cyc (o := .inst 346 (cycF { V with objs := V.objs.filter (fun j => decide (j ≠ i)), total := V.total - V.size i } κ))
  have R₃ := R₂.setMark (i := i) hr 4
  rw [← fset_mark] at R₃
  exact hQ _ _ ⟨rfl, (O₁.trans' O₂ (Nat.le_refl _)).trans' Out.ob (Nat.le_refl _), R₃⟩

def sweep1 (V : Cy) (i : Int) : Cy :=
  if i ∈ V.objs then (if V.dead i = true then free { V with swp := V.swp.dropLast } i else Cy.setMark { V with swp := V.swp.dropLast } i V.white) else { V with swp := V.swp.dropLast }
def sweepN : Nat → Cy → Cy
  | 0, V => V
  | k + 1, V => match V.swp.getLast? with
    | none => V
    | some i => sweepN k (sweep1 V i)
theorem sweep1_rg {V : Cy} (h : V.Rg) (i : Int) : (sweep1 V i).Rg ∧ (sweep1 V i).n = V.n ∧ (sweep1 V i).swp = V.swp.dropLast ∧ (sweep1 V i).smax = V.smax := by
  have hs : V.swp.dropLast.length ≤ 60 := by rw [List.length_dropLast]; have := h.sl; omega
  unfold sweep1
  split
  · split
    · exact ⟨⟨h.n0, h.n1, h.g, h.a, h.r, h.rl, fun j hj => h.o j (List.mem_filter.mp hj).1, h.on.sublist List.filter_sublist, hs⟩, rfl, rfl, rfl⟩
    · exact ⟨⟨h.n0, h.n1, h.g, h.a, h.r, h.rl, h.o, h.on, hs⟩, rfl, rfl, rfl⟩
  · exact ⟨⟨h.n0, h.n1, h.g, h.a, h.r, h.rl, h.o, h.on, hs⟩, rfl, rfl, rfl⟩
theorem sweepN_rg : ∀ (k : Nat) {V : Cy}, V.Rg → (sweepN k V).Rg ∧ (sweepN k V).n = V.n ∧ (sweepN k V).swp.length = V.swp.length - k
  | 0, V, h => ⟨h, rfl, rfl⟩
  | k + 1, V, h => by
    unfold sweepN
    cases e : V.swp.getLast? with
    | none =>
      rw [List.getLast?_eq_none_iff] at e
      refine ⟨h, rfl, ?_⟩
      rw [e]; simp
    | some i =>
      obtain ⟨a, b, d, -⟩ := sweep1_rg h i
      obtain ⟨a', b', d'⟩ := sweepN_rg k a
      refine ⟨a', b'.trans b, ?_⟩
      dsimp only
      rw [d', d, List.length_dropLast]; omega

theorem c_sweepSome (R : Rep V κ c σ) (hV : V.Rg) (hs : 0 ≤ V.smax) {a1 a2 a3 : Nat} (h1 : σ (.t a1) = some (.meth 49 (.ref .mks))) (h2 : σ (.t a2) = some (.meth 252 (.ref .cyc))) (h3 : σ (.t a3) = some (.meth 56 (.ref .mks)))
    (g1 : a1 < c ∧ a1 ≠ κ.g ∧ a1 ≠ κ.a ∧ a1 ≠ κ.w ∧ a1 ≠ κ.r ∧ a1 ≠ κ.s) (g2 : a2 < c ∧ a2 ≠ κ.g ∧ a2 ≠ κ.a ∧ a2 ≠ κ.w ∧ a2 ≠ κ.r ∧ a2 ≠ κ.s) (g3 : a3 < c ∧ a3 ≠ κ.g ∧ a3 ≠ κ.a ∧ a3 ≠ κ.w ∧ a3 ≠ κ.r ∧ a3 ≠ κ.s) :
    Wc E 5 (.ref 147) [.ref (.t κ.s), .ref .objs, .int V.smax, .ref (.t a1), .ref (.t a2), .ref (.t a3)] (fun _ σ' => Out κ c σ σ' ∧ Rep (sweepN V.smax.toNat V) κ c σ') σ := by
  refine cps fun Q hQ => ?_
  refine w_def (by k_is) (by k_is) (by walk_at "binds") (by rfl) ?_
  walk_at "mw"
  refine w_while (fun k fr' σ' => ∃ (V' : Cy) (mn : Nat), Out κ c σ σ' ∧ Rep V' κ c σ' ∧ V'.Rg ∧ V'.n = V.n ∧ (mn : Int) + k = V.smax ∧ sweepN k V' = sweepN V.smax.toNat V ∧ fr'.lookup ("many" : Str) = some (.int mn) ∧
    fr'.lookup ("waiting" : Str) = some (.ref (.t κ.s)) ∧ fr'.lookup ("objects" : Str) = some (.ref .objs) ∧ fr'.lookup ("most" : Str) = some (.int V.smax) ∧ fr'.lookup ("is_dead" : Str) = some (.ref (.t a1)) ∧ fr'.lookup ("free" : Str) = some (.ref (.t a2)) ∧ fr'.lookup ("keep" : Str) = some (.ref (.t a3)))
    ?_ V.smax.toNat ⟨V, 0, .refl .., R, hV, rfl, by omega, rfl, by rfl, by rfl, by rfl, by rfl, by rfl, by rfl, by rfl⟩
  rintro k fr' σ' ⟨V', mn, O', R', hV', hn', hk, he, l0, l1, l2, l3, l4, l5, l6⟩
  walk_at "mw"
  by_cases hk0 : k = 0
  · have e0 : decide ((mn : Int) < V.smax) = false := by simp; omega
    walk_at "mw"
    subst hk0
    exact hQ _ _ ⟨O', by rw [← he]; exact R'⟩
  · have e0 : decide ((mn : Int) < V.smax) = true := by simp; omega
    obtain ⟨k', rfl⟩ : ∃ k', k = k' + 1 := ⟨k - 1, by omega⟩
    walk_at "mw"
    have hsl := hV'.sl
    refine wv (e_lenList R'.sw (by rw [List.length_map]; omega) ?_)
    walk_at "mw"
    rw [List.length_map]
    cases e : V'.swp.getLast? with
    | none =>
      have e' := List.getLast?_eq_none_iff.mp e
      have e1 : decide ((0 : Int) < (V'.swp.length : Int)) = false := by rw [e']; rfl
      walk_at "mw"
      refine hQ _ _ ⟨O', ?_⟩
      rw [← he]
      unfold sweepN
      rw [e]
      exact R'
    | some i =>
      have hne : V'.swp ≠ [] := fun z => by rw [z] at e; cases e
      have e1 : decide ((0 : Int) < (V'.swp.length : Int)) = true := by
        have : 0 < V'.swp.length := List.length_pos_iff.mpr hne
        simp; omega
      walk_at "mw"
      refine wv (v_pop R'.sw (by rw [List.length_map]; omega) (v := .int i) (by rw [List.getLast?_map, e]; rfl) ?_)
      rw [← List.map_dropLast]
      have R₁ := R'.swTo V'.swp.dropLast
      have O₁ := (Out.refl κ c σ').sw (o := .list (V'.swp.dropLast.map .int))
      generalize σ'.set (.t κ.s) (.list (V'.swp.dropLast.map .int)) = σ₁ at *
      walk_at "mw"
      have hm1 : σ₁ (.t a1) = some (.meth 49 (.ref .mks)) := by
        obtain ⟨z0, z1, z2, z3, z4, z5⟩ := g1
        rw [(O'.trans' O₁ (Nat.le_refl _)).t a1 z0 z1 z2 z3 z4 z5]; exact h1
      have hm2 : σ₁ (.t a2) = some (.meth 252 (.ref .cyc)) := by
        obtain ⟨z0, z1, z2, z3, z4, z5⟩ := g2
        rw [(O'.trans' O₁ (Nat.le_refl _)).t a2 z0 z1 z2 z3 z4 z5]; exact h2
      have hm3 : σ₁ (.t a3) = some (.meth 56 (.ref .mks)) := by
        obtain ⟨z0, z1, z2, z3, z4, z5⟩ := g3
        rw [(O'.trans' O₁ (Nat.le_refl _)).t a3 z0 z1 z2 z3 z4 z5]; exact h3
      have hN : sweepN (k' + 1) V' = sweepN k' (sweep1 V' i) := by rw [sweepN, e]
      obtain ⟨r1, r2, r3, r4⟩ := sweep1_rg hV' i
      have O₂ := O'.trans' O₁ (Nat.le_refl _)
      refine wv (v_dget E.T (kvs := objsKV V'.objs) R₁.os ?_)
      rw [objs_get]
      by_cases hi : i ∈ V'.objs
      · rw [if_pos hi]
        have hri : ({ V' with swp := V'.swp.dropLast } : Cy).rng i := hV'.o i hi
        dsimp only [Option.getD]
        have V1rg : ({ V' with swp := V'.swp.dropLast } : Cy).Rg := ⟨hV'.n0, hV'.n1, hV'.g, hV'.a, hV'.r, hV'.rl, hV'.o, hV'.on, by show V'.swp.dropLast.length ≤ 60; rw [List.length_dropLast]; omega⟩
        walk_at "mw"
        refine w_fin (.inl ⟨_, _, hm1, by k_is⟩) (k_meth hm1 (c_isDead R₁ hri) (by decide) ?_)
        rintro _ _ ⟨rfl, rfl⟩
        walk_at "mw"
        have hd : Cy.dead { V' with swp := V'.swp.dropLast } i = V'.dead i := rfl
        rw [hd]
        cases hdd : V'.dead i with
        | true =>
          walk_at "mw"
          refine w_fin (.inl ⟨_, _, hm2, by k_is⟩) (k_meth hm2 (c_free R₁ V1rg hi) (by decide) ?_)
          rintro _ σ₃ ⟨rfl, O₃, R₃⟩
          walk_at "mw"
          have es : sweep1 V' i = free { V' with swp := V'.swp.dropLast } i := by unfold sweep1; rw [if_pos hi, if_pos hdd]
          rw [es] at hN r1 r2
          refine w_less (Nat.lt_succ_self k') ⟨_, mn + 1, O₂.trans' O₃ (Nat.le_refl _), R₃, r1, r2.trans hn', by omega, by rw [← he, hN], by rw [List.lookup_cons]; rfl, by walk_at "loc", by walk_at "loc", by walk_at "loc", by walk_at "loc", by walk_at "loc", by walk_at "loc"⟩
        | false =>
          walk_at "mw"
          refine w_fin (.inl ⟨_, _, hm3, by k_is⟩) (k_meth hm3 (c_makeWhite R₁ hri) (by decide) ?_)
          rintro _ σ₃ ⟨rfl, R₃, O₃⟩
          walk_at "mw"
          have es : sweep1 V' i = Cy.setMark { V' with swp := V'.swp.dropLast } i V'.white := by unfold sweep1; rw [if_pos hi, if_neg (by rw [hdd]; simp)]
          rw [es] at hN r1 r2
          refine w_less (Nat.lt_succ_self k') ⟨_, mn + 1, O₂.trans' O₃ (Nat.le_refl _), R₃, r1, r2.trans hn', by omega, by rw [← he, hN], by rw [List.lookup_cons]; rfl, by walk_at "loc", by walk_at "loc", by walk_at "loc", by walk_at "loc", by walk_at "loc", by walk_at "loc"⟩
      · rw [if_neg hi]
        dsimp only [Option.getD]
        walk_at "mw"
        have es : sweep1 V' i = { V' with swp := V'.swp.dropLast } := by unfold sweep1; rw [if_neg hi]
        rw [es] at hN r1 r2
        refine w_less (Nat.lt_succ_self k') ⟨_, mn + 1, O₂, R₁, r1, r2.trans hn', by omega, by rw [← he, hN], by rw [List.lookup_cons]; rfl, by walk_at "loc", by walk_at "loc", by walk_at "loc", by walk_at "loc", by walk_at "loc", by walk_at "loc"⟩
end

section
variable {E : En P.heap_1} {V : Cy} {κ : Kn} {c : Nat} {σ : Sg Nm}

theorem sweepN_smax : ∀ (k : Nat) {V : Cy}, V.Rg → (sweepN k V).smax = V.smax
  | 0, _, _ => rfl
  | k + 1, V, h => by
    unfold sweepN
    cases e : V.swp.getLast? with
    | none => rfl
    | some i =>
      obtain ⟨a, -, -, d⟩ := sweep1_rg h i
      exact (sweepN_smax k a).trans d
theorem sweepN_phase : ∀ (k : Nat) {V : Cy}, (sweepN k V).phase = V.phase
  | 0, _ => rfl
  | k + 1, V => by
    unfold sweepN
    cases e : V.swp.getLast? with
    | none => rfl
    | some i =>
      refine (sweepN_phase k).trans ?_
      unfold sweep1
      split
      · split <;> rfl
      · rfl
def sweep (V : Cy) : Cy :=
  { sweepN V.smax.toNat V with phase := if (sweepN V.smax.toNat V).swp = [] then 3 else (sweepN V.smax.toNat V).phase, estimate := max 0 ((sweepN V.smax.toNat V).estimate - (V.total - (sweepN V.smax.toNat V).total)) }

theorem c_sweep (R : Rep V κ c σ) (hV : V.Rg) (hs : 0 ≤ V.smax) : Wc E 6 (.ref 259) [.ref .cyc] (fun v σ' => v = .int (V.smax * 2) ∧ ∃ c', c ≤ c' ∧ Out κ c σ σ' ∧ Rep (sweep V) κ c' σ') σ := by
  refine cps fun Q hQ => ?_
  refine w_def (by k_is) (by k_is) (by walk_at "binds") (by rfl) ?_
  walk_at "mw"
  refine w_bmA (nm := .t c) (by walk_at "lk") ⟨by k_is, by k_is, by k_is, by k_is, by k_is, by decide +kernel, by k_is⟩ (by rfl) (by walk_at "fresh") ?_
  walk_at "mw"
  refine w_bmA (nm := .t (c + 1)) (by walk_at "lk") ⟨by k_is, by k_is, by k_is, by k_is, by k_is, by decide +kernel, by k_is⟩ (by rfl) (by walk_at "fresh") ?_
  walk_at "mw"
  refine w_bmA (nm := .t (c + 2)) (by walk_at "lk") ⟨by k_is, by k_is, by k_is, by k_is, by k_is, by decide +kernel, by k_is⟩ (by rfl) (by walk_at "fresh") ?_
  walk_at "mw"
  have R₁ := ((R.tmp (.meth 49 (.ref .mks))).tmp (.meth 252 (.ref .cyc))).tmp (.meth 56 (.ref .mks))
  have O₁ := Out.new (Nat.le_add_right c 2) (o := .meth 56 (.ref .mks)) (Out.new (Nat.le_succ c) (o := .meth 252 (.ref .cyc)) (Out.tmp (κ := κ) (c := c) (σ := σ) (.meth 49 (.ref .mks))))
  have hkc := R.kc
  have hm1 : (((σ.set (.t c) (.meth 49 (.ref .mks))).set (.t (c + 1)) (.meth 252 (.ref .cyc))).set (.t (c + 2)) (.meth 56 (.ref .mks))) (.t c) = some (.meth 49 (.ref .mks)) := by walk_at "lk"
  have hm2 : (((σ.set (.t c) (.meth 49 (.ref .mks))).set (.t (c + 1)) (.meth 252 (.ref .cyc))).set (.t (c + 2)) (.meth 56 (.ref .mks))) (.t (c + 1)) = some (.meth 252 (.ref .cyc)) := by walk_at "lk"
  have hm3 : (((σ.set (.t c) (.meth 49 (.ref .mks))).set (.t (c + 1)) (.meth 252 (.ref .cyc))).set (.t (c + 2)) (.meth 56 (.ref .mks))) (.t (c + 2)) = some (.meth 56 (.ref .mks)) := by walk_at "lk"
  generalize (((σ.set (.t c) (.meth 49 (.ref .mks))).set (.t (c + 1)) (.meth 252 (.ref .cyc))).set (.t (c + 2)) (.meth 56 (.ref .mks))) = σ₁ at *
  refine k_code (c_sweepSome R₁ hV hs hm1 hm2 hm3 ⟨by omega, by omega, by omega, by omega, by omega, by omega⟩ ⟨by omega, by omega, by omega, by omega, by omega, by omega⟩ ⟨by omega, by omega, by omega, by omega, by omega, by omega⟩) (by decide) ?_
  rintro _ σ₂ ⟨O₂, R₂⟩
  obtain ⟨q1, q2, q3⟩ := sweepN_rg V.smax.toNat hV
  have q4 := sweepN_smax V.smax.toNat hV
  have q5 := sweepN_phase V.smax.toNat (V := V)
  have hsl := q1.sl
  have O₃ := O₁.trans' O₂ (Nat.le_add_right c 3)
  unfold sweep at hQ
  generalize hU : sweepN V.smax.toNat V = U at *
  walk_at "mw"
  refine wv (e_lenList R₂.sw (by rw [List.length_map]; omega) ?_)
  walk_at "mw"
  rw [List.length_map]
  by_cases he : U.swp = []
  · have e0 : ((U.swp.length : Int) == 0) = true := by rw [he]; rfl
    rw [if_pos he] at hQ
    walk_at "mw"
    refine wv (v_max ?_)
    walk_at "mw"
    rw [Sg.set_set]
    exact hQ _ _ ⟨by rw [q4], c + 3, Nat.le_add_right c 3, O₃.cyc, R₂.cycS _ ⟨rfl, rfl, rfl, rfl⟩ rfl rfl rfl rfl rfl⟩
  · have e0 : ((U.swp.length : Int) == 0) = false := by
      have : 0 < U.swp.length := List.length_pos_iff.mpr he
      simp; omega
    rw [if_neg he] at hQ
    walk_at "mw"
    refine wv (v_max ?_)
    walk_at "mw"
    exact hQ _ _ ⟨by rw [q4], c + 3, Nat.le_add_right c 3, O₃.cyc, R₂.cycS _ ⟨rfl, rfl, rfl, rfl⟩ rfl rfl rfl rfl rfl⟩

def finalize (V : Cy) : Cy := { V with phase := 0, debt := 0, cycles := V.cycles + 1 }
theorem c_finalize (R : Rep V κ c σ) : Wc E 1 (.ref 266) [.ref .cyc, .none] (fun v σ' => v = .int 0 ∧ Out κ c σ σ' ∧ Rep (finalize V) κ c σ') σ := by
  refine cps fun Q hQ => ?_
  refine w_def (by k_is) (by k_is) (by walk_at "binds") (by rfl) ?_
  walk_at "mw"
  rw [Sg.set_set, Sg.set_set]
  exact hQ _ _ ⟨rfl, (Out.refl ..).cyc, R.cycS (finalize V) ⟨rfl, rfl, rfl, rfl⟩ rfl rfl rfl rfl rfl⟩

theorem begin_ok {V : Cy} {kd : Int → List Int} {so : Int → Int} (hk : ∀ i, 1 ≤ i → i ≤ V.n → ∀ j ∈ kd i, 1 ≤ j ∧ j ≤ V.n) (hV : V.Rg) : MarkR { V with grey := [], again := [] } (begin' kd so V) := by
  have M1 : ({ V with grey := [], again := [] } : Cy).Mk := ⟨⟨hV.n0, hV.n1, (fun i h => by cases h), (fun i h => by cases h), hV.r, hV.rl, hV.o, hV.on, hV.sl⟩, .nil, (fun i h => by cases h)⟩
  exact fold_markR (N := V.n) (fun V i hM hi hn => mark_R (N := V.n) (by rw [hn]; exact hk) MF V i hM hi rfl) _ _ M1 rfl fun x hx => hV.r x hx

def step1 (kd : Int → List Int) (so : Int → Int) (V : Cy) : Cy :=
  if V.phase = 0 then markRoots kd so V else if V.phase = 1 then (if V.grey = [] then atomic kd so V else propagate kd so V) else if V.phase = 2 then sweep V else finalize V
def stepV (V : Cy) : Int :=
  if V.phase = 0 then 0 else if V.phase = 1 then (match V.grey.getLast? with | none => 0 | some i => max 1 (V.size i)) else if V.phase = 2 then V.smax * 2 else 0
structure Cy.Ok (V : Cy) : Prop where
  rg : V.Rg
  mk' : V.phase = 1 → V.Mk
  sm : 0 < V.smax
  ph : V.phase = 0 ∨ V.phase = 1 ∨ V.phase = 2 ∨ V.phase = 3
theorem c_singleStep {n : Int} {P : Sg Nm → Prop} {kd : Int → List Int} {so : Int → Int} (Lw : Law E n P kd so) (hV : V.Ok) (hn : V.n = n) (hP : P σ) (R : Rep V κ c σ) :
    Wc E 74 (.ref 273) [.ref .cyc, .none] (fun v σ' => v = .int (stepV V) ∧ ∃ κ' c', Go κ c σ κ' c' σ' ∧ Rep (step1 kd so V) κ' c' σ') σ := by
  refine cps fun Q hQ => ?_
  refine w_def (by k_is) (by k_is) (by walk_at "binds") (by rfl) ?_
  unfold step1 stepV at hQ
  walk_at "mw"
  by_cases h0 : V.phase = 0
  · have e0 : (V.phase == 0) = true := by simp [h0]
    rw [if_pos h0, if_pos h0] at hQ
    walk_at "mw"
    refine k_code (c_markRoots Lw hV.rg hn hP R) (by decide) ?_
    rintro _ σ' ⟨rfl, κ', c', G', R'⟩
    walk_at "mw"
    exact hQ _ _ ⟨rfl, κ', c', G', R'⟩
  have e0 : (V.phase == 0) = false := by simp [h0]
  rw [if_neg h0, if_neg h0] at hQ
  walk_at "mw"
  by_cases h1 : V.phase = 1
  · have e1 : (V.phase == 1) = true := by simp [h1]
    rw [if_pos h1, if_pos h1] at hQ
    have hlen := (hV.mk' h1).len
    walk_at "mw"
    refine wv (e_lenList R.gr (by rw [rf_len]; omega) ?_)
    walk_at "mw"
    rw [rf_len]
    by_cases hg : V.grey = []
    · have e2 : decide ((0 : Int) < (V.grey.length : Int)) = false := by rw [hg]; rfl
      rw [if_pos hg] at hQ
      walk_at "mw"
      refine k_code (c_atomic Lw (hV.mk' h1) hn hP R) (by decide) ?_
      rintro _ σ' ⟨rfl, κ', c', G', R'⟩
      walk_at "mw"
      rw [hg] at hQ
      exact hQ _ _ ⟨rfl, κ', c', G', R'⟩
    · have e2 : decide ((0 : Int) < (V.grey.length : Int)) = true := by
        have : 0 < V.grey.length := List.length_pos_iff.mpr hg
        simp; omega
      rw [if_neg hg] at hQ
      have eg := List.getLast?_eq_some_getLast hg
      walk_at "mw"
      refine k_code (c_propagate Lw (hV.mk' h1) hn hP R eg) (by decide) ?_
      rintro _ σ' ⟨rfl, c', hc', O', R'⟩
      rw [eg] at hQ
      exact hQ _ _ ⟨rfl, κ, c', .of hc' O', R'⟩
  have e1 : (V.phase == 1) = false := by simp [h1]
  rw [if_neg h1, if_neg h1] at hQ
  walk_at "mw"
  by_cases h2 : V.phase = 2
  · have e2 : (V.phase == 2) = true := by simp [h2]
    rw [if_pos h2, if_pos h2] at hQ
    walk_at "mw"
    refine k_code (c_sweep R hV.rg (Int.le_of_lt hV.sm)) (by decide) ?_
    rintro _ σ' ⟨rfl, c', hc', O', R'⟩
    exact hQ _ _ ⟨rfl, κ, c', .of hc' O', R'⟩
  have e2 : (V.phase == 2) = false := by simp [h2]
  rw [if_neg h2, if_neg h2] at hQ
  walk_at "mw"
  refine k_code (c_finalize R) (by decide) ?_
  rintro _ σ' ⟨rfl, O', R'⟩
  exact hQ _ _ ⟨rfl, κ, c, .of (Nat.le_refl _) O', R'⟩
end

section
variable {E : En P.heap_1} {V : Cy} {κ : Kn} {c : Nat} {σ : Sg Nm}

/-- how far the end of the cycle is -/
def Cy.tm (V : Cy) : Nat := if V.phase = 1 then 1000 + V.mu else if V.phase = 2 then V.swp.length + 2 else if V.phase = 3 then 1 else 0

theorem step1_ok {V : Cy} {kd : Int → List Int} {so : Int → Int} (hk : ∀ i, 1 ≤ i → i ≤ V.n → ∀ j ∈ kd i, 1 ≤ j ∧ j ≤ V.n) (h : V.Ok) :
    (step1 kd so V).Ok ∧ (step1 kd so V).n = V.n ∧ (step1 kd so V).smax = V.smax ∧ (V.phase ≠ 0 → (step1 kd so V).tm < V.tm) ∧ (V.phase = 2 → (step1 kd so V).phase = 2 ∨ (step1 kd so V).phase = 3) := by
  unfold step1
  split
  · rename_i h0
    have r := begin_ok (so := so) hk h.rg
    refine ⟨⟨⟨r.ok.rg.n0, r.ok.rg.n1, r.ok.rg.g, r.ok.rg.a, r.ok.rg.r, r.ok.rg.rl, r.ok.rg.o, r.ok.rg.on, r.ok.rg.sl⟩, fun _ => ⟨⟨r.ok.rg.n0, r.ok.rg.n1, r.ok.rg.g, r.ok.rg.a, r.ok.rg.r, r.ok.rg.rl, r.ok.rg.o, r.ok.rg.on, r.ok.rg.sl⟩, r.ok.nd, r.ok.gm⟩, ?_, .inr (.inl rfl)⟩, r.same.n, r.same.smax, fun z => absurd h0 z, fun z => by omega⟩
    show 0 < (begin' kd so V).smax
    rw [r.same.smax]; exact h.sm
  · rename_i h0
    split
    · rename_i h1
      have hM := h.mk' h1
      split
      · obtain ⟨f1, f2, f3⟩ := finish_ok (so := so) hk hM
        have hs : V.objs.length ≤ 60 := hM.rg.olen
        refine ⟨⟨⟨f1.rg.n0, f1.rg.n1, f1.rg.g, f1.rg.a, f1.rg.r, f1.rg.rl, f1.rg.o, f1.rg.on, hs⟩, ?_, ?_, .inr (.inr (.inl rfl))⟩, f2.n, f2.smax, fun _ => ?_, fun z => by omega⟩
        · intro z
          have z' : (2 : Int) = 1 := z
          omega
        · show 0 < (finish kd so V).smax
          rw [f2.smax]; exact h.sm
        · unfold Cy.tm
          rw [if_pos h1, if_neg (by show ¬ (2 : Int) = 1; decide), if_pos (show (atomic kd so V).phase = 2 from rfl)]
          show V.objs.length + 2 < _
          omega
      · rename_i hg
        obtain ⟨a, b, -, d⟩ := propagate_ok (so := so) hk hM hg
        refine ⟨⟨a.rg, fun _ => a, by rw [b.smax]; exact h.sm, by rw [b.phase]; exact h.ph⟩, b.n, b.smax, fun _ => ?_, fun z => by omega⟩
        unfold Cy.tm
        rw [if_pos h1, if_pos (by rw [b.phase]; exact h1)]
        omega
    · rename_i h1
      split
      · rename_i h2
        obtain ⟨a, b, d⟩ := sweepN_rg V.smax.toNat h.rg
        have e1 := sweepN_smax V.smax.toNat h.rg
        have e2 := sweepN_phase V.smax.toNat (V := V)
        have hph : (sweep V).phase = 3 ∧ (sweepN V.smax.toNat V).swp = [] ∨ (sweep V).phase = 2 ∧ (sweepN V.smax.toNat V).swp ≠ [] := by
          unfold sweep
          dsimp only
          split
          · rename_i q; exact .inl ⟨rfl, q⟩
          · rename_i q; exact .inr ⟨e2.trans h2, q⟩
        refine ⟨⟨⟨a.n0, a.n1, a.g, a.a, a.r, a.rl, a.o, a.on, a.sl⟩, fun z => ?_, ?_, ?_⟩, b, e1, fun _ => ?_, fun _ => ?_⟩
        · rcases hph with q | q <;> omega
        · show 0 < (sweepN V.smax.toNat V).smax
          rw [e1]; exact h.sm
        · rcases hph with q | q <;> omega
        · unfold Cy.tm
          rw [if_neg h1, if_pos h2]
          rcases hph with q | q
          · rw [if_neg (by omega), if_neg (by omega), if_pos q.1]; omega
          · rw [if_neg (by omega), if_pos q.1]
            have : 0 < (sweepN V.smax.toNat V).swp.length := List.length_pos_iff.mpr q.2
            have hsm := h.sm
            show (sweepN V.smax.toNat V).swp.length + 2 < _
            omega
        · rcases hph with q | q <;> omega
      · rename_i h2
        refine ⟨⟨⟨h.rg.n0, h.rg.n1, h.rg.g, h.rg.a, h.rg.r, h.rg.rl, h.rg.o, h.rg.on, h.rg.sl⟩, ?_, h.sm, .inl rfl⟩, rfl, rfl, fun _ => ?_, fun z => absurd z h2⟩
        · intro z
          have z' : (0 : Int) = 1 := z
          omega
        · unfold Cy.tm
          have h3 : V.phase = 3 := by have := h.ph; omega
          rw [if_neg h1, if_neg h2, if_pos h3, if_neg (by show ¬ (0 : Int) = 1; decide), if_neg (by show ¬ (0 : Int) = 2; decide), if_neg (by show ¬ (0 : Int) = 3; decide)]
          decide

def untilP (kd : Int → List Int) (so : Int → Int) (p : Int) : Nat → Cy → Cy
  | 0, V => V
  | k + 1, V => if V.phase = p then V else untilP kd so p k (step1 kd so V)
def full1 (V : Cy) : Cy := if V.phase ≤ 1 then { V with grey := [], again := [], swp := V.objs, phase := 2 } else V
def setThr (V : Cy) : Cy := { V with threshold := (V.estimate * 200).fdiv 100 }
def full (kd : Int → List Int) (so : Int → Int) (V : Cy) : Cy :=
  setThr (untilP kd so 0 2000 (markRoots kd so (untilP kd so 3 100 (full1 V))))

theorem c_nextThr {a : Int} {σ : Sg Nm} : Wc E 1 (.ref 168) [.int a, .int 200] (fun v σ' => v = .int ((a * 200).fdiv 100) ∧ σ = σ') σ := by
  refine cps fun Q hQ => ?_
  refine w_def (by k_is) (by k_is) (by walk_at "binds") (by rfl) ?_
  walk_at "mw"
  exact hQ _ _ ⟨rfl, rfl⟩
theorem c_setThr (R : Rep V κ c σ) : Wc E 2 (.ref 280) [.ref .cyc] (fun v σ' => v = .none ∧ Out κ c σ σ' ∧ Rep (setThr V) κ c σ') σ := by
  refine cps fun Q hQ => ?_
  refine w_def (by k_is) (by k_is) (by walk_at "binds") (by rfl) ?_
  walk_at "mw"
  refine k_code (c_nextThr) (by decide) ?_
  rintro _ _ ⟨rfl, rfl⟩
  walk_at "mw"
  exact hQ _ _ ⟨rfl, (Out.refl ..).cyc, R.cycS (setThr V) ⟨rfl, rfl, rfl, rfl⟩ rfl rfl rfl rfl rfl⟩

theorem c_full {n : Int} {P : Sg Nm → Prop} {kd : Int → List Int} {so : Int → Int} (Lw : Law E n P kd so) (hV : V.Ok) (hn : V.n = n) (hP : P σ) (R : Rep V κ c σ) :
    Wc E 76 (.ref 308) [.ref .cyc, .none] (fun v σ' => v = .none ∧ ∃ κ' c', Go κ c σ κ' c' σ' ∧ Rep (full kd so V) κ' c' σ') σ := by
  have hk : ∀ V' : Cy, V'.n = n → ∀ i, 1 ≤ i → i ≤ V'.n → ∀ j ∈ kd i, 1 ≤ j ∧ j ≤ V'.n := fun V' e => by rw [e]; exact Lw.kn
  have hol := hV.rg.olen
  refine cps fun Q hQ => ?_
  refine w_def (by k_is) (by k_is) (by walk_at "binds") (by rfl) ?_
  refine w_mid (fun fr₁ σ₁ => fr₁.lookup ("self" : Str) = some (.ref .cyc) ∧ fr₁.lookup ("thread" : Str) = some .none ∧ ∃ κ' c', Go κ c σ κ' c' σ₁ ∧ Rep (full1 V) κ' c' σ₁) ?_ ?_
  · by_cases h1 : V.phase ≤ 1
    · have e1 : decide (V.phase ≤ 1) = true := by simp [h1]
      walk_at "mw"
      refine k_code (c_forget R) (by decide) ?_
      rintro _ σ₁ ⟨rfl, κ₁, c₁, G₁, -, R₁⟩
      walk_at "mw"
      refine wv (v_listDict E.T (nm := .t c₁) (kvs := objsKV V.objs) R₁.os (by rw [objs_len]; omega) (by walk_at "fresh") ?_)
      have e1 : ((objsKV V.objs).map (·.1)).map (.int : Int → MV Nm) = V.objs.map .int := by unfold objsKV; simp
      rw [e1]
      walk_at "mw"
      refine ⟨by rfl, by rfl, { κ₁ with s := c₁ }, c₁ + 1, G₁.trans (Go.swNew (by walk_at "outx")), ?_⟩
      have e2 : full1 V = { V with grey := [], again := [], swp := V.objs, phase := 2 } := by unfold full1; rw [if_pos h1]
      rw [e2, Sg.set_set]
      exact R₁.swNew _ ⟨rfl, rfl, rfl, rfl⟩ rfl rfl rfl rfl
    · have e1 : decide (V.phase ≤ 1) = false := by simp; omega
      walk_at "mw"
      refine ⟨by rfl, by rfl, κ, c, .refl .., ?_⟩
      unfold full1
      rw [if_neg h1]
      exact R
  rintro fr₁ σ₁ ⟨l1, l2, κ₁, c₁, G₁, R₁⟩
  have h1 : (full1 V).Ok ∧ (full1 V).n = n ∧ ((full1 V).phase = 2 ∨ (full1 V).phase = 3) := by
    unfold full1
    split
    · refine ⟨⟨⟨hV.rg.n0, hV.rg.n1, (fun i h => by cases h), (fun i h => by cases h), hV.rg.r, hV.rg.rl, hV.rg.o, hV.rg.on, hol⟩, ?_, hV.sm, .inr (.inr (.inl rfl))⟩, hn, .inl rfl⟩
      intro z
      have z' : (2 : Int) = 1 := z
      omega
    · have := hV.ph
      exact ⟨hV, hn, by omega⟩
  have P₁ := Lw.out G₁.out hP
  unfold full at hQ
  generalize full1 V = U at *
  obtain ⟨hU, hUn, hUp⟩ := h1
  refine w_scons (w_while (fun k fr' σ' => ∃ (V' : Cy) (κ' : Kn) (c' : Nat) (kk : Nat), Go κ c σ κ' c' σ' ∧ Rep V' κ' c' σ' ∧ V'.Ok ∧ V'.n = n ∧ (V'.phase = 2 ∨ V'.phase = 3) ∧ V'.tm ≤ k ∧ V'.tm ≤ kk ∧ untilP kd so 3 kk V' = untilP kd so 3 100 U ∧ fr'.lookup ("self" : Str) = some (.ref .cyc) ∧ fr'.lookup ("thread" : Str) = some .none)
    ?_ 100 ⟨U, κ₁, c₁, 100, G₁, R₁, hU, hUn, hUp, ?_, ?_, rfl, l1, l2⟩)
  rotate_left
  · unfold Cy.tm; have := hU.rg.sl; rcases hUp with q | q <;> rw [q] <;> simp <;> omega
  · unfold Cy.tm; have := hU.rg.sl; rcases hUp with q | q <;> rw [q] <;> simp <;> omega
  rintro k fr' σ' ⟨V', κ', c', kk, G', R', hV', hn', hp', hk', hkk, he, l1', l2'⟩
  walk_at "mw"
  by_cases h3 : V'.phase = 3
  · have e3 : (V'.phase != 3) = false := by simp [h3]
    have eV : untilP kd so 3 100 U = V' := by
      rw [← he]
      cases kk with
      | zero => rfl
      | succ kk => rw [untilP, if_pos h3]
    rw [eV] at hQ
    walk_at "mw"
    refine k_code (c_markRoots Lw hV'.rg hn' (Lw.out G'.out hP) R') (by decide) ?_
    rintro _ σ₂ ⟨rfl, κ₂, c₂, G₂, R₂⟩
    obtain ⟨b1, b2, b3⟩ : (markRoots kd so V').Ok ∧ (markRoots kd so V').n = n ∧ (markRoots kd so V').tm ≤ 2000 := by
      have r := begin_ok (so := so) (hk V' hn') hV'.rg
      refine ⟨⟨⟨r.ok.rg.n0, r.ok.rg.n1, r.ok.rg.g, r.ok.rg.a, r.ok.rg.r, r.ok.rg.rl, r.ok.rg.o, r.ok.rg.on, r.ok.rg.sl⟩, fun _ => ⟨⟨r.ok.rg.n0, r.ok.rg.n1, r.ok.rg.g, r.ok.rg.a, r.ok.rg.r, r.ok.rg.rl, r.ok.rg.o, r.ok.rg.on, r.ok.rg.sl⟩, r.ok.nd, r.ok.gm⟩, by show 0 < (begin' kd so V').smax; rw [r.same.smax]; exact hV'.sm, .inr (.inl rfl)⟩, r.same.n.trans hn', ?_⟩
      unfold Cy.tm
      rw [if_pos (show (markRoots kd so V').phase = 1 from rfl)]
      have h5 : (begin' kd so V').mu ≤ 200 := Cy.mu_le r.ok
      have h6 : (markRoots kd so V').mu = (begin' kd so V').mu := rfl
      omega
    generalize markRoots kd so V' = U₂ at *
    refine w_scons (w_while (fun k fr' σ' => ∃ (V' : Cy) (κ' : Kn) (c' : Nat) (kk : Nat), Go κ c σ κ' c' σ' ∧ Rep V' κ' c' σ' ∧ V'.Ok ∧ V'.n = n ∧ V'.tm ≤ k ∧ V'.tm ≤ kk ∧ untilP kd so 0 kk V' = untilP kd so 0 2000 U₂ ∧ fr'.lookup ("self" : Str) = some (.ref .cyc) ∧ fr'.lookup ("thread" : Str) = some .none)
      ?_ 2000 ⟨U₂, κ₂, c₂, 2000, G'.trans G₂, R₂, b1, b2, b3, b3, rfl, l1', l2'⟩)
    rintro k fr' σ' ⟨V', κ', c', kk, G', R', hV', hn', hk', hkk, he, l1', l2'⟩
    walk_at "mw"
    by_cases h0 : V'.phase = 0
    · have e3 : (V'.phase != 0) = false := by simp [h0]
      have eV : untilP kd so 0 2000 U₂ = V' := by
        rw [← he]
        cases kk with
        | zero => rfl
        | succ kk => rw [untilP, if_pos h0]
      rw [eV] at hQ
      walk_at "mw"
      refine k_code (c_setThr R') (by decide) ?_
      rintro _ σ₃ ⟨rfl, O₃, R₃⟩
      walk_at "mw"
      exact hQ _ _ ⟨rfl, κ', c', G'.trans (.of (Nat.le_refl _) O₃), R₃⟩
    · have e3 : (V'.phase != 0) = true := by simp [h0]
      walk_at "mw"
      refine k_code (c_singleStep Lw hV' hn' (Lw.out G'.out hP) R') (by decide) ?_
      rintro _ σ₃ ⟨rfl, κ₃, c₃, G₃, R₃⟩
      obtain ⟨s1, s2, s3, s4, -⟩ := step1_ok (so := so) (hk V' hn') hV'
      have s4' := s4 h0
      walk_at "mw"
      cases k with
      | zero => omega
      | succ k =>
        cases kk with
        | zero => omega
        | succ kk =>
          exact w_less (Nat.lt_succ_self k) ⟨_, κ₃, c₃, kk, G'.trans G₃, R₃, s1, s2.trans hn', by omega, by omega, by rw [← he, untilP, if_neg h0], l1', l2'⟩
  · have e3 : (V'.phase != 3) = true := by simp [h3]
    have h2 : V'.phase = 2 := by omega
    walk_at "mw"
    refine k_code (c_singleStep Lw hV' hn' (Lw.out G'.out hP) R') (by decide) ?_
    rintro _ σ₃ ⟨rfl, κ₃, c₃, G₃, R₃⟩
    obtain ⟨s1, s2, s3, s4, s5⟩ := step1_ok (so := so) (hk V' hn') hV'
    have s4' := s4 (by omega)
    walk_at "mw"
    cases k with
    | zero => omega
    | succ k =>
      cases kk with
      | zero => omega
      | succ kk =>
        exact w_less (Nat.lt_succ_self k) ⟨_, κ₃, c₃, kk, G'.trans G₃, R₃, s1, s2.trans hn', s5 h2, by omega, by omega, by rw [← he, untilP, if_neg h3], l1', l2'⟩
end

def Cy.nu (V : Cy) : Nat := V.whites + V.grey.length

/-- what marking does, seen from the children's side -/
structure MarkT (kd : Int → List Int) (so : Int → Int) (S : Int → Prop) (V V' : Cy) : Prop where
  g : ∀ j ∈ V.grey, j ∈ V'.grey
  gs : ∀ j ∈ V'.grey, j ∈ V.grey ∨ S j
  n : ∀ j, V'.mark j = V.mark j ∨ S j ∧ (V'.mark j = 2 ∧ j ∈ V'.grey ∨ V'.mark j = 3 ∧ so j ≠ 3 ∧ ∀ c ∈ kd j, ¬ V'.mark c < 2)
  nu : V'.nu ≤ V.nu
theorem MarkT.refl {kd : Int → List Int} {so : Int → Int} {S : Int → Prop} {V : Cy} : MarkT kd so S V V := ⟨fun _ h => h, fun _ h => .inl h, fun _ => .inl rfl, Nat.le_refl _⟩
theorem MarkT.trans {kd : Int → List Int} {so : Int → Int} {S : Int → Prop} {V V' V'' : Cy} (a : MarkT kd so S V V') (b : MarkT kd so S V' V'') (r : MarkR V' V'') : MarkT kd so S V V'' where
  g := fun j h => b.g j (a.g j h)
  gs := fun j h => (b.gs j h).elim (a.gs j) .inr
  n := fun j => by
    rcases b.n j with e | e
    · rw [e]
      rcases a.n j with e' | ⟨s, e' | ⟨e1, e2, e3⟩⟩
      · exact .inl e'
      · exact .inr ⟨s, .inl ⟨e'.1, b.g j e'.2⟩⟩
      · exact .inr ⟨s, .inr ⟨e1, e2, fun c hc z => e3 c hc (r.wh c z)⟩⟩
    · exact .inr e
  nu := Nat.le_trans b.nu a.nu

section
variable {kd : Int → List Int} {so : Int → Int} {S : Int → Prop}

theorem fold_T {N : Int} {f : Nat} (hf : ∀ V i, V.Mk → V.rng i → V.n = N → V.whites < f → S i → MarkR V (mark kd so f V i) ∧ MarkT kd so S V (mark kd so f V i) ∧ ¬ (mark kd so f V i).mark i < 2) :
    ∀ (l : List Int) (V : Cy), V.Mk → V.n = N → (∀ i ∈ l, V.rng i ∧ S i) → V.whites < f → MarkR V (l.foldl (mark kd so f) V) ∧ MarkT kd so S V (l.foldl (mark kd so f) V) ∧ ∀ i ∈ l, ¬ (l.foldl (mark kd so f) V).mark i < 2
  | [], V, h, _, _, _ => ⟨.refl h, .refl, fun _ h => by cases h⟩
  | i :: l, V, h, hn, hl, hw => by
    obtain ⟨r1, t1, w1⟩ := hf V i h (hl i (.head _)).1 hn hw (hl i (.head _)).2
    obtain ⟨r2, t2, w2⟩ := fold_T hf l _ r1.ok (r1.same.n.trans hn) (fun j hj => ⟨by have := (hl j (.tail _ hj)).1; unfold Cy.rng at *; rw [r1.same.n]; exact this, (hl j (.tail _ hj)).2⟩) (Nat.lt_of_le_of_lt (Cy.whites_mono r1.same.n r1.wh) hw)
    refine ⟨r1.trans r2, t1.trans t2 r2, fun j hj => ?_⟩
    rcases List.mem_cons.mp hj with e | e
    · rw [e]; exact fun z => w1 (r2.wh i z)
    · exact w2 j e

theorem setMark_mk {V : Cy} {i : Int} (h : V.Mk) (hw : V.mark i < 2) : (V.setMark i 3).Mk :=
  ⟨⟨h.rg.n0, h.rg.n1, h.rg.g, h.rg.a, h.rg.r, h.rg.rl, h.rg.o, h.rg.on, h.rg.sl⟩, h.nd, fun j hj => by
    show (if j = i then 3 else V.mark j) = 2
    rw [if_neg (fun (z : j = i) => by have := h.gm j hj; rw [z] at this; omega)]; exact h.gm j hj⟩

theorem mark_T {N : Int} (hk : ∀ i, 1 ≤ i → i ≤ N → ∀ j ∈ kd i, 1 ≤ j ∧ j ≤ N) (hS : ∀ i, S i → ∀ j ∈ kd i, S j) : ∀ (f : Nat) (V : Cy) (i : Int), V.Mk → V.rng i → V.n = N → V.whites < f → S i →
    MarkR V (mark kd so f V i) ∧ MarkT kd so S V (mark kd so f V i) ∧ ¬ (mark kd so f V i).mark i < 2
  | 0, V, i, h, _, _, hw, _ => absurd hw (Nat.not_lt_zero _)
  | f + 1, V, i, h, hi, hn, hw, hs => by
    refine ⟨mark_R hk (f + 1) V i h hi hn, ?_⟩
    unfold mark
    split
    · rename_i hwi
      have lt : ∀ m, ¬ m < 2 → (V.setMark i m).whites < V.whites := fun m hm => Cy.whites_lt (V := V) rfl (fun j q => by
        by_cases z : j = i
        · rw [z]; exact hwi
        · simpa [Cy.setMark, z] using q) hi hwi (by simpa [Cy.setMark] using hm)
      split
      · rename_i hso
        have l3 := lt 3 (by decide)
        obtain ⟨r, t, w⟩ := fold_T (N := N) (mark_T hk hS f) (kd i) (V.setMark i 3) (setMark_mk h hwi) hn (fun j hj => ⟨by have := hk i hi.1 (hn ▸ hi.2) j hj; unfold Cy.rng; rw [show (V.setMark i 3).n = N from hn]; exact this, hS i hs j hj⟩) (by omega)
        have e3 : (V.setMark i 3).mark i = 3 := by simp [Cy.setMark]
        have ei := r.old i (by rw [e3]; decide)
        refine ⟨⟨t.g, t.gs, fun j => ?_, Nat.le_trans t.nu (by show (V.setMark i 3).whites + V.grey.length ≤ V.whites + V.grey.length; omega)⟩, by rw [ei, e3]; decide⟩
        by_cases z : j = i
        · rw [z, ei, e3]
          exact .inr ⟨hs, .inr ⟨rfl, by omega, w⟩⟩
        · have e : (V.setMark i 3).mark j = V.mark j := by simp [Cy.setMark, z]
          rcases t.n j with q | q
          · exact .inl (q.trans e)
          · exact .inr q
      · refine ⟨⟨fun j hj => List.mem_append_left _ hj, fun j hj => ?_, fun j => ?_, ?_⟩, ?_⟩
        · rcases List.mem_append.mp hj with q | q
          · exact .inl q
          · rw [List.mem_singleton.mp q]; exact .inr hs
        · by_cases z : j = i
          · rw [z]
            exact .inr ⟨hs, .inl ⟨by simp [Cy.setMark], List.mem_append_right _ (.head _)⟩⟩
          · exact .inl (by simp [Cy.setMark, z])
        · have := lt 2 (by decide)
          show (V.setMark i 2).whites + (V.grey ++ [i]).length ≤ V.whites + V.grey.length
          rw [List.length_append, List.length_singleton]
          omega
        · simp [Cy.setMark]
    · rename_i hwi
      exact ⟨.refl, hwi⟩

/-- the three colours -/
structure Tri (kd : Int → List Int) (so : Int → Int) (S : Int → Prop) (ex : Prop) (x : Int → Prop) (V : Cy) : Prop where
  ok : V.Mk
  go : ∀ j ∈ V.grey, j ∈ V.objs
  ao : ∀ j ∈ V.again, j ∈ V.objs
  t : ∀ j ∈ V.objs, ¬ V.mark j < 2 → j ∈ V.grey ∨ (ex ∧ j ∈ V.again) ∨ x j ∨ ∀ c ∈ kd j, ¬ V.mark c < 2
  two : ∀ j ∈ V.objs, V.mark j = V.white ∨ V.mark j = 2 ∧ (j ∈ V.grey ∨ j ∈ V.again) ∨ V.mark j = 3 ∧ so j ≠ 3
  s : ∀ j ∈ V.objs, ¬ V.mark j < 2 → S j

/-- after marking from what is in S -/
theorem Tri.marked {ex : Prop} {x : Int → Prop} {V V' : Cy} (T : Tri kd so S ex x V) (r : MarkR V V') (t : MarkT kd so (fun j => S j ∧ j ∈ V.objs) V V') : Tri kd so S ex x V' where
  ok := r.ok
  go := fun j hj => by rw [r.same.objs]; exact (t.gs j hj).elim (T.go j) (·.2)
  ao := fun j hj => by rw [r.same.objs]; rw [r.again] at hj; exact T.ao j hj
  t := fun j hj h => by
    rw [r.same.objs] at hj
    rw [r.again]
    rcases t.n j with e | ⟨s, e | e⟩
    · rcases T.t j hj (by rw [← e]; exact h) with q | q | q | q
      · exact .inl (t.g j q)
      · exact .inr (.inl q)
      · exact .inr (.inr (.inl q))
      · exact .inr (.inr (.inr fun c hc z => q c hc (r.wh c z)))
    · exact .inl e.2
    · exact .inr (.inr (.inr e.2.2))
  two := fun j hj => by
    rw [r.same.objs] at hj
    rw [r.again, r.same.white]
    rcases t.n j with e | ⟨s, e | e⟩
    · rw [e]
      rcases T.two j hj with q | q | q
      · exact .inl q
      · exact .inr (.inl ⟨q.1, q.2.elim (fun q => .inl (t.g j q)) .inr⟩)
      · exact .inr (.inr q)
    · exact .inr (.inl ⟨e.1, .inl e.2⟩)
    · exact .inr (.inr ⟨e.1, e.2.1⟩)
  s := fun j hj h => by
    rw [r.same.objs] at hj
    rcases t.n j with e | ⟨s, _⟩
    · exact T.s j hj (by rw [← e]; exact h)
    · exact s.1
theorem Tri.shut {ex : Prop} {x : Int → Prop} {V : Cy} (T : Tri kd so S ex x V) (h : ∀ j, x j → ∀ c ∈ kd j, ¬ V.mark c < 2) : Tri kd so S ex (fun _ => False) V :=
  ⟨T.ok, T.go, T.ao, fun j hj q => by
    rcases T.t j hj q with e | e | e | e
    · exact .inl e
    · exact .inr (.inl e)
    · exact .inr (.inr (.inr (h j e)))
    · exact .inr (.inr (.inr e)), T.two, T.s⟩

abbrev no : Int → Prop := fun _ => False
theorem popd_Tri {ex : Prop} {V : Cy} {i : Int} (T : Tri kd so S ex no V) (hg : V.grey.getLast? = some i) : Tri kd so S ex (fun j => j = i) (popd so V i) ∧ S i ∧ i ∈ V.objs ∧ (popd so V i).nu < V.nu := by
  obtain ⟨p1, p2, p3, p4, p5⟩ := popd_ok (so := so) T.ok hg
  have hne : V.grey ≠ [] := fun z => by rw [z] at hg; cases hg
  have e : V.grey = V.grey.dropLast ++ [i] := by
    have h1 := List.dropLast_concat_getLast hne
    have h2 : V.grey.getLast hne = i := by
      have := List.getLast?_eq_some_getLast hne
      rw [hg] at this
      exact (Option.some.inj this).symm
    rw [h2] at h1
    exact h1.symm
  have hi : i ∈ V.grey := by rw [e]; simp
  have hio := T.go i hi
  have hi2 := T.ok.gm i (List.mem_append_left _ hi)
  have hlen : V.grey.length = V.grey.dropLast.length + 1 := by
    have := congrArg List.length e
    simpa using this
  have hw : (popd so V i).whites ≤ V.whites := Cy.whites_mono p2.n p3
  have mm : ∀ j, j ≠ i → (popd so V i).mark j = V.mark j := fun j hj => by unfold popd; split <;> simp [Cy.setMark, hj]
  have gg : (popd so V i).grey = V.grey.dropLast := by unfold popd; split <;> rfl
  have aa : ∀ j ∈ V.again, j ∈ (popd so V i).again := fun j hj => by unfold popd; split <;> first | exact List.mem_append_left _ hj | exact hj
  have sub : ∀ j ∈ V.grey.dropLast, j ∈ V.grey := fun j hj => List.dropLast_sublist _ |>.subset hj
  have gi : ∀ j ∈ V.grey, j = i ∨ j ∈ V.grey.dropLast := fun j hj => by
    rw [e] at hj
    rcases List.mem_append.mp hj with q | q
    · exact .inr q
    · exact .inl (List.mem_singleton.mp q)
  have mi : (popd so V i).mark i = 2 ∧ i ∈ (popd so V i).again ∨ (popd so V i).mark i = 3 ∧ so i ≠ 3 := by
    unfold popd
    split
    · exact .inl ⟨by simp [Cy.setMark], by simp⟩
    · rename_i q; exact .inr ⟨by simp [Cy.setMark], q⟩
  refine ⟨⟨p1, fun j hj => ?_, fun j hj => ?_, fun j hj q => ?_, fun j hj => ?_, fun j hj q => ?_⟩, T.s i hio (by omega), hio, by unfold Cy.nu; rw [gg]; omega⟩
  · rw [p2.objs]; rw [gg] at hj; exact T.go j (sub j hj)
  · rw [p2.objs]
    unfold popd at hj
    split at hj
    · rcases List.mem_append.mp hj with q | q
      · exact T.ao j q
      · rw [List.mem_singleton.mp q]; exact hio
    · exact T.ao j hj
  · rw [p2.objs] at hj
    by_cases z : j = i
    · exact .inr (.inr (.inl z))
    · rw [mm j z] at q
      rw [gg]
      rcases T.t j hj q with e | e | e | e
      · exact .inl ((gi j e).resolve_left z)
      · exact .inr (.inl ⟨e.1, aa j e.2⟩)
      · exact e.elim
      · exact .inr (.inr (.inr fun c hc w => e c hc (p3 c w)))
  · rw [p2.objs] at hj
    rw [p2.white]
    by_cases z : j = i
    · rw [z]
      rcases mi with q | q
      · exact .inr (.inl ⟨q.1, .inr q.2⟩)
      · exact .inr (.inr q)
    · rw [mm j z, gg]
      rcases T.two j hj with q | q | q
      · exact .inl q
      · exact .inr (.inl ⟨q.1, q.2.elim (fun q => .inl ((gi j q).resolve_left z)) fun q => .inr (aa j q)⟩)
      · exact .inr (.inr q)
  · rw [p2.objs] at hj
    by_cases z : j = i
    · rw [z]; exact T.s i hio (by omega)
    · rw [mm j z] at q; exact T.s j hj q

theorem propagate_Tri {ex : Prop} {V : Cy} (hk : ∀ i, 1 ≤ i → i ≤ V.n → ∀ j ∈ kd i, 1 ≤ j ∧ j ≤ V.n) (hc : ∀ i ∈ V.objs, ∀ j ∈ kd i, j ∈ V.objs) (hS : ∀ i, S i → ∀ j ∈ kd i, S j) (T : Tri kd so S ex no V) (hg : V.grey ≠ []) :
    Tri kd so S ex no (propagate kd so V) ∧ (propagate kd so V).nu < V.nu ∧ ∀ j, ¬ V.mark j < 2 → ¬ (propagate kd so V).mark j < 2 := by
  have e := List.getLast?_eq_some_getLast hg
  obtain ⟨T1, hs, hio, hnu⟩ := popd_Tri T e
  obtain ⟨p1, p2, p3, p4, p5⟩ := popd_ok (so := so) T.ok e
  unfold propagate
  rw [e]
  dsimp only
  obtain ⟨r, t, w⟩ := fold_T (S := fun j => S j ∧ j ∈ V.objs) (N := V.n) (mark_T (S := fun j => S j ∧ j ∈ V.objs) hk (fun i hi j hj => ⟨hS i hi.1 j hj, hc i hi.2 j hj⟩) MF) (kd (V.grey.getLast hg)) _ p1 p2.n (fun j hj => ⟨by
    have := hk _ p5.1 p5.2 j hj
    unfold Cy.rng; rw [p2.n]; exact this, hS _ hs j hj, hc _ hio j hj⟩) (Cy.whites_MF p1.rg)
  rw [← p2.objs] at t
  refine ⟨(T1.marked r t).shut fun j hj c hc => ?_, Nat.lt_of_le_of_lt t.nu hnu, fun j hj z => ?_⟩
  · rw [hj] at hc; exact w c hc
  · exact hj (p3 j (r.wh j z))

theorem pAll_Tri {ex : Prop} : ∀ (k : Nat) {V : Cy}, (∀ i, 1 ≤ i → i ≤ V.n → ∀ j ∈ kd i, 1 ≤ j ∧ j ≤ V.n) → (∀ i ∈ V.objs, ∀ j ∈ kd i, j ∈ V.objs) → (∀ i, S i → ∀ j ∈ kd i, S j) → Tri kd so S ex no V → Tri kd so S ex no (pAll kd so k V) ∧ ∀ j, ¬ V.mark j < 2 → ¬ (pAll kd so k V).mark j < 2
  | 0, V, _, _, _, T => ⟨T, fun _ h => h⟩
  | k + 1, V, hk, hc, hS, T => by
    unfold pAll
    split
    · exact ⟨T, fun _ h => h⟩
    · rename_i hg
      obtain ⟨T1, -, w1⟩ := propagate_Tri hk hc hS T hg
      obtain ⟨a, b, -, -⟩ := propagate_ok (so := so) hk T.ok hg
      obtain ⟨T2, w2⟩ := pAll_Tri k (V := propagate kd so V) (by rw [b.n]; exact hk) (by rw [b.objs]; exact hc) hS T1
      exact ⟨T2, fun j h => w2 j (w1 j h)⟩

theorem finish_Tri {V : Cy} (hk : ∀ i, 1 ≤ i → i ≤ V.n → ∀ j ∈ kd i, 1 ≤ j ∧ j ≤ V.n) (hc : ∀ i ∈ V.objs, ∀ j ∈ kd i, j ∈ V.objs) (hS : ∀ i, S i → ∀ j ∈ kd i, S j) (T : Tri kd so S True no V) :
    Tri kd so S False no (finish kd so V) ∧ (∀ j, ¬ V.mark j < 2 → ¬ (finish kd so V).mark j < 2) := by
  obtain ⟨m1, s1, w1, g1⟩ := pAll_ok (so := so) PF hk T.ok (Cy.mu_le T.ok)
  obtain ⟨T1, u1⟩ := pAll_Tri PF hk hc hS T
  have T2 : Tri kd so S False no { pAll kd so PF V with grey := (pAll kd so PF V).again, again := [] } := by
    have nd := m1.nd
    rw [g1] at nd
    refine ⟨⟨⟨m1.rg.n0, m1.rg.n1, m1.rg.a, (fun i h => by cases h), m1.rg.r, m1.rg.rl, m1.rg.o, m1.rg.on, m1.rg.sl⟩, ?_, fun i hi => m1.gm i ?_⟩, T1.ao, (fun j h => by cases h), fun j hj q => ?_, fun j hj => ?_, T1.s⟩
    · show ((pAll kd so PF V).again ++ []).Nodup
      rw [List.append_nil]; exact nd
    · have hi' : i ∈ (pAll kd so PF V).again ++ [] := hi
      rw [List.append_nil] at hi'
      exact List.mem_append_right _ hi'
    · rcases T1.t j hj q with e | e | e | e
      · rw [g1] at e; cases e
      · exact .inl e.2
      · exact e.elim
      · exact .inr (.inr (.inr e))
    · rcases T1.two j hj with q | q | q
      · exact .inl q
      · refine .inr (.inl ⟨q.1, .inl (q.2.elim (fun z => ?_) id)⟩)
        rw [g1] at z; cases z
      · exact .inr (.inr q)
  obtain ⟨T3, u3⟩ := pAll_Tri PF (V := { pAll kd so PF V with grey := (pAll kd so PF V).again, again := [] }) (by rw [show ({ pAll kd so PF V with grey := (pAll kd so PF V).again, again := [] } : Cy).n = V.n from s1.n]; exact hk) (by rw [show ({ pAll kd so PF V with grey := (pAll kd so PF V).again, again := [] } : Cy).objs = V.objs from s1.objs]; exact hc) hS T2
  exact ⟨T3, fun j h => u3 j (u1 j h)⟩
end

theorem dead_iff {V : Cy} {i : Int} : V.dead i = false ↔ V.mark i ≠ 4 ∧ (V.mark i < 2 → V.mark i = V.white) := by
  unfold Cy.dead
  constructor
  · intro h
    rw [Bool.or_eq_false_iff] at h
    refine ⟨by simpa using h.1, fun q => ?_⟩
    have := h.2
    simpa [q] using this
  · rintro ⟨a, b⟩
    rw [Bool.or_eq_false_iff]
    refine ⟨by simpa using a, ?_⟩
    by_cases q : V.mark i < 2
    · simp [q, b q]
    · simp [q]

def sumSz (V : Cy) : Int := (V.objs.map V.size).sum

structure Bs (k : Nat) (V : Cy) : Prop where
  rg : V.Rg
  n13 : V.n ≤ 13
  sm : V.smax = 16
  w01 : V.white = 0 ∨ V.white = 1
  root : V.root = [1]
  sl : V.swp.length ≤ 13
  al : V.again.length ≤ 100 + k
  tot : V.total = sumSz V
  sz : ∀ i, 0 ≤ V.size i ∧ V.size i ≤ 90
theorem Bs.same {k : Nat} {V V' : Cy} (B : Bs k V) (s : V.Same V') (M : V'.Mk) : Bs k V' :=
  ⟨M.rg, by rw [s.n]; exact B.n13, by rw [s.smax]; exact B.sm, by rw [s.white]; exact B.w01, by rw [s.root]; exact B.root, by rw [s.swp]; exact B.sl, by have := M.len; omega, by unfold sumSz; rw [s.total, s.objs, s.size]; exact B.tot, by rw [s.size]; exact B.sz⟩
theorem Bs.ph {k : Nat} {V : Cy} (B : Bs k V) (p : Int) : Bs k { V with phase := p } := ⟨⟨B.rg.n0, B.rg.n1, B.rg.g, B.rg.a, B.rg.r, B.rg.rl, B.rg.o, B.rg.on, B.rg.sl⟩, B.n13, B.sm, B.w01, B.root, B.sl, B.al, B.tot, B.sz⟩

structure Inv (kd : Int → List Int) (so : Int → Int) (S : Int → Prop) (k : Nat) (V : Cy) : Prop where
  B : Bs k V
  m4 : ∀ i ∈ V.objs, V.mark i = 0 ∨ V.mark i = 1 ∨ V.mark i = 2 ∨ V.mark i = 3
  one : 1 ∈ V.objs ∧ V.dead 1 = false
  cl : ∀ i ∈ V.objs, V.dead i = false → ∀ j ∈ kd i, j ∈ V.objs ∧ V.dead j = false
  ph : V.phase = 0 ∨ V.phase = 1 ∨ V.phase = 2 ∨ V.phase = 3
  p0 : V.phase = 0 ∨ V.phase = 3 → ∀ i ∈ V.objs, V.mark i = V.white
  p1 : V.phase = 1 → Tri kd so S True no V ∧ ¬ V.mark 1 < 2
  p2 : V.phase = 2 → V.swp.Nodup ∧ (∀ i ∈ V.objs, i ∉ V.swp → V.mark i = V.white) ∧ ∀ i ∈ V.objs, V.dead i = false → S i
  p3 : V.phase = 3 → ∀ i ∈ V.objs, S i

section
variable {kd : Int → List Int} {so : Int → Int} {S : Int → Prop} {k : Nat} {V : Cy}

theorem Tri.dead {ex : Prop} {x : Int → Prop} (T : Tri kd so S ex x V) (hw : V.white = 0 ∨ V.white = 1) {i : Int} (hi : i ∈ V.objs) : V.dead i = false := dead_iff.mpr (by
  rcases T.two i hi with q | q | q
  · exact ⟨by omega, fun _ => q⟩
  · exact ⟨by omega, fun z => by omega⟩
  · exact ⟨by omega, fun z => by omega⟩)
theorem Tri.phs {ex : Prop} {x : Int → Prop} (T : Tri kd so S ex x V) (p : Int) : Tri kd so S ex x { V with phase := p } :=
  ⟨⟨⟨T.ok.rg.n0, T.ok.rg.n1, T.ok.rg.g, T.ok.rg.a, T.ok.rg.r, T.ok.rg.rl, T.ok.rg.o, T.ok.rg.on, T.ok.rg.sl⟩, T.ok.nd, T.ok.gm⟩, T.go, T.ao, T.t, T.two, T.s⟩
theorem Bs.olen (B : Bs k V) : V.objs.length ≤ 13 := by
  have := nodup_len V.n.toNat V.objs B.rg.on fun i hi => by have := B.rg.o i hi; have := B.rg.n0; unfold Cy.rng at *; omega
  have := B.n13
  omega

/-- while marking goes on -/
theorem Inv.ofTri (B : Bs k V) (h1 : V.phase = 1) (T : Tri kd so S True no V) (w : ¬ V.mark 1 < 2) (h1o : 1 ∈ V.objs) (hc : ∀ i ∈ V.objs, ∀ j ∈ kd i, j ∈ V.objs) : Inv kd so S k V where
  B := B
  m4 := fun i hi => by
    have := B.w01
    rcases T.two i hi with q | q | q <;> omega
  one := ⟨h1o, T.dead B.w01 h1o⟩
  cl := fun i hi _ j hj => ⟨hc i hi j hj, T.dead B.w01 (hc i hi j hj)⟩
  ph := .inr (.inl h1)
  p0 := fun h => by omega
  p1 := fun _ => ⟨T, w⟩
  p2 := fun h => by omega
  p3 := fun h => by omega

/-- no object is dead ahead of the sweep and behind it -/
theorem Inv.live (I : Inv kd so S k V) (h : V.phase ≠ 2) {i : Int} (hi : i ∈ V.objs) : V.dead i = false := by
  rcases I.ph with p | p | p | p
  · exact dead_iff.mpr ⟨by have := I.p0 (.inl p) i hi; have := I.B.w01; omega, fun _ => I.p0 (.inl p) i hi⟩
  · exact (I.p1 p).1.dead I.B.w01 hi
  · exact absurd p h
  · exact dead_iff.mpr ⟨by have := I.p0 (.inr p) i hi; have := I.B.w01; omega, fun _ => I.p0 (.inr p) i hi⟩
theorem Inv.hc (I : Inv kd so S k V) (h : V.phase ≠ 2) : ∀ i ∈ V.objs, ∀ j ∈ kd i, j ∈ V.objs := fun i hi j hj => (I.cl i hi (I.live h hi) j hj).1
theorem Inv.ok (I : Inv kd so S k V) : V.Ok := ⟨I.B.rg, fun h => (I.p1 h).1.ok, by rw [I.B.sm]; decide, I.ph⟩

theorem begin_inv (B : Bs k V) (hw : ∀ i ∈ V.objs, V.mark i = V.white) (h1o : 1 ∈ V.objs) (hc : ∀ i ∈ V.objs, ∀ j ∈ kd i, j ∈ V.objs) (hk : ∀ i, 1 ≤ i → i ≤ V.n → ∀ j ∈ kd i, 1 ≤ j ∧ j ≤ V.n) (hS : ∀ i, S i → ∀ j ∈ kd i, S j) (h1 : S 1) :
    Inv kd so S k (markRoots kd so V) ∧ (markRoots kd so V).nu ≤ 13 ∧ V.Same { begin' kd so V with phase := V.phase } := by
  have M1 : ({ V with grey := [], again := [] } : Cy).Mk := ⟨⟨B.rg.n0, B.rg.n1, (fun i h => by cases h), (fun i h => by cases h), B.rg.r, B.rg.rl, B.rg.o, B.rg.on, B.rg.sl⟩, .nil, (fun i h => by cases h)⟩
  have T1 : Tri kd so S True no { V with grey := [], again := [] } := ⟨M1, (fun i h => by cases h), (fun i h => by cases h), fun j hj q => absurd (by have := hw j hj; have := B.w01; show V.mark j < 2; omega) q, fun j hj => .inl (hw j hj), fun j hj q => absurd (by have := hw j hj; have := B.w01; show V.mark j < 2; omega) q⟩
  obtain ⟨r, t, w⟩ := fold_T (S := fun j => S j ∧ j ∈ V.objs) (N := V.n) (mark_T (so := so) (S := fun j => S j ∧ j ∈ V.objs) hk (fun i hi j hj => ⟨hS i hi.1 j hj, hc i hi.2 j hj⟩) MF) V.root _ M1 rfl (fun x hx => ⟨B.rg.r x hx, by rw [B.root] at hx; rw [List.mem_singleton.mp hx]; exact ⟨h1, h1o⟩⟩) (Cy.whites_MF M1.rg)
  have T2 := T1.marked r t
  have e : V.root.foldl (mark kd so MF) { V with grey := [], again := [] } = begin' kd so V := rfl
  rw [e] at r t w T2
  have w1 := w 1 (by rw [B.root]; exact .head _)
  have B1 : Bs k { V with grey := [], again := [] } := ⟨M1.rg, B.n13, B.sm, B.w01, B.root, B.sl, Nat.zero_le _, B.tot, B.sz⟩
  refine ⟨.ofTri ((B1.same r.same r.ok).ph 1) rfl (T2.phs 1) w1 (by show 1 ∈ (begin' kd so V).objs; rw [r.same.objs]; exact h1o) (by
    show ∀ i ∈ (begin' kd so V).objs, ∀ j ∈ kd i, j ∈ (begin' kd so V).objs
    rw [r.same.objs]; exact hc), ?_, ⟨r.same.n, r.same.size, r.same.objs, r.same.white, r.same.root, rfl, r.same.swp, r.same.total, r.same.estimate, r.same.debt, r.same.smax, r.same.threshold, r.same.cycles⟩⟩
  refine Nat.le_trans t.nu ?_
  show ({ V with grey := [], again := [] } : Cy).whites + 0 ≤ 13
  have h2 := ({ V with grey := [], again := [] } : Cy).whites_le
  have h3 : ({ V with grey := [], again := [] } : Cy).n ≤ 13 := B.n13
  omega

theorem atomic_inv1 (I : Inv kd so S k V) (h1 : V.phase = 1) (hk : ∀ i, 1 ≤ i → i ≤ V.n → ∀ j ∈ kd i, 1 ≤ j ∧ j ≤ V.n) (hS : ∀ i, S i → ∀ j ∈ kd i, S j) : Inv kd so S k (atomic kd so V) := by
  obtain ⟨T, w⟩ := I.p1 h1
  have hc := I.hc (by omega)
  obtain ⟨f1, f2, f3⟩ := finish_ok (so := so) hk T.ok
  obtain ⟨T2, u⟩ := finish_Tri hk hc hS T
  have B2 := I.B.same f2 f1
  have hw := I.B.w01
  have eo : (atomic kd so V).objs = V.objs := f2.objs
  have em : ∀ j, (atomic kd so V).mark j = (finish kd so V).mark j := fun _ => rfl
  have ew : (atomic kd so V).white = 1 - V.white := rfl
  have dd : ∀ i ∈ V.objs, (atomic kd so V).dead i = false ↔ ¬ (finish kd so V).mark i < 2 := fun i hi => by
    rw [dead_iff, em, ew]
    have := T2.two i (by rw [f2.objs]; exact hi)
    rw [f2.white] at this
    constructor
    · rintro ⟨a, b⟩ q
      have := b q
      omega
    · intro q
      exact ⟨by omega, fun z => absurd z q⟩
  have t : ∀ j ∈ V.objs, ¬ (finish kd so V).mark j < 2 → ∀ c ∈ kd j, ¬ (finish kd so V).mark c < 2 := fun j hj q => by
    rcases T2.t j (by rw [f2.objs]; exact hj) q with e | e | e | e
    · rw [f3] at e; cases e
    · exact e.1.elim
    · exact e.elim
    · exact e
  refine ⟨⟨⟨f1.rg.n0, f1.rg.n1, f1.rg.g, f1.rg.a, f1.rg.r, f1.rg.rl, f1.rg.o, f1.rg.on, by have := I.B.olen; show V.objs.length ≤ 60; omega⟩, B2.n13, B2.sm, by rw [ew]; omega, B2.root, I.B.olen, B2.al, B2.tot, B2.sz⟩,
    fun i hi => ?_, ⟨by rw [eo]; exact I.one.1, (dd 1 I.one.1).mpr (u 1 w)⟩, fun i hi q j hj => ?_, .inr (.inr (.inl rfl)), fun h => ?_, fun h => ?_, fun _ => ⟨I.B.rg.on, fun i hi q => ?_, fun i hi q => ?_⟩, fun h => ?_⟩
  · have := T2.two i hi
    rw [f2.white] at this
    rw [em]; omega
  · rw [eo] at hi ⊢
    have := hc i hi j hj
    exact ⟨this, (dd j this).mpr (t i hi ((dd i hi).mp q) j hj)⟩
  · rcases h with h | h
    · exact absurd h (by show ¬ (2 : Int) = 0; decide)
    · exact absurd h (by show ¬ (2 : Int) = 3; decide)
  · exact absurd h (by show ¬ (2 : Int) = 1; decide)
  · rw [eo] at hi; exact absurd hi q
  · rw [eo] at hi
    exact T2.s i (by rw [f2.objs]; exact hi) ((dd i hi).mp q)
  · exact absurd h (by show ¬ (2 : Int) = 3; decide)

theorem sum_filter {f : Int → Int} : ∀ {l : List Int} {i : Int}, l.Nodup → i ∈ l → ((l.filter fun j => decide (j ≠ i)).map f).sum = (l.map f).sum - f i
  | a :: l, i, hn, hi => by
    obtain ⟨n1, n2⟩ := List.nodup_cons.mp hn
    by_cases z : a = i
    · subst z
      have e : (l.filter fun j => decide (j ≠ a)) = l := List.filter_eq_self.mpr fun j hj => decide_eq_true fun e => n1 (e ▸ hj)
      rw [List.filter_cons_of_neg (by simp), e, List.map_cons, List.sum_cons]
      omega
    · have hi' : i ∈ l := by
        rcases List.mem_cons.mp hi with e | e
        · exact absurd e.symm z
        · exact e
      have := sum_filter (f := f) n2 hi'
      rw [List.filter_cons_of_pos (by simpa using z), List.map_cons, List.map_cons, List.sum_cons, List.sum_cons, this]
      omega

/-- while sweeping goes on, at one object more -/
structure Sw1 (kd : Int → List Int) (S : Int → Prop) (k : Nat) (V : Cy) : Prop where
  B : Bs k V
  m4 : ∀ i ∈ V.objs, V.mark i = 0 ∨ V.mark i = 1 ∨ V.mark i = 2 ∨ V.mark i = 3
  one : 1 ∈ V.objs ∧ V.dead 1 = false
  cl : ∀ i ∈ V.objs, V.dead i = false → ∀ j ∈ kd i, j ∈ V.objs ∧ V.dead j = false
  nd : V.swp.Nodup
  w : ∀ i ∈ V.objs, i ∉ V.swp → V.mark i = V.white
  s : ∀ i ∈ V.objs, V.dead i = false → S i

theorem Sw1.one_more {i : Int} (W : Sw1 kd S k V) (hl : V.swp.getLast? = some i) : Sw1 kd S k (sweep1 V i) ∧ (sweep1 V i).swp.length < V.swp.length := by
  have hne : V.swp ≠ [] := fun z => by rw [z] at hl; cases hl
  have e : V.swp = V.swp.dropLast ++ [i] := by
    have h1 := List.dropLast_concat_getLast hne
    have h2 : V.swp.getLast hne = i := by
      have := List.getLast?_eq_some_getLast hne
      rw [hl] at this
      exact (Option.some.inj this).symm
    rw [h2] at h1
    exact h1.symm
  have hnd := W.nd
  rw [e] at hnd
  have nd' : V.swp.dropLast.Nodup := (List.nodup_append.mp hnd).1
  have hin : ∀ j, j ∈ V.swp → j = i ∨ j ∈ V.swp.dropLast := fun j hj => by
    rw [e] at hj
    rcases List.mem_append.mp hj with q | q
    · exact .inr q
    · exact .inl (List.mem_singleton.mp q)
  have hlen : V.swp.dropLast.length < V.swp.length := by rw [List.length_dropLast]; have := List.length_pos_iff.mpr hne; omega
  obtain ⟨a, b, c, d⟩ := sweep1_rg W.B.rg i
  have hw := W.B.w01
  unfold sweep1 at *
  split
  · rename_i hi
    rw [if_pos hi] at a b c d
    split
    · rename_i hdd
      rw [if_pos hdd] at a b c d
      have mk : ∀ j, (free { V with swp := V.swp.dropLast } i).mark j = if j = i then 4 else V.mark j := fun _ => rfl
      have dk : ∀ j, j ≠ i → (free { V with swp := V.swp.dropLast } i).dead j = V.dead j := fun j hj => by unfold Cy.dead; rw [mk, if_neg hj]; rfl
      have ob : ∀ j, j ∈ (free { V with swp := V.swp.dropLast } i).objs ↔ j ∈ V.objs ∧ j ≠ i := fun j => by
        show j ∈ V.objs.filter (fun j => decide (j ≠ i)) ↔ _
        rw [List.mem_filter, decide_eq_true_eq]
      have ni : ∀ j, V.dead j = false → j ≠ i := fun j h z => by rw [z, hdd] at h; cases h
      refine ⟨⟨⟨a, by rw [b]; exact W.B.n13, by rw [d]; exact W.B.sm, hw, W.B.root, by have := W.B.sl; rw [c, List.length_dropLast]; omega, W.B.al, ?_, W.B.sz⟩, fun j hj => ?_, ⟨(ob 1).mpr ⟨W.one.1, ni 1 W.one.2⟩, by rw [dk 1 (ni 1 W.one.2)]; exact W.one.2⟩, fun j hj q x hx => ?_, nd', fun j hj q => ?_, fun j hj q => ?_⟩, hlen⟩
      · show V.total - V.size i = ((V.objs.filter fun j => decide (j ≠ i)).map V.size).sum
        rw [sum_filter W.B.rg.on hi, W.B.tot]; rfl
      · obtain ⟨h1, h2⟩ := (ob j).mp hj
        rw [mk, if_neg h2]; exact W.m4 j h1
      · obtain ⟨h1, h2⟩ := (ob j).mp hj
        rw [dk j h2] at q
        obtain ⟨y1, y2⟩ := W.cl j h1 q x hx
        exact ⟨(ob x).mpr ⟨y1, ni x y2⟩, by rw [dk x (ni x y2)]; exact y2⟩
      · obtain ⟨h1, h2⟩ := (ob j).mp hj
        rw [mk, if_neg h2]
        exact W.w j h1 fun z => (hin j z).elim h2 q
      · obtain ⟨h1, h2⟩ := (ob j).mp hj
        rw [dk j h2] at q
        exact W.s j h1 q
    · rename_i hdd
      rw [if_neg hdd] at a b c d
      have hdi : V.dead i = false := by simpa using hdd
      have mk : ∀ j, (Cy.setMark { V with swp := V.swp.dropLast } i V.white).mark j = if j = i then V.white else V.mark j := fun _ => rfl
      have dk : ∀ j, (Cy.setMark { V with swp := V.swp.dropLast } i V.white).dead j = V.dead j := fun j => by
        by_cases z : j = i
        · subst z
          rw [hdi, dead_iff, mk, if_pos rfl]
          exact ⟨by omega, fun _ => rfl⟩
        · unfold Cy.dead; rw [mk, if_neg z]; rfl
      refine ⟨⟨⟨a, by rw [b]; exact W.B.n13, by rw [d]; exact W.B.sm, hw, W.B.root, by have := W.B.sl; rw [c, List.length_dropLast]; omega, W.B.al, W.B.tot, W.B.sz⟩, fun j hj => ?_, ⟨W.one.1, by rw [dk]; exact W.one.2⟩, fun j hj q x hx => ?_, nd', fun j hj q => ?_, fun j hj q => ?_⟩, hlen⟩
      · rw [mk]
        split
        · omega
        · exact W.m4 j hj
      · rw [dk] at q ⊢; exact W.cl j hj q x hx
      · rw [mk]
        split
        · rfl
        · rename_i z; exact W.w j hj fun y => (hin j y).elim z q
      · rw [dk] at q; exact W.s j hj q
  · rename_i hi
    rw [if_neg hi] at a b c d
    exact ⟨⟨⟨a, W.B.n13, W.B.sm, hw, W.B.root, by have := W.B.sl; rw [List.length_dropLast]; omega, W.B.al, W.B.tot, W.B.sz⟩, W.m4, W.one, W.cl, nd', fun j hj q => W.w j hj fun y => (hin j y).elim (fun z => hi (z ▸ hj)) q, W.s⟩, hlen⟩

theorem Sw1.more : ∀ (n : Nat) {V : Cy}, Sw1 kd S k V → V.swp.length ≤ n → Sw1 kd S k (sweepN n V) ∧ (sweepN n V).swp = []
  | 0, V, W, h => ⟨W, show V.swp = [] from List.length_eq_zero_iff.mp (by omega)⟩
  | n + 1, V, W, h => by
    unfold sweepN
    cases e : V.swp.getLast? with
    | none => exact ⟨W, List.getLast?_eq_none_iff.mp e⟩
    | some i =>
      obtain ⟨W1, hl⟩ := W.one_more e
      exact Sw1.more n W1 (by omega)

theorem sweepN_same : ∀ (n : Nat) (V : Cy), (sweepN n V).cycles = V.cycles ∧ (sweepN n V).debt = V.debt ∧ (sweepN n V).threshold = V.threshold ∧ (sweepN n V).estimate = V.estimate ∧ (sweepN n V).n = V.n ∧ (sweepN n V).size = V.size
  | 0, V => ⟨rfl, rfl, rfl, rfl, rfl, rfl⟩
  | n + 1, V => by
    unfold sweepN
    cases V.swp.getLast? with
    | none => exact ⟨rfl, rfl, rfl, rfl, rfl, rfl⟩
    | some i =>
      have h := sweepN_same n (sweep1 V i)
      have e : (sweep1 V i).cycles = V.cycles ∧ (sweep1 V i).debt = V.debt ∧ (sweep1 V i).threshold = V.threshold ∧ (sweep1 V i).estimate = V.estimate ∧ (sweep1 V i).n = V.n ∧ (sweep1 V i).size = V.size := by
        unfold sweep1
        split
        · split <;> exact ⟨rfl, rfl, rfl, rfl, rfl, rfl⟩
        · exact ⟨rfl, rfl, rfl, rfl, rfl, rfl⟩
      exact ⟨h.1.trans e.1, h.2.1.trans e.2.1, h.2.2.1.trans e.2.2.1, h.2.2.2.1.trans e.2.2.2.1, h.2.2.2.2.1.trans e.2.2.2.2.1, h.2.2.2.2.2.trans e.2.2.2.2.2⟩
theorem sum_nn {f : Int → Int} (h : ∀ i, 0 ≤ f i) : ∀ l : List Int, 0 ≤ (l.map f).sum
  | [] => Int.le_refl _
  | a :: l => by rw [List.map_cons, List.sum_cons]; have := h a; have := sum_nn h l; omega
theorem sum_le {f : Int → Int} (h : ∀ i, f i ≤ 90) : ∀ l : List Int, (l.map f).sum ≤ 90 * l.length
  | [] => Int.le_refl _
  | a :: l => by rw [List.map_cons, List.sum_cons, List.length_cons]; have := h a; have := sum_le h l; omega
theorem Bs.tot0 (B : Bs k V) : 0 ≤ V.total ∧ V.total ≤ 1170 := by
  have h1 := sum_nn (fun i => (B.sz i).1) V.objs
  have h2 := sum_le (fun i => (B.sz i).2) V.objs
  have h3 := B.olen
  rw [B.tot]
  unfold sumSz
  omega
theorem sweep_inv1 (I : Inv kd so S k V) (h2 : V.phase = 2) : Inv kd so S k (sweep V) ∧ (sweep V).phase = 3 ∧ (V.estimate = V.total → (sweep V).estimate = (sweep V).total) := by
  obtain ⟨p1, p2, p3⟩ := I.p2 h2
  have W : Sw1 kd S k V := ⟨I.B, I.m4, I.one, I.cl, p1, p2, p3⟩
  obtain ⟨W', e⟩ := Sw1.more V.smax.toNat W (by rw [I.B.sm]; have := I.B.sl; show _ ≤ 16; omega)
  have hp : (sweep V).phase = 3 := by unfold sweep; exact if_pos e
  have ww : ∀ i ∈ (sweepN V.smax.toNat V).objs, (sweepN V.smax.toNat V).mark i = (sweepN V.smax.toNat V).white := fun i hi => W'.w i hi (by rw [e]; exact List.not_mem_nil)
  have hw := W'.B.w01
  have dd : ∀ i ∈ (sweepN V.smax.toNat V).objs, (sweepN V.smax.toNat V).dead i = false := fun i hi => dead_iff.mpr ⟨by have := ww i hi; omega, fun _ => ww i hi⟩
  refine ⟨⟨⟨⟨W'.B.rg.n0, W'.B.rg.n1, W'.B.rg.g, W'.B.rg.a, W'.B.rg.r, W'.B.rg.rl, W'.B.rg.o, W'.B.rg.on, W'.B.rg.sl⟩, W'.B.n13, W'.B.sm, W'.B.w01, W'.B.root, W'.B.sl, W'.B.al, W'.B.tot, W'.B.sz⟩, W'.m4, W'.one, W'.cl, .inr (.inr (.inr hp)), fun _ => ww, fun h => by omega, fun h => by omega, fun _ i hi => W'.s i hi (dd i hi)⟩, hp, ?_⟩
  intro he
  have e1 := (sweepN_same V.smax.toNat V).2.2.2.1
  show max 0 ((sweepN V.smax.toNat V).estimate - (V.total - (sweepN V.smax.toNat V).total)) = (sweepN V.smax.toNat V).total
  have := W'.B.tot0
  omega
end

/-- single steps that are left of the cycle -/
def Cy.M (V : Cy) : Nat := if V.phase = 0 then 17 else if V.phase = 1 then V.nu + 3 else if V.phase = 2 then 2 else 1

theorem nu_le {V : Cy} (M : V.Mk) : V.nu ≤ V.n.toNat := by
  have e : ((((List.range V.n.toNat).filter fun k : Nat => decide (V.mark ((k : Int) + 1) < 2)).map fun k : Nat => (k : Int) + 1)).length = V.whites := by
    rw [List.length_map, ← List.countP_eq_length_filter]; rfl
  have hw : ∀ i ∈ (((List.range V.n.toNat).filter fun k : Nat => decide (V.mark ((k : Int) + 1) < 2)).map fun k : Nat => (k : Int) + 1), V.mark i < 2 ∧ 1 ≤ i ∧ i ≤ (V.n.toNat : Int) := fun i hi => by
    obtain ⟨a, ha, rfl⟩ := List.mem_map.mp hi
    obtain ⟨h1, h2⟩ := List.mem_filter.mp ha
    have := List.mem_range.mp h1
    exact ⟨by simpa using h2, by omega, by omega⟩
  have nd : (V.grey ++ (((List.range V.n.toNat).filter fun k : Nat => decide (V.mark ((k : Int) + 1) < 2)).map fun k : Nat => (k : Int) + 1)).Nodup := by
    refine List.nodup_append.mpr ⟨(List.nodup_append.mp M.nd).1, ?_, fun a ha b hb z => ?_⟩
    · refine List.Pairwise.map _ (fun a b (h : a ≠ b) (z : (a : Int) + 1 = b + 1) => h (by omega)) (List.nodup_range.sublist List.filter_sublist)
    · have := (hw b hb).1
      have := M.gm a (List.mem_append_left _ ha)
      rw [z] at this; omega
  have := nodup_len V.n.toNat _ nd fun i hi => by
    rcases List.mem_append.mp hi with q | q
    · have := M.rg.g i q; unfold Cy.rng at this; have := M.rg.n0; omega
    · exact (hw i q).2
  rw [List.length_append, e] at this
  unfold Cy.nu
  omega

section
variable {kd : Int → List Int} {so : Int → Int} {S : Int → Prop} {k : Nat} {V : Cy}

theorem Inv.M_le (I : Inv kd so S k V) : 1 ≤ V.M ∧ V.M ≤ 17 := by
  unfold Cy.M
  split
  · omega
  · split
    · rename_i h
      have h1 := nu_le (I.p1 h).1.ok
      have h2 := I.B.n13
      omega
    · split <;> omega

structure St1 (S : Int → Prop) (V V' : Cy) : Prop where
  n : V'.n = V.n
  size : V'.size = V.size
  thr : V'.threshold = V.threshold
  cyc : V'.cycles = if V.phase = 3 then V.cycles + 1 else V.cycles
  on : V.phase ≠ 3 → V'.phase ≠ 0 ∧ V'.M < V.M ∧ V'.debt = V.debt
  fin : V.phase = 3 → V'.phase = 0 ∧ (∀ i ∈ V'.objs, S i) ∧ V'.estimate = V.estimate ∧ V'.total = V.total
  one : V.phase = 1 → V'.phase = 1 → V'.total = V.total
  ph1 : V.phase = 1 → V'.phase = 1 ∨ V'.phase = 2
  ph2 : V.phase = 2 → V'.phase = 3
  est : (V.phase = 2 → V.estimate = V.total) → (V'.phase = 2 ∨ V'.phase = 3) → V'.estimate = V'.total

theorem step1_spec (I : Inv kd so S k V) (hk : ∀ i, 1 ≤ i → i ≤ V.n → ∀ j ∈ kd i, 1 ≤ j ∧ j ≤ V.n) (hS : ∀ i, S i → ∀ j ∈ kd i, S j) (h1 : S 1) : Inv kd so S k (step1 kd so V) ∧ St1 S V (step1 kd so V) := by
  unfold step1
  split
  · rename_i h0
    obtain ⟨a, b, c⟩ := begin_inv (so := so) I.B (I.p0 (.inl h0)) I.one.1 (I.hc (by omega)) hk hS h1
    refine ⟨a, ⟨c.n, c.size, c.threshold, by rw [if_neg (by omega)]; exact c.cycles, fun _ => ⟨by show (1 : Int) ≠ 0; decide, ?_, c.debt⟩, fun h => by omega, fun h => by omega, fun h => by omega, fun h => by omega, fun _ h => ?_⟩⟩
    · unfold Cy.M
      rw [if_neg (by show ¬ (1 : Int) = 0; decide), if_pos (show (markRoots kd so V).phase = 1 from rfl), if_pos h0]
      omega
    · exact absurd h (by show ¬ ((1 : Int) = 2 ∨ (1 : Int) = 3); decide)
  · rename_i h0
    split
    · rename_i hp
      obtain ⟨T, w⟩ := I.p1 hp
      have hc := I.hc (by omega)
      split
      · rename_i hg
        obtain ⟨f1, f2, f3⟩ := finish_ok (so := so) hk T.ok
        refine ⟨atomic_inv1 I hp hk hS, ⟨f2.n, f2.size, f2.threshold, by rw [if_neg (by omega)]; exact f2.cycles, fun _ => ⟨by show (2 : Int) ≠ 0; decide, ?_, f2.debt⟩, fun h => by omega, fun _ h => absurd h (by show ¬ (2 : Int) = 1; decide), fun _ => .inr rfl, fun h => by omega, fun _ _ => ?_⟩⟩
        · unfold Cy.M
          rw [if_neg (by show ¬ (2 : Int) = 0; decide), if_neg (by show ¬ (2 : Int) = 1; decide), if_pos (show (atomic kd so V).phase = 2 from rfl), if_neg h0, if_pos hp]
          omega
        · show max 0 V.total = (finish kd so V).total
          rw [f2.total]
          have := I.B.tot0
          omega
      · rename_i hg
        obtain ⟨a, b, c, d⟩ := propagate_ok (so := so) hk T.ok hg
        obtain ⟨T', hnu, hw⟩ := propagate_Tri hk hc hS T hg
        refine ⟨.ofTri (I.B.same b a) (b.phase.trans hp) T' (hw 1 w) (by rw [b.objs]; exact I.one.1) (by rw [b.objs]; exact hc), ⟨b.n, b.size, b.threshold, by rw [if_neg (by omega)]; exact b.cycles, fun _ => ⟨by rw [b.phase]; exact h0, ?_, b.debt⟩, fun h => by omega, fun _ _ => b.total, fun _ => .inl (b.phase.trans hp), fun h => by omega, fun _ h => ?_⟩⟩
        · unfold Cy.M
          rw [b.phase, if_neg h0, if_pos hp, if_neg h0, if_pos hp]
          omega
        · rw [b.phase] at h; omega
    · rename_i hp
      split
      · rename_i h2
        obtain ⟨a, b, c⟩ := sweep_inv1 I h2
        obtain ⟨s1, s2, s3, s4, s5, s6⟩ := sweepN_same V.smax.toNat V
        refine ⟨a, ⟨s5, s6, s3, by rw [if_neg (by omega)]; exact s1, fun _ => ⟨by omega, ?_, s2⟩, fun h => by omega, fun h => by omega, fun h => by omega, fun _ => b, fun h _ => c (h h2)⟩⟩
        unfold Cy.M
        rw [b, if_neg (by decide), if_neg (by decide), if_neg (by decide), if_neg h0, if_neg hp, if_pos h2]
        decide
      · rename_i h2
        have h3 : V.phase = 3 := by have := I.ph; omega
        have ww := I.p0 (.inr h3)
        refine ⟨⟨⟨⟨I.B.rg.n0, I.B.rg.n1, I.B.rg.g, I.B.rg.a, I.B.rg.r, I.B.rg.rl, I.B.rg.o, I.B.rg.on, I.B.rg.sl⟩, I.B.n13, I.B.sm, I.B.w01, I.B.root, I.B.sl, I.B.al, I.B.tot, I.B.sz⟩, I.m4, I.one, I.cl, .inl rfl, fun _ => ww, fun h => ?_, fun h => ?_, fun h => ?_⟩, ⟨rfl, rfl, rfl, by rw [if_pos h3]; rfl, fun h => absurd h3 h, fun _ => ⟨rfl, I.p3 h3, rfl, rfl⟩, fun h => by omega, fun h => by omega, fun h => by omega, fun _ h => ?_⟩⟩
        · exact absurd h (by show ¬ (0 : Int) = 1; decide)
        · exact absurd h (by show ¬ (0 : Int) = 2; decide)
        · exact absurd h (by show ¬ (0 : Int) = 3; decide)
        · exact absurd h (by show ¬ ((0 : Int) = 2 ∨ (0 : Int) = 3); decide)
end

/-- the loop of a step -/
def goOn (kd : Int → List Int) (so : Int → Int) : Nat → Int → Cy → Cy
  | 0, _, V => V
  | f + 1, wl, V => if (step1 kd so V).phase ≠ 0 ∧ 0 < wl - stepV V then goOn kd so f (wl - stepV V) (step1 kd so V) else step1 kd so V
def debt1 (V : Cy) : Cy := { V with debt := V.debt + (if V.total > V.threshold then V.total - V.threshold else 0) }
def stepEnd (V : Cy) : Cy := if V.phase = 0 then setThr V else if V.debt < 64 then { V with threshold := V.total + 64 } else { V with debt := V.debt - 64, threshold := V.total }
def stepC (kd : Int → List Int) (so : Int → Int) (V : Cy) : Cy := stepEnd (goOn kd so 3000 128 (debt1 V))
def checkC (kd : Int → List Int) (so : Int → Int) (V : Cy) : Cy := if V.total ≥ V.threshold then stepC kd so V else V

/-- fields that Inv does not look at -/
theorem Inv.fields {kd : Int → List Int} {so : Int → Int} {S : Int → Prop} {k : Nat} {V : Cy} (I : Inv kd so S k V) (a b c d : Int) : Inv kd so S k { V with estimate := a, debt := b, threshold := c, cycles := d } :=
  ⟨⟨⟨I.B.rg.n0, I.B.rg.n1, I.B.rg.g, I.B.rg.a, I.B.rg.r, I.B.rg.rl, I.B.rg.o, I.B.rg.on, I.B.rg.sl⟩, I.B.n13, I.B.sm, I.B.w01, I.B.root, I.B.sl, I.B.al, I.B.tot, I.B.sz⟩, I.m4, I.one, I.cl, I.ph, I.p0, fun h =>
    have T := (I.p1 h).1
    ⟨⟨⟨⟨T.ok.rg.n0, T.ok.rg.n1, T.ok.rg.g, T.ok.rg.a, T.ok.rg.r, T.ok.rg.rl, T.ok.rg.o, T.ok.rg.on, T.ok.rg.sl⟩, T.ok.nd, T.ok.gm⟩, T.go, T.ao, T.t, T.two, T.s⟩, (I.p1 h).2⟩, I.p2, I.p3⟩

section
variable {kd : Int → List Int} {so : Int → Int} {S : Int → Prop} {k : Nat} {V : Cy}

/-- at phase 0 what holds ahead of a new cycle -/
theorem Inv.anew {S' : Int → Prop} (I : Inv kd so S k V) (h0 : V.phase = 0) : Inv kd so S' k V :=
  ⟨I.B, I.m4, I.one, I.cl, I.ph, I.p0, fun h => by omega, fun h => by omega, fun h => by omega⟩

structure GoR (S : Int → Prop) (V V' : Cy) : Prop where
  n : V'.n = V.n
  size : V'.size = V.size
  thr : V'.threshold = V.threshold
  fin : V'.phase = 0 → V'.cycles = V.cycles + 1 ∧ ∀ i ∈ V'.objs, S i
  on : V'.phase ≠ 0 → V'.cycles = V.cycles ∧ V'.M < V.M ∧ V'.debt = V.debt ∧ V.phase ≠ 3 ∧ (V.phase = 1 → V'.phase = 1 → V'.total = V.total)
  b1 : V.phase ≠ 0 → V'.phase ≠ 0 → V.phase ≤ V'.phase

theorem goOn_spec (hS : ∀ i, S i → ∀ j ∈ kd i, S j) (h1 : S 1) : ∀ (f : Nat) (wl : Int) {V : Cy}, (∀ i, 1 ≤ i → i ≤ V.n → ∀ j ∈ kd i, 1 ≤ j ∧ j ≤ V.n) → Inv kd so S k V → V.M ≤ f → Inv kd so S k (goOn kd so f wl V) ∧ GoR S V (goOn kd so f wl V)
  | 0, _, V, _, I, h => by have := I.M_le; omega
  | f + 1, wl, V, hk, I, h => by
    obtain ⟨I1, s⟩ := step1_spec I hk hS h1
    have hp := I.ph
    have hp1 := I1.ph
    have one : GoR S V (step1 kd so V) := by
      refine ⟨s.n, s.size, s.thr, fun z => ?_, fun z => ?_, fun z z' => ?_⟩
      · by_cases q : V.phase = 3
        · exact ⟨by rw [s.cyc, if_pos q], (s.fin q).2.1⟩
        · exact absurd z (s.on q).1
      · by_cases q : V.phase = 3
        · exact absurd (s.fin q).1 z
        · exact ⟨by rw [s.cyc, if_neg q], (s.on q).2.1, (s.on q).2.2, q, s.one⟩
      · rcases hp with q | q | q | q
        · omega
        · have := s.ph1 q; omega
        · have := s.ph2 q; omega
        · exact absurd (s.fin q).1 z'
    unfold goOn
    split
    · rename_i hc
      have q3 : V.phase ≠ 3 := fun q => hc.1 (s.fin q).1
      obtain ⟨I2, r⟩ := goOn_spec hS h1 f (wl - stepV V) (V := step1 kd so V) (by rw [s.n]; exact hk) I1 (by have := (s.on q3).2.1; omega)
      have c1 : (step1 kd so V).cycles = V.cycles := by rw [s.cyc, if_neg q3]
      refine ⟨I2, ⟨r.n.trans s.n, r.size.trans s.size, r.thr.trans s.thr, fun z => by rw [← c1]; exact r.fin z, fun z => ?_, fun z z' => ?_⟩⟩
      · obtain ⟨a, b, c, d, e⟩ := r.on z
        refine ⟨a.trans c1, Nat.lt_trans b (s.on q3).2.1, c.trans (s.on q3).2.2, q3, fun y y' => ?_⟩
        have h5 := r.b1 hc.1 z
        have h6 := s.ph1 y
        have h7 : (step1 kd so V).phase = 1 := by omega
        exact (e h7 y').trans (s.one y h7)
      · have h5 := r.b1 hc.1 z'
        have h6 := one.b1 z hc.1
        omega
    · exact ⟨I1, one⟩

/-- a step that starts while sweeping goes on ends the cycle -/
theorem goOn_23 (hS : ∀ i, S i → ∀ j ∈ kd i, S j) (h1 : S 1) {f : Nat} {wl : Int} (hk : ∀ i, 1 ≤ i → i ≤ V.n → ∀ j ∈ kd i, 1 ≤ j ∧ j ≤ V.n) (I : Inv kd so S k V) (hw : 100 < wl) (h : V.phase = 2 ∨ V.phase = 3) : (goOn kd so (f + 2) wl V).phase = 0 := by
  obtain ⟨I1, s⟩ := step1_spec I hk hS h1
  unfold goOn
  rcases h with h | h
  · have e : stepV V = 32 := by
      unfold stepV
      rw [if_neg (by omega), if_neg (by omega), if_pos h, I.B.sm]
      rfl
    have p3 := s.ph2 h
    rw [if_pos ⟨by omega, by omega⟩]
    obtain ⟨I2, s2⟩ := step1_spec I1 (by rw [s.n]; exact hk) hS h1
    unfold goOn
    rw [if_neg (fun z => z.1 (s2.fin p3).1)]
    exact (s2.fin p3).1
  · rw [if_neg (fun z => z.1 (s.fin h).1)]
    exact (s.fin h).1

theorem stepEnd_facts (V : Cy) : (stepEnd V).n = V.n ∧ (stepEnd V).size = V.size ∧ (stepEnd V).phase = V.phase ∧ (stepEnd V).cycles = V.cycles ∧ (stepEnd V).objs = V.objs ∧ (stepEnd V).total = V.total ∧ (stepEnd V).M = V.M := by
  unfold stepEnd
  split
  · exact ⟨rfl, rfl, rfl, rfl, rfl, rfl, rfl⟩
  · split <;> exact ⟨rfl, rfl, rfl, rfl, rfl, rfl, rfl⟩
theorem stepEnd_inv (I : Inv kd so S k V) : Inv kd so S k (stepEnd V) := by
  unfold stepEnd
  split
  · exact I.fields _ _ _ _
  · split
    · exact I.fields _ _ _ _
    · exact I.fields _ _ _ _

structure StpR (S : Int → Prop) (V V' : Cy) : Prop where
  n : V'.n = V.n
  size : V'.size = V.size
  fin : V'.phase = 0 → V'.cycles = V.cycles + 1 ∧ ∀ i ∈ V'.objs, S i
  on : V'.phase ≠ 0 → V'.cycles = V.cycles ∧ V'.M < V.M
theorem stepC_spec (hk : ∀ i, 1 ≤ i → i ≤ V.n → ∀ j ∈ kd i, 1 ≤ j ∧ j ≤ V.n) (hS : ∀ i, S i → ∀ j ∈ kd i, S j) (h1 : S 1) (I : Inv kd so S k V) : Inv kd so S k (stepC kd so V) ∧ StpR S V (stepC kd so V) := by
  have I0 : Inv kd so S k (debt1 V) := I.fields _ _ _ _
  obtain ⟨I1, r⟩ := goOn_spec hS h1 3000 128 (V := debt1 V) hk I0 (by have := I0.M_le; omega)
  obtain ⟨e1, e2, e3, e4, e5, e6, e7⟩ := stepEnd_facts (goOn kd so 3000 128 (debt1 V))
  unfold stepC
  exact ⟨stepEnd_inv I1, ⟨e1.trans r.n, e2.trans r.size, fun z => by rw [e4, e5]; exact r.fin (e3 ▸ z), fun z => by rw [e4, e7]; exact ⟨(r.on (e3 ▸ z)).1, (r.on (e3 ▸ z)).2.1⟩⟩⟩

/-- a check that is due shows -/
theorem stepC_shows (hk : ∀ i, 1 ≤ i → i ≤ V.n → ∀ j ∈ kd i, 1 ≤ j ∧ j ≤ V.n) (I : Inv kd so (fun _ => True) k V) (hd : V.total ≥ V.threshold) :
    ¬ ((stepC kd so V).phase = V.phase ∧ (stepC kd so V).threshold = V.threshold ∧ (stepC kd so V).cycles = V.cycles ∧ (stepC kd so V).debt = V.debt) := by
  rintro ⟨a, b, c, d⟩
  have I0 : Inv kd so (fun _ => True) k (debt1 V) := I.fields _ _ _ _
  obtain ⟨I1, r⟩ := goOn_spec (fun _ _ _ _ => trivial) trivial 3000 128 (V := debt1 V) hk I0 (by have := I0.M_le; omega)
  obtain ⟨e1, e2, e3, e4, e5, e6, e7⟩ := stepEnd_facts (goOn kd so 3000 128 (debt1 V))
  unfold stepC at a b c d
  rw [e3] at a
  rw [e4] at c
  have hp := I.ph
  by_cases z : (goOn kd so 3000 128 (debt1 V)).phase = 0
  · have := (r.fin z).1
    have : (debt1 V).cycles = V.cycles := rfl
    omega
  · have q1 : V.phase = 1 := by
      rcases hp with q | q | q | q
      · omega
      · exact q
      · exact absurd (goOn_23 (so := so) (V := debt1 V) (fun _ _ _ _ => trivial) trivial (f := 2998) (wl := 128) hk I0 (by decide) (.inl q)) z
      · exact absurd (goOn_23 (so := so) (V := debt1 V) (fun _ _ _ _ => trivial) trivial (f := 2998) (wl := 128) hk I0 (by decide) (.inr q)) z
    obtain ⟨-, -, r3, -, r5⟩ := r.on z
    have ht : (goOn kd so 3000 128 (debt1 V)).total = V.total := r5 q1 (by omega)
    have hdb : (goOn kd so 3000 128 (debt1 V)).debt = V.debt + (if V.total > V.threshold then V.total - V.threshold else 0) := r3
    unfold stepEnd at b d
    rw [if_neg z] at b d
    split at hdb
    · split at b
      · rename_i hx hy
        have : (goOn kd so 3000 128 (debt1 V)).total + 64 = V.threshold := b
        omega
      · have : (goOn kd so 3000 128 (debt1 V)).total = V.threshold := b
        omega
    · rename_i hx
      by_cases hy : (goOn kd so 3000 128 (debt1 V)).debt < 64
      · rw [if_pos hy] at b
        have : (goOn kd so 3000 128 (debt1 V)).total + 64 = V.threshold := b
        omega
      · rw [if_neg hy] at d
        have : (goOn kd so 3000 128 (debt1 V)).debt - 64 = V.debt := d
        omega
theorem checkC_spec (hk : ∀ i, 1 ≤ i → i ≤ V.n → ∀ j ∈ kd i, 1 ≤ j ∧ j ≤ V.n) (I : Inv kd so (fun _ => True) k V) : Inv kd so (fun _ => True) k (checkC kd so V) ∧ (checkC kd so V).n = V.n := by
  unfold checkC
  split
  · obtain ⟨a, b⟩ := stepC_spec hk (fun _ _ _ _ => trivial) trivial I
    exact ⟨a, b.n⟩
  · exact ⟨I, rfl⟩

/-- what is led to -/
inductive Rch (kd : Int → List Int) : Int → Prop
  | root : Rch kd 1
  | step {i j : Int} : Rch kd i → j ∈ kd i → Rch kd j
theorem Inv.rch (I : Inv kd so S k V) {i : Int} (h : Rch kd i) : i ∈ V.objs ∧ V.dead i = false := by
  induction h with
  | root => exact I.one
  | step _ hj ih => exact I.cl _ ih.1 ih.2 _ hj

/-- to the end of a cycle -/
theorem until0_spec (hS : ∀ i, S i → ∀ j ∈ kd i, S j) (h1 : S 1) : ∀ (f : Nat) {V : Cy}, (∀ i, 1 ≤ i → i ≤ V.n → ∀ j ∈ kd i, 1 ≤ j ∧ j ≤ V.n) → Inv kd so S k V → V.phase ≠ 0 → V.M < f → ((V.phase = 2 ∨ V.phase = 3) → V.estimate = V.total) →
    Inv kd so S k (untilP kd so 0 f V) ∧ (untilP kd so 0 f V).phase = 0 ∧ (∀ i ∈ (untilP kd so 0 f V).objs, S i) ∧ (untilP kd so 0 f V).estimate = (untilP kd so 0 f V).total ∧ (untilP kd so 0 f V).n = V.n ∧ (untilP kd so 0 f V).size = V.size
  | 0, V, _, _, _, h, _ => absurd h (Nat.not_lt_zero _)
  | f + 1, V, hk, I, h0, h, he => by
    obtain ⟨I1, s⟩ := step1_spec I hk hS h1
    unfold untilP
    rw [if_neg h0]
    by_cases q : V.phase = 3
    · obtain ⟨a, b, c, d⟩ := s.fin q
      cases f with
      | zero => have := I.M_le; omega
      | succ f =>
        unfold untilP
        rw [if_pos a]
        exact ⟨I1, a, b, by rw [c, d]; exact he (.inr q), s.n, s.size⟩
    · obtain ⟨a, b, -⟩ := s.on q
      obtain ⟨r1, r2, r3, r4, r5, r6⟩ := until0_spec hS h1 f (V := step1 kd so V) (by rw [s.n]; exact hk) I1 a (by omega) (s.est fun z => he (.inl z))
      exact ⟨r1, r2, r3, r4, r5.trans s.n, r6.trans s.size⟩

theorem full1_inv1 (I : Inv kd so (fun _ => True) k V) : Inv kd so (fun _ => True) k (full1 V) ∧ ((full1 V).phase = 2 ∨ (full1 V).phase = 3) ∧ (full1 V).n = V.n ∧ (full1 V).size = V.size := by
  unfold full1
  split
  · rename_i h
    have lv : ∀ i ∈ V.objs, V.dead i = false := fun i hi => I.live (by omega) hi
    refine ⟨⟨⟨⟨I.B.rg.n0, I.B.rg.n1, (fun i h => by cases h), (fun i h => by cases h), I.B.rg.r, I.B.rg.rl, I.B.rg.o, I.B.rg.on, by have := I.B.olen; show V.objs.length ≤ 60; omega⟩, I.B.n13, I.B.sm, I.B.w01, I.B.root, I.B.olen, Nat.zero_le _, I.B.tot, I.B.sz⟩, I.m4, I.one, I.cl, .inr (.inr (.inl rfl)), fun z => ?_, fun z => ?_, fun _ => ⟨I.B.rg.on, fun i hi q => absurd hi q, fun _ _ _ => trivial⟩, fun _ _ _ => trivial⟩, .inl rfl, rfl, rfl⟩
    · exact absurd z (by show ¬ ((2 : Int) = 0 ∨ (2 : Int) = 3); decide)
    · exact absurd z (by show ¬ (2 : Int) = 1; decide)
  · rename_i h
    exact ⟨I, by have := I.ph; omega, rfl, rfl⟩

theorem full_spec (hk : ∀ i, 1 ≤ i → i ≤ V.n → ∀ j ∈ kd i, 1 ≤ j ∧ j ≤ V.n) (I : Inv kd so (fun _ => True) k V) :
    Inv kd so (fun _ => True) k (full kd so V) ∧ (full kd so V).phase = 0 ∧ (∀ i, i ∈ (full kd so V).objs ↔ Rch kd i) ∧ (full kd so V).threshold = 2 * (full kd so V).total ∧ (full kd so V).n = V.n ∧ (full kd so V).size = V.size := by
  obtain ⟨I1, p1, n1, z1⟩ := full1_inv1 I
  have I3 : Inv kd so (fun _ => True) k (untilP kd so 3 100 (full1 V)) ∧ (untilP kd so 3 100 (full1 V)).phase = 3 ∧ (untilP kd so 3 100 (full1 V)).n = V.n ∧ (untilP kd so 3 100 (full1 V)).size = V.size := by
    rcases p1 with p | p
    · obtain ⟨I2, s⟩ := step1_spec I1 (by rw [n1]; exact hk) (fun _ _ _ _ => trivial) trivial
      have q := s.ph2 p
      unfold untilP
      rw [if_neg (by omega)]
      unfold untilP
      rw [if_pos q]
      exact ⟨I2, q, s.n.trans n1, s.size.trans z1⟩
    · unfold untilP
      rw [if_pos p]
      exact ⟨I1, p, n1, z1⟩
  obtain ⟨I3, p3, n3, z3⟩ := I3
  unfold full
  generalize untilP kd so 3 100 (full1 V) = V3 at *
  have hk3 : ∀ i, 1 ≤ i → i ≤ V3.n → ∀ j ∈ kd i, 1 ≤ j ∧ j ≤ V3.n := by rw [n3]; exact hk
  obtain ⟨I4, nu4, s4⟩ := begin_inv (so := so) (S := Rch kd) I3.B (I3.p0 (.inr p3)) I3.one.1 (I3.hc (by omega)) hk3 (fun i hi j hj => hi.step hj) .root
  obtain ⟨I5, p5, o5, e5, n5, z5⟩ := until0_spec (fun i hi j hj => hi.step hj) .root 2000 (V := markRoots kd so V3) (by rw [show (markRoots kd so V3).n = V3.n from s4.n]; exact hk3) I4 (by show (1 : Int) ≠ 0; decide) (by have := I4.M_le; omega) fun h => absurd h (by show ¬ ((1 : Int) = 2 ∨ (1 : Int) = 3); decide)
  generalize untilP kd so 0 2000 (markRoots kd so V3) = V5 at *
  have t5 := I5.B.tot0
  refine ⟨(I5.anew p5).fields _ _ _ _, p5, fun i => ⟨o5 i, fun h => (I5.rch h).1⟩, ?_, n5.trans (s4.n.trans n3), z5.trans (s4.size.trans z3)⟩
  show (V5.estimate * 200).fdiv 100 = 2 * V5.total
  rw [e5, Int.fdiv_eq_ediv_of_nonneg _ (by decide)]
  omega
end

abbrev all : Int → Prop := fun _ => True
section
variable {kd kd' : Int → List Int} {so so' : Int → Int} {S : Int → Prop} {k : Nat} {V : Cy}

theorem Inv.up (I : Inv kd so S k V) : Inv kd so S (k + 1) V :=
  ⟨⟨I.B.rg, I.B.n13, I.B.sm, I.B.w01, I.B.root, I.B.sl, by have := I.B.al; omega, I.B.tot, I.B.sz⟩, I.m4, I.one, I.cl, I.ph, I.p0, I.p1, I.p2, I.p3⟩

/-- an edge less -/
theorem Inv.sub (I : Inv kd so all k V) (h : ∀ i, ∀ j ∈ kd' i, j ∈ kd i) : Inv kd' so all k V :=
  ⟨I.B, I.m4, I.one, fun i hi q j hj => I.cl i hi q j (h i j hj), I.ph, I.p0, fun z =>
    have T := (I.p1 z).1
    ⟨⟨T.ok, T.go, T.ao, fun j hj q => (T.t j hj q).imp_right (.imp_right (.imp_right fun y c hc => y c (h j c hc))), T.two, T.s⟩, (I.p1 z).2⟩, I.p2, I.p3⟩

/-- a new object -/
theorem Inv.new (I : Inv kd so all k V) {sz : Int} (hn : V.n ≤ 12) (hz : 0 ≤ sz ∧ sz ≤ 90) (hs : ∀ i, i ≤ V.n → so' i = so i) (hk : kd (V.n + 1) = []) :
    Inv kd so' all k (takeIn V sz) ∧ V.n + 1 ∈ (takeIn V sz).objs ∧ (takeIn V sz).dead (V.n + 1) = false ∧ ∀ i, i ≠ V.n + 1 → (takeIn V sz).dead i = V.dead i := by
  have n0 := I.B.rg.n0
  have rn : ∀ i, V.rng i → (takeIn V sz).rng i := fun i h => ⟨h.1, by show i ≤ V.n + 1; have := h.2; omega⟩
  have ne : ∀ i, V.rng i → i ≠ V.n + 1 := fun i h => by have := h.2; omega
  have mk : ∀ i, (takeIn V sz).mark i = if i = V.n + 1 then V.white else V.mark i := fun _ => rfl
  have mo : ∀ i, i ≠ V.n + 1 → (takeIn V sz).mark i = V.mark i := fun i h => by rw [mk, if_neg h]
  have mn : (takeIn V sz).mark (V.n + 1) = V.white := by rw [mk, if_pos rfl]
  have dk : ∀ i, i ≠ V.n + 1 → (takeIn V sz).dead i = V.dead i := fun i h => by unfold Cy.dead; rw [mo i h]; rfl
  have hw := I.B.w01
  have dn : (takeIn V sz).dead (V.n + 1) = false := dead_iff.mpr ⟨by rw [mn]; omega, fun _ => mn⟩
  have ob : ∀ i, i ∈ (takeIn V sz).objs → i ∈ V.objs ∧ i ≠ V.n + 1 ∨ i = V.n + 1 := fun i h => by
    rcases List.mem_append.mp h with q | q
    · exact .inl ⟨q, ne i (I.B.rg.o i q)⟩
    · exact .inr (List.mem_singleton.mp q)
  have old : ∀ i, i ∈ V.objs → i ∈ (takeIn V sz).objs := fun i h => List.mem_append_left _ h
  have hne1 : (1 : Int) ≠ V.n + 1 := ne 1 (I.B.rg.o 1 I.one.1)
  refine ⟨⟨⟨⟨by show 0 ≤ V.n + 1; omega, by show V.n + 1 ≤ 60; omega, fun i h => rn i (I.B.rg.g i h), fun i h => rn i (I.B.rg.a i h), fun i h => rn i (I.B.rg.r i h), I.B.rg.rl, fun i h => ?_, ?_, I.B.rg.sl⟩, by show V.n + 1 ≤ 13; omega, I.B.sm, hw, I.B.root, I.B.sl, I.B.al, ?_, fun i => ?_⟩,
    fun i hi => ?_, ⟨old 1 I.one.1, by rw [dk 1 hne1]; exact I.one.2⟩, fun i hi q j hj => ?_, I.ph, fun z i hi => ?_, fun z => ⟨⟨⟨⟨by show 0 ≤ V.n + 1; omega, by show V.n + 1 ≤ 60; omega, fun i h => rn i (I.B.rg.g i h), fun i h => rn i (I.B.rg.a i h), fun i h => rn i (I.B.rg.r i h), I.B.rg.rl, fun i h => ?_, ?_, I.B.rg.sl⟩, (I.p1 z).1.ok.nd, fun i h => ?_⟩, fun i h => old i ((I.p1 z).1.go i h), fun i h => old i ((I.p1 z).1.ao i h), fun i hi q => ?_, fun i hi => ?_, fun _ _ _ => trivial⟩, ?_⟩, fun z => ⟨(I.p2 z).1, fun i hi q => ?_, fun _ _ _ => trivial⟩, fun _ _ _ => trivial⟩, List.mem_append_right _ (.head _), dn, dk⟩
  · rcases ob i h with q | q
    · exact rn i (I.B.rg.o i q.1)
    · rw [q]; exact ⟨by omega, Int.le_refl _⟩
  · show (V.objs ++ [V.n + 1]).Nodup
    refine List.nodup_append.mpr ⟨I.B.rg.on, by simp, fun a ha b hb e => ?_⟩
    rw [List.mem_singleton.mp hb] at e
    exact ne a (I.B.rg.o a ha) e
  · show V.total + sz = ((V.objs ++ [V.n + 1]).map fun j => if j = V.n + 1 then sz else V.size j).sum
    rw [List.map_append, List.sum_append, I.B.tot]
    have e : (V.objs.map fun j => if j = V.n + 1 then sz else V.size j) = V.objs.map V.size := List.map_congr_left fun j hj => if_neg (ne j (I.B.rg.o j hj))
    rw [e]
    simp [sumSz]
  · show 0 ≤ (if i = V.n + 1 then sz else V.size i) ∧ (if i = V.n + 1 then sz else V.size i) ≤ 90
    split
    · exact hz
    · exact I.B.sz i
  · rcases ob i hi with q | q
    · rw [mo i q.2]; exact I.m4 i q.1
    · rw [q, mn]; omega
  · rcases ob i hi with y | y
    · rw [dk i y.2] at q
      obtain ⟨a, b⟩ := I.cl i y.1 q j hj
      exact ⟨old j a, by rw [dk j (ne j (I.B.rg.o j a))]; exact b⟩
    · rw [y, hk] at hj; cases hj
  · rcases ob i hi with q | q
    · rw [mo i q.2]; exact I.p0 z i q.1
    · rw [q]; exact mn
  · rcases ob i h with q | q
    · exact rn i (I.B.rg.o i q.1)
    · rw [q]; exact ⟨by omega, Int.le_refl _⟩
  · show (V.objs ++ [V.n + 1]).Nodup
    refine List.nodup_append.mpr ⟨I.B.rg.on, by simp, fun a ha b hb e => ?_⟩
    rw [List.mem_singleton.mp hb] at e
    exact ne a (I.B.rg.o a ha) e
  · have hi : V.rng i := (List.mem_append.mp h).elim (I.B.rg.g i) (I.B.rg.a i)
    rw [mo i (ne i hi)]
    exact (I.p1 z).1.ok.gm i h
  · rcases ob i hi with y | y
    · rw [mo i y.2] at q
      have cc : ∀ c ∈ kd i, c ≠ V.n + 1 := fun c hc => ne c (I.B.rg.o c (I.hc (by have : V.phase = 1 := z; omega) i y.1 c hc))
      exact ((I.p1 z).1.t i y.1 q).imp_right (.imp_right (.imp_right fun w c hc => by rw [mo c (cc c hc)]; exact w c hc))
    · rw [y, mn] at q; omega
  · rcases ob i hi with y | y
    · rw [mo i y.2, hs i (I.B.rg.o i y.1).2]; exact (I.p1 z).1.two i y.1
    · rw [y]; exact .inl mn
  · rw [mo 1 hne1]; exact (I.p1 z).2
  · rcases ob i hi with y | y
    · rw [mo i y.2]; exact (I.p2 z).2.1 i y.1 q
    · rw [y]; exact mn

def barrierBack (V : Cy) (p : Int) : Cy := if V.mark p = 3 then { V.setMark p 2 with again := V.again ++ [p] } else V
def edgeV (kd : Int → List Int) (so : Int → Int) (V : Cy) (p q : Int) (back : Bool) : Cy :=
  if so p = 0 ∧ back = true then (if V.mark q < 2 then barrierBack V p else V) else if so p ≠ 3 then barrier kd so V p q (V.phase == 1) else V

/-- while sweeping goes on a mark that turns to no dead one's -/
theorem Inv.remark (I : Inv kd so all k V) (h2 : V.phase = 2) {p m : Int} (hp : p ∈ V.objs) (h3 : V.mark p = 3) (hm : m = 2 ∨ m = V.white) (ag : List Int) (ha : ∀ i ∈ ag, V.rng i) (hl : ag.length ≤ 100 + (k + 1)) :
    Inv kd so all (k + 1) { V.setMark p m with again := ag } ∧ ∀ i ∈ V.objs, ({ V.setMark p m with again := ag } : Cy).dead i = V.dead i := by
  have hw := I.B.w01
  have mk : ∀ i, ({ V.setMark p m with again := ag } : Cy).mark i = if i = p then m else V.mark i := fun _ => rfl
  have dk : ∀ i, ({ V.setMark p m with again := ag } : Cy).dead i = V.dead i := fun i => by
    by_cases z : i = p
    · subst z
      have d0 : V.dead i = false := dead_iff.mpr ⟨by omega, fun q => by omega⟩
      rw [d0, dead_iff, mk, if_pos rfl]
      exact ⟨by omega, fun q => hm.elim (fun e => by omega) id⟩
    · unfold Cy.dead; rw [mk, if_neg z]; rfl
  refine ⟨⟨⟨⟨I.B.rg.n0, I.B.rg.n1, I.B.rg.g, ha, I.B.rg.r, I.B.rg.rl, I.B.rg.o, I.B.rg.on, I.B.rg.sl⟩, I.B.n13, I.B.sm, hw, I.B.root, I.B.sl, hl, I.B.tot, I.B.sz⟩, fun i hi => ?_, ⟨I.one.1, by rw [dk]; exact I.one.2⟩, fun i hi q j hj => by rw [dk] at q ⊢; exact I.cl i hi q j hj, I.ph, fun z => ?_, fun z => ?_, fun z => ⟨(I.p2 z).1, fun i hi q => ?_, fun _ _ _ => trivial⟩, fun _ _ _ => trivial⟩, fun i _ => dk i⟩
  · rw [mk]
    split
    · omega
    · exact I.m4 i hi
  · have : V.phase = 0 ∨ V.phase = 3 := z
    omega
  · have : V.phase = 1 := z
    omega
  · rw [mk]
    split
    · rename_i e
      have := (I.p2 h2).2.1 i hi q
      rw [e] at this
      omega
    · exact (I.p2 h2).2.1 i hi q

/-- an edge more -/
theorem Inv.edge (I : Inv kd so all k V) (hk : ∀ i, 1 ≤ i → i ≤ V.n → ∀ j ∈ kd' i, 1 ≤ j ∧ j ≤ V.n) {p q : Int} {back : Bool} (hp : p ∈ V.objs) (hpd : V.dead p = false) (hq : q ∈ V.objs) (hqd : V.dead q = false) (hs : ∀ i, i ≠ p → kd' i = kd i) (hsp : kd' p = kd p ++ [q]) :
    Inv kd' so all (k + 1) (edgeV kd' so V p q back) ∧ (edgeV kd' so V p q back).n = V.n ∧ (edgeV kd' so V p q back).objs = V.objs := by
  have hw := I.B.w01
  have ke : ∀ i j, j ∈ kd' i → j ∈ kd i ∨ i = p ∧ j = q := fun i j hj => by
    by_cases z : i = p
    · rw [z, hsp] at hj
      rcases List.mem_append.mp hj with y | y
      · exact .inl (z ▸ y)
      · exact .inr ⟨z, List.mem_singleton.mp y⟩
    · rw [hs i z] at hj; exact .inl hj
  -- where the colours do not ask for anything
  have calm : (V.phase = 1 → V.mark p = 3 → ¬ V.mark q < 2) → Inv kd' so all k V := fun hc => ⟨I.B, I.m4, I.one, fun i hi y j hj => by
    rcases ke i j hj with z | z
    · exact I.cl i hi y j z
    · rw [z.2]; exact ⟨hq, hqd⟩, I.ph, I.p0, fun z =>
    have T := (I.p1 z).1
    ⟨⟨T.ok, T.go, T.ao, fun j hj y => by
      rcases T.t j hj y with e | e | e | e
      · exact .inl e
      · exact .inr (.inl e)
      · exact e.elim
      · by_cases w : j = p
        · rcases T.two j hj with u | u | u
          · omega
          · rcases u.2 with u | u
            · exact .inl u
            · exact .inr (.inl ⟨trivial, u⟩)
          · refine .inr (.inr (.inr fun c hcc => ?_))
            rcases ke j c hcc with v | v
            · exact e c v
            · rw [v.2]; exact hc z (w ▸ u.1)
        · exact .inr (.inr (.inr fun c hcc => e c ((ke j c hcc).elim id fun v => absurd v.1 w))), T.two, T.s⟩, (I.p1 z).2⟩, I.p2, I.p3⟩
  by_cases h3 : V.mark p = 3
  case neg =>
    have e1 : barrierBack V p = V := if_neg h3
    have e2 : ∀ b, barrier kd' so V p q b = V := fun b => if_pos (.inl h3)
    have e : edgeV kd' so V p q back = V := by
      unfold edgeV
      rw [e1, e2]
      repeat' split
      all_goals rfl
    rw [e]
    exact ⟨(calm fun _ h => absurd h h3).up, rfl, rfl⟩
  by_cases hq2 : V.mark q < 2
  case neg =>
    have e2 : ∀ b, barrier kd' so V p q b = V := fun b => if_pos (.inr (.inl hq2))
    have e : edgeV kd' so V p q back = V := by
      unfold edgeV
      rw [e2, if_neg hq2]
      repeat' split
      all_goals rfl
    rw [e]
    exact ⟨(calm fun _ _ => hq2).up, rfl, rfl⟩
  have hpr : V.rng p := I.B.rg.o p hp
  have hqr : V.rng q := I.B.rg.o q hq
  have h12 : V.phase = 1 ∨ V.phase = 2 := by
    rcases I.ph with z | z | z | z
    · have := I.p0 (.inl z) p hp; omega
    · exact .inl z
    · exact .inr z
    · have := I.p0 (.inr z) p hp; omega
  have hal := I.B.al
  rcases h12 with h1 | h2
  · obtain ⟨T, w1⟩ := I.p1 h1
    have hc := I.hc (by omega)
    have hc' : ∀ i ∈ V.objs, ∀ j ∈ kd' i, j ∈ V.objs := fun i hi j hj => (ke i j hj).elim (hc i hi j) fun z => z.2 ▸ hq
    have h3s : so p ≠ 3 := by
      rcases T.two p hp with u | u | u
      · omega
      · omega
      · exact u.2
    -- the colours, but for p's own children
    have Tx : Tri kd' so all True (fun j => j = p) V := ⟨T.ok, T.go, T.ao, fun j hj y => by
      by_cases z : j = p
      · exact .inr (.inr (.inl z))
      · rcases T.t j hj y with e | e | e | e
        · exact .inl e
        · exact .inr (.inl e)
        · exact e.elim
        · exact .inr (.inr (.inr fun c hcc => e c ((ke j c hcc).elim id fun v => absurd v.1 z))), T.two, T.s⟩
    have kp : ∀ c ∈ kd p, ¬ V.mark c < 2 := by
      rcases T.t p hp (by omega) with e | e | e | e
      · have := T.ok.gm p (List.mem_append_left _ e); omega
      · have := T.ok.gm p (List.mem_append_right _ e.2); omega
      · exact e.elim
      · exact e
    unfold edgeV
    rw [if_pos hq2]
    by_cases hb : so p = 0 ∧ back = true
    · rw [if_pos hb]
      unfold barrierBack
      rw [if_pos h3]
      have ni : p ∉ V.grey ++ V.again := fun z => by have := T.ok.gm p z; omega
      have mk : ∀ i, ({ V.setMark p 2 with again := V.again ++ [p] } : Cy).mark i = if i = p then 2 else V.mark i := fun _ => rfl
      have M' : ({ V.setMark p 2 with again := V.again ++ [p] } : Cy).Mk := ⟨⟨T.ok.rg.n0, T.ok.rg.n1, T.ok.rg.g, fun i hi => (List.mem_append.mp hi).elim (T.ok.rg.a i) fun z => by rw [List.mem_singleton.mp z]; exact hpr, T.ok.rg.r, T.ok.rg.rl, T.ok.rg.o, T.ok.rg.on, T.ok.rg.sl⟩, by
          show (V.grey ++ (V.again ++ [p])).Nodup
          rw [← List.append_assoc]
          exact List.nodup_append.mpr ⟨T.ok.nd, by simp, fun a ha b hb e => ni (by rw [List.mem_singleton.mp hb] at e; exact e ▸ ha)⟩, fun i hi => by
          rw [mk]
          split
          · rfl
          · rename_i z
            refine T.ok.gm i ?_
            have hi' : i ∈ V.grey ++ (V.again ++ [p]) := hi
            rw [← List.append_assoc] at hi'
            exact (List.mem_append.mp hi').elim id fun y => absurd (List.mem_singleton.mp y) z⟩
      refine ⟨.ofTri ⟨M'.rg, I.B.n13, I.B.sm, hw, I.B.root, I.B.sl, by show (V.again ++ [p]).length ≤ _; rw [List.length_append, List.length_singleton]; omega, I.B.tot, I.B.sz⟩ h1 ⟨M', T.go, fun j hj => (List.mem_append.mp hj).elim (T.ao j) fun z => by rw [List.mem_singleton.mp z]; exact hp, fun j hj y => ?_, fun j hj => ?_, fun _ _ _ => trivial⟩ ?_ I.one.1 hc', rfl, rfl⟩
      · rw [mk] at y
        by_cases z : j = p
        · exact .inr (.inl ⟨trivial, by rw [z]; exact List.mem_append_right _ (.head _)⟩)
        · rw [if_neg z] at y
          rcases Tx.t j hj y with e | e | e | e
          · exact .inl e
          · exact .inr (.inl ⟨e.1, List.mem_append_left _ e.2⟩)
          · exact absurd e z
          · refine .inr (.inr (.inr fun c hcc => ?_))
            rw [mk]
            split
            · decide
            · exact e c hcc
      · rw [mk]
        split
        · rename_i z
          exact .inr (.inl ⟨rfl, .inr (by rw [z]; exact List.mem_append_right _ (.head _))⟩)
        · rcases T.two j hj with e | e | e
          · exact .inl e
          · exact .inr (.inl ⟨e.1, e.2.imp id (List.mem_append_left _)⟩)
          · exact .inr (.inr e)
      · rw [mk]
        split
        · decide
        · exact w1
    · rw [if_neg hb, if_pos h3s]
      unfold barrier
      rw [if_neg (fun z => z.elim (fun z => z h3) fun z => z.elim (fun z => z hq2) fun z => by rw [hqd] at z; cases z), if_pos (show (V.phase == 1) = true by rw [h1]; rfl)]
      obtain ⟨r, t, w⟩ := mark_T (so := so) (S := fun j => all j ∧ j ∈ V.objs) hk (fun i hi j hj => ⟨trivial, hc' i hi.2 j hj⟩) MF V q T.ok hqr rfl (Cy.whites_MF T.ok.rg) ⟨trivial, hq⟩
      have T2 := (Tx.marked r t).shut fun j hj c hcc => by
        rw [hj] at hcc
        rcases ke p c hcc with v | v
        · exact fun z => kp c v (r.wh c z)
        · rw [v.2]; exact w
      exact ⟨(Inv.ofTri (I.B.same r.same r.ok) (r.same.phase.trans h1) T2 (fun z => w1 (r.wh 1 z)) (by rw [r.same.objs]; exact I.one.1) (by rw [r.same.objs]; exact hc')).up, r.same.n, r.same.objs⟩
  · have I' := calm fun z => by omega
    unfold edgeV
    rw [if_pos hq2]
    by_cases hb : so p = 0 ∧ back = true
    · rw [if_pos hb]
      unfold barrierBack
      rw [if_pos h3]
      exact ⟨(I'.remark h2 hp h3 (.inl rfl) (V.again ++ [p]) (fun i hi => (List.mem_append.mp hi).elim (I.B.rg.a i) fun z => by rw [List.mem_singleton.mp z]; exact hpr) (by rw [List.length_append, List.length_singleton]; omega)).1, rfl, rfl⟩
    · rw [if_neg hb]
      by_cases hs3 : so p ≠ 3
      · rw [if_pos hs3]
        unfold barrier
        rw [if_neg (fun z => z.elim (fun z => z h3) fun z => z.elim (fun z => z hq2) fun z => by rw [hqd] at z; cases z), if_neg (show ¬ (V.phase == 1) = true by rw [h2]; decide)]
        exact ⟨(I'.remark h2 hp h3 (.inr rfl) V.again I.B.rg.a (by omega)).1, rfl, rfl⟩
      · rw [if_neg hs3]
        exact ⟨I'.up, rfl, rfl⟩

/-- two cycles by steps -/
def FJ (kd : Int → List Int) (so : Int → Int) (k : Nat) (e : Int) (t : Nat) (V : Cy) : Prop :=
  V.cycles = e - 2 ∧ Inv kd so all k V ∧ t + 17 + V.M ≤ 34 ∨ V.cycles = e - 1 ∧ Inv kd so (Rch kd) k V ∧ t + V.M ≤ 34 ∨ V.cycles = e ∧ Inv kd so all k V ∧ V.phase = 0 ∧ ∀ i ∈ V.objs, Rch kd i
theorem Inv.weak (I : Inv kd so S k V) : Inv kd so all k V :=
  ⟨I.B, I.m4, I.one, I.cl, I.ph, I.p0, fun z =>
    have T := (I.p1 z).1
    ⟨⟨T.ok, T.go, T.ao, T.t, T.two, fun _ _ _ => trivial⟩, (I.p1 z).2⟩, fun z => ⟨(I.p2 z).1, (I.p2 z).2.1, fun _ _ _ => trivial⟩, fun _ _ _ => trivial⟩
theorem FJ.start (I : Inv kd so all k V) : FJ kd so k (V.cycles + 2) 0 V := .inl ⟨by omega, I, by have := I.M_le; omega⟩
theorem FJ.inv {e : Int} {t : Nat} (F : FJ kd so k e t V) : Inv kd so all k V := by
  rcases F with ⟨-, I, -⟩ | ⟨-, I, -⟩ | ⟨-, I, -⟩
  · exact I
  · exact I.weak
  · exact I
theorem FJ.next {e : Int} {t : Nat} (hk : ∀ i, 1 ≤ i → i ≤ V.n → ∀ j ∈ kd i, 1 ≤ j ∧ j ≤ V.n) (F : FJ kd so k e t V) (hc : V.cycles < e) : FJ kd so k e (t + 1) (stepC kd so V) ∧ (stepC kd so V).n = V.n ∧ t < 40 := by
  rcases F with ⟨c, I, m⟩ | ⟨c, I, m⟩ | ⟨c, I, -⟩
  · obtain ⟨I', r⟩ := stepC_spec hk (fun _ _ _ _ => trivial) trivial I
    have m1 := I.M_le
    refine ⟨?_, r.n, by omega⟩
    by_cases z : (stepC kd so V).phase = 0
    · have e1 : (stepC kd so V).M = 17 := by unfold Cy.M; rw [if_pos z]
      exact .inr (.inl ⟨by have := (r.fin z).1; omega, I'.anew z, by omega⟩)
    · exact .inl ⟨by have := (r.on z).1; omega, I', by have := (r.on z).2; omega⟩
  · obtain ⟨I', r⟩ := stepC_spec hk (fun i hi j hj => hi.step hj) .root I
    have m1 := I.M_le
    refine ⟨?_, r.n, by omega⟩
    by_cases z : (stepC kd so V).phase = 0
    · exact .inr (.inr ⟨by have := (r.fin z).1; omega, I'.weak, z, (r.fin z).2⟩)
    · exact .inr (.inl ⟨by have := (r.on z).1; omega, I', by have := (r.on z).2; omega⟩)
  · omega
theorem FJ.done {e : Int} {t : Nat} (F : FJ kd so k e t V) (h : ¬ (V.cycles < e ∧ t < 40)) : ¬ V.cycles < e ∧ ∀ i, i ∈ V.objs ↔ Rch kd i := by
  rcases F with ⟨c, I, m⟩ | ⟨c, I, m⟩ | ⟨c, I, -, o⟩
  · have := I.M_le; omega
  · have := I.M_le; omega
  · exact ⟨by omega, fun i => ⟨o i, fun r => (I.rch r).1⟩⟩
end

section
variable {E : En P.heap_1} {V : Cy} {κ : Kn} {c : Nat} {σ : Sg Nm}

theorem c_barrierBack (R : Rep V κ c σ) {p : Int} (hp : V.rng p) (hl : V.again.length ≤ 1000) : Wc E 1 (.ref 126) [.ref .mks, .ref (.ob p)] (fun v σ' => v = .none ∧ Out κ c σ σ' ∧ Rep (barrierBack V p) κ c σ') σ := by
  refine cps fun Q hQ => ?_
  refine w_def (by k_is) (by k_is) (by walk_at "binds") (by rfl) ?_
  walk_at "mw"
  unfold barrierBack at hQ
  by_cases h : V.mark p = 3
  · have e : (V.mark p == 3) = true := by simp [h]
    rw [if_pos h] at hQ
    walk_at "mw"
    rw [fset_mark]
    have R1 := R.setMark hp 2
    have O1 := Out.ob (κ := κ) (c := c) (σ := σ) (i := p) (o := .inst 367 (obF (V.setMark p 2) p))
    generalize σ.set (.ob p) (.inst 367 (obF (V.setMark p 2) p)) = σ₁ at *
    refine wv (v_append R1.ag (by rw [rf_len]; exact hl) ?_)
    walk_at "mw"
    exact hQ _ _ ⟨rfl, O1.trans' Out.again (Nat.le_refl _), R1.pushAgain p⟩
  · have e : (V.mark p == 3) = false := by simp [h]
    rw [if_neg h] at hQ
    walk_at "mw"
    exact hQ _ _ ⟨rfl, .refl .., R⟩

theorem c_isKept (R : Rep V κ c σ) {p : Int} (hp : V.rng p) : Wc E 1 (.ref 210) [.ref .cyc, .ref (.ob p)] (fun v σ' => v = .bool (decide (p ∈ V.objs)) ∧ σ = σ') σ := by
  refine cps fun Q hQ => ?_
  refine w_def (by k_is) (by k_is) (by walk_at "binds") (by rfl) ?_
  walk_at "mw"
  refine w_inDB (kvs := objsKV V.objs) R.os ?_
  rw [objs_get]
  have e : (if p ∈ V.objs then some (MV.ref (.ob p)) else (none : Option (MV Nm))).isSome = decide (p ∈ V.objs) := by split <;> simp [*]
  rw [e]
  exact hQ _ _ ⟨rfl, rfl⟩

theorem c_debtAfter {a b d : Int} : Wc E 1 (.ref 154) [.int a, .int b, .int d] (fun v σ' => v = .int (a + (if b > d then b - d else 0)) ∧ σ = σ') σ := by
  refine cps fun Q hQ => ?_
  refine w_def (by k_is) (by k_is) (by walk_at "binds") (by rfl) ?_
  walk_at "mw"
  by_cases h : b > d
  · have e : decide (d < b) = true := by simpa using h
    rw [if_pos h] at hQ
    walk_at "mw"
    exact hQ _ _ ⟨rfl, rfl⟩
  · have e : decide (d < b) = false := by simpa using h
    rw [if_neg h] at hQ
    walk_at "mw"
    exact hQ _ _ ⟨rfl, rfl⟩
theorem c_workOf : Wc E 1 (.ref 161) [.int 64, .int 200, .int 1000000000000000000] (fun v σ' => v = .int 128 ∧ σ = σ') σ := by
  refine cps fun Q hQ => ?_
  refine w_def (by k_is) (by k_is) (by walk_at "binds") (by rfl) ?_
  walk_at "mw"
  exact hQ _ _ ⟨rfl, rfl⟩
theorem c_stop (R : Rep V κ c σ) : Wc E 1 (.ref 315) [.ref .cyc] (fun v σ' => v = .none ∧ Out κ c σ σ' ∧ Rep { V with threshold := 1000000000000000000 } κ c σ') σ := by
  refine cps fun Q hQ => ?_
  refine w_def (by k_is) (by k_is) (by walk_at "binds") (by rfl) ?_
  walk_at "mw"
  exact hQ _ _ ⟨rfl, (Out.refl ..).cyc, R.cycS _ ⟨rfl, rfl, rfl, rfl⟩ rfl rfl rfl rfl rfl⟩
theorem c_restart (R : Rep V κ c σ) : Wc E 1 (.ref 322) [.ref .cyc] (fun v σ' => v = .none ∧ Out κ c σ σ' ∧ Rep { V with threshold := V.total } κ c σ') σ := by
  refine cps fun Q hQ => ?_
  refine w_def (by k_is) (by k_is) (by walk_at "binds") (by rfl) ?_
  walk_at "mw"
  exact hQ _ _ ⟨rfl, (Out.refl ..).cyc, R.cycS _ ⟨rfl, rfl, rfl, rfl⟩ rfl rfl rfl rfl rfl⟩
theorem c_setPause (R : Rep V κ c σ) : Wc E 1 (.ref 329) [.ref .cyc, .int 200] (fun v σ' => v = .int 200 ∧ Out κ c σ σ' ∧ Rep V κ c σ') σ := by
  refine cps fun Q hQ => ?_
  refine w_def (by k_is) (by k_is) (by walk_at "binds") (by rfl) ?_
  walk_at "mw"
  exact hQ _ _ ⟨rfl, (Out.refl ..).cyc, R.cycS V ⟨rfl, rfl, rfl, rfl⟩ rfl rfl rfl rfl rfl⟩
theorem c_setStepMul (R : Rep V κ c σ) : Wc E 1 (.ref 336) [.ref .cyc, .int 200] (fun v σ' => v = .int 200 ∧ Out κ c σ σ' ∧ Rep V κ c σ') σ := by
  refine cps fun Q hQ => ?_
  refine w_def (by k_is) (by k_is) (by walk_at "binds") (by rfl) ?_
  walk_at "mw"
  exact hQ _ _ ⟨rfl, (Out.refl ..).cyc, R.cycS V ⟨rfl, rfl, rfl, rfl⟩ rfl rfl rfl rfl rfl⟩
end

section
variable {E : En P.heap_1} {V : Cy} {κ : Kn} {c : Nat} {σ : Sg Nm}

def Cy.tmS (V : Cy) : Nat := if V.phase = 0 then 2500 else V.tm
theorem tmS_lt {V : Cy} {kd : Int → List Int} {so : Int → Int} (hk : ∀ i, 1 ≤ i → i ≤ V.n → ∀ j ∈ kd i, 1 ≤ j ∧ j ≤ V.n) (h : V.Ok) (h' : (step1 kd so V).phase ≠ 0) : (step1 kd so V).tmS < V.tmS := by
  obtain ⟨a, b, d, e, f⟩ := step1_ok (so := so) hk h
  unfold Cy.tmS
  rw [if_neg h']
  by_cases z : V.phase = 0
  · rw [if_pos z]
    have e1 : (step1 kd so V).phase = 1 := by unfold step1; rw [if_pos z]; rfl
    unfold Cy.tm
    rw [if_pos e1]
    have := Cy.mu_le (a.mk' e1)
    have : PF = 200 := rfl
    omega
  · rw [if_neg z]
    exact e z
theorem tmS_le {V : Cy} (h : V.Ok) : V.tmS < 3000 := by
  unfold Cy.tmS Cy.tm
  have h1 := h.rg.sl
  split
  · omega
  · split
    · rename_i z
      have := Cy.mu_le (h.mk' z)
      have : PF = 200 := rfl
      omega
    · split
      · omega
      · split <;> omega
theorem Ok.debt (h : V.Ok) (a : Int) : ({ V with debt := a } : Cy).Ok :=
  ⟨⟨h.rg.n0, h.rg.n1, h.rg.g, h.rg.a, h.rg.r, h.rg.rl, h.rg.o, h.rg.on, h.rg.sl⟩, fun z => ⟨⟨h.rg.n0, h.rg.n1, h.rg.g, h.rg.a, h.rg.r, h.rg.rl, h.rg.o, h.rg.on, h.rg.sl⟩, (h.mk' z).nd, (h.mk' z).gm⟩, h.sm, h.ph⟩

theorem c_step {n : Int} {P : Sg Nm → Prop} {kd : Int → List Int} {so : Int → Int} (Lw : Law E n P kd so) (hV : V.Ok) (hn : V.n = n) (hP : P σ) (R : Rep V κ c σ) :
    Wc E 75 (.ref 287) [.ref .cyc, .none] (fun v σ' => v = .none ∧ ∃ κ' c', Go κ c σ κ' c' σ' ∧ Rep (stepC kd so V) κ' c' σ') σ := by
  refine cps fun Q hQ => ?_
  refine w_def (by k_is) (by k_is) (by walk_at "binds") (by rfl) ?_
  walk_at "mw"
  refine k_code c_workOf (by decide) ?_
  rintro _ _ ⟨rfl, rfl⟩
  walk_at "mw"
  refine k_code c_debtAfter (by decide) ?_
  rintro _ _ ⟨rfl, rfl⟩
  walk_at "mw"
  have R1 := R.cycS (debt1 V) ⟨rfl, rfl, rfl, rfl⟩ rfl rfl rfl rfl rfl
  have O1 := (Out.refl κ c σ).cyc (o := .inst 346 (cycF (debt1 V) κ))
  obtain ⟨T, hT⟩ : ∃ T, goOn kd so 3000 128 (debt1 V) = T := ⟨_, rfl⟩
  refine w_while (fun k fr' σ' => ∃ (V' : Cy) (κ' : Kn) (c' : Nat) (wl : Int) (b : Bool), Go κ c σ κ' c' σ' ∧ Rep V' κ' c' σ' ∧ V'.Ok ∧ V'.n = n ∧ fr'.lookup ("self" : Str) = some (.ref .cyc) ∧ fr'.lookup ("thread" : Str) = some .none ∧ fr'.lookup ("work_left" : Str) = some (.int wl) ∧ fr'.lookup ("is_going" : Str) = some (.bool b) ∧
    (b = true → V'.tmS < k ∧ goOn kd so k wl V' = T) ∧ (b = false → V' = T)) ?_ 3000
    ⟨debt1 V, κ, c, 128, true, .of (Nat.le_refl _) O1, R1, Ok.debt hV _, hn, by rfl, by rfl, by rfl, by rfl, fun _ => ⟨tmS_le (Ok.debt hV _), hT⟩, fun h => by cases h⟩
  rintro k fr' σ' ⟨V', κ', c', wl, b, G', R', hV', hn', l1, l2, l3, l4, hgo, hend⟩
  cases b with
  | true =>
    obtain ⟨ht, he⟩ := hgo rfl
    have hk' : ∀ i, 1 ≤ i → i ≤ V'.n → ∀ j ∈ kd i, 1 ≤ j ∧ j ≤ V'.n := by rw [hn']; exact Lw.kn
    obtain ⟨s1, s2, -, -, -⟩ := step1_ok (so := so) hk' hV'
    walk_at "mw"
    refine k_code (c_singleStep Lw hV' hn' (Lw.out G'.out hP) R') (by decide) ?_
    rintro _ σ'' ⟨rfl, κ'', c'', G'', R''⟩
    cases k with
    | zero => exact absurd ht (Nat.not_lt_zero _)
    | succ k =>
      unfold goOn at he
      walk_at "mw"
      by_cases h0 : (step1 kd so V').phase = 0
      · have e0 : ((step1 kd so V').phase != 0) = false := by simp [h0]
        rw [if_neg (fun z => z.1 h0)] at he
        walk_at "mw"
        rw [e0]
        refine w_less (Nat.lt_succ_self k) ⟨_, κ'', c'', _, false, G'.trans G'', R'', s1, s2.trans hn', (lk_cons (by decide)).trans ((lk_cons (by decide)).trans l1), (lk_cons (by decide)).trans ((lk_cons (by decide)).trans l2), (lk_cons (by decide)).trans (by rfl), by rfl, (fun h => by cases h), fun _ => he⟩
      · have e0 : ((step1 kd so V').phase != 0) = true := by simp [h0]
        walk_at "mw"
        by_cases hw : 0 < wl - stepV V'
        · have e1 : decide (0 < wl - stepV V') = true := by simpa using hw
          rw [if_pos ⟨h0, hw⟩] at he
          rw [e1]
          refine w_less (Nat.lt_succ_self k) ⟨_, κ'', c'', _, true, G'.trans G'', R'', s1, s2.trans hn', (lk_cons (by decide)).trans ((lk_cons (by decide)).trans l1), (lk_cons (by decide)).trans ((lk_cons (by decide)).trans l2), (lk_cons (by decide)).trans (by rfl), by rfl, fun _ => ⟨?_, he⟩, fun h => by cases h⟩
          have := tmS_lt hk' hV' h0
          omega
        · have e1 : decide (0 < wl - stepV V') = false := by simpa using hw
          rw [if_neg (fun z => hw z.2)] at he
          rw [e1]
          refine w_less (Nat.lt_succ_self k) ⟨_, κ'', c'', _, false, G'.trans G'', R'', s1, s2.trans hn', (lk_cons (by decide)).trans ((lk_cons (by decide)).trans l1), (lk_cons (by decide)).trans ((lk_cons (by decide)).trans l2), (lk_cons (by decide)).trans (by rfl), by rfl, (fun h => by cases h), fun _ => he⟩
  | false =>
    have he := hend rfl
    unfold stepC at hQ
    rw [hT, ← he] at hQ
    clear hgo hend he
    unfold stepEnd at hQ
    walk_at "mw"
    by_cases h0 : V'.phase = 0
    · have e0 : (V'.phase == 0) = true := by simp [h0]
      rw [if_pos h0] at hQ
      walk_at "mw"
      refine k_code (c_setThr R') (by decide) ?_
      rintro _ σ'' ⟨rfl, O'', R''⟩
      walk_at "mw"
      exact hQ _ _ ⟨rfl, κ', c', G'.trans (.of (Nat.le_refl _) O''), R''⟩
    · have e0 : (V'.phase == 0) = false := by simp [h0]
      rw [if_neg h0] at hQ
      walk_at "mw"
      by_cases h1 : V'.debt < 64
      · have e1 : decide (V'.debt < 64) = true := by simpa using h1
        rw [if_pos h1] at hQ
        walk_at "mw"
        exact hQ _ _ ⟨rfl, κ', c', G'.trans (.of (Nat.le_refl _) (Out.refl ..).cyc), R'.cycS _ ⟨rfl, rfl, rfl, rfl⟩ rfl rfl rfl rfl rfl⟩
      · have e1 : decide (V'.debt < 64) = false := by simpa using h1
        rw [if_neg h1] at hQ
        walk_at "mw"
        rw [Sg.set_set]
        exact hQ _ _ ⟨rfl, κ', c', G'.trans (.of (Nat.le_refl _) (Out.refl ..).cyc), R'.cycS _ ⟨rfl, rfl, rfl, rfl⟩ rfl rfl rfl rfl rfl⟩

theorem c_check {n : Int} {P : Sg Nm → Prop} {kd : Int → List Int} {so : Int → Int} (Lw : Law E n P kd so) (hV : V.Ok) (hn : V.n = n) (hP : P σ) (R : Rep V κ c σ) :
    Wc E 76 (.ref 294) [.ref .cyc, .none] (fun v σ' => v = .none ∧ ∃ κ' c', Go κ c σ κ' c' σ' ∧ Rep (checkC kd so V) κ' c' σ') σ := by
  refine cps fun Q hQ => ?_
  refine w_def (by k_is) (by k_is) (by walk_at "binds") (by rfl) ?_
  walk_at "mw"
  unfold checkC at hQ
  by_cases h : V.total ≥ V.threshold
  · have e : decide (V.threshold ≤ V.total) = true := by simpa using h
    rw [if_pos h] at hQ
    walk_at "mw"
    refine k_code (c_step Lw hV hn hP R) (by decide) ?_
    rintro _ σ' ⟨rfl, κ', c', G', R'⟩
    walk_at "mw"
    exact hQ _ _ ⟨rfl, κ', c', G', R'⟩
  · have e : decide (V.threshold ≤ V.total) = false := by simpa using h
    rw [if_neg h] at hQ
    walk_at "mw"
    exact hQ _ _ ⟨rfl, κ, c, .refl .., R⟩
end

section
variable {E : En P.heap_1} {V : Cy} {κ : Kn} {c : Nat} {σ : Sg Nm}

theorem c_wrongMarks {n : Int} {P : Sg Nm → Prop} {kd : Int → List Int} {so : Int → Int} (Lw : Law E n P kd so) (hV : V.Rg) (hn : V.n = n) (hP : P σ) (R : Rep V κ c σ) (hT : ∀ i ∈ V.objs, V.mark i = 3 → ∀ j ∈ kd i, ¬ V.mark j < 2) {m : Nat} (hm : m < c) (hmk : m ≠ κ.g ∧ m ≠ κ.a ∧ m ≠ κ.w ∧ m ≠ κ.r ∧ m ≠ κ.s) (hl : σ (.t m) = some (.list (rf V.objs))) :
    Wc E 72 (.ref 133) [.ref .mks, .ref (.t m)] (fun v σ' => ∃ m' c', v = .ref (.t m') ∧ c ≤ m' ∧ m' < c' ∧ Rep V κ c' σ' ∧ Out κ c σ σ' ∧ σ' (.t m') = some (.list [])) σ := by
  have hol := hV.olen
  have hkc := R.kc
  refine cps fun Q hQ => ?_
  refine w_def (by k_is) (by k_is) (by walk_at "binds") (by rfl) ?_
  walk_at "mw"
  refine w_listK (n := .t c) (R.lo c (Nat.le_refl _)) (by decide) ?_
  have R1 := R.tmp (.list [])
  have O1 := Out.tmp (κ := κ) (c := c) (σ := σ) (.list [])
  have hf : (σ.set (.t c) (.list [])) (.t c) = some (.list []) := Sg.set_self ..
  have hl1 : (σ.set (.t c) (.list [])) (.t m) = some (.list (rf V.objs)) := (Sg.set_ne _ _ (tne (Nat.ne_of_lt hm))).trans hl
  have P1 := Lw.out O1 hP
  generalize σ.set (.t c) (.list []) = σ₁ at *
  walk_at "mw"
  refine w_for ?_
  walk_at "mw"
  refine w_forK (n := .t m) (vs := rf V.objs) (fun _ fr' σ' => ∃ c', c + 1 ≤ c' ∧ Rep V κ c' σ' ∧ Out κ (c + 1) σ₁ σ' ∧ fr'.lookup ("self" : Str) = some (.ref .mks) ∧ fr'.lookup ("found" : Str) = some (.ref (.t c))) (by rw [rf_len]; omega) ⟨c + 1, Nat.le_refl _, R1, .refl .., by rfl, by rfl⟩ ?_ ?_ ?_
  · rintro j fr' σ' hj ⟨c', hc', R', O', l1, l2⟩
    rw [O'.t m (Nat.lt_succ_of_lt hm) hmk.1 hmk.2.1 hmk.2.2.1 hmk.2.2.2.1 hmk.2.2.2.2]
    exact hl1
  · rintro j v fr' σ' hv ⟨c', hc', R', O', l1, l2⟩
    obtain ⟨x, rfl, hx⟩ := rf_get hv
    have hxo : x ∈ V.objs := List.mem_of_getElem? hx
    have hxr := hV.o x hxo
    walk_at "mw"
    by_cases h3 : V.mark x = 3
    · have e3 : (V.mark x == 3) = true := by simp [h3]
      walk_at "mw"
      refine w_for ?_
      walk_at "mw"
      have hH := Lw.led V κ c' σ' x hn (Lw.out O' P1) R' hxr
      refine w_fin hH.1 (k_vimp hH.2 (by decide) ?_)
      rintro _ σ₂ ⟨m2, c2, rfl, hm1, hm2, R2, O2, hl2⟩
      refine w_forK (n := .t m2) (vs := rf (kd x)) (fun _ fr'' σ'' => σ'' = σ₂ ∧ fr''.lookup ("self" : Str) = some (.ref .mks) ∧ fr''.lookup ("found" : Str) = some (.ref (.t c))) (by rw [rf_len]; exact Lw.kl x) ⟨rfl, (lk_cons (by decide)).trans l1, (lk_cons (by decide)).trans l2⟩ ?_ ?_ ?_
      · rintro j2 fr2 _ _ ⟨rfl, -, -⟩
        exact hl2
      · rintro j2 v2 fr2 _ hv2 ⟨rfl, l3, l4⟩
        obtain ⟨y, rfl, hy⟩ := rf_get hv2
        have hyk : y ∈ kd x := List.mem_of_getElem? hy
        have hyr : V.rng y := by have := Lw.kn x hxr.1 (hn ▸ hxr.2) y hyk; unfold Cy.rng; rw [hn]; exact this
        walk_at "mw"
        refine k_code (c_isWhite R2 hyr) (by decide) ?_
        rintro _ _ ⟨rfl, rfl⟩
        have e4 : decide (V.mark y < 2) = false := by simpa using hT x hxo h3 y hyk
        walk_at "mw"
        exact ⟨rfl, (lk_cons (by decide)).trans l3, (lk_cons (by decide)).trans l4⟩
      · rintro fr2 _ ⟨rfl, l3, l4⟩
        walk_at "mw"
        exact ⟨c2, by omega, R2, O'.trans' O2 hc', l3, l4⟩
    · have e3 : (V.mark x == 3) = false := by simp [h3]
      walk_at "mw"
      exact ⟨c', hc', R', O', (lk_cons (by decide)).trans l1, (lk_cons (by decide)).trans l2⟩
  · rintro fr' σ' ⟨c', hc', R', O', l1, l2⟩
    walk_at "mw"
    exact hQ _ _ ⟨c, c', rfl, Nat.le_refl _, hc', R', O1.trans' O' (Nat.le_succ c), by
      rw [O'.t c (Nat.lt_succ_self c) (Nat.ne_of_gt hkc.1) (Nat.ne_of_gt hkc.2.1) (Nat.ne_of_gt hkc.2.2.1) (Nat.ne_of_gt hkc.2.2.2.1) (Nat.ne_of_gt hkc.2.2.2.2)]; exact hf⟩

theorem c_wrong {n : Int} {P : Sg Nm → Prop} {kd : Int → List Int} {so : Int → Int} (Lw : Law E n P kd so) (hV : V.Rg) (hn : V.n = n) (hP : P σ) (R : Rep V κ c σ) (hT : V.phase = 1 → ∀ i ∈ V.objs, V.mark i = 3 → ∀ j ∈ kd i, ¬ V.mark j < 2) :
    Wc E 73 (.ref 343) [.ref .cyc] (fun v σ' => ∃ m' c', v = .ref (.t m') ∧ c ≤ m' ∧ m' < c' ∧ Rep V κ c' σ' ∧ Out κ c σ σ' ∧ σ' (.t m') = some (.list [])) σ := by
  have hol := hV.olen
  have hkc := R.kc
  refine cps fun Q hQ => ?_
  refine w_def (by k_is) (by k_is) (by walk_at "binds") (by rfl) ?_
  walk_at "mw"
  by_cases h1 : V.phase = 1
  · have e : (V.phase != 1) = false := by simp [h1]
    walk_at "mw"
    refine wv (v_values E.T (nm := .t c) (kvs := objsKV V.objs) R.os (R.lo c (Nat.le_refl _)) ?_)
    have R1 := R.tmp (.view .objs)
    have O1 := Out.tmp (κ := κ) (c := c) (σ := σ) (.view .objs)
    have hv : (σ.set (.t c) (.view .objs)) (.t c) = some (.view .objs) := Sg.set_self ..
    generalize σ.set (.t c) (.view .objs) = σ₁ at *
    walk_at "mw"
    refine wv (v_listView (nm := .t (c + 1)) (kvs := objsKV V.objs) hv R1.os (by rw [objs_len]; omega) (R1.lo _ (Nat.le_refl _)) ?_)
    have ev : (objsKV V.objs).map (·.2) = rf V.objs := by unfold objsKV rf; rw [List.map_map]; rfl
    rw [ev]
    have R2 := R1.tmp (.list (rf V.objs))
    have O2 := Out.tmp (κ := κ) (c := c + 1) (σ := σ₁) (.list (rf V.objs))
    have hl : (σ₁.set (.t (c + 1)) (.list (rf V.objs))) (.t (c + 1)) = some (.list (rf V.objs)) := Sg.set_self ..
    generalize σ₁.set (.t (c + 1)) (.list (rf V.objs)) = σ₂ at *
    walk_at "mw"
    have P2 := Lw.out O2 (Lw.out O1 hP)
    refine k_code (c_wrongMarks Lw hV hn P2 R2 (hT h1) (Nat.lt_succ_self _) ⟨by omega, by omega, by omega, by omega, by omega⟩ hl) (by decide) ?_
    rintro _ σ' ⟨m', c', rfl, h1', h2', R', O', hl'⟩
    exact hQ _ _ ⟨m', c', rfl, by omega, h2', R', (O1.trans' O2 (Nat.le_succ c)).trans' O' (by omega), hl'⟩
  · have e : (V.phase != 1) = true := by simp [h1]
    walk_at "mw"
    refine w_listK (n := .t c) (R.lo c (Nat.le_refl _)) (by decide) ?_
    exact hQ _ _ ⟨c, c + 1, rfl, Nat.le_refl _, Nat.lt_succ_self c, R.tmp _, Out.tmp _, Sg.set_self ..⟩
end

section
variable {E : En P.heap_1} {V : Cy} {κ : Kn} {c : Nat} {σ : Sg Nm}

def upto (n : Int) : List Int := (List.range n.toNat).map fun k : Nat => (k : Int) + 1
theorem mem_upto {n i : Int} : i ∈ upto n ↔ 1 ≤ i ∧ i ≤ n := by
  unfold upto
  rw [List.mem_map]
  constructor
  · rintro ⟨a, ha, rfl⟩
    have := List.mem_range.mp ha
    omega
  · intro h
    exact ⟨(i - 1).toNat, List.mem_range.mpr (by omega), by omega⟩
theorem upto_nd (n : Int) : (upto n).Nodup := List.Pairwise.map _ (fun a b (h : a ≠ b) (z : (a : Int) + 1 = b + 1) => h (by omega)) List.nodup_range
theorem upto_len (n : Int) : (upto n).length = n.toNat := by unfold upto; rw [List.length_map, List.length_range]
theorem upto_succ {n : Int} (h : 0 ≤ n) : upto (n + 1) = upto n ++ [n + 1] := by
  unfold upto
  rw [show (n + 1).toNat = n.toNat + 1 by omega, List.range_succ, List.map_append]
  simp only [List.map_cons, List.map_nil]
  rw [show ((n.toNat : Nat) : Int) = n by omega]
def kvs (n : Int) (f : Int → MV Nm) : List (Int × MV Nm) := (upto n).map fun i => (i, f i)
theorem kvs_len (n : Int) (f : Int → MV Nm) : (kvs n f).length = n.toNat := by unfold kvs; rw [List.length_map, upto_len]
theorem kvs_get {n i : Int} {f : Int → MV Nm} (h1 : 1 ≤ i) (h2 : i ≤ n) : dget (kvs n f) i = some (f i) := by
  have hi := mem_upto.mpr ⟨h1, h2⟩
  unfold kvs dget
  generalize upto n = l at hi
  induction l with
  | nil => cases hi
  | cons a l ih =>
    rw [List.map_cons, List.find?_cons]
    by_cases z : a = i
    · subst z; simp
    · rw [decide_eq_false z]
      exact ih ((List.mem_cons.mp hi).resolve_left fun e => z e.symm)
theorem kvs_put {n : Int} {f g : Int → MV Nm} (h : 0 ≤ n) (hg : ∀ i, i ≤ n → g i = f i) : dput (kvs n f) (n + 1) (g (n + 1)) = kvs (n + 1) g := by
  have e : kvs n f = kvs n g := by
    unfold kvs
    exact List.map_congr_left fun i hi => by rw [hg i (mem_upto.mp hi).2]
  rw [e]
  unfold dput
  rw [if_neg]
  · unfold kvs
    rw [upto_succ h, List.map_append]
    rfl
  · intro z
    obtain ⟨p, hp, hq⟩ := List.any_eq_true.mp z
    obtain ⟨i, hi, rfl⟩ := List.mem_map.mp hp
    have := (mem_upto.mp hi).2
    have : i = n + 1 := by simpa using hq
    omega

def edN (i : Int) : Nm := .x (9 + i.toNat)
theorem edN_ne {i j : Int} (hi : 0 ≤ i) (hj : 0 ≤ j) (h : i ≠ j) : edN i ≠ edN j := fun e => by
  have : 9 + i.toNat = 9 + j.toNat := Nm.x.inj e
  omega
def wd1 : List (Str × MV Nm) := [("all", .ref (.x 4)), ("sorts", .ref (.x 5)), ("edges", .ref (.x 6)), ("heap", .ref .cyc)]
/-- the law's world -/
structure W1 (n : Int) (so : Int → Int) (ed : Int → List Int) (σ : Sg Nm) : Prop where
  wd : σ (.x 3) = some (.sdict wd1)
  all : σ (.x 4) = some (.idict (kvs n fun i => .ref (.ob i)))
  sr : σ (.x 5) = some (.idict (kvs n fun i => .int (so i)))
  er : σ (.x 6) = some (.idict (kvs n fun i => .ref (edN i)))
  el : ∀ i, 1 ≤ i → i ≤ n → σ (edN i) = some (.list ((ed i).map .int))
  no : ∀ i, n < i → σ (edN i) = none
theorem W1.keep {n : Int} {so : Int → Int} {ed : Int → List Int} {σ' : Sg Nm} (h : W1 n so ed σ) (e : ∀ i, σ' (.x i) = σ (.x i)) : W1 n so ed σ' :=
  ⟨(e _).trans h.wd, (e _).trans h.all, (e _).trans h.sr, (e _).trans h.er, fun i a b => (e _).trans (h.el i a b), fun i a => (e _).trans (h.no i a)⟩

def BindOk (p : Arguments) (s : Scope) : Prop :=
  (∀ (us : List Value) name qual cl doc pm an cdv ct b, us.length = 1 → bindArgs (fnX name qual p b s cl .none .none doc pm an cdv ct) ⟨us, []⟩ = pure ((p.args.map (·.arg)).zip us)) ∧ ((p.args.map (·.arg)).all fun y => decide (s.names.lookup y = some .local)) = true ∧
  s.isCoroutine = false ∧ s.isGenerator = false ∧ s.kind = .function ∧ ∀ x ∈ s.names, x.2 ≠ .cell
def LedOk {KK : Params → Frag} (E : En KK) (p : Arguments) (b : List Stmt) (s : Scope) : Prop :=
  BindOk p s ∧ ∀ (n : Int) (so : Int → Int) (ed : Int → List Int) (V : Cy) (κ : Kn) (c : Nat) (σ : Sg Nm) (i : Int) (Q : VQ), V.n = n → (ed i).length ≤ 1000 → (∀ j ∈ ed i, 1 ≤ j ∧ j ≤ n) → σ (.x 2) = some (.cell (some (.ref (.x 3)))) → W1 n so ed σ → Rep V κ c σ → V.rng i →
    (∀ v σ', (∃ m c', v = .ref (.t m) ∧ c ≤ m ∧ m < c' ∧ Rep V κ c' σ' ∧ Out κ c σ σ' ∧ σ' (.t m) = some (.list (rf (ed i)))) → Q v σ') →
    Ws ⟨E, s, 1, [("world", .x 2)]⟩ b ((p.args.map (·.arg)).zip [.ref (.ob i)]).reverse (RetN Q) Q σ
def HowOk {KK : Params → Frag} (E : En KK) (p : Arguments) (b : List Stmt) (s : Scope) : Prop :=
  BindOk p s ∧ ∀ (n : Int) (so : Int → Int) (ed : Int → List Int) (V : Cy) (κ : Kn) (c : Nat) (σ : Sg Nm) (i : Int) (Q : VQ), V.n = n → σ (.x 2) = some (.cell (some (.ref (.x 3)))) → W1 n so ed σ → Rep V κ c σ → V.rng i → Q (.int (so i)) σ →
    Ws ⟨E, s, 0, [("world", .x 2)]⟩ b ((p.args.map (·.arg)).zip [.ref (.ob i)]).reverse (RetN Q) Q σ

def gOb : MV Nm → MV Nm
  | .int j => .ref (.ob j)
  | _ => .none
/-- a def that stands in a def -/
def fdAt (k : Nat) (o : Obj) : Option (Arguments × List Stmt × Scope) :=
  match o.data with
  | .func f => match f.body with
    | .stmts b => match b[k]? with
      | some (.FunctionDef _ p b _ _ _ s _ _ _) => some (p, b, s)
      | _ => none
    | _ => none
  | _ => none
def OnFd (P : Arguments → List Stmt → Scope → Prop) : Option (Arguments × List Stmt × Scope) → Prop
  | some (p, b, s) => P p b s
  | none => False

theorem how_ok {o : Obj} (h : (P.heap_1 E.w.params).lookup 423 = some o) : OnFd (HowOk E) (fdAt 2 o) := by
  have e := Option.some.inj (Eq.trans (Eq.symm (by k_is)) h)
  subst e
  show HowOk E _ _ _
  refine ⟨⟨by
    intro us name qual cl doc pm an cdv ct b hu
    match us, hu with
    | [_], _ => rfl, by rfl, by rfl, by rfl, by rfl, by decide⟩, fun n so ed V κ c σ i Q hn wc WR R hi hQ => ?_⟩
  have wd := WR.wd
  walk_at "mw"
  refine w_itD ?_
  walk_at "mw"
  refine w_itDB WR.sr (kvs_get hi.1 (hn ▸ hi.2)) ?_
  exact hQ

theorem led_ok {o : Obj} (h : (P.heap_1 E.w.params).lookup 423 = some o) : OnFd (LedOk E) (fdAt 1 o) := by
  have e := Option.some.inj (Eq.trans (Eq.symm (by k_is)) h)
  subst e
  show LedOk E _ _ _
  refine ⟨⟨by
    intro us name qual cl doc pm an cdv ct b hu
    match us, hu with
    | [_], _ => rfl, by rfl, by rfl, by rfl, by rfl, by decide⟩, fun n so ed V κ c σ i Q hn hl hr wc WR R hi hQ => ?_⟩
  have wd := WR.wd
  walk_at "mw"
  refine w_comp (cells₁ := [("world", .x 2)]) (w_itD ?_) (cells1 fun _ _ _ _ _ _ => rfl)
  walk_at "mw"
  refine w_itDB WR.er (kvs_get hi.1 (hn ▸ hi.2)) ?_
  refine w_cmpK (.t c) gOb (WR.el i hi.1 (hn ▸ hi.2)) (by rw [List.length_map]; exact hl) (R.lo c (Nat.le_refl _)) (fun u hu => ?_) ?_
  · obtain ⟨j, hj, rfl⟩ := List.mem_map.mp hu
    obtain ⟨hj1, hj2⟩ := hr j hj
    refine w_itD ?_
    walk_at "mw"
    refine w_itDB WR.all (kvs_get hj1 hj2) ?_
    exact ⟨rfl, rfl⟩
  · have e2 : ((ed i).map (.int : Int → MV Nm)).map gOb = rf (ed i) := by rw [List.map_map]; rfl
    rw [e2]
    exact hQ _ _ ⟨c, c + 1, rfl, Nat.le_refl _, Nat.lt_succ_self c, R.tmp _, Out.tmp _, Sg.set_self ..⟩
end

section
variable {E : En P.heap_1} {V : Cy} {κ : Kn} {c : Nat} {σ : Sg Nm} {n : Int} {so : Int → Int} {ed : Int → List Int}

theorem rch_rng (hn : 1 ≤ n) (hed : ∀ i, 1 ≤ i → i ≤ n → ∀ j ∈ ed i, 1 ≤ j ∧ j ≤ n) {i : Int} (h : Rch ed i) : 1 ≤ i ∧ i ≤ n := by
  induction h with
  | root => exact ⟨Int.le_refl _, hn⟩
  | step _ hj ih => exact hed _ ih.1 ih.2 _ hj

structure RI (ed : Int → List Int) (met wt : List Int) : Prop where
  nd : met.Nodup
  mr : ∀ i ∈ met, Rch ed i
  wr : ∀ i ∈ wt, Rch ed i
  cl : ∀ i ∈ met, ∀ j ∈ ed i, j ∈ met ∨ j ∈ wt
  one : 1 ∈ met ∨ 1 ∈ wt
def toGo (n : Int) (ed : Int → List Int) (met wt : List Int) : Nat := wt.length + (((upto n).filter fun i => decide (i ∉ met)).map fun i => (ed i).length).sum
theorem RI.done {met : List Int} (h : RI ed met []) : ∀ i, i ∈ met ↔ Rch ed i := fun i => ⟨h.mr i, fun r => by
  induction r with
  | root => exact h.one.resolve_right List.not_mem_nil
  | step _ hj ih => exact (h.cl _ ih _ hj).resolve_right List.not_mem_nil⟩
theorem wt_last {wt : List Int} {i : Int} (h : wt.getLast? = some i) : wt = wt.dropLast ++ [i] := by
  have hne : wt ≠ [] := fun z => by rw [z] at h; cases h
  have h1 := List.dropLast_concat_getLast hne
  have h2 : wt.getLast hne = i := by
    have := List.getLast?_eq_some_getLast hne
    rw [h] at this
    exact (Option.some.inj this).symm
  rw [h2] at h1
  exact h1.symm
theorem RI.old {met wt : List Int} {i : Int} (h : RI ed met wt) (hl : wt.getLast? = some i) (hm : i ∈ met) : RI ed met wt.dropLast ∧ toGo n ed met wt.dropLast < toGo n ed met wt := by
  have e := wt_last hl
  have mem : ∀ j ∈ wt, j ∈ met ∨ j ∈ wt.dropLast := fun j hj => by
    rw [e] at hj
    rcases List.mem_append.mp hj with q | q
    · exact .inr q
    · rw [List.mem_singleton.mp q]; exact .inl hm
  refine ⟨⟨h.nd, h.mr, fun j hj => h.wr j (List.dropLast_sublist _ |>.subset hj), fun a ha j hj => (h.cl a ha j hj).elim .inl (mem j), h.one.elim .inl (mem 1)⟩, ?_⟩
  have : wt.length = wt.dropLast.length + 1 := by have := congrArg List.length e; simpa using this
  unfold toGo
  omega
theorem sum_rm {f : Int → Nat} {met : List Int} {i : Int} (hm : i ∉ met) : ∀ {l : List Int}, l.Nodup → i ∈ l → ((l.filter fun j => decide (j ∉ met)).map f).sum = f i + ((l.filter fun j => decide (j ∉ met ++ [i])).map f).sum
  | a :: l, hn, hi => by
    obtain ⟨n1, n2⟩ := List.nodup_cons.mp hn
    by_cases z : a = i
    · subst z
      have e : (l.filter fun j => decide (j ∉ met ++ [a])) = l.filter fun j => decide (j ∉ met) := List.filter_congr fun j hj => by
        have : j ≠ a := fun y => n1 (y ▸ hj)
        simp [this]
      rw [List.filter_cons_of_pos (by simpa using hm), List.filter_cons_of_neg (by simp), e, List.map_cons, List.sum_cons]
    · have hi' : i ∈ l := (List.mem_cons.mp hi).resolve_left fun y => z y.symm
      have ih := sum_rm (f := f) hm n2 hi'
      by_cases y : a ∈ met
      · rw [List.filter_cons_of_neg (by simpa using y), List.filter_cons_of_neg (by simp [y]), ih]
      · rw [List.filter_cons_of_pos (by simpa using y), List.filter_cons_of_pos (by simp [y, z]), List.map_cons, List.map_cons, List.sum_cons, List.sum_cons, ih]
        omega
theorem RI.new {met wt : List Int} {i : Int} (hn : 1 ≤ n) (hed : ∀ i, 1 ≤ i → i ≤ n → ∀ j ∈ ed i, 1 ≤ j ∧ j ≤ n) (h : RI ed met wt) (hl : wt.getLast? = some i) (hm : i ∉ met) : RI ed (met ++ [i]) (wt.dropLast ++ ed i) ∧ toGo n ed (met ++ [i]) (wt.dropLast ++ ed i) < toGo n ed met wt := by
  have e := wt_last hl
  have hr := h.wr i (by rw [e]; simp)
  have mem : ∀ j ∈ wt, j ∈ met ++ [i] ∨ j ∈ wt.dropLast ++ ed i := fun j hj => by
    rw [e] at hj
    rcases List.mem_append.mp hj with q | q
    · exact .inr (List.mem_append_left _ q)
    · rw [List.mem_singleton.mp q]; exact .inl (List.mem_append_right _ (.head _))
  refine ⟨⟨List.nodup_append.mpr ⟨h.nd, by simp, fun a ha b hb z => hm (by rw [List.mem_singleton.mp hb] at z; exact z ▸ ha)⟩, fun j hj => ?_, fun j hj => ?_, fun a ha j hj => ?_, h.one.elim (fun q => .inl (List.mem_append_left _ q)) (mem 1)⟩, ?_⟩
  · rcases List.mem_append.mp hj with q | q
    · exact h.mr j q
    · rw [List.mem_singleton.mp q]; exact hr
  · rcases List.mem_append.mp hj with q | q
    · exact h.wr j (List.dropLast_sublist _ |>.subset q)
    · exact hr.step q
  · rcases List.mem_append.mp ha with q | q
    · rcases h.cl a q j hj with y | y
      · exact .inl (List.mem_append_left _ y)
      · exact mem j y
    · rw [List.mem_singleton.mp q] at hj; exact .inr (List.mem_append_right _ hj)
  · have : wt.length = wt.dropLast.length + 1 := by have := congrArg List.length e; simpa using this
    have := sum_rm (f := fun i => (ed i).length) hm (upto_nd n) (mem_upto.mpr (rch_rng hn hed hr))
    unfold toGo
    rw [List.length_append]
    omega
theorem sum_le' {f : Int → Nat} {b : Nat} (h : ∀ i, f i ≤ b) : ∀ l : List Int, (l.map f).sum ≤ b * l.length
  | [] => Nat.zero_le _
  | a :: l => by rw [List.map_cons, List.sum_cons, List.length_cons]; have := h a; have := sum_le' h l; rw [Nat.mul_succ]; omega
theorem sorted_lt {l : List Int} (h : l.Pairwise (· ≤ ·)) (hn : l.Nodup) : l.Pairwise (· < ·) :=
  (List.pairwise_and_iff.mpr ⟨h, hn⟩).imp fun ⟨a, b⟩ => by omega

theorem c_reached (hn : 1 ≤ n ∧ n ≤ 13) (hed : ∀ i, 1 ≤ i → i ≤ n → ∀ j ∈ ed i, 1 ≤ j ∧ j ≤ n) (hel : ∀ i, (ed i).length ≤ 40) (W : W1 n so ed σ) (R : Rep V κ c σ) :
    Wc E 1 (.ref 378) [.ref (.x 6)] (fun v σ' => ∃ (m c' : Nat) (ms : List Int), v = .ref (.t m) ∧ c ≤ m ∧ m < c' ∧ Rep V κ c' σ' ∧ Out κ c σ σ' ∧ σ' (.t m) = some (.list (ms.map .int)) ∧ ms.Pairwise (· < ·) ∧ ∀ i, i ∈ ms ↔ Rch ed i) σ := by
  have hkc := R.kc
  refine cps fun Q hQ => ?_
  refine w_def (by k_is) (by k_is) (by walk_at "binds") (by rfl) ?_
  refine w_scons (w_nam (ns := ["met", "waiting"]) ?_)
  walk_at "mw"
  refine w_listK (n := .t c) (R.lo c (Nat.le_refl _)) (by decide) ?_
  have R1 := R.tmp (.list [])
  have O1 := Out.tmp (κ := κ) (c := c) (σ := σ) (.list [])
  have m1 : (σ.set (.t c) (.list [])) (.t c) = some (.list (([] : List Int).map .int)) := Sg.set_self ..
  generalize σ.set (.t c) (.list []) = σ₁ at *
  walk_at "mw"
  refine w_listK (n := .t (c + 1)) (R1.lo _ (Nat.le_refl _)) (Nat.le_of_ble_eq_true rfl) ?_
  have R2 := R1.tmp (.list [.int 1])
  have O2 := O1.trans' (Out.tmp (κ := κ) (c := c + 1) (σ := σ₁) (.list [.int 1])) (Nat.le_succ c)
  have m2 : (σ₁.set (.t (c + 1)) (.list [.int 1])) (.t c) = some (.list (([] : List Int).map .int)) := (Sg.set_ne _ _ (tne (Nat.ne_of_lt (Nat.lt_succ_self c)))).trans m1
  have w2 : (σ₁.set (.t (c + 1)) (.list [.int 1])) (.t (c + 1)) = some (.list (([1] : List Int).map .int)) := Sg.set_self ..
  generalize σ₁.set (.t (c + 1)) (.list [.int 1]) = σ₂ at *
  walk_at "mw"
  have hmu : toGo n ed [] [1] ≤ 600 := by
    unfold toGo
    have h1 := sum_le' (f := fun i => (ed i).length) hel ((upto n).filter fun i => decide (i ∉ []))
    have h2 : ((upto n).filter fun i => decide (i ∉ [])).length ≤ 13 := Nat.le_trans (List.length_filter_le _ _) (by rw [upto_len]; omega)
    have h3 : 40 * ((upto n).filter fun i => decide (i ∉ [])).length ≤ 520 := by omega
    rw [List.length_singleton]
    omega
  refine w_while (fun k fr' σ' => ∃ (met wt : List Int) (c' : Nat), c + 2 ≤ c' ∧ Rep V κ c' σ' ∧ Out κ c σ σ' ∧ σ' (.t c) = some (.list (met.map .int)) ∧ σ' (.t (c + 1)) = some (.list (wt.map .int)) ∧ RI ed met wt ∧ toGo n ed met wt ≤ k ∧ k ≤ 600 ∧
    fr'.lookup ("edges" : Str) = some (.ref (.x 6)) ∧ fr'.lookup ("met" : Str) = some (.ref (.t c)) ∧ fr'.lookup ("waiting" : Str) = some (.ref (.t (c + 1)))) ?_ 600
    ⟨[], [1], c + 2, Nat.le_refl _, R2, O2, m2, w2, ⟨.nil, (fun _ h => by cases h), fun i hi => by rw [List.mem_singleton.mp hi]; exact .root, (fun _ h => by cases h), .inr (.head _)⟩, hmu, Nat.le_refl _, by rfl, by rfl, by rfl⟩
  rintro k fr' σ' ⟨met, wt, c', hc', R', O', hm', hw', I, hto, hk, l1, l2, l3⟩
  have hwl : wt.length ≤ 600 := by unfold toGo at hto; omega
  have hml : met.length ≤ 13 := by
    have := nodup_len n.toNat met I.nd fun i hi => by have := rch_rng hn.1 hed (I.mr i hi); omega
    omega
  have hkc' := R'.kc
  walk_at "mw"
  refine w_listK (n := .t c') (R'.lo c' (Nat.le_refl _)) (by decide) ?_
  have R3 := R'.tmp (.list [])
  have O3 := O'.trans' (Out.tmp (κ := κ) (c := c') (σ := σ') (.list [])) (by omega)
  have hm3 : (σ'.set (.t c') (.list [])) (.t c) = some (.list (met.map .int)) := (Sg.set_ne _ _ (tne (by omega))).trans hm'
  have hw3 : (σ'.set (.t c') (.list [])) (.t (c + 1)) = some (.list (wt.map .int)) := (Sg.set_ne _ _ (tne (by omega))).trans hw'
  have hz3 : (σ'.set (.t c') (.list [])) (.t c') = some (.list (([] : List Int).map .int)) := Sg.set_self ..
  generalize σ'.set (.t c') (.list []) = σ₃ at *
  walk_at "mw"
  refine w_tciB (ns := wt) (ms := []) hw3 hz3 ?_
  cases hg : wt.getLast? with
  | none =>
    have e := List.getLast?_eq_none_iff.mp hg
    subst e
    have e1 : (true != decide (([] : List Int) = [])) = false := rfl
    rw [e1]
    walk_at "mw"
    refine wv (v_sorted (nm := .t (c' + 1)) (ns := met) hm3 (by omega) (R3.lo _ (Nat.le_refl _)) fun ms hp hs => ?_)
    refine hQ _ _ ⟨c' + 1, c' + 2, ms, rfl, by omega, Nat.lt_succ_self _, R3.tmp _, Out.new (by omega) O3, Sg.set_self .., sorted_lt hs (hp.nodup_iff.mpr I.nd), fun i => ?_⟩
    rw [hp.mem_iff]
    exact I.done i
  | some i =>
    have e1 : (true != decide (wt = [])) = true := by
      have : wt ≠ [] := fun z => by rw [z] at hg; cases hg
      simp [this]
    rw [e1]
    walk_at "mw"
    have hir := I.wr i (List.mem_of_getLast? hg)
    have hin := rch_rng hn.1 hed hir
    refine wv (v_pop hw3 (by rw [List.length_map]; omega) (v := .int i) (by rw [List.getLast?_map, hg]; rfl) ?_)
    have ed1 : (wt.map (.int : Int → MV Nm)).dropLast = wt.dropLast.map .int := (List.map_dropLast ..).symm
    rw [ed1]
    have hq : c + 1 < c' + 1 ∧ c + 1 ≠ κ.g ∧ c + 1 ≠ κ.a ∧ c + 1 ≠ κ.w ∧ c + 1 ≠ κ.r ∧ c + 1 ≠ κ.s := ⟨by omega, by omega, by omega, by omega, by omega, by omega⟩
    have hq0 : c < c' + 1 ∧ c ≠ κ.g ∧ c ≠ κ.a ∧ c ≠ κ.w ∧ c ≠ κ.r ∧ c ≠ κ.s := ⟨by omega, by omega, by omega, by omega, by omega, by omega⟩
    have R4 := R3.put hq (.list (wt.dropLast.map .int))
    have O4 := Out.new (k := c + 1) (o := .list (wt.dropLast.map .int)) (Nat.le_succ c) O3
    have hm4 : (σ₃.set (.t (c + 1)) (.list (wt.dropLast.map .int))) (.t c) = some (.list (met.map .int)) := (Sg.set_ne _ _ (tne (by omega))).trans hm3
    have hw4 : (σ₃.set (.t (c + 1)) (.list (wt.dropLast.map .int))) (.t (c + 1)) = some (.list (wt.dropLast.map .int)) := Sg.set_self ..
    generalize σ₃.set (.t (c + 1)) (.list (wt.dropLast.map .int)) = σ₄ at *
    walk_at "mw"
    refine w_tinL hm4 ?_
    cases k with
    | zero =>
      have h1 : wt.length = wt.dropLast.length + 1 := by have := congrArg List.length (wt_last hg); simpa using this
      unfold toGo at hto
      omega
    | succ k =>
      by_cases hmem : i ∈ met
      · have e2 : (true != decide (i ∈ met)) = false := by simp [hmem]
        rw [e2]
        obtain ⟨I', lt⟩ := I.old (n := n) hg hmem
        walk_at "mw"
        exact w_less (Nat.lt_succ_self k) ⟨met, _, c' + 1, by omega, R4, O4, hm4, hw4, I', by omega, by omega, (lk_cons (by decide)).trans l1, (lk_cons (by decide)).trans l2, (lk_cons (by decide)).trans l3⟩
      · have e2 : (true != decide (i ∈ met)) = true := by simp [hmem]
        rw [e2]
        obtain ⟨I', lt⟩ := I.new hn.1 hed hg hmem
        walk_at "mw"
        refine wv (v_append hm4 (by rw [List.length_map]; omega) ?_)
        have em : met.map (.int : Int → MV Nm) ++ [.int i] = (met ++ [i]).map .int := by rw [List.map_append]; rfl
        rw [em]
        have R5 := R4.put hq0 (.list ((met ++ [i]).map .int))
        have O5 := Out.new (k := c) (o := .list ((met ++ [i]).map .int)) (Nat.le_refl c) O4
        have hm5 : (σ₄.set (.t c) (.list ((met ++ [i]).map .int))) (.t c) = some (.list ((met ++ [i]).map .int)) := Sg.set_self ..
        have hw5 : (σ₄.set (.t c) (.list ((met ++ [i]).map .int))) (.t (c + 1)) = some (.list (wt.dropLast.map .int)) := (Sg.set_ne _ _ (tne (by omega))).trans hw4
        generalize σ₄.set (.t c) (.list ((met ++ [i]).map .int)) = σ₅ at *
        walk_at "mw"
        refine w_itD ?_
        walk_at "mw"
        refine w_itDB ((O5.x 6).trans W.er) (kvs_get hin.1 hin.2) ?_
        walk_at "mw"
        have hl1 := hel i
        have hl2 : wt.dropLast.length ≤ wt.length := by rw [List.length_dropLast]; exact Nat.sub_le _ _
        refine wv (v_extend hw5 (vs' := (ed i).map .int) ((O5.x _).trans (W.el i hin.1 hin.2)) (by rw [List.length_map, List.length_map]; omega) ?_)
        have ex : wt.dropLast.map (.int : Int → MV Nm) ++ (ed i).map .int = (wt.dropLast ++ ed i).map .int := (List.map_append ..).symm
        rw [ex]
        walk_at "mw"
        exact w_less (Nat.lt_succ_self k) ⟨met ++ [i], wt.dropLast ++ ed i, c' + 1, by omega, R5.put hq _, Out.new (Nat.le_succ c) O5, (Sg.set_ne _ _ (tne (by omega))).trans hm5, Sg.set_self .., I', by omega, by omega, (lk_cons (by decide)).trans l1, (lk_cons (by decide)).trans l2, (lk_cons (by decide)).trans l3⟩
end

section
variable {E : En P.heap_1} {V : Cy} {κ : Kn} {c : Nat} {σ : Sg Nm} {n : Int} {so : Int → Int} {ed : Int → List Int}

structure LR {KK : Params → Frag} (E : En KK) (n : Int) (so : Int → Int) (ed : Int → List Int) (σ : Sg Nm) : Prop where
  wc : σ (.x 2) = some (.cell (some (.ref (.x 3))))
  w : W1 n so ed σ
  c0 : ∃ p b s, σ (.x 0) = some (.clo p b s [("world", .x 2)]) ∧ LedOk E p b s
  c1 : ∃ p b s, σ (.x 1) = some (.clo p b s [("world", .x 2)]) ∧ HowOk E p b s
theorem LR.keep {σ' : Sg Nm} (h : LR E n so ed σ) (e : ∀ i, σ' (.x i) = σ (.x i)) : LR E n so ed σ' :=
  ⟨(e _).trans h.wc, h.w.keep e, by obtain ⟨p, b, s, h1, h2⟩ := h.c0; exact ⟨p, b, s, (e _).trans h1, h2⟩, by obtain ⟨p, b, s, h1, h2⟩ := h.c1; exact ⟨p, b, s, (e _).trans h1, h2⟩⟩
theorem LR.with {n' : Int} {so' : Int → Int} {ed' : Int → List Int} {σ' : Sg Nm} (h : LR E n so ed σ) (w : W1 n' so' ed' σ') (e : ∀ i, i < 3 → σ' (.x i) = σ (.x i)) : LR E n' so' ed' σ' :=
  ⟨(e _ (by decide)).trans h.wc, w, by obtain ⟨p, b, s, h1, h2⟩ := h.c0; exact ⟨p, b, s, (e _ (by decide)).trans h1, h2⟩, by obtain ⟨p, b, s, h1, h2⟩ := h.c1; exact ⟨p, b, s, (e _ (by decide)).trans h1, h2⟩⟩

/-- what holds of the law's edges and sorts -/
structure Gd (n : Int) (so : Int → Int) (ed : Int → List Int) (k : Nat) : Prop where
  n1 : 1 ≤ n ∧ n ≤ 13
  er : ∀ i, 1 ≤ i → i ≤ n → ∀ j ∈ ed i, 1 ≤ j ∧ j ≤ n
  el : ∀ i, (ed i).length ≤ k
  out : ∀ i, n < i → ed i = []
  k40 : k ≤ 40
  so1 : so 1 = 3
  s3 : ∀ i, so i = 0 ∨ so i = 1 ∨ so i = 3
theorem lawOf {k : Nat} (G : Gd n so ed k) : Law E n (LR E n so ed) ed so where
  keep := fun σ σ' e h => h.keep e
  kn := G.er
  kl := fun i => Nat.le_trans (G.el i) (Nat.le_trans G.k40 (by decide))
  so3 := G.s3
  led := fun V κ c σ i hn hP R hi => by
    obtain ⟨p, b, s, h1, ⟨hb, hloc, hco, hgen, hk, hcell⟩, h2⟩ := hP.c0
    refine ⟨.inr ⟨p, b, s, _, h1⟩, cpv fun Q hQ => w_clo h1 (fun us name qual cl doc pm an cdv ct hu => hb us name qual cl doc pm an cdv ct b hu) hloc ?_ hco hgen hk hcell⟩
    exact h2 n so ed V κ c σ i Q hn (Nat.le_trans (G.el i) (Nat.le_trans G.k40 (by decide))) (G.er i hi.1 (hn ▸ hi.2)) hP.wc hP.w R hi hQ
  how := fun V κ c σ i hn hP R hi => by
    obtain ⟨p, b, s, h1, ⟨hb, hloc, hco, hgen, hk, hcell⟩, h2⟩ := hP.c1
    refine ⟨.inr ⟨p, b, s, _, h1⟩, cpv fun Q hQ => w_clo h1 (fun us name qual cl doc pm an cdv ct hu => hb us name qual cl doc pm an cdv ct b hu) hloc ?_ hco hgen hk hcell⟩
    exact h2 n so ed V κ c σ i Q hn hP.wc hP.w R hi (hQ _ _ ⟨rfl, rfl⟩)

/-- all of it -/
structure A1 {KK : Params → Frag} (E : En KK) (V : Cy) (so : Int → Int) (ed : Int → List Int) (κ : Kn) (c : Nat) (σ : Sg Nm) : Prop where
  R : Rep V κ c σ
  L : LR E V.n so ed σ
/-- the temps of others stay -/
structure TO (κ : Kn) (c : Nat) (σ : Sg Nm) (κ' : Kn) (c' : Nat) (σ' : Sg Nm) : Prop where
  le : c ≤ c'
  t : ∀ k, k < c → k ≠ κ.g → k ≠ κ.a → k ≠ κ.w → k ≠ κ.r → k ≠ κ.s → σ' (.t k) = σ (.t k)
  kk : ∀ k, k < c → k ≠ κ.g → k ≠ κ.a → k ≠ κ.w → k ≠ κ.r → k ≠ κ.s → k ≠ κ'.g ∧ k ≠ κ'.a ∧ k ≠ κ'.w ∧ k ≠ κ'.r ∧ k ≠ κ'.s
theorem TO.trans {κ κ' κ'' : Kn} {c c' c'' : Nat} {σ σ' σ'' : Sg Nm} (a : TO κ c σ κ' c' σ') (b : TO κ' c' σ' κ'' c'' σ'') : TO κ c σ κ'' c'' σ'' :=
  ⟨Nat.le_trans a.le b.le, fun k h0 h1 h2 h3 h4 h5 => by
    obtain ⟨g1, g2, g3, g4, g5⟩ := a.kk k h0 h1 h2 h3 h4 h5
    exact (b.t k (Nat.lt_of_lt_of_le h0 a.le) g1 g2 g3 g4 g5).trans (a.t k h0 h1 h2 h3 h4 h5), fun k h0 h1 h2 h3 h4 h5 => by
    obtain ⟨g1, g2, g3, g4, g5⟩ := a.kk k h0 h1 h2 h3 h4 h5
    exact b.kk k (Nat.lt_of_lt_of_le h0 a.le) g1 g2 g3 g4 g5⟩
theorem Go.to {κ' : Kn} {c' : Nat} {σ' : Sg Nm} (G : Go κ c σ κ' c' σ') : TO κ c σ κ' c' σ' := ⟨G.le, G.out.t, G.kk⟩
theorem Out.to {c' : Nat} {σ' : Sg Nm} (O : Out κ c σ σ') (h : c ≤ c') : TO κ c σ κ c' σ' := ⟨h, O.t, fun _ _ a b d e f => ⟨a, b, d, e, f⟩⟩
theorem TO.of {σ' : Sg Nm} (h : ∀ k, σ' (.t k) = σ (.t k)) : TO κ c σ κ c σ' := ⟨Nat.le_refl _, fun k _ _ _ _ _ _ => h k, fun _ _ a b d e f => ⟨a, b, d, e, f⟩⟩

theorem Sg.set_comm {N : Type} [DecidableEq N] (σ : Sg N) {n m : N} (o o' : MO N) (h : n ≠ m) : (σ.set n o).set m o' = (σ.set m o').set n o := by
  funext k
  unfold Sg.set
  by_cases q : k = m
  · subst q
    rw [if_pos rfl, if_neg (fun z => h z.symm), if_pos rfl]
  · rw [if_neg q, if_neg q]
theorem xne {i j : Nat} (h : i ≠ j) : (Nm.x i) ≠ Nm.x j := fun e => h (Nm.x.inj e)
theorem edNx {i : Int} {j : Nat} (h : j < 9) : edN i ≠ .x j := fun e => by have : 9 + i.toNat = j := Nm.x.inj e; omega
def soNew (so : Int → Int) (n s : Int) : Int → Int := fun i => if i = n + 1 then s else so i

def newW (σ : Sg Nm) (n : Int) (so : Int → Int) (s : Int) : Sg Nm := (((σ.set (edN (n + 1)) (.list [])).set (.x 5) (.idict (kvs (n + 1) fun i => .int (soNew so n s i)))).set (.x 6) (.idict (kvs (n + 1) fun i => .ref (edN i)))).set (.x 4) (.idict (kvs (n + 1) fun i => .ref (.ob i)))
theorem W1.new (W : W1 n so ed σ) (hn : 0 ≤ n) (he : ed (n + 1) = []) (s : Int) : W1 (n + 1) (soNew so n s) ed (newW σ n so s) where
  wd := (Sg.set_ne _ _ (xne (by decide))).trans ((Sg.set_ne _ _ (xne (by decide))).trans ((Sg.set_ne _ _ (xne (by decide))).trans ((Sg.set_ne _ _ (Ne.symm (edNx (by decide)))).trans W.wd)))
  all := Sg.set_self ..
  sr := (Sg.set_ne _ _ (xne (by decide))).trans ((Sg.set_ne _ _ (xne (by decide))).trans (Sg.set_self ..))
  er := (Sg.set_ne _ _ (xne (by decide))).trans (Sg.set_self ..)
  el := fun i h1 h2 => (Sg.set_ne _ _ (edNx (by decide))).trans ((Sg.set_ne _ _ (edNx (by decide))).trans ((Sg.set_ne _ _ (edNx (by decide))).trans (by
    by_cases z : i = n + 1
    · rw [z, he]; exact Sg.set_self ..
    · exact (Sg.set_ne _ _ (edN_ne (by omega) (by omega) z)).trans (W.el i h1 (by omega)))))
  no := fun i h => (Sg.set_ne _ _ (edNx (by decide))).trans ((Sg.set_ne _ _ (edNx (by decide))).trans ((Sg.set_ne _ _ (edNx (by decide))).trans ((Sg.set_ne _ _ (edN_ne (by omega) (by omega) (by omega))).trans (W.no i (by omega)))))
theorem newW_x (σ : Sg Nm) {i : Nat} (h : i < 3) (n : Int) (so : Int → Int) (s : Int) : newW σ n so s (.x i) = σ (.x i) :=
  (Sg.set_ne _ _ (xne (by omega))).trans ((Sg.set_ne _ _ (xne (by omega))).trans ((Sg.set_ne _ _ (xne (by omega))).trans (Sg.set_ne _ _ (Ne.symm (edNx (by omega))))))
theorem Rep.newWorld (R : Rep V κ c σ) (n : Int) (so : Int → Int) (s : Int) : Rep V κ c (Mine.newW σ n so s) := (((R.putX _ _).putX _ _).putX _ _).putX _ _

theorem c_new {s sz : Int} (A : A1 E V so ed κ c σ) (hV : V.Rg) (hn : V.n ≤ 30) (he : ed (V.n + 1) = []) :
    Wc E 4 (.ref 385) [.ref (.x 3), .int s, .int sz] (fun v σ' => v = .int (V.n + 1) ∧ A1 E (takeIn V sz) (soNew so V.n s) ed κ c σ' ∧ TO κ c σ κ c σ') σ := by
  have R := A.R
  have W := A.L.w
  have hwd := W.wd
  have hn0 := hV.n0
  refine cps fun Q hQ => ?_
  refine w_def (by k_is) (by k_is) (by walk_at "binds") (by rfl) ?_
  walk_at "mw"
  refine wv (v_lenDict E.T W.all (by rw [kvs_len]; omega) ?_)
  rw [kvs_len]
  walk_at "mw"
  have eN : ((V.n.toNat : Nat) : Int) + 1 = V.n + 1 := by omega
  rw [eN]
  have hno : σ (.ob (V.n + 1)) = none := R.no _ fun z => by have := z.2; omega
  refine wv (v_class E.T (n := .ob (V.n + 1)) (n₀ := .cyc) (by k_is) (by k_is) (by k_is) hno (by rw [R.cyc]; simp) (Wc.o (Wc.imp c_hoInit (by decide) ?_)))
  rintro _ _ ⟨rfl, rfl⟩
  refine ⟨rfl, ?_⟩
  have hwd1 : (σ.set (.ob (V.n + 1)) (.inst 367 [("number", .int 0), ("mark", .int 0), ("size", .int 0)])) (.x 3) = some (.sdict wd1) := (Sg.set_ne _ _ Nm.noConfusion).trans hwd
  walk_at "mw"
  refine w_listK (n := edN (V.n + 1)) ((Sg.set_ne _ _ Nm.noConfusion).trans (W.no _ (by omega))) (by decide) ?_
  have hwd2 : ((σ.set (.ob (V.n + 1)) (.inst 367 [("number", .int 0), ("mark", .int 0), ("size", .int 0)])).set (edN (V.n + 1)) (.list [])) (.x 3) = some (.sdict wd1) := (Sg.set_ne _ _ (Ne.symm (edNx (by decide)))).trans hwd1
  have hs2 : ((σ.set (.ob (V.n + 1)) (.inst 367 [("number", .int 0), ("mark", .int 0), ("size", .int 0)])).set (edN (V.n + 1)) (.list [])) (.x 5) = some (.idict (kvs V.n fun i => .int (so i))) := (Sg.set_ne _ _ (Ne.symm (edNx (by decide)))).trans ((Sg.set_ne _ _ Nm.noConfusion).trans W.sr)
  have he2 : ((σ.set (.ob (V.n + 1)) (.inst 367 [("number", .int 0), ("mark", .int 0), ("size", .int 0)])).set (edN (V.n + 1)) (.list [])) (.x 6) = some (.idict (kvs V.n fun i => .ref (edN i))) := (Sg.set_ne _ _ (Ne.symm (edNx (by decide)))).trans ((Sg.set_ne _ _ Nm.noConfusion).trans W.er)
  have ha2 : ((σ.set (.ob (V.n + 1)) (.inst 367 [("number", .int 0), ("mark", .int 0), ("size", .int 0)])).set (edN (V.n + 1)) (.list [])) (.x 4) = some (.idict (kvs V.n fun i => .ref (.ob i))) := (Sg.set_ne _ _ (Ne.symm (edNx (by decide)))).trans ((Sg.set_ne _ _ Nm.noConfusion).trans W.all)
  walk_at "mw"
  refine w_gitB (.int hs2 (by rw [kvs_len]; omega)) ?_
  have p1 : dput (kvs V.n fun i => (.int (so i) : MV Nm)) (V.n + 1) (.int s) = kvs (V.n + 1) fun i => .int (soNew so V.n s i) := by
    have := kvs_put (f := fun i => (.int (so i) : MV Nm)) (g := fun i => .int (soNew so V.n s i)) hn0 fun i hi => by show MV.int _ = MV.int _; unfold soNew; rw [if_neg (by omega)]
    rwa [show soNew so V.n s (V.n + 1) = s from if_pos rfl] at this
  have p2 : dput (kvs V.n fun i => (.ref (edN i) : MV Nm)) (V.n + 1) (.ref (edN (V.n + 1))) = kvs (V.n + 1) fun i => .ref (edN i) := kvs_put (g := fun i => .ref (edN i)) hn0 fun _ _ => rfl
  have p3 : dput (kvs V.n fun i => (.ref (.ob i) : MV Nm)) (V.n + 1) (.ref (.ob (V.n + 1))) = kvs (V.n + 1) fun i => .ref (.ob i) := kvs_put (g := fun i => .ref (.ob i)) hn0 fun _ _ => rfl
  rw [p1]
  have hwd3 := (Sg.set_ne _ (.idict (kvs (V.n + 1) fun i => .int (soNew so V.n s i))) (xne (i := 3) (j := 5) (by decide))).trans hwd2
  have he3 := (Sg.set_ne _ (.idict (kvs (V.n + 1) fun i => .int (soNew so V.n s i))) (xne (i := 6) (j := 5) (by decide))).trans he2
  have ha3 := (Sg.set_ne _ (.idict (kvs (V.n + 1) fun i => .int (soNew so V.n s i))) (xne (i := 4) (j := 5) (by decide))).trans ha2
  walk_at "mw"
  refine w_gitB (.int he3 (by rw [kvs_len]; omega)) ?_
  rw [p2]
  have hwd4 := (Sg.set_ne _ (.idict (kvs (V.n + 1) fun i => .ref (edN i))) (xne (i := 3) (j := 6) (by decide))).trans hwd3
  have ha4 := (Sg.set_ne _ (.idict (kvs (V.n + 1) fun i => .ref (edN i))) (xne (i := 4) (j := 6) (by decide))).trans ha3
  walk_at "mw"
  refine w_gitB (.int ha4 (by rw [kvs_len]; omega)) ?_
  rw [p3, Sg.set_comm σ _ _ (show (Nm.ob (V.n + 1)) ≠ edN (V.n + 1) from Nm.noConfusion), Sg.set_comm _ _ _ (show (Nm.ob (V.n + 1)) ≠ .x 5 from Nm.noConfusion), Sg.set_comm _ _ _ (show (Nm.ob (V.n + 1)) ≠ .x 6 from Nm.noConfusion), Sg.set_comm _ _ _ (show (Nm.ob (V.n + 1)) ≠ .x 4 from Nm.noConfusion)]
  have W5 := W.new hn0 he s
  have R5 := R.newWorld V.n so s
  have L5 := A.L.with W5 fun i hi => newW_x σ hi V.n so s
  have t5 : ∀ k, newW σ V.n so s (.t k) = σ (.t k) := fun k => (Sg.set_ne _ _ Nm.noConfusion).trans ((Sg.set_ne _ _ Nm.noConfusion).trans ((Sg.set_ne _ _ Nm.noConfusion).trans (Sg.set_ne _ _ Nm.noConfusion)))
  show Wg _ _ _ _ _ ((newW σ V.n so s).set _ _)
  generalize newW σ V.n so s = σ₅ at *
  have hwd5 : (σ₅.set (.ob (V.n + 1)) (.inst 367 [("number", .int 0), ("mark", .int 0), ("size", .int 0)])) (.x 3) = some (.sdict wd1) := (Sg.set_ne _ _ Nm.noConfusion).trans W5.wd
  have hcy5 : (σ₅.set (.ob (V.n + 1)) (.inst 367 [("number", .int 0), ("mark", .int 0), ("size", .int 0)])) .cyc = some (.inst 346 (cycF V κ)) := (Sg.set_ne _ _ Nm.noConfusion).trans R5.cyc
  walk_at "mw"
  refine k_code (c_takeIn R5 hV rfl) (by decide) ?_
  rintro _ σ₆ ⟨rfl, O6, R6⟩
  walk_at "mw"
  exact hQ _ _ ⟨rfl, ⟨R6, L5.keep O6.x⟩, (TO.of t5).trans (O6.to (Nat.le_refl _))⟩
end

section
variable {E : En P.heap_1} {V : Cy} {κ : Kn} {c : Nat} {σ : Sg Nm} {n : Int} {so : Int → Int} {ed : Int → List Int}

def edSet (ed : Int → List Int) (p : Int) (l : List Int) : Int → List Int := fun i => if i = p then l else ed i
theorem W1.edTo (W : W1 n so ed σ) {p : Int} (hp : 1 ≤ p ∧ p ≤ n) (l : List Int) : W1 n so (edSet ed p l) (σ.set (edN p) (.list (l.map .int))) where
  wd := (Sg.set_ne _ _ (Ne.symm (edNx (by decide)))).trans W.wd
  all := (Sg.set_ne _ _ (Ne.symm (edNx (by decide)))).trans W.all
  sr := (Sg.set_ne _ _ (Ne.symm (edNx (by decide)))).trans W.sr
  er := (Sg.set_ne _ _ (Ne.symm (edNx (by decide)))).trans W.er
  el := fun i h1 h2 => by
    unfold edSet
    by_cases z : i = p
    · rw [if_pos z, z]; exact Sg.set_self ..
    · rw [if_neg z]; exact (Sg.set_ne _ _ (edN_ne (by omega) (by omega) z)).trans (W.el i h1 h2)
  no := fun i h => (Sg.set_ne _ _ (edN_ne (by omega) (by omega) (by omega))).trans (W.no i h)
theorem A1.edTo (A : A1 E V so ed κ c σ) {p : Int} (hp : 1 ≤ p ∧ p ≤ V.n) (l : List Int) : A1 E V so (edSet ed p l) κ c (σ.set (edN p) (.list (l.map .int))) :=
  ⟨A.R.putX _ _, A.L.with (A.L.w.edTo hp l) fun i hi => Sg.set_ne _ _ (Ne.symm (edNx (by omega)))⟩
theorem edT (p : Int) (o : MO Nm) : TO κ c σ κ c (σ.set (edN p) o) := TO.of fun _ => Sg.set_ne _ _ Nm.noConfusion

theorem c_edge {k : Nat} {p q : Int} {back : Bool} (G : Gd V.n so (edSet ed p (ed p ++ [q])) k) (A : A1 E V so ed κ c σ) (hM : V.phase = 1 → V.Mk) (hal : V.again.length ≤ 1000) (hel : (ed p).length ≤ 900) (hp : V.rng p) (hq : V.rng q) :
    Wc E 71 (.ref 392) [.ref (.x 3), .int p, .int q, .bool back] (fun v σ' => v = .none ∧ ∃ κ' c', A1 E (edgeV (edSet ed p (ed p ++ [q])) so V p q back) so (edSet ed p (ed p ++ [q])) κ' c' σ' ∧ TO κ c σ κ' c' σ') σ := by
  have W := A.L.w
  have hwd := W.wd
  refine cps fun Q hQ => ?_
  refine w_def (by k_is) (by k_is) (by walk_at "binds") (by rfl) ?_
  walk_at "mw"
  refine w_itD ?_
  walk_at "mw"
  refine w_itDB W.er (kvs_get hp.1 hp.2) ?_
  refine w_methN (.list (W.el p hp.1 hp.2) ⟨PySem.F.slot_list_append, PySem.F.type_list_append⟩ rfl) ?_
  walk_at "mw"
  refine wv (v_append (W.el p hp.1 hp.2) (by rw [List.length_map]; omega) ?_)
  have e1 : (ed p).map (.int : Int → MV Nm) ++ [.int q] = (ed p ++ [q]).map .int := by rw [List.map_append]; rfl
  rw [e1]
  have A1' := A.edTo hp (ed p ++ [q])
  have T1 := edT (κ := κ) (c := c) (σ := σ) p (.list ((ed p ++ [q]).map .int))
  generalize σ.set (edN p) (.list ((ed p ++ [q]).map .int)) = σ₁ at *
  have R := A1'.R
  have W1' := A1'.L.w
  have hwd1 := W1'.wd
  walk_at "mw"
  refine w_nam (ns := ["colours", "parent", "child"]) ?_
  walk_at "mw"
  refine w_itD ?_
  walk_at "mw"
  refine w_itDB W1'.all (kvs_get hp.1 hp.2) ?_
  walk_at "mw"
  refine w_itD ?_
  walk_at "mw"
  refine w_itDB W1'.all (kvs_get hq.1 hq.2) ?_
  walk_at "mw"
  refine w_itD ?_
  walk_at "mw"
  refine w_itDB W1'.sr (kvs_get hp.1 hp.2) ?_
  walk_at "mw"
  have Lw := lawOf (E := E) G
  unfold edgeV at hQ
  refine w_and1 (v := back) ?_ ?_
  · walk_at "mw"
    exact ⟨rfl, rfl⟩
  by_cases hb : so p = 0 ∧ back = true
  · have e0 : (so p == 0 && back) = true := by rw [hb.2]; simp [hb.1]
    rw [if_pos hb] at hQ
    walk_at "mw"
    by_cases h2 : V.mark q < 2
    · have e2 : decide (V.mark q < 2) = true := by simpa using h2
      rw [if_pos h2] at hQ
      walk_at "mw"
      refine k_code (c_barrierBack R hp hal) (by decide) ?_
      rintro _ σ₂ ⟨rfl, O2, R2⟩
      walk_at "mw"
      refine hQ _ _ ⟨rfl, κ, c, ⟨R2, ?_⟩, T1.trans (O2.to (Nat.le_refl _))⟩
      have : (barrierBack V p).n = V.n := by unfold barrierBack; split <;> rfl
      rw [this]
      exact A1'.L.keep O2.x
    · have e2 : decide (V.mark q < 2) = false := by simpa using h2
      rw [if_neg h2] at hQ
      walk_at "mw"
      exact hQ _ _ ⟨rfl, κ, c, A1', T1⟩
  · have e0 : (so p == 0 && back) = false := by
      cases back with
      | false => simp
      | true => simpa using fun z => hb ⟨z, rfl⟩
    rw [if_neg hb] at hQ
    walk_at "mw"
    refine w_itD ?_
    walk_at "mw"
    refine w_itDB W1'.sr (kvs_get hp.1 hp.2) ?_
    walk_at "mw"
    by_cases h3 : so p ≠ 3
    · have e3 : (so p != 3) = true := by simpa using h3
      rw [if_pos h3] at hQ
      walk_at "mw"
      refine k_code (c_barrier Lw rfl A1'.L R (b := V.phase == 1) (fun z => hM (by simpa using z)) hp hq) (by decide) ?_
      rintro _ σ₂ ⟨rfl, c₂, hc₂, O2, R2⟩
      walk_at "mw"
      refine hQ _ _ ⟨rfl, κ, c₂, ⟨R2, ?_⟩, T1.trans (O2.to hc₂)⟩
      have : (barrier (edSet ed p (ed p ++ [q])) so V p q (V.phase == 1)).n = V.n := by
        unfold barrier
        split
        · rfl
        · split
          · rename_i z
            exact (mark_R (N := V.n) G.er MF V q (hM (by simpa using z)) hq rfl).same.n
          · rfl
      rw [this]
      exact A1'.L.keep O2.x
    · have e3 : (so p != 3) = false := by simpa using h3
      rw [if_neg h3] at hQ
      walk_at "mw"
      exact hQ _ _ ⟨rfl, κ, c, A1', T1⟩
end

section
variable {E : En P.heap_1} {V : Cy} {κ : Kn} {c : Nat} {σ : Sg Nm} {n : Int} {so : Int → Int} {ed : Int → List Int}

theorem A1.tmp (A : A1 E V so ed κ c σ) (o : MO Nm) : A1 E V so ed κ (c + 1) (σ.set (.t c) o) := ⟨A.R.tmp o, A.L.keep fun _ => Sg.set_ne _ _ Nm.noConfusion⟩
theorem tmpT (o : MO Nm) : TO κ c σ κ (c + 1) (σ.set (.t c) o) := (Out.tmp o).to (Nat.le_succ c)
theorem A1.next {V' : Cy} {κ' : Kn} {c' : Nat} {σ' : Sg Nm} (A : A1 E V so ed κ c σ) (G : Go κ c σ κ' c' σ') (R' : Rep V' κ' c' σ') (hn : V'.n = V.n) : A1 E V' so ed κ' c' σ' := ⟨R', by rw [hn]; exact A.L.keep G.out.x⟩

def fourI (V : Cy) : List Int := [V.phase, V.threshold, V.cycles, V.debt]
theorem c_checked {k : Nat} (I : Inv ed so all k V) (G : Gd V.n so ed 40) (A : A1 E V so ed κ c σ) :
    Wc E 77 (.ref 399) [.ref (.x 3)] (fun v σ' => v = .bool true ∧ ∃ κ' c', A1 E (checkC ed so V) so ed κ' c' σ' ∧ TO κ c σ κ' c' σ') σ := by
  have R := A.R
  have hwd := A.L.w.wd
  have hkc := R.kc
  obtain ⟨I', n'⟩ := checkC_spec (V := V) G.er I
  refine cps fun Q hQ => ?_
  refine w_def (by k_is) (by k_is) (by walk_at "binds") (by rfl) ?_
  walk_at "mw"
  refine w_listK (n := .t c) (R.lo c (Nat.le_refl _)) (Nat.le_of_ble_eq_true rfl) ?_
  have A1' := A.tmp (.list [.int V.phase, .int V.threshold, .int V.cycles, .int V.debt])
  have T1 := tmpT (κ := κ) (c := c) (σ := σ) (.list [.int V.phase, .int V.threshold, .int V.cycles, .int V.debt])
  have b1 : (σ.set (.t c) (.list [.int V.phase, .int V.threshold, .int V.cycles, .int V.debt])) (.t c) = some (.list ((fourI V).map .int)) := Sg.set_self ..
  generalize σ.set (.t c) (.list [.int V.phase, .int V.threshold, .int V.cycles, .int V.debt]) = σ₁ at *
  have R1 := A1'.R
  walk_at "mw"
  refine k_code (c_check (lawOf G) I.ok rfl A1'.L R1) (by decide) ?_
  rintro _ σ₂ ⟨rfl, κ₂, c₂, G₂, R₂⟩
  have A2 := A1'.next G₂ R₂ n'
  have T2 := T1.trans G₂.to
  have b2 : σ₂ (.t c) = some (.list ((fourI V).map .int)) := (G₂.out.t c (Nat.lt_succ_self c) (Nat.ne_of_gt hkc.1) (Nat.ne_of_gt hkc.2.1) (Nat.ne_of_gt hkc.2.2.1) (Nat.ne_of_gt hkc.2.2.2.1) (Nat.ne_of_gt hkc.2.2.2.2)).trans b1
  have hcc : c < c₂ := G₂.le
  generalize hV2 : checkC ed so V = V₂ at *
  walk_at "mw"
  refine w_listK (n := .t c₂) (R₂.lo c₂ (Nat.le_refl _)) (Nat.le_of_ble_eq_true rfl) ?_
  have A3 := A2.tmp (.list [.int V₂.phase, .int V₂.threshold, .int V₂.cycles, .int V₂.debt])
  have T3 := T2.trans (tmpT (κ := κ₂) (c := c₂) (σ := σ₂) (.list [.int V₂.phase, .int V₂.threshold, .int V₂.cycles, .int V₂.debt]))
  have b3 : (σ₂.set (.t c₂) (.list [.int V₂.phase, .int V₂.threshold, .int V₂.cycles, .int V₂.debt])) (.t c) = some (.list ((fourI V).map .int)) := (Sg.set_ne _ _ (tne (Nat.ne_of_lt hcc))).trans b2
  have b4 : (σ₂.set (.t c₂) (.list [.int V₂.phase, .int V₂.threshold, .int V₂.cycles, .int V₂.debt])) (.t c₂) = some (.list ((fourI V₂).map .int)) := Sg.set_self ..
  generalize σ₂.set (.t c₂) (.list [.int V₂.phase, .int V₂.threshold, .int V₂.cycles, .int V₂.debt]) = σ₃ at *
  walk_at "mw"
  refine w_eciB b4 b3 ?_
  walk_at "mw"
  refine hQ _ _ ⟨?_, κ₂, c₂ + 1, A3, T3⟩
  by_cases hd : V.total ≥ V.threshold
  · have h1 := stepC_shows (so := so) G.er I hd
    have h2 : checkC ed so V = stepC ed so V := if_pos hd
    rw [hV2] at h2
    rw [← h2] at h1
    have h3 : fourI V₂ ≠ fourI V := fun z => by
      unfold fourI at z
      injection z with z1 z
      injection z with z2 z
      injection z with z3 z
      injection z with z4 z
      exact h1 ⟨z1, z2, z3, z4⟩
    have h4 : decide (V.threshold ≤ V.total) = true := by simpa using hd
    rw [decide_eq_false h3, h4]
    rfl
  · have h2 : checkC ed so V = V := if_neg hd
    rw [hV2] at h2
    have h4 : decide (V.threshold ≤ V.total) = false := by simpa using hd
    rw [h2, decide_eq_true rfl, h4]
    rfl

theorem sorted_uniq : ∀ {a b : List Int}, a.Pairwise (· < ·) → b.Pairwise (· < ·) → (∀ i, i ∈ a ↔ i ∈ b) → a = b
  | [], [], _, _, _ => rfl
  | [], y :: b, _, _, h => absurd ((h y).mpr (.head _)) List.not_mem_nil
  | x :: a, [], _, _, h => absurd ((h x).mp (.head _)) List.not_mem_nil
  | x :: a, y :: b, ha, hb, h => by
    obtain ⟨a1, a2⟩ := List.pairwise_cons.mp ha
    obtain ⟨b1, b2⟩ := List.pairwise_cons.mp hb
    have e : x = y := by
      rcases List.mem_cons.mp ((h x).mp (.head _)) with q | q
      · exact q
      · rcases List.mem_cons.mp ((h y).mpr (.head _)) with q' | q'
        · exact q'.symm
        · have := a1 y q'; have := b1 x q; omega
    subst e
    rw [sorted_uniq a2 b2 fun i => ⟨fun hi => by
      rcases List.mem_cons.mp ((h i).mp (.tail _ hi)) with q | q
      · have := a1 i hi; omega
      · exact q, fun hi => by
      rcases List.mem_cons.mp ((h i).mpr (.tail _ hi)) with q | q
      · have := b1 i hi; omega
      · exact q⟩]
theorem nat_sum_perm {f : Int → Int} {a b : List Int} (h : a.Perm b) : (a.map f).sum = (b.map f).sum := by
  induction h with
  | nil => rfl
  | cons x _ ih => rw [List.map_cons, List.map_cons, List.sum_cons, List.sum_cons, ih]
  | swap x y l => rw [List.map_cons, List.map_cons, List.map_cons, List.map_cons, List.sum_cons, List.sum_cons, List.sum_cons, List.sum_cons]; omega
  | trans _ _ i1 i2 => exact i1.trans i2
end

section
variable {E : En P.heap_1} {V : Cy} {κ : Kn} {c : Nat} {σ : Sg Nm} {n : Int} {so : Int → Int} {ed : Int → List Int}

theorem TO.at {κ' : Kn} {c' : Nat} {σ' : Sg Nm} (T : TO κ c σ κ' c' σ') {k : Nat} (h : k < c ∧ k ≠ κ.g ∧ k ≠ κ.a ∧ k ≠ κ.w ∧ k ≠ κ.r ∧ k ≠ κ.s) : σ' (.t k) = σ (.t k) ∧ (k < c' ∧ k ≠ κ'.g ∧ k ≠ κ'.a ∧ k ≠ κ'.w ∧ k ≠ κ'.r ∧ k ≠ κ'.s) :=
  ⟨T.t k h.1 h.2.1 h.2.2.1 h.2.2.2.1 h.2.2.2.2.1 h.2.2.2.2.2, Nat.lt_of_lt_of_le h.1 T.le, T.kk k h.1 h.2.1 h.2.2.1 h.2.2.2.1 h.2.2.2.2.1 h.2.2.2.2.2⟩
theorem Rep.fr (R : Rep V κ c σ) : c < c + 1 ∧ c ≠ κ.g ∧ c ≠ κ.a ∧ c ≠ κ.w ∧ c ≠ κ.r ∧ c ≠ κ.s :=
  ⟨Nat.lt_succ_self c, Nat.ne_of_gt R.kc.1, Nat.ne_of_gt R.kc.2.1, Nat.ne_of_gt R.kc.2.2.1, Nat.ne_of_gt R.kc.2.2.2.1, Nat.ne_of_gt R.kc.2.2.2.2⟩

def szOf (V : Cy) : MV Nm → MV Nm
  | .int j => .int (V.size j)
  | .ref (.ob j) => .int (V.size j)
  | _ => .none

theorem c_whole {k : Nat} (I : Inv ed so all k V) (G : Gd V.n so ed 40) (A : A1 E V so ed κ c σ) :
    Wc E 78 (.ref 404) [.ref (.x 3)] (fun v σ' => v = .bool true ∧ ∃ κ' c', A1 E (full ed so V) so ed κ' c' σ' ∧ TO κ c σ κ' c' σ') σ := by
  have R := A.R
  obtain ⟨I', ph, ho, hth, n', sz'⟩ := full_spec (V := V) G.er I
  refine cps fun Q hQ => ?_
  refine w_defC (x := "world") (cn := [("world", .t c)]) (by k_is) (by k_is) (fun _ => rfl) (by rfl) (by rfl) (by rfl) (by decide) (by simp) (by intro p hp; rw [List.mem_singleton.mp hp]; exact R.lo c (Nat.le_refl c)) ?_
  show Ws _ _ _ _ _ (σ.set (.t c) (.cell (some (.ref (.x 3)))))
  have A1' := A.tmp (.cell (some (.ref (.x 3))))
  have T1 := tmpT (κ := κ) (c := c) (σ := σ) (.cell (some (.ref (.x 3))))
  have h1 : (σ.set (.t c) (.cell (some (.ref (.x 3))))) (.t c) = some (.cell (some (.ref (.x 3)))) := Sg.set_self ..
  have f1 := R.fr
  generalize σ.set (.t c) (.cell (some (.ref (.x 3)))) = σ₁ at *
  have R1 := A1'.R
  have hwd1 := A1'.L.w.wd
  walk_at "mw"
  refine k_code (c_full (lawOf G) I.ok rfl A1'.L R1) (by decide) ?_
  rintro _ σ₂ ⟨rfl, κ₂, c₂, G₂, R₂⟩
  have A2 := A1'.next G₂ R₂ n'
  have T2 := T1.trans G₂.to
  obtain ⟨e2, f2⟩ := G₂.to.at f1
  have h2 := e2.trans h1
  generalize full ed so V = V₂ at *
  have hwd2 := A2.L.w.wd
  walk_at "mw"
  refine k_code (c_reached (n := V₂.n) (by rw [n']; exact G.n1) (by rw [n']; exact G.er) G.el A2.L.w R₂) (by decide) ?_
  rintro _ σ₃ ⟨m, c₃, ms, rfl, hm1, hm2, R₃, O₃, hl3, hs3, hr3⟩
  have A3 : A1 E V₂ so ed κ₂ c₃ σ₃ := ⟨R₃, A2.L.keep O₃.x⟩
  have T3 := T2.trans (O₃.to (c' := c₃) (by omega))
  obtain ⟨e3, f3⟩ := (O₃.to (c' := c₃) (by omega)).at f2
  have h3 := e3.trans h2
  have hml : ms.length ≤ 13 := by
    have := nodup_len V₂.n.toNat ms (hs3.imp fun h => Int.ne_of_lt h) fun i hi => by have := I'.B.rg.o i ((I'.rch ((hr3 i).mp hi)).1); unfold Cy.rng at this; omega
    have := I'.B.n13
    omega
  have hwd3 := A3.L.w.wd
  walk_at "mw"
  refine w_comp (cells₁ := [("world", .t c)]) ?_ (cells1 fun _ _ _ _ _ _ => rfl)
  walk_at "mw"
  refine w_cmpK (.t c₃) (szOf V₂) hl3 (by rw [List.length_map]; omega) (R₃.lo c₃ (Nat.le_refl _)) (fun u hu => ?_) ?_
  · obtain ⟨j, hj, rfl⟩ := List.mem_map.mp hu
    have hj2 : V₂.rng j := I'.B.rg.o j ((I'.rch ((hr3 j).mp hj)).1)
    walk_at "mw"
    refine w_itD ?_
    walk_at "mw"
    refine w_itDB A3.L.w.all (kvs_get hj2.1 hj2.2) ?_
    walk_at "mw"
    exact ⟨rfl, rfl⟩
  have es : (ms.map (.int : Int → MV Nm)).map (szOf V₂) = (ms.map V₂.size).map .int := by rw [List.map_map, List.map_map]; rfl
  rw [es]
  have A4 := A3.tmp (.list ((ms.map V₂.size).map .int))
  have T4 := T3.trans (tmpT (κ := κ₂) (c := c₃) (σ := σ₃) (.list ((ms.map V₂.size).map .int)))
  have hl4 : (σ₃.set (.t c₃) (.list ((ms.map V₂.size).map .int))) (.t m) = some (.list (ms.map .int)) := (Sg.set_ne _ _ (tne (Nat.ne_of_lt hm2))).trans hl3
  have hz4 : (σ₃.set (.t c₃) (.list ((ms.map V₂.size).map .int))) (.t c₃) = some (.list ((ms.map V₂.size).map .int)) := Sg.set_self ..
  generalize σ₃.set (.t c₃) (.list ((ms.map V₂.size).map .int)) = σ₄ at *
  have R4 := A4.R
  walk_at "mw"
  refine wv (v_sum hz4 ?_)
  walk_at "mw"
  have hol := I'.B.olen
  refine wv (v_sortedDict E.T (nm := .t (c₃ + 1)) (kvs := objsKV V₂.objs) R4.os (by rw [objs_len]; omega) (R4.lo _ (Nat.le_refl _)) fun ms2 hp hs => ?_)
  have ep : (objsKV V₂.objs).map (·.1) = V₂.objs := by unfold objsKV; rw [List.map_map]; exact List.map_id' _
  rw [ep] at hp
  have e5 : ms2 = ms := sorted_uniq (sorted_lt hs (hp.nodup_iff.mpr I'.B.rg.on)) hs3 fun i => by rw [hp.mem_iff, ho, hr3]
  rw [e5] at hp ⊢
  have A5 := A4.tmp (.list (ms.map .int))
  have T5 := T4.trans (tmpT (κ := κ₂) (c := c₃ + 1) (σ := σ₄) (.list (ms.map .int)))
  have hl5 : (σ₄.set (.t (c₃ + 1)) (.list (ms.map .int))) (.t m) = some (.list (ms.map .int)) := (Sg.set_ne _ _ (tne (by omega))).trans hl4
  have hs5 : (σ₄.set (.t (c₃ + 1)) (.list (ms.map .int))) (.t (c₃ + 1)) = some (.list (ms.map .int)) := Sg.set_self ..
  generalize σ₄.set (.t (c₃ + 1)) (.list (ms.map .int)) = σ₅ at *
  have R5 := A5.R
  walk_at "mw"
  refine w_eciB hs5 hl5 ?_
  have q1 : (false != decide (ms = ms)) = true := by simp
  have er : (ms.map V₂.size).sum = V₂.total := by rw [I'.B.tot]; exact nat_sum_perm hp
  rw [er]
  have q2 : (V₂.total == V₂.total) = true := by simp
  have q3 : (V₂.threshold == 2 * V₂.total) = true := by simp [hth]
  have q4 : (V₂.phase == 0) = true := by simp [ph]
  walk_at "mw"
  rw [q4]
  exact hQ _ _ ⟨rfl, κ₂, _, A5, T5⟩
end

section
variable {E : En P.heap_1} {V : Cy} {κ : Kn} {c : Nat} {σ : Sg Nm} {n : Int} {so : Int → Int} {ed : Int → List Int}

theorem c_stands {k : Nat} (I : Inv ed so all k V) (G : Gd V.n so ed 40) (A : A1 E V so ed κ c σ) :
    Wc E 78 (.ref 416) [.ref (.x 3)] (fun v σ' => v = .bool true ∧ ∃ c', A1 E V so ed κ c' σ' ∧ TO κ c σ κ c' σ') σ := by
  have R := A.R
  refine cps fun Q hQ => ?_
  refine w_defC (x := "world") (cn := [("heap_here", .t c), ("world", .t (c + 1))]) (by k_is) (by k_is) (fun _ => rfl) (by rfl) (by rfl) (by rfl) (by decide) (by simp) (by
    intro p hp
    rcases List.mem_cons.mp hp with e | e
    · rw [e]; exact R.lo c (Nat.le_refl c)
    · rw [List.mem_singleton.mp e]; exact R.lo _ (Nat.le_succ c)) ?_
  show Ws _ _ _ _ _ ((σ.set (.t c) (.cell none)).set (.t (c + 1)) (.cell (some (.ref (.x 3)))))
  have A1' := (A.tmp (.cell none)).tmp (.cell (some (.ref (.x 3))))
  have T1 := (tmpT (κ := κ) (c := c) (σ := σ) (.cell none)).trans (tmpT (.cell (some (.ref (.x 3)))))
  have h1 : ((σ.set (.t c) (.cell none)).set (.t (c + 1)) (.cell (some (.ref (.x 3))))) (.t (c + 1)) = some (.cell (some (.ref (.x 3)))) := Sg.set_self ..
  have g1 : ((σ.set (.t c) (.cell none)).set (.t (c + 1)) (.cell (some (.ref (.x 3))))) (.t c) = some (.cell none) := (Sg.set_ne _ _ (tne (Nat.ne_of_lt (Nat.lt_succ_self c)))).trans (Sg.set_self ..)
  generalize (σ.set (.t c) (.cell none)).set (.t (c + 1)) (.cell (some (.ref (.x 3)))) = σ₁ at *
  have hwd1 := A1'.L.w.wd
  have f0 : c < c + 2 ∧ c ≠ κ.g ∧ c ≠ κ.a ∧ c ≠ κ.w ∧ c ≠ κ.r ∧ c ≠ κ.s := ⟨by omega, R.fr.2⟩
  have f1 : c + 1 < c + 2 ∧ c + 1 ≠ κ.g ∧ c + 1 ≠ κ.a ∧ c + 1 ≠ κ.w ∧ c + 1 ≠ κ.r ∧ c + 1 ≠ κ.s := (R.more (Nat.le_succ c)).fr
  walk_at "mw"
  refine w_asgC (n := .t c) (by rfl) ?_
  walk_at "mw"
  refine w_asgCK g1 ?_
  have A2 : A1 E V so ed κ (c + 2) (σ₁.set (.t c) (.cell (some (.ref .cyc)))) := ⟨A1'.R.put f0 _, A1'.L.keep fun _ => Sg.set_ne _ _ Nm.noConfusion⟩
  have T2 : TO κ c σ κ (c + 2) (σ₁.set (.t c) (.cell (some (.ref .cyc)))) := ⟨T1.le, fun k h0 h1 h2 h3 h4 h5 => (Sg.set_ne _ _ (tne (Nat.ne_of_lt h0))).trans (T1.t k h0 h1 h2 h3 h4 h5), T1.kk⟩
  have h2 : (σ₁.set (.t c) (.cell (some (.ref .cyc)))) (.t (c + 1)) = some (.cell (some (.ref (.x 3)))) := (Sg.set_ne _ _ (tne (Nat.ne_of_gt (Nat.lt_succ_self c)))).trans h1
  have g2 : (σ₁.set (.t c) (.cell (some (.ref .cyc)))) (.t c) = some (.cell (some (.ref .cyc))) := Sg.set_self ..
  generalize σ₁.set (.t c) (.cell (some (.ref .cyc))) = σ₂ at *
  have hwd2 := A2.L.w.wd
  have R2 := A2.R
  walk_at "mw"
  refine w_compI (cells₁ := [("world", .t (c + 1)), ("heap_here", .t c)]) ?_ (cells2s fun _ _ _ _ _ _ _ => rfl)
  walk_at "mw"
  refine k_code (c_reached (n := V.n) G.n1 G.er G.el A2.L.w R2) (by decide) ?_
  rintro _ σ₃ ⟨m, c₃, ms, rfl, hm1, hm2, R₃, O₃, hl3, hs3, hr3⟩
  have A3 : A1 E V so ed κ c₃ σ₃ := ⟨R₃, A2.L.keep O₃.x⟩
  have T3 := T2.trans (O₃.to (c' := c₃) (by omega))
  obtain ⟨e3, f3⟩ := (O₃.to (c' := c₃) (by omega)).at f0
  obtain ⟨e3', f3'⟩ := (O₃.to (c' := c₃) (by omega)).at f1
  have h3 := e3'.trans h2
  have g3 := e3.trans g2
  have hml : ms.length ≤ 13 := by
    have := nodup_len V.n.toNat ms (hs3.imp fun h => Int.ne_of_lt h) fun i hi => by have := I.B.rg.o i ((I.rch ((hr3 i).mp hi)).1); unfold Cy.rng at this; omega
    have := I.B.n13
    omega
  have hwd3 := A3.L.w.wd
  refine ⟨.t m, .t c₃, ms.map .int, fun _ => false, id, rfl, by rw [List.length_map]; omega, hl3, R₃.lo c₃ (Nat.le_refl _), fun u hu => ?_, (fun u hu h => by cases h), ?_⟩
  · obtain ⟨j, hj, rfl⟩ := List.mem_map.mp hu
    have hjo := (I.rch ((hr3 j).mp hj)).1
    have hj2 : V.rng j := I.B.rg.o j hjo
    walk_at "mw"
    refine w_itD ?_
    walk_at "mw"
    refine w_itDB A3.L.w.all (kvs_get hj2.1 hj2.2) ?_
    walk_at "mw"
    refine k_code (c_isKept R₃ hj2) (by show 1 ≤ 77; decide) ?_
    rintro _ _ ⟨rfl, rfl⟩
    rw [decide_eq_true hjo]
    walk_at "mw"
    exact ⟨rfl, rfl⟩
  have en : (((ms.map (.int : Int → MV Nm)).filter fun _ => false).map id) = (([] : List Int).map .int) := by
    rw [List.filter_eq_nil_iff.mpr fun _ _ => by decide]; rfl
  rw [en]
  have A4 := A3.tmp (.list (([] : List Int).map .int))
  have T4 := T3.trans (tmpT (κ := κ) (c := c₃) (σ := σ₃) (.list (([] : List Int).map .int)))
  have l4 : (σ₃.set (.t c₃) (.list (([] : List Int).map .int))) (.t c₃) = some (.list (([] : List Int).map .int)) := Sg.set_self ..
  have g4 : (σ₃.set (.t c₃) (.list (([] : List Int).map .int))) (.t c) = some (.cell (some (.ref .cyc))) := (Sg.set_ne _ _ (tne (by omega))).trans g3
  generalize σ₃.set (.t c₃) (.list (([] : List Int).map .int)) = σ₄ at *
  have R4 := A4.R
  walk_at "mw"
  refine w_listK (n := .t (c₃ + 1)) (R4.lo _ (Nat.le_refl _)) (by decide) ?_
  have A5 := A4.tmp (.list [])
  have T5 := T4.trans (tmpT (κ := κ) (c := c₃ + 1) (σ := σ₄) (.list []))
  have l5 : (σ₄.set (.t (c₃ + 1)) (.list [])) (.t c₃) = some (.list (([] : List Int).map .int)) := (Sg.set_ne _ _ (tne (by omega))).trans l4
  have z5 : (σ₄.set (.t (c₃ + 1)) (.list [])) (.t (c₃ + 1)) = some (.list (([] : List Int).map .int)) := Sg.set_self ..
  have g5 : (σ₄.set (.t (c₃ + 1)) (.list [])) (.t c) = some (.cell (some (.ref .cyc))) := (Sg.set_ne _ _ (tne (by omega))).trans g4
  generalize σ₄.set (.t (c₃ + 1)) (.list []) = σ₅ at *
  have R5 := A5.R
  walk_at "mw"
  refine w_tciB (ns := []) (ms := []) l5 z5 ?_
  have q1 : (true != decide (([] : List Int) = [])) = false := rfl
  rw [q1]
  walk_at "mw"
  refine k_code (c_wrong (lawOf G) I.B.rg rfl A5.L R5 fun h1 i hi h3 j hj => ?_) (by decide) ?_
  · obtain ⟨T, -⟩ := I.p1 h1
    rcases T.t i hi (by omega) with e | e | e | e
    · have := T.ok.gm i (List.mem_append_left _ e); omega
    · have := T.ok.gm i (List.mem_append_right _ e.2); omega
    · exact e.elim
    · exact e j hj
  rintro _ σ₆ ⟨m6, c₆, rfl, h61, h62, R6, O6, l6⟩
  have A6 : A1 E V so ed κ c₆ σ₆ := ⟨R6, A5.L.keep O6.x⟩
  have T6 := T5.trans (O6.to (c' := c₆) (by omega))
  have g6 : σ₆ (.t c) = some (.cell (some (.ref .cyc))) := (O6.t c (by omega) f0.2.1 f0.2.2.1 f0.2.2.2.1 f0.2.2.2.2.1 f0.2.2.2.2.2).trans g5
  walk_at "mw"
  refine w_listK (n := .t c₆) (R6.lo c₆ (Nat.le_refl _)) (by decide) ?_
  have A7 := A6.tmp (.list [])
  have T7 := T6.trans (tmpT (κ := κ) (c := c₆) (σ := σ₆) (.list []))
  have l7 : (σ₆.set (.t c₆) (.list [])) (.t m6) = some (.list (([] : List Int).map .int)) := (Sg.set_ne _ _ (tne (by omega))).trans l6
  have z7 : (σ₆.set (.t c₆) (.list [])) (.t c₆) = some (.list (([] : List Int).map .int)) := Sg.set_self ..
  have g7 : (σ₆.set (.t c₆) (.list [])) (.t c) = some (.cell (some (.ref .cyc))) := (Sg.set_ne _ _ (tne (by omega))).trans g6
  generalize σ₆.set (.t c₆) (.list []) = σ₇ at *
  have R7 := A7.R
  walk_at "mw"
  refine w_eciB l7 z7 ?_
  have q2 : (false != decide (([] : List Int) = [])) = true := rfl
  walk_at "mw"
  refine w_compV ?_
  walk_at "mw"
  refine wv (v_values E.T (nm := .t (c₆ + 1)) (kvs := objsKV V.objs) R7.os (R7.lo _ (Nat.le_refl _)) ?_)
  have A8 := A7.tmp (.view .objs)
  have T8 := T7.trans (tmpT (κ := κ) (c := c₆ + 1) (σ := σ₇) (.view .objs))
  have v8 : (σ₇.set (.t (c₆ + 1)) (.view .objs)) (.t (c₆ + 1)) = some (.view .objs) := Sg.set_self ..
  have g8 : (σ₇.set (.t (c₆ + 1)) (.view .objs)) (.t c) = some (.cell (some (.ref .cyc))) := (Sg.set_ne _ _ (tne (by omega))).trans g7
  generalize σ₇.set (.t (c₆ + 1)) (.view .objs) = σ₈ at *
  have R8 := A8.R
  have hol := I.B.olen
  have ev : (objsKV V.objs).map (·.2) = rf V.objs := by unfold objsKV rf; rw [List.map_map]; rfl
  refine ⟨.t (c₆ + 1), .objs, .t (c₆ + 1 + 1), objsKV V.objs, szOf V, rfl, v8, R8.os, by rw [objs_len]; omega, R8.lo _ (Nat.le_refl _), fun q hq => ?_, ?_⟩
  · rw [ev] at hq
    obtain ⟨j, hj, rfl⟩ := List.mem_map.mp hq
    exact ⟨.ob j, 367, obF V j, rfl, R8.o j (I.B.rg.o j hj), ⟨by k_is, by k_is, by k_is⟩, rfl⟩
  have es : ((objsKV V.objs).map (·.2)).map (szOf V) = (V.objs.map V.size).map .int := by rw [ev]; unfold rf; rw [List.map_map, List.map_map]; rfl
  rw [es]
  have A9 := A8.tmp (.list ((V.objs.map V.size).map .int))
  have T9 := T8.trans (tmpT (κ := κ) (c := c₆ + 1 + 1) (σ := σ₈) (.list ((V.objs.map V.size).map .int)))
  have l9 : (σ₈.set (.t (c₆ + 1 + 1)) (.list ((V.objs.map V.size).map .int))) (.t (c₆ + 1 + 1)) = some (.list ((V.objs.map V.size).map .int)) := Sg.set_self ..
  generalize σ₈.set (.t (c₆ + 1 + 1)) (.list ((V.objs.map V.size).map .int)) = σ₉ at *
  walk_at "mw"
  refine wv (v_sum l9 ?_)
  have et : (V.objs.map V.size).sum = V.total := I.B.tot.symm
  rw [et]
  walk_at "mw"
  have q3 : (V.total == V.total) = true := by simp
  rw [q3]
  exact hQ _ _ ⟨rfl, _, A9, T9⟩
end

section
variable {E : En P.heap_1} {V : Cy} {κ : Kn} {c : Nat} {σ : Sg Nm} {n : Int} {so : Int → Int} {ed : Int → List Int} {k : Nat}

/-- how things stand behind k deeds -/
structure Sx (k : Nat) (V : Cy) (so : Int → Int) (ed : Int → List Int) : Prop where
  I : Inv ed so all k V
  G : Gd V.n so ed 40
  el : ∀ i, (ed i).length ≤ k
  nk : V.n ≤ k + 1
def St {KK : Params → Frag} (E : En KK) (k : Nat) (σ : Sg Nm) : Prop := ∃ V so ed κ c, A1 E V so ed κ c σ ∧ Sx k V so ed

theorem Sx.with {V' : Cy} (S : Sx k V so ed) (I' : Inv ed so all k V') (hn : V'.n = V.n) : Sx (k + 1) V' so ed :=
  ⟨I'.up, by rw [hn]; exact S.G, fun i => Nat.le_succ_of_le (S.el i), by have := S.nk; rw [hn]; omega⟩
theorem Sx.edge {p q : Int} {back : Bool} (S : Sx k V so ed) (hk : k ≤ 11) (hp : Rch ed p) (hq : q ∈ V.objs ∧ V.dead q = false) :
    Gd V.n so (edSet ed p (ed p ++ [q])) 40 ∧ Sx (k + 1) (edgeV (edSet ed p (ed p ++ [q])) so V p q back) so (edSet ed p (ed p ++ [q])) := by
  have hpo := S.I.rch hp
  have hpr := S.I.B.rg.o p hpo.1
  have hqr := S.I.B.rg.o q hq.1
  have el' : ∀ i, (edSet ed p (ed p ++ [q]) i).length ≤ k + 1 := fun i => by
    unfold edSet
    have := S.el i
    have := S.el p
    split
    · rw [List.length_append, List.length_singleton]; omega
    · omega
  have G' : Gd V.n so (edSet ed p (ed p ++ [q])) 40 := ⟨S.G.n1, fun i h1 h2 j hj => by
    unfold edSet at hj
    split at hj
    · rcases List.mem_append.mp hj with e | e
      · exact S.G.er p hpr.1 hpr.2 j e
      · rw [List.mem_singleton.mp e]; exact hqr
    · exact S.G.er i h1 h2 j hj, fun i => Nat.le_trans (el' i) (by omega), fun i h => by unfold edSet; rw [if_neg (by have := hpr.2; omega)]; exact S.G.out i h, S.G.k40, S.G.so1, S.G.s3⟩
  obtain ⟨I', n', -⟩ := S.I.edge (kd' := edSet ed p (ed p ++ [q])) (back := back) G'.er hpo.1 hpo.2 hq.1 hq.2 (fun i h => if_neg h) (if_pos rfl)
  exact ⟨G', I', by rw [n']; exact G', el', by rw [n']; have := S.nk; omega⟩
theorem new_edge {s sz p : Int} {back : Bool} (S : Sx k V so ed) (hk : k ≤ 11) (hs : s = 0 ∨ s = 1) (hz : 0 ≤ sz ∧ sz ≤ 90) (hp : Rch ed p) :
    ed (V.n + 1) = [] ∧ (takeIn V sz).rng p ∧ (takeIn V sz).Ok ∧ Gd (takeIn V sz).n (soNew so V.n s) (edSet ed p (ed p ++ [V.n + 1])) 40 ∧ Sx (k + 1) (edgeV (edSet ed p (ed p ++ [V.n + 1])) (soNew so V.n s) (takeIn V sz) p (V.n + 1) back) (soNew so V.n s) (edSet ed p (ed p ++ [V.n + 1])) := by
  have he : ed (V.n + 1) = [] := S.G.out _ (by omega)
  have hnk := S.nk
  have n1 := S.G.n1
  obtain ⟨I', o', d', dd⟩ := S.I.new (so' := soNew so V.n s) (by omega) hz (fun i hi => by unfold soNew; rw [if_neg (by omega)]) he
  have hpo := S.I.rch hp
  have hpr := S.I.B.rg.o p hpo.1
  have hpo' : p ∈ (takeIn V sz).objs := List.mem_append_left _ hpo.1
  have hpd' : (takeIn V sz).dead p = false := by rw [dd p (by have := hpr.2; omega)]; exact hpo.2
  have el' : ∀ i, (edSet ed p (ed p ++ [V.n + 1]) i).length ≤ k + 1 := fun i => by
    unfold edSet
    have := S.el i
    have := S.el p
    split
    · rw [List.length_append, List.length_singleton]; omega
    · omega
  have G' : Gd (V.n + 1) (soNew so V.n s) (edSet ed p (ed p ++ [V.n + 1])) 40 := ⟨by omega, fun i h1 h2 j hj => by
    unfold edSet at hj
    split at hj
    · rcases List.mem_append.mp hj with e | e
      · have := S.G.er p hpr.1 hpr.2 j e; omega
      · rw [List.mem_singleton.mp e]; omega
    · by_cases z : i = V.n + 1
      · rw [z, he] at hj; cases hj
      · have := S.G.er i h1 (by omega) j hj; omega, fun i => Nat.le_trans (el' i) (by omega), fun i h => by unfold edSet; rw [if_neg (by have := hpr.2; omega)]; exact S.G.out i (by omega), S.G.k40, by unfold soNew; rw [if_neg (by omega)]; exact S.G.so1, fun i => by
      unfold soNew
      split
      · omega
      · exact S.G.s3 i⟩
  obtain ⟨I2, n2, -⟩ := I'.edge (kd' := edSet ed p (ed p ++ [V.n + 1])) (back := back) G'.er hpo' hpd' o' d' (fun i h => if_neg h) (if_pos rfl)
  exact ⟨he, ⟨hpr.1, by show p ≤ V.n + 1; have := hpr.2; omega⟩, I'.ok, G', I2, by rw [n2]; exact G', el', by rw [n2]; show V.n + 1 ≤ _; omega⟩
theorem Sx.cut {p : Int} (S : Sx k V so ed) (hp : V.rng p) (i : Nat) : Sx (k + 1) V so (edSet ed p ((ed p).eraseIdx i)) := by
  have sub : ∀ x, ∀ j ∈ edSet ed p ((ed p).eraseIdx i) x, j ∈ ed x := fun x j hj => by
    unfold edSet at hj
    split at hj
    · rename_i z; rw [z]; exact List.mem_of_mem_eraseIdx hj
    · exact hj
  have el' : ∀ x, (edSet ed p ((ed p).eraseIdx i) x).length ≤ (ed x).length := fun x => by
    unfold edSet
    split
    · rename_i z; rw [z]; exact (List.eraseIdx_sublist _ _).length_le
    · exact Nat.le_refl _
  exact ⟨(S.I.sub sub).up, ⟨S.G.n1, fun x h1 h2 j hj => S.G.er x h1 h2 j (sub x j hj), fun x => Nat.le_trans (el' x) (S.G.el x), fun x h => by unfold edSet; rw [if_neg (by have := hp.2; omega)]; exact S.G.out x h, S.G.k40, S.G.so1, S.G.s3⟩, fun x => Nat.le_trans (el' x) (Nat.le_succ_of_le (S.el x)), by have := S.nk; omega⟩

theorem binV_mod {N : Type} {i j : Int} (h : j ≠ 0) : binV .Mod (.int i : MV N) (.int j) = some (.int (i.fmod j)) := if_pos h
theorem binV_fd {N : Type} {i j : Int} (h : j ≠ 0) (h2 : j.natAbs < 1073741824) : binV .FloorDiv (.int i : MV N) (.int j) = some (.int (i.fdiv j)) := if_pos ⟨h, h2⟩
theorem fmod_rng {i : Int} {j : Nat} (h0 : 0 ≤ i) (hj : 0 < j) : 0 ≤ i.fmod j ∧ i.fmod j < j := by
  rw [Int.fmod_eq_emod_of_nonneg _ (by omega)]
  exact ⟨Int.emod_nonneg _ (by omega), Int.emod_lt_of_pos _ (by omega)⟩
theorem fdiv_nn {i : Int} {j : Nat} (h0 : 0 ≤ i) : 0 ≤ i.fdiv j := by
  rw [Int.fdiv_eq_ediv_of_nonneg _ (by omega)]
  exact Int.ediv_nonneg h0 (by omega)
/-- an item of the list of those that are led to -/
theorem met_get {ms : List Int} {i : Int} (h0 : 0 ≤ i) (h1 : i < ms.length) : ∃ p, p ∈ ms ∧ (ms.map (.int : Int → MV Nm))[i.toNat]? = some (.int p) := by
  have h : i.toNat < ms.length := by omega
  exact ⟨ms[i.toNat], List.getElem_mem h, by rw [List.getElem?_map, List.getElem?_eq_getElem h]; rfl⟩
end

section
variable {E : En P.heap_1} {V : Cy} {κ : Kn} {c : Nat} {σ : Sg Nm} {n : Int} {so : Int → Int} {ed : Int → List Int} {k : Nat}

theorem map_cut {α β : Type} (f : α → β) : ∀ (l : List α) (i : Nat), (l.map f).eraseIdx i = (l.eraseIdx i).map f
  | [], _ => rfl
  | _ :: _, 0 => rfl
  | a :: l, i + 1 => congrArg (f a :: ·) (map_cut f l i)
theorem c_deed (S : Sx k V so ed) (hk : k ≤ 11) (A : A1 E V so ed κ c σ) {num : Int} (h0 : 0 ≤ num) :
    Wc E 79 (.ref 411) [.ref (.x 3), .int num] (fun v σ' => v = .bool true ∧ St E (k + 1) σ') σ := by
  have R := A.R
  have hwd := A.L.w.wd
  have I := S.I
  refine cps fun Q hQ => ?_
  refine w_def (by k_is) (by k_is) (by walk_at "binds") (by rfl) ?_
  refine w_scons (w_nam (ns := ["met", "heap_here"]) ?_)
  walk_at "mw"
  refine k_code (c_reached (n := V.n) S.G.n1 S.G.er S.G.el A.L.w R) (by decide) ?_
  rintro _ σ₁ ⟨m, c₁, ms, rfl, hm1, hm2, R₁, O₁, hl1, hs1, hr1⟩
  have A1' : A1 E V so ed κ c₁ σ₁ := ⟨R₁, A.L.keep O₁.x⟩
  have hwd1 := A1'.L.w.wd
  have hml : ms.length ≤ 13 := by
    have := nodup_len V.n.toNat ms (hs1.imp fun h => Int.ne_of_lt h) fun i hi => by have := I.B.rg.o i ((I.rch ((hr1 i).mp hi)).1); unfold Cy.rng at this; omega
    have := I.B.n13
    omega
  have hm0 : 0 < ms.length := List.length_pos_of_mem ((hr1 1).mpr .root)
  have hkc := R.kc
  have mf : m < c₁ ∧ m ≠ κ.g ∧ m ≠ κ.a ∧ m ≠ κ.w ∧ m ≠ κ.r ∧ m ≠ κ.s := ⟨hm2, by omega, by omega, by omega, by omega, by omega⟩
  walk_at "mw"
  refine w_nam (ns := ["form", "rest"]) ?_
  walk_at "mw"
  have hr0 : 0 ≤ num.fdiv 7 := fdiv_nn (j := 7) h0
  generalize num.fdiv 7 = r at *
  generalize num.fmod 7 = f at *
  clear A hwd O₁ R
  by_cases f0 : f = 0
  · have e0 : (f == 0) = true := by simp [f0]
    walk_at "mw"
    refine w_itL ?_
    walk_at "mw"
    refine w_listK (n := .t c₁) (R₁.lo c₁ (Nat.le_refl _)) (Nat.le_of_ble_eq_true rfl) ?_
    have A2 := A1'.tmp (.list [.int 0, .int 1])
    have T2 := tmpT (κ := κ) (c := c₁) (σ := σ₁) (.list [.int 0, .int 1])
    have l2 : (σ₁.set (.t c₁) (.list [.int 0, .int 1])) (.t c₁) = some (.list [.int 0, .int 1]) := Sg.set_self ..
    generalize σ₁.set (.t c₁) (.list [.int 0, .int 1]) = σ₂ at *
    obtain ⟨s0, s1⟩ := fmod_rng (j := 2) hr0 (by decide)
    walk_at "mw"
    refine w_itLB (v := .int (r.fmod 2)) l2 s0 (by have : r.fmod 2 < 2 := s1; omega) ?_ ?_
    · have h2 : r.fmod 2 = 0 ∨ r.fmod 2 = 1 := by have : r.fmod 2 < 2 := s1; have : 0 ≤ r.fmod 2 := s0; omega
      rcases h2 with h2 | h2 <;> rw [h2] <;> rfl
    walk_at "mw"
    obtain ⟨z0, z1⟩ := fmod_rng (i := r.fdiv 2) (j := 90) (fdiv_nn (j := 2) hr0) (by decide)
    have hs2 : r.fmod 2 = 0 ∨ r.fmod 2 = 1 := by have : r.fmod 2 < 2 := s1; have : 0 ≤ r.fmod 2 := s0; omega
    have hz2 : 0 ≤ 1 + (r.fdiv 2).fmod 90 ∧ 1 + (r.fdiv 2).fmod 90 ≤ 90 := by have : (r.fdiv 2).fmod 90 < 90 := z1; have : 0 ≤ (r.fdiv 2).fmod 90 := z0; omega
    refine k_code (c_new A2 I.B.rg (by have := S.G.n1; omega) (S.G.out _ (by omega))) (by decide) ?_
    rintro _ σ₃ ⟨rfl, A3, T3⟩
    obtain ⟨t3, m3⟩ := (T2.trans T3).at mf
    have hl3 := t3.trans hl1
    have hwd3 := A3.L.w.wd
    walk_at "mw"
    refine w_itL ?_
    walk_at "mw"
    refine wv (e_lenList hl3 (by rw [List.length_map]; omega) ?_)
    rw [List.length_map]
    refine w_binB (binV_mod (by omega)) ?_
    obtain ⟨i0, i1⟩ := fmod_rng (j := ms.length) hr0 hm0
    obtain ⟨p, hpm, hpg⟩ := met_get (ms := ms) i0 i1
    refine w_itLB hl3 i0 (by omega) hpg ?_
    obtain ⟨-, n2, n3, n4, n5⟩ := new_edge (back := (r.fdiv 3).fmod 2 == 0) S hk hs2 hz2 ((hr1 p).mp hpm)
    walk_at "mw"
    refine k_code (c_edge n4 A3 n3.mk' (by have : (takeIn V (1 + (r.fdiv 2).fmod 90)).again = V.again := rfl; have := I.B.al; rw [‹(takeIn V (1 + (r.fdiv 2).fmod 90)).again = V.again›]; omega) (by have := S.el p; omega) n2 ⟨by have := S.G.n1; omega, Int.le_refl _⟩) (by decide) ?_
    rintro _ σ₄ ⟨rfl, κ₄, c₄, A4, -⟩
    walk_at "mw"
    exact hQ _ _ ⟨rfl, _, _, _, κ₄, c₄, A4, n5⟩
  have e0 : (f == 0) = false := by simp [f0]
  walk_at "mw"
  by_cases f1 : f = 1
  · have e1 : (f == 1) = true := by simp [f1]
    walk_at "mw"
    refine w_itL ?_
    walk_at "mw"
    refine wv (e_lenList hl1 (by rw [List.length_map]; omega) ?_)
    rw [List.length_map]
    refine w_binB (binV_mod (by omega)) ?_
    obtain ⟨i0, i1⟩ := fmod_rng (j := ms.length) hr0 hm0
    obtain ⟨p, hpm, hpg⟩ := met_get (ms := ms) i0 i1
    refine w_itLB hl1 i0 (by omega) hpg ?_
    walk_at "mw"
    refine w_itL ?_
    walk_at "mw"
    refine wv (e_lenList hl1 (by rw [List.length_map]; omega) ?_)
    rw [List.length_map]
    refine w_binB (binV_fd (by omega) (by omega)) ?_
    walk_at "mw"
    refine wv (e_lenList hl1 (by rw [List.length_map]; omega) ?_)
    rw [List.length_map]
    refine w_binB (binV_mod (by omega)) ?_
    obtain ⟨j0, j1⟩ := fmod_rng (i := r.fdiv ms.length) (j := ms.length) (fdiv_nn hr0) hm0
    obtain ⟨q, hqm, hqg⟩ := met_get (ms := ms) j0 j1
    refine w_itLB hl1 j0 (by omega) hqg ?_
    walk_at "mw"
    have hp := (hr1 p).mp hpm
    have hq := I.rch ((hr1 q).mp hqm)
    obtain ⟨n4, n5⟩ := S.edge (back := (r.fdiv 5).fmod 2 == 0) hk hp hq
    refine k_code (c_edge n4 A1' I.ok.mk' (by have := I.B.al; omega) (by have := S.el p; omega) (I.B.rg.o p (I.rch hp).1) (I.B.rg.o q hq.1)) (by decide) ?_
    rintro _ σ₄ ⟨rfl, κ₄, c₄, A4, -⟩
    walk_at "mw"
    exact hQ _ _ ⟨rfl, _, _, _, κ₄, c₄, A4, n5⟩
  have e1 : (f == 1) = false := by simp [f1]
  walk_at "mw"
  by_cases f2 : f = 2
  · have e2 : (f == 2) = true := by simp [f2]
    walk_at "mw"
    refine w_itD ?_
    walk_at "mw"
    refine w_itL ?_
    walk_at "mw"
    refine wv (e_lenList hl1 (by rw [List.length_map]; omega) ?_)
    rw [List.length_map]
    refine w_binB (binV_mod (by omega)) ?_
    obtain ⟨i0, i1⟩ := fmod_rng (j := ms.length) hr0 hm0
    obtain ⟨p, hpm, hpg⟩ := met_get (ms := ms) i0 i1
    refine w_itLB hl1 i0 (by omega) hpg ?_
    have hpr : V.rng p := I.B.rg.o p (I.rch ((hr1 p).mp hpm)).1
    have hpl := S.el p
    refine w_itDB A1'.L.w.er (kvs_get hpr.1 hpr.2) ?_
    walk_at "mw"
    refine w_listK (n := .t c₁) (R₁.lo c₁ (Nat.le_refl _)) (Nat.le_of_ble_eq_true rfl) ?_
    have A2 := A1'.tmp (.list [])
    have T2 := tmpT (κ := κ) (c := c₁) (σ := σ₁) (.list [])
    have z2 : (σ₁.set (.t c₁) (.list [])) (.t c₁) = some (.list (([] : List Int).map .int)) := Sg.set_self ..
    have l2 : (σ₁.set (.t c₁) (.list [])) (.t m) = some (.list (ms.map .int)) := (Sg.set_ne _ _ (tne (Nat.ne_of_lt hm2))).trans hl1
    generalize σ₁.set (.t c₁) (.list []) = σ₂ at *
    have e2l := A2.L.w.el p hpr.1 hpr.2
    walk_at "mw"
    refine w_tciB (ns := ed p) (ms := []) e2l z2 ?_
    by_cases hz : ed p = []
    · have y : (true != decide (ed p = [])) = false := by simp [hz]
      rw [y]
      walk_at "mw"
      exact hQ _ _ ⟨rfl, _, _, _, κ, _, A2, S.with I rfl⟩
    · have y : (true != decide (ed p = [])) = true := by simp [hz]
      rw [y]
      have hpos : 0 < (ed p).length := List.length_pos_iff.mpr hz
      walk_at "mw"
      refine wv (e_lenList l2 (by rw [List.length_map]; omega) ?_)
      rw [List.length_map]
      refine w_binB (binV_fd (by omega) (by omega)) ?_
      walk_at "mw"
      refine wv (e_lenList e2l (by rw [List.length_map]; omega) ?_)
      rw [List.length_map]
      refine w_binB (binV_mod (by omega)) ?_
      obtain ⟨j0, j1⟩ := fmod_rng (i := r.fdiv ms.length) (j := (ed p).length) (fdiv_nn hr0) hpos
      obtain ⟨q, -, hqg⟩ := met_get (ms := ed p) j0 j1
      walk_at "mw"
      refine wv (v_popAt e2l (by rw [List.length_map]; omega) j0 hqg ?_)
      have ee : ((ed p).map (.int : Int → MV Nm)).eraseIdx ((r.fdiv ms.length).fmod (ed p).length).toNat = ((ed p).eraseIdx ((r.fdiv ms.length).fmod (ed p).length).toNat).map .int := map_cut _ _ _
      rw [ee]
      walk_at "mw"
      exact hQ _ _ ⟨rfl, _, _, _, κ, _, A2.edTo hpr _, S.cut hpr _⟩
  have e2 : (f == 2) = false := by simp [f2]
  walk_at "mw"
  by_cases f3 : f = 3
  · have e3 : (f == 3) = true := by simp [f3]
    walk_at "mw"
    refine k_code (c_checked I S.G A1') (by decide) ?_
    rintro _ σ₂ ⟨rfl, κ₂, c₂, A2, -⟩
    obtain ⟨I2, n2⟩ := checkC_spec (V := V) S.G.er I
    exact hQ _ _ ⟨rfl, _, _, _, κ₂, c₂, A2, S.with I2 n2⟩
  have e3 : (f == 3) = false := by simp [f3]
  walk_at "mw"
  by_cases f4 : f = 4
  · have e4 : (f == 4) = true := by simp [f4]
    walk_at "mw"
    refine w_range ?_
    walk_at "mw"
    obtain ⟨t0, t1⟩ := fmod_rng (j := 5) hr0 (by decide)
    have hq : r.fmod 5 + 1 = Int.ofNat (r.fmod 5 + 1).toNat := by have : 0 ≤ r.fmod 5 := t0; show _ = (((r.fmod 5 + 1).toNat : Nat) : Int); omega
    rw [hq]
    refine wv (v_range (nm := .t c₁) (R₁.lo c₁ (Nat.le_refl _)) ?_)
    have A2 := A1'.tmp (.range (Int.ofNat (r.fmod 5 + 1).toNat))
    refine w_ranK (n := .t c₁) (fun _ fr σ => fr.lookup ("heap_here" : Str) = some (.ref .cyc) ∧ ∃ V' κ' c', A1 E V' so ed κ' c' σ ∧ Inv ed so all k V' ∧ V'.n = V.n) (r.fmod 5 + 1).toNat (Sg.set_self ..) (by have : r.fmod 5 < 5 := t1; omega) ⟨by rfl, V, κ, _, A2, I, rfl⟩ ?_ ?_
    · rintro i fr' σ' hi ⟨l, V', κ', c', A', I', n'⟩
      have R' := A'.R
      obtain ⟨I2, s2⟩ := step1_spec I' (by rw [n']; exact S.G.er) (fun _ _ _ _ => trivial) trivial
      walk_at "mw"
      refine k_code (c_singleStep (lawOf (by rw [n']; exact S.G)) I'.ok rfl A'.L R') (by decide) ?_
      rintro _ σ₃ ⟨rfl, κ₃, c₃, G₃, R₃⟩
      walk_at "mw"
      exact ⟨(lk_cons (by decide)).trans l, _, κ₃, c₃, A'.next G₃ R₃ s2.n, I2, s2.n.trans n'⟩
    · rintro fr' σ' ⟨l, V', κ', c', A', I', n'⟩
      walk_at "mw"
      exact hQ _ _ ⟨rfl, _, _, _, κ', c', A', S.with I' n'⟩
  have e4 : (f == 4) = false := by simp [f4]
  walk_at "mw"
  by_cases f5 : f = 5
  · have e5 : (f == 5) = true := by simp [f5]
    walk_at "mw"
    refine k_code (c_step (lawOf S.G) I.ok rfl A1'.L R₁) (by decide) ?_
    rintro _ σ₂ ⟨rfl, κ₂, c₂, G₂, R₂⟩
    obtain ⟨I2, r2⟩ := stepC_spec S.G.er (fun _ _ _ _ => trivial) trivial I
    walk_at "mw"
    exact hQ _ _ ⟨rfl, _, _, _, κ₂, c₂, A1'.next G₂ R₂ r2.n, S.with I2 r2.n⟩
  have e5 : (f == 5) = false := by simp [f5]
  walk_at "mw"
  by_cases g0 : r.fmod 4 = 0
  · have q0 : (r.fmod 4 == 0) = true := by simp [g0]
    walk_at "mw"
    refine k_code (c_whole I S.G A1') (by decide) ?_
    rintro _ σ₂ ⟨rfl, κ₂, c₂, A2, -⟩
    obtain ⟨I2, -, -, -, n2, -⟩ := full_spec (V := V) S.G.er I
    exact hQ _ _ ⟨rfl, _, _, _, κ₂, c₂, A2, S.with I2 n2⟩
  have q0 : (r.fmod 4 == 0) = false := by simp [g0]
  walk_at "mw"
  by_cases g1 : r.fmod 4 = 1
  · have q1 : (r.fmod 4 == 1) = true := by simp [g1]
    walk_at "mw"
    refine k_code (c_stop R₁) (by decide) ?_
    rintro _ σ₂ ⟨rfl, O₂, R₂⟩
    have A2 : A1 E { V with threshold := 1000000000000000000 } so ed κ c₁ σ₂ := ⟨R₂, A1'.L.keep O₂.x⟩
    have I2 : Inv ed so all k { V with threshold := 1000000000000000000 } := I.fields _ _ _ _
    have hwd2 := A2.L.w.wd
    walk_at "mw"
    refine k_code (c_checked I2 S.G A2) (by decide) ?_
    rintro _ σ₃ ⟨rfl, κ₃, c₃, A3, -⟩
    have e9 : checkC ed so { V with threshold := 1000000000000000000 } = { V with threshold := 1000000000000000000 } := if_neg (by have := I.B.tot0; show ¬ V.total ≥ 1000000000000000000; omega)
    rw [e9] at A3
    have R3 := A3.R
    have q9 : true = true := rfl
    walk_at "mw"
    exact hQ _ _ ⟨rfl, _, _, _, κ₃, c₃, A3, S.with I2 rfl⟩
  have q1 : (r.fmod 4 == 1) = false := by simp [g1]
  walk_at "mw"
  by_cases g2 : r.fmod 4 = 2
  · have q2 : (r.fmod 4 == 2) = true := by simp [g2]
    walk_at "mw"
    refine k_code (c_restart R₁) (by decide) ?_
    rintro _ σ₂ ⟨rfl, O₂, R₂⟩
    have A2 : A1 E { V with threshold := V.total } so ed κ c₁ σ₂ := ⟨R₂, A1'.L.keep O₂.x⟩
    have I2 : Inv ed so all k { V with threshold := V.total } := I.fields _ _ _ _
    walk_at "mw"
    exact hQ _ _ ⟨by show MV.bool (V.total == V.total) = _; rw [show (V.total == V.total) = true by simp], _, _, _, κ, c₁, A2, S.with I2 rfl⟩
  have q2 : (r.fmod 4 == 2) = false := by simp [g2]
  walk_at "mw"
  refine k_code (c_setPause R₁) (by decide) ?_
  rintro _ σ₂ ⟨rfl, O₂, R₂⟩
  walk_at "mw"
  refine k_code (c_setStepMul R₂) (by decide) ?_
  rintro _ σ₃ ⟨rfl, O₃, R₃⟩
  walk_at "mw"
  refine k_code (c_setPause R₃) (by decide) ?_
  rintro _ σ₄ ⟨rfl, O₄, R₄⟩
  have A4 : A1 E V so ed κ c₁ σ₄ := ⟨R₄, ((A1'.L.keep O₂.x).keep O₃.x).keep O₄.x⟩
  walk_at "mw"
  refine w_listK (n := .t c₁) (R₄.lo c₁ (Nat.le_refl _)) (Nat.le_of_ble_eq_true rfl) ?_
  have A5 := A4.tmp (.list [.int 200, .int 200, .int 200])
  have l5 : (σ₄.set (.t c₁) (.list [.int 200, .int 200, .int 200])) (.t c₁) = some (.list (([200, 200, 200] : List Int).map .int)) := Sg.set_self ..
  generalize σ₄.set (.t c₁) (.list [.int 200, .int 200, .int 200]) = σ₅ at *
  walk_at "mw"
  refine w_listK (n := .t (c₁ + 1)) (A5.R.lo _ (Nat.le_refl _)) (Nat.le_of_ble_eq_true rfl) ?_
  have A6 := A5.tmp (.list [.int 200, .int 200, .int 200])
  have l6 : (σ₅.set (.t (c₁ + 1)) (.list [.int 200, .int 200, .int 200])) (.t c₁) = some (.list (([200, 200, 200] : List Int).map .int)) := (Sg.set_ne _ _ (tne (Nat.ne_of_lt (Nat.lt_succ_self _)))).trans l5
  have z6 : (σ₅.set (.t (c₁ + 1)) (.list [.int 200, .int 200, .int 200])) (.t (c₁ + 1)) = some (.list (([200, 200, 200] : List Int).map .int)) := Sg.set_self ..
  generalize σ₅.set (.t (c₁ + 1)) (.list [.int 200, .int 200, .int 200]) = σ₆ at *
  walk_at "mw"
  refine w_eciB l6 z6 ?_
  exact hQ _ _ ⟨rfl, _, _, _, κ, _, A6, S.with I rfl⟩
end

section
variable {E : En P.heap_1} {V : Cy} {κ : Kn} {c : Nat} {σ : Sg Nm}

theorem c_mksInit {a b : MV Nm} (h1 : σ (.t 1) = none) (h2 : σ (.t 2) = none) (h3 : σ (.t 3) = none) :
    Wc E 1 (.ref 42) [.ref .mks, a, b] (fun v σ' => v = .none ∧ σ' .mks = some (.inst 136 [("children", a), ("sort_of", b), ("white", .int 0), ("grey", .ref (.t 1)), ("grey_again", .ref (.t 2)), ("weak", .ref (.t 3))]) ∧
      σ' (.t 1) = some (.list []) ∧ σ' (.t 2) = some (.list []) ∧ σ' (.t 3) = some (.list []) ∧ ∀ k, k ≠ .mks → k ≠ .t 1 → k ≠ .t 2 → k ≠ .t 3 → σ' k = σ k) (σ.set .mks (.inst 136 [])) := by
  refine cps fun Q hQ => ?_
  refine w_def (by k_is) (by k_is) (by walk_at "binds") (by rfl) ?_
  walk_at "mw"
  rw [Sg.set_set, Sg.set_set, Sg.set_set]
  refine w_listK (n := .t 1) ((Sg.set_ne _ _ Nm.noConfusion).trans h1) (by decide) ?_
  walk_at "mw"
  refine w_listK (n := .t 2) ((Sg.set_ne _ _ Nm.noConfusion).trans ((Sg.set_ne _ _ (tne (by decide))).trans ((Sg.set_ne _ _ Nm.noConfusion).trans h2))) (by decide) ?_
  walk_at "mw"
  refine w_listK (n := .t 3) ((Sg.set_ne _ _ Nm.noConfusion).trans ((Sg.set_ne _ _ (tne (by decide))).trans ((Sg.set_ne _ _ Nm.noConfusion).trans ((Sg.set_ne _ _ (tne (by decide))).trans ((Sg.set_ne _ _ Nm.noConfusion).trans h3))))) (by decide) ?_
  walk_at "mw"
  refine hQ _ _ ⟨rfl, Sg.set_self .., ?_, ?_, ?_, ?_⟩
  · exact (Sg.set_ne _ _ Nm.noConfusion).trans ((Sg.set_ne _ _ (tne (by decide))).trans ((Sg.set_ne _ _ Nm.noConfusion).trans ((Sg.set_ne _ _ (tne (by decide))).trans ((Sg.set_ne _ _ Nm.noConfusion).trans (Sg.set_self ..)))))
  · exact (Sg.set_ne _ _ Nm.noConfusion).trans ((Sg.set_ne _ _ (tne (by decide))).trans ((Sg.set_ne _ _ Nm.noConfusion).trans (Sg.set_self ..)))
  · exact (Sg.set_ne _ _ Nm.noConfusion).trans (Sg.set_self ..)
  · intro k a1 a2 a3 a4
    exact (Sg.set_ne _ _ a1).trans ((Sg.set_ne _ _ a4).trans ((Sg.set_ne _ _ a1).trans ((Sg.set_ne _ _ a3).trans ((Sg.set_ne _ _ a1).trans ((Sg.set_ne _ _ a2).trans (Sg.set_ne _ _ a1))))))

def κ0 : Kn := { r := 0, g := 1, a := 2, w := 3, s := 4 }
def V1 : Cy := { n := 0, mark := fun _ => 0, size := fun _ => 0, objs := [], white := 0, grey := [], again := [], root := [], phase := 0, swp := [], total := 0, estimate := 0, debt := 0, smax := 16, threshold := 256, cycles := 0 }

theorem c_cycInit (ho : σ .objs = none) (hm : σ .mks = none) (ht : ∀ k, k < 5 → σ (.t k) = none) :
    Wc E 4 (.ref 182) [.ref .cyc, .ref (.x 0), .ref (.x 1)] (fun v σ' => v = .none ∧ σ' .cyc = some (.inst 346 (cycF V1 κ0)) ∧ σ' .mks = some (.inst 136 (mksF V1 κ0)) ∧ σ' .objs = some (.idict []) ∧
      (∀ k, k < 5 → σ' (.t k) = some (.list [])) ∧ ∀ k, k ≠ .cyc → k ≠ .mks → k ≠ .objs → (∀ i, i < 5 → k ≠ .t i) → σ' k = σ k) (σ.set .cyc (.inst 346 [])) := by
  refine cps fun Q hQ => ?_
  refine w_def (by k_is) (by k_is) (by walk_at "binds") (by rfl) ?_
  walk_at "mw"
  refine w_dict0 (n := .objs) ((Sg.set_ne _ _ Nm.noConfusion).trans ho) ?_
  walk_at "mw"
  rw [Sg.set_comm _ _ _ Nm.noConfusion, Sg.set_set]
  have a1 : ((σ.set .cyc (.inst 346 (fset "objects" (.ref .objs) []))).set .objs (.idict [])) .cyc = some (.inst 346 [("objects", .ref .objs)]) := (Sg.set_ne _ _ Nm.noConfusion).trans (Sg.set_self ..)
  have a2 : ((σ.set .cyc (.inst 346 (fset "objects" (.ref .objs) []))).set .objs (.idict [])) .objs = some (.idict []) := Sg.set_self ..
  have a3 : ∀ k, k ≠ .cyc → k ≠ .objs → ((σ.set .cyc (.inst 346 (fset "objects" (.ref .objs) []))).set .objs (.idict [])) k = σ k := fun k h1 h2 => (Sg.set_ne _ _ h2).trans (Sg.set_ne _ _ h1)
  generalize (σ.set .cyc (.inst 346 (fset "objects" (.ref .objs) []))).set .objs (.idict []) = σa at *
  have f1 : ∀ k, k < 5 → σa (.t k) = none := fun k hk => (a3 _ Nm.noConfusion Nm.noConfusion).trans (ht k hk)
  refine wv (v_class E.T (n := .mks) (n₀ := .cyc) (by k_is) (by k_is) (by k_is) ((a3 _ Nm.noConfusion Nm.noConfusion).trans hm) (by rw [a1]; simp) (Wc.o (Wc.imp (c_mksInit (f1 1 (by decide)) (f1 2 (by decide)) (f1 3 (by decide))) (by decide) ?_)))
  rintro _ σ₁ ⟨rfl, m1, m2, m3, m4, m5⟩
  refine ⟨rfl, ?_⟩
  have b1 := (m5 .cyc Nm.noConfusion Nm.noConfusion Nm.noConfusion Nm.noConfusion).trans a1
  have b0 := (m5 (.t 0) Nm.noConfusion (tne (by decide)) (tne (by decide)) (tne (by decide))).trans (f1 0 (by decide))
  have b4 := (m5 (.t 4) Nm.noConfusion (tne (by decide)) (tne (by decide)) (tne (by decide))).trans (f1 4 (by decide))
  walk_at "mw"
  refine w_listK (n := .t 0) ((Sg.set_ne _ _ Nm.noConfusion).trans b0) (by decide) ?_
  walk_at "mw"
  rw [Sg.set_set]
  refine w_listK (n := .t 4) ((Sg.set_ne _ _ Nm.noConfusion).trans ((Sg.set_ne _ _ (tne (by decide))).trans ((Sg.set_ne _ _ Nm.noConfusion).trans b4))) (by decide) ?_
  walk_at "mw"
  iterate 9 rw [Sg.set_set]
  refine hQ _ _ ⟨rfl, Sg.set_self .., ?_, ?_, ?_, ?_⟩
  · exact (Sg.set_ne _ _ Nm.noConfusion).trans ((Sg.set_ne _ _ Nm.noConfusion).trans ((Sg.set_ne _ _ Nm.noConfusion).trans ((Sg.set_ne _ _ Nm.noConfusion).trans ((Sg.set_ne _ _ Nm.noConfusion).trans m1))))
  · exact (Sg.set_ne _ _ Nm.noConfusion).trans ((Sg.set_ne _ _ Nm.noConfusion).trans ((Sg.set_ne _ _ Nm.noConfusion).trans ((Sg.set_ne _ _ Nm.noConfusion).trans ((Sg.set_ne _ _ Nm.noConfusion).trans ((m5 _ Nm.noConfusion Nm.noConfusion Nm.noConfusion Nm.noConfusion).trans a2)))))
  · intro k hk
    match k, hk with
    | 0, _ => exact (Sg.set_ne _ _ Nm.noConfusion).trans ((Sg.set_ne _ _ (tne (by decide))).trans ((Sg.set_ne _ _ Nm.noConfusion).trans (Sg.set_self ..)))
    | 1, _ => exact (Sg.set_ne _ _ Nm.noConfusion).trans ((Sg.set_ne _ _ (tne (by decide))).trans ((Sg.set_ne _ _ Nm.noConfusion).trans ((Sg.set_ne _ _ (tne (by decide))).trans ((Sg.set_ne _ _ Nm.noConfusion).trans m2))))
    | 2, _ => exact (Sg.set_ne _ _ Nm.noConfusion).trans ((Sg.set_ne _ _ (tne (by decide))).trans ((Sg.set_ne _ _ Nm.noConfusion).trans ((Sg.set_ne _ _ (tne (by decide))).trans ((Sg.set_ne _ _ Nm.noConfusion).trans m3))))
    | 3, _ => exact (Sg.set_ne _ _ Nm.noConfusion).trans ((Sg.set_ne _ _ (tne (by decide))).trans ((Sg.set_ne _ _ Nm.noConfusion).trans ((Sg.set_ne _ _ (tne (by decide))).trans ((Sg.set_ne _ _ Nm.noConfusion).trans m4))))
    | 4, _ => exact (Sg.set_ne _ _ Nm.noConfusion).trans (Sg.set_self ..)
  · intro k h1 h2 h3 h4
    exact (Sg.set_ne _ _ h1).trans ((Sg.set_ne _ _ (h4 4 (by decide))).trans ((Sg.set_ne _ _ h1).trans ((Sg.set_ne _ _ (h4 0 (by decide))).trans ((Sg.set_ne _ _ h1).trans ((m5 k h2 (h4 1 (by decide)) (h4 2 (by decide)) (h4 3 (by decide))).trans (a3 k h1 h3))))))

end

section
variable {E : En P.heap_1} {V : Cy} {κ : Kn} {c : Nat} {σ : Sg Nm} {n : Int} {so : Int → Int} {ed : Int → List Int} {k : Nat}

def OnLaw (P : Stmt → List Stmt → Scope → Prop) (o : Obj) : Prop :=
  match o.data with
  | .func f => match f.body with
    | .stmts (_ :: _ :: _ :: s3 :: rest) => P s3 rest f.scope
    | _ => False
  | _ => False

def V0 : Cy := { takeIn V1 3 with root := [1] }
def so0 : Int → Int := soNew (fun _ => 0) 0 3
def ed0 : Int → List Int := fun _ => []
theorem one_of {i : Int} (h : i ∈ [(1 : Int)]) : 1 ≤ i ∧ i ≤ 1 := by rw [List.mem_singleton.mp h]; decide
theorem inv0 : Inv ed0 so0 all 0 V0 where
  B := ⟨⟨by decide, by decide, (fun i h => by cases h), (fun i h => by cases h), fun i h => one_of h, by decide, fun i h => one_of h, by decide, by decide⟩, by decide, rfl, .inl rfl, rfl, by decide, Nat.zero_le _, rfl, fun i => by
    show 0 ≤ (if i = 0 + 1 then (3 : Int) else 0) ∧ (if i = 0 + 1 then (3 : Int) else 0) ≤ 90
    split <;> decide⟩
  m4 := fun i h => by rw [List.mem_singleton.mp h]; exact .inl rfl
  one := ⟨.head _, rfl⟩
  cl := fun i h _ j hj => by cases hj
  ph := .inl rfl
  p0 := fun _ i h => by rw [List.mem_singleton.mp h]; rfl
  p1 := fun h => by cases h
  p2 := fun h => by cases h
  p3 := fun h => by cases h
theorem sx0 : Sx 0 V0 so0 ed0 := ⟨inv0, ⟨by decide, (fun i _ _ j hj => by cases hj), fun i => Nat.zero_le _, fun i _ => rfl, by decide, rfl, fun i => by
  show (if i = 0 + 1 then (3 : Int) else 0) = 0 ∨ (if i = 0 + 1 then (3 : Int) else 0) = 1 ∨ (if i = 0 + 1 then (3 : Int) else 0) = 3
  split <;> simp⟩, fun i => Nat.zero_le _, by decide⟩
def sgP (p0 : Arguments) (b0 : List Stmt) (c0 : Scope) (p1 : Arguments) (b1 : List Stmt) (c1 : Scope) : Sg Nm
  | .x 0 => some (.clo p0 b0 c0 [("world", .x 2)])
  | .x 1 => some (.clo p1 b1 c1 [("world", .x 2)])
  | .x 2 => some (.cell (some (.ref (.x 3))))
  | .x 3 => some (.sdict [("all", .ref (.x 4)), ("sorts", .ref (.x 5)), ("edges", .ref (.x 6))])
  | .x 4 => some (.idict [])
  | .x 5 => some (.idict [])
  | .x 6 => some (.idict [])
  | _ => none

theorem law_body {o : Obj} (h : (P.heap_1 E.w.params).lookup 423 = some o) {p0 b0 c0 p1 b1 c1} (h0 : LedOk E p0 b0 c0) (h1 : HowOk E p1 b1 c1) {ad : Addr} {us : List Value} (hb : E.hB.IsList ad us.toArray) (hl : us.length ≤ 1000) (hu : ∀ u ∈ us, ∃ j t, u = .int j t)
    {fr : LF Nm} (l0 : fr.lookup ("script" : Str) = some (.val (.ref ad))) (l1 : fr.lookup ("led_to" : Str) = some (.ref (.x 0))) (l2 : fr.lookup ("sort_here" : Str) = some (.ref (.x 1))) {Qn : FQ} {Qr : VQ} (hQ : ∀ σ', Qr (.bool true) σ') :
    OnLaw (fun s3 rest S => Wx ⟨E, S, 79, [("world", .x 2)]⟩ s3 fr (SeqK ⟨E, S, 79, [("world", .x 2)]⟩ rest Qn Qr) Qr (sgP p0 b0 c0 p1 b1 c1)) o := by
  have e := Option.some.inj (Eq.trans (Eq.symm (by k_is)) h)
  subst e
  show Wx _ _ _ _ _ _
  walk_at "mw"
  refine wv (v_class E.T (n := .cyc) (n₀ := .x 2) (by k_is) (by k_is) (by k_is) rfl (fun z => by cases z) (Wc.o (Wc.imp (c_cycInit rfl rfl (fun k hk => by match k, hk with | 0, _ => rfl | 1, _ => rfl | 2, _ => rfl | 3, _ => rfl | 4, _ => rfl)) (by decide) ?_)))
  rintro _ σ₁ ⟨rfl, y1, y2, y3, y4, y5⟩
  refine ⟨rfl, ?_⟩
  have hx : ∀ i, σ₁ (.x i) = sgP p0 b0 c0 p1 b1 c1 (.x i) := fun i => y5 _ Nm.noConfusion Nm.noConfusion Nm.noConfusion fun _ _ => Nm.noConfusion
  have ht : ∀ k, 5 ≤ k → σ₁ (.t k) = sgP p0 b0 c0 p1 b1 c1 (.t k) := fun k hk => y5 _ Nm.noConfusion Nm.noConfusion Nm.noConfusion fun i hi => tne (Nat.ne_of_gt (Nat.lt_of_lt_of_le hi hk))
  have ho : ∀ i, σ₁ (.ob i) = none := fun i => y5 _ Nm.noConfusion Nm.noConfusion Nm.noConfusion fun _ _ => Nm.noConfusion
  have hwc : σ₁ (.x 2) = some (.cell (some (.ref (.x 3)))) := hx 2
  have hwd : σ₁ (.x 3) = some (.sdict [("all", .ref (.x 4)), ("sorts", .ref (.x 5)), ("edges", .ref (.x 6))]) := hx 3
  walk_at "mw"
  have A0 : A1 E V1 (fun _ => 0) ed0 κ0 5 (σ₁.set (.x 3) (.sdict wd1)) := {
    R := ⟨(Sg.set_ne _ _ Nm.noConfusion).trans y1, (Sg.set_ne _ _ Nm.noConfusion).trans y2, (Sg.set_ne _ _ Nm.noConfusion).trans (y4 1 (by decide)), (Sg.set_ne _ _ Nm.noConfusion).trans (y4 2 (by decide)), (Sg.set_ne _ _ Nm.noConfusion).trans (y4 3 (by decide)),
      (Sg.set_ne _ _ Nm.noConfusion).trans (y4 0 (by decide)), (Sg.set_ne _ _ Nm.noConfusion).trans (y4 4 (by decide)), (Sg.set_ne _ _ Nm.noConfusion).trans y3, fun i hi => absurd (Int.le_trans hi.1 hi.2) (by decide), fun i _ => (Sg.set_ne _ _ Nm.noConfusion).trans (ho i),
      fun k hk => (Sg.set_ne _ _ Nm.noConfusion).trans ((ht k hk).trans (by match k, hk with | k + 5, _ => rfl)), by decide, by decide⟩
    L := ⟨(Sg.set_ne _ _ (xne (by decide))).trans hwc, ⟨Sg.set_self .., (Sg.set_ne _ _ (xne (by decide))).trans (hx 4), (Sg.set_ne _ _ (xne (by decide))).trans (hx 5), (Sg.set_ne _ _ (xne (by decide))).trans (hx 6), fun i h1 h2 => absurd (Int.le_trans h1 h2) (by decide), fun i h => (Sg.set_ne _ _ (edNx (by decide))).trans ((hx _).trans (by
      have e : 9 + i.toNat = (2 + i.toNat) + 7 := by omega
      rw [e]; rfl))⟩, ⟨_, _, _, (Sg.set_ne _ _ (xne (by decide))).trans (hx 0), h0⟩, ⟨_, _, _, (Sg.set_ne _ _ (xne (by decide))).trans (hx 1), h1⟩⟩ }
  refine k_code (c_new (s := 3) (sz := 3) A0 ⟨by decide, by decide, (fun i h => by cases h), (fun i h => by cases h), (fun i h => by cases h), by decide, (fun i h => by cases h), .nil, by decide⟩ (by decide) rfl) (by decide) ?_
  rintro _ σ₂ ⟨-, A1', -⟩
  have R1 := A1'.R
  have hwc2 := A1'.L.wc
  have hwd2 := A1'.L.w.wd
  walk_at "mw"
  refine w_itD ?_
  walk_at "mw"
  refine w_itDB A1'.L.w.all (kvs_get (by decide) (by decide)) ?_
  walk_at "mw"
  refine w_listK (n := .t 5) (R1.lo _ (Nat.le_refl _)) (by decide) ?_
  walk_at "mw"
  have R3 := (R1.tmp (.list (rf [1]))).cycTo V0 { κ0 with r := 5 } ⟨rfl, rfl, rfl, rfl⟩ rfl rfl rfl rfl rfl rfl (Sg.set_self ..) (R1.tmp (.list (rf [1]))).sw (by decide) (by decide)
  have A3 : A1 E V0 so0 ed0 { κ0 with r := 5 } 6 ((σ₂.set (.t 5) (.list (rf [1]))).set .cyc (.inst 346 (cycF V0 { κ0 with r := 5 }))) := ⟨R3, A1'.L.keep fun _ => (Sg.set_ne _ _ Nm.noConfusion).trans (Sg.set_ne _ _ Nm.noConfusion)⟩
  have S3 : St E 0 ((σ₂.set (.t 5) (.list (rf [1]))).set .cyc (.inst 346 (cycF V0 { κ0 with r := 5 }))) := ⟨V0, so0, ed0, _, _, A3, sx0⟩
  refine w_fs (by decide) (w_local l0 (w_fsK (fun k fr σ => St E k σ) hb hl hu S3 ?_ ?_))
  · rintro k j fr σ hk ⟨V, so, ed, κ, c, A, S⟩
    have hk12 : k < 12 := hk
    have hwc := A.L.wc
    walk_at "mw"
    refine wv (v_abs ?_)
    walk_at "mw"
    refine k_code (c_deed S (by omega) A (Int.natCast_nonneg _)) (by decide) ?_
    rintro _ σ' ⟨rfl, V', so', ed', κ', c', A', S'⟩
    have hwc' := A'.L.wc
    walk_at "mw"
    refine k_code (c_stands S'.I S'.G A') (by decide) ?_
    rintro _ σ'' ⟨rfl, c'', A'', -⟩
    walk_at "mw"
    exact ⟨V', so', ed', κ', c'', A'', S'⟩
  · rintro k fr σ hk ⟨V, so, ed, κ, c, A, S⟩
    have hwc := A.L.wc
    have hwd := A.L.w.wd
    have R := A.R
    refine w_seq (w_scons (w_nam (ns := ["ended", "turns"]) ?_))
    walk_at "mw"
    refine w_while (fun N fr σ => ∃ (t : Nat) (V' : Cy) (κ' : Kn) (c' : Nat), A1 E V' so ed κ' c' σ ∧ FJ ed so k (V.cycles + 2) t V' ∧ V'.n = V.n ∧ t + N = 40 ∧ fr.lookup ("ended" : Str) = some (.int (V.cycles + 2)) ∧ fr.lookup ("turns" : Str) = some (.int t)) ?_ 40 ⟨0, V, κ, c, A, FJ.start S.I, rfl, rfl, by rfl, by rfl⟩
    rintro N fr' σ' ⟨t, V', κ', c', A', F, n', ht, l3, l4⟩
    have R' := A'.R
    have hwc' := A'.L.wc
    have hwd' := A'.L.w.wd
    have G' : Gd V'.n so ed 40 := by rw [n']; exact S.G
    walk_at "mw"
    by_cases hg : V'.cycles < V.cycles + 2 ∧ t < 40
    · have q1 : decide (V'.cycles < V.cycles + 2) = true := by simpa using hg.1
      have q2 : decide ((t : Int) < 40) = true := by have := hg.2; simp; omega
      obtain ⟨F2, n2, -⟩ := F.next G'.er hg.1
      walk_at "mw"
      refine k_code (c_step (lawOf G') F.inv.ok rfl A'.L R') (by decide) ?_
      rintro _ σ₂ ⟨rfl, κ₂, c₂, G₂, R₂⟩
      have A2 := A'.next G₂ R₂ n2
      walk_at "mw"
      cases N with
      | zero => omega
      | succ N => exact w_less (Nat.lt_succ_self N) ⟨t + 1, _, κ₂, c₂, A2, F2, n2.trans n', by omega, (lk_cons (by decide)).trans l3, by rfl⟩
    · obtain ⟨d1, d2⟩ := F.done hg
      have q1 : decide (V'.cycles < V.cycles + 2) = false := by simpa using d1
      have I' := F.inv
      have hol := I'.B.olen
      walk_at "mw"
      refine wv (v_sortedDict E.T (nm := .t c') (kvs := objsKV V'.objs) R'.os (by rw [objs_len]; omega) (R'.lo _ (Nat.le_refl _)) fun ms2 hp hs => ?_)
      have ep : (objsKV V'.objs).map (·.1) = V'.objs := by unfold objsKV; rw [List.map_map]; exact List.map_id' _
      rw [ep] at hp
      have A2 := A'.tmp (.list (ms2.map .int))
      have b2 : (σ'.set (.t c') (.list (ms2.map .int))) (.t c') = some (.list (ms2.map .int)) := Sg.set_self ..
      have f2 := R'.fr
      generalize σ'.set (.t c') (.list (ms2.map .int)) = σ₂ at *
      have R2 := A2.R
      have hwc2 := A2.L.wc
      have hwd2 := A2.L.w.wd
      walk_at "mw"
      refine k_code (c_reached (n := V'.n) G'.n1 G'.er G'.el A2.L.w R2) (by decide) ?_
      rintro _ σ₃ ⟨m, c₃, ms, rfl, hm1, hm2, R₃, O₃, hl3, hs3, hr3⟩
      have A3 : A1 E V' so ed κ' c₃ σ₃ := ⟨R₃, A2.L.keep O₃.x⟩
      have b3 : σ₃ (.t c') = some (.list (ms2.map .int)) := (O₃.t c' f2.1 f2.2.1 f2.2.2.1 f2.2.2.2.1 f2.2.2.2.2.1 f2.2.2.2.2.2).trans b2
      refine w_tciB b3 hl3 ?_
      have e5 : ms2 = ms := sorted_uniq (sorted_lt hs (hp.nodup_iff.mpr I'.B.rg.on)) hs3 fun i => by rw [hp.mem_iff, d2, hr3]
      have q3 : (true != decide (ms2 = ms)) = false := by rw [decide_eq_true e5]; rfl
      have hwc3 := A3.L.wc
      walk_at "mw"
      refine k_code (c_whole I' G' A3) (by decide) ?_
      rintro _ σ₄ ⟨rfl, κ₄, c₄, A4, -⟩
      obtain ⟨I4, -, -, -, n4, -⟩ := full_spec (V := V') G'.er I'
      have hwc4 := A4.L.wc
      walk_at "mw"
      refine k_code (c_stands I4 (by rw [n4]; exact G') A4) (by decide) ?_
      rintro _ σ₅ ⟨rfl, c₅, A5, -⟩
      exact hQ _
end

section
variable {prog : Program} {w : World} {hB : Heap} {mg mb : Str → Option Value}
theorem newsCons {h : Heap} {L : Addr} {p : Addr × Obj} {l : List (Addr × Obj)} (N : News hB L h (p :: l)) : (h.get? p.1 = some p.2 ∧ p.1 ≠ L ∧ hB.get? p.1 = none) ∧ News hB L h l :=
  ⟨N p (.head _), fun q hq => N q (.tail _ hq)⟩

theorem lookup_inj {α : Type} [BEq α] [LawfulBEq α] {l : List (α × Addr)} (hn : (l.map (·.2)).Nodup) {a b : α} {x : Addr} (ha : l.lookup a = some x) (hb : l.lookup b = some x) : a = b := by
  induction l with
  | nil => cases ha
  | cons p r ih =>
    obtain ⟨p1, p2⟩ := p
    obtain ⟨n1, n2⟩ := List.nodup_cons.mp hn
    have key : ∀ c, r.lookup c = some x → x ∈ r.map (·.2) := fun c hc => by
      clear ih hn n1 n2 ha hb
      induction r with
      | nil => cases hc
      | cons q r ih =>
        obtain ⟨q1, q2⟩ := q
        rw [List.lookup_cons] at hc
        split at hc
        · cases hc; exact .head _
        · exact .tail _ (ih hc)
    rw [List.lookup_cons] at ha hb
    split at ha
    · rename_i e1
      cases ha
      split at hb
      · rename_i e2
        exact (eq_of_beq e1).trans (eq_of_beq e2).symm
      · exact absurd (key b hb) n1
    · split at hb
      · cases hb
        exact absurd (key a ha) n1
      · exact ih n2 ha hb
theorem lookup_all {α β : Type} [BEq α] [LawfulBEq α] {P : α → β → Prop} {l : List (α × β)} (h : ∀ p ∈ l, P p.1 p.2) {a : α} {x : β} (ha : l.lookup a = some x) : P a x := by
  induction l with
  | nil => cases ha
  | cons p r ih =>
    obtain ⟨p1, p2⟩ := p
    rw [List.lookup_cons] at ha
    split at ha
    · rename_i e1
      cases ha
      rw [eq_of_beq e1]; exact h _ (.head _)
    · exact ih (fun q hq => h q (.tail _ hq)) ha

def desc : List Nat → Prop
  | a :: b :: r => b < a ∧ desc (b :: r)
  | _ => True
theorem desc_lt : ∀ {l : List Nat} {a : Nat}, desc (a :: l) → ∀ b ∈ l, b < a
  | c :: l, a, h, b, hb => by
    rcases List.mem_cons.mp hb with q | q
    · rw [q]; exact h.1
    · exact Nat.lt_trans (desc_lt h.2 b q) h.1
theorem desc_nd : ∀ {l : List Nat}, desc l → l.Nodup
  | [], _ => .nil
  | [a], _ => by simp
  | a :: b :: l, h => List.nodup_cons.mpr ⟨fun hm => Nat.lt_irrefl _ (desc_lt h a hm), desc_nd h.2⟩

abbrev rlP (f0 c0 f1 c1 d1 d2 d3 dW ce : Nat) : List ((Nm × Bool) × Nat) :=
  [((.x 1, false), f0), ((.x 1, true), c0), ((.x 0, false), f1), ((.x 0, true), c1), ((.x 6, false), d1), ((.x 5, false), d2), ((.x 4, false), d3), ((.x 3, false), dW), ((.x 2, false), ce)]

theorem joinP (T : Stat (P.heap_1 w.params) mg mb hB) {oc : Value} {od : Option Addr} {osl} {a1 a2 a3 s0 nm0 p0 b0 dl0 rt0 tp0 sc0 ts0 bd0 ps0 nm1 p1 b1 dl1 rt1 tp1 sc1 ts1 bd1 ps1 s3 rest a5 a6 a7 a8 a9 a10 a11 a12}
    (h423 : (P.heap_1 w.params).lookup 423 = some ⟨oc, od, .func (fnOf a1 a2 a3 (s0 :: .FunctionDef nm0 p0 b0 dl0 rt0 tp0 sc0 ts0 bd0 ps0 :: .FunctionDef nm1 p1 b1 dl1 rt1 tp1 sc1 ts1 bd1 ps1 :: s3 :: rest) a5 a6 a7 a8 a9 a10 a11 a12), osl⟩)
    {A : Around} (hr : Room A 79) {s : Shared} {L : Nat} {m : Str → Option Value} (F : Fr hB L s.heap m)
    {f0 c0 f1 c1 d1 d2 d3 dW : Nat}
    {oc0 oc1 o1 o2 o3 oW oce : Obj} {n0 n1 q0 q1 : Str} {doc0 doc1 pm0 pm1 ct0 ct1 : Value} {vs0 vs1 : Array Value} {tq0 tq1 : Tok} {tabs : Array Value}
    (N : News hB L s.heap
      [(f0, fnMade n0 q0 p1 b1 sc1 [("world", L + 1)] doc0 pm0 c0 ct0), (c0, oc0), (f1, fnMade n1 q1 p0 b0 sc0 [("world", L + 1)] doc1 pm1 c1 ct1), (c1, oc1), (d1, o1), (d2, o2), (d3, o3), (dW, oW), (L + 1, oce), (418, tabObj tabs)])
    (hoW : Obj.IsDictOf (PySem.strKind prog w) oW [("all", .ref d3), ("sorts", .ref d2), ("edges", .ref d1)])
    (ho1 : Obj.IsDictOf (intKind prog w) o1 []) (ho2 : Obj.IsDictOf (intKind prog w) o2 []) (ho3 : Obj.IsDictOf (intKind prog w) o3 [])
    (hoce : oce.data = .cell (some (.ref dW))) (hc0 : oc0.data = .fields vs0) (hv0 : vs0[1]? = some (.str q0 tq0)) (hc1 : oc1.data = .fields vs1) (hv1 : vs1[1]? = some (.str q1 tq1))
    (i15 : c0 < f0) (i16 : f1 < c0) (i17 : c1 < f1) (i18 : d1 < c1) (i19 : d2 < d1) (i20 : d3 < d2) (i21 : dW < d3) (i24 : L + 1 < dW) (i25 : 418 < L)
    {ad : Addr} {us : List Value} (hb : hB.IsList ad us.toArray) (hl : us.length ≤ 1000) (hu : ∀ u ∈ us, ∃ j t, u = .int j t)
    (m0 : m "script" = some (.ref ad)) (m1 : m "led_to" = some (.ref f1)) (m2 : m "sort_here" = some (.ref f0))
    {q : Str} {f : Option Addr} {cd : Value} {frm : Option Addr} {Qf : Flow → Shared → Prop} {Ef : Value → Shared → Prop} {Qc : Flow → Shared → Prop}
    (hnext : ∀ s', wpAny (model prog w) A (execs rest (mkEnv a5 L [("world", L + 1)] q f cd frm)) Qf Ef s' → Qc .next s')
    (hret : ∀ v s', Qf (.ret v) s' → Qc (.ret v) s')
    (hend : ∀ h' tk m', Fr hB L h' m' → GrownAll [(422, 418)] h' → Qf (.ret (.bool true)) { s with heap := h', toks := tk }) :
    wpAny (model prog w) A (exec s3 (mkEnv a5 L [("world", L + 1)] q f cd frm)) Qc Ef s := by
  obtain ⟨⟨ef0, Lf0, Bf0⟩, N⟩ := newsCons N
  obtain ⟨⟨ec0, Lc0, Bc0⟩, N⟩ := newsCons N
  obtain ⟨⟨ef1, Lf1, Bf1⟩, N⟩ := newsCons N
  obtain ⟨⟨ec1, Lc1, Bc1⟩, N⟩ := newsCons N
  obtain ⟨⟨ed1, Ld1, Bd1⟩, N⟩ := newsCons N
  obtain ⟨⟨ed2, Ld2, Bd2⟩, N⟩ := newsCons N
  obtain ⟨⟨ed3, Ld3, Bd3⟩, N⟩ := newsCons N
  obtain ⟨⟨edW, LdW, BdW⟩, N⟩ := newsCons N
  obtain ⟨⟨ece, Lce, Bce⟩, N⟩ := newsCons N
  obtain ⟨⟨etb, Ltb, Btb⟩, N⟩ := newsCons N
  dsimp only at ef0 Lf0 Bf0 ec0 Lc0 Bc0 ef1 Lf1 Bf1 ec1 Lc1 Bc1 ed1 Ld1 Bd1 ed2 Ld2 Bd2 ed3 Ld3 Bd3 edW LdW BdW ece Lce Bce etb Ltb Btb
  clear N
  have hab : hB.objs.size ≤ L := F.above
  have hall : ∀ p ∈ rlP f0 c0 f1 c1 d1 d2 d3 dW (L + 1), s.heap.get? p.2 ≠ none ∧ p.2 ≠ L ∧ hB.get? p.2 = none ∧ L < p.2 := by
    have mk : ∀ {a : Nat} {o : Obj}, s.heap.get? a = some o → a ≠ L → hB.get? a = none → L < a → (s.heap.get? a ≠ none ∧ a ≠ L ∧ hB.get? a = none ∧ L < a) := fun e l b c => ⟨by rw [e]; simp, l, b, c⟩
    simp only [rlP, List.forall_mem_cons]
    refine ⟨mk ef0 Lf0 Bf0 ?_, mk ec0 Lc0 Bc0 ?_, mk ef1 Lf1 Bf1 ?_, mk ec1 Lc1 Bc1 ?_, mk ed1 Ld1 Bd1 ?_, mk ed2 Ld2 Bd2 ?_, mk ed3 Ld3 Bd3 ?_, mk edW LdW BdW ?_, mk ece Lce Bce ?_, fun _ h => by cases h⟩ <;> omega
  have hnd : ((rlP f0 c0 f1 c1 d1 d2 d3 dW (L + 1)).map (·.2)).Nodup :=
    desc_nd (l := [f0, c0, f1, c1, d1, d2, d3, dW, L + 1]) ⟨i15, i16, i17, i18, i19, i20, i21, i24, trivial⟩
  have W0 : Wd prog w hB (fun a => (rlP f0 c0 f1 c1 d1 d2 d3 dW (L + 1)).lookup a) (sgP p0 b0 sc0 p1 b1 sc1) s.heap := {
    inj := fun a b x ha hb => lookup_inj hnd ha hb
    off := fun a x ha => (lookup_all (P := fun _ x => hB.get? x = none) (fun p hp => (hall p hp).2.2.1) ha)
    big := fun a x ha => Nat.le_trans hab (Nat.le_of_lt (lookup_all (P := fun _ x => L < x) (fun p hp => (hall p hp).2.2.2) ha))
    live := fun a x ha => (lookup_all (P := fun _ x => s.heap.get? x ≠ none) (fun p hp => (hall p hp).1) ha)
    dom := fun n b x e => by
      refine lookup_all (P := fun a _ => sgP p0 b0 sc0 p1 b1 sc1 a.1 ≠ none) (a := (n, b)) ?_ e
      simp only [rlP, List.forall_mem_cons]
      refine ⟨?_, ?_, ?_, ?_, ?_, ?_, ?_, ?_, ?_, fun _ h => by cases h⟩ <;> (intro z; cases z)
    obj := fun n o e => by
      match n, e with
      | .cyc, e => cases e
      | .mks, e => cases e
      | .objs, e => cases e
      | .ob i, e => cases e
      | .t k, e => cases e
      | .x 0, e => cases e; exact ⟨f1, _, c1, _, _, _, _, _, _, _, _, _, _, rfl, ef1, rfl, .cons ⟨rfl, rfl⟩ .nil, rfl, ec1, hc1, hv1⟩
      | .x 1, e => cases e; exact ⟨f0, _, c0, _, _, _, _, _, _, _, _, _, _, rfl, ef0, rfl, .cons ⟨rfl, rfl⟩ .nil, rfl, ec0, hc0, hv0⟩
      | .x 2, e => cases e; exact ⟨L + 1, _, rfl, ⟨_, ece, hoce⟩, .ss (.ref rfl)⟩
      | .x 3, e => cases e; exact ⟨dW, _, rfl, Heap.dictOf_iff.mpr ⟨oW, edW, hoW⟩, .cons ⟨rfl, .ref rfl⟩ (.cons ⟨rfl, .ref rfl⟩ (.cons ⟨rfl, .ref rfl⟩ .nil))⟩
      | .x 4, e => cases e; exact ⟨d3, [], rfl, Heap.dictOf_iff.mpr ⟨o3, ed3, ho3⟩, .nil⟩
      | .x 5, e => cases e; exact ⟨d2, [], rfl, Heap.dictOf_iff.mpr ⟨o2, ed2, ho2⟩, .nil⟩
      | .x 6, e => cases e; exact ⟨d1, [], rfl, Heap.dictOf_iff.mpr ⟨o1, ed1, ho1⟩, .nil⟩
      | .x (k + 7), e => cases e }
  have hX : FS hB 79 [("script", .val (.ref ad)), ("led_to", .ref (.x 0)), ("sort_here", .ref (.x 1))] [("world", .x 2)] A L [("world", L + 1)] m (fun a => (rlP f0 c0 f1 c1 d1 d2 d3 dW (L + 1)).lookup a) s.heap :=
    ⟨hr, F, fun a z => (lookup_all (P := fun _ x => x ≠ L) (fun p hp => (hall p hp).2.1) z) rfl, .cons ⟨rfl, rfl⟩ .nil, fun y v e => lookup_all (P := fun y v => ∃ u, m y = some u ∧ VR (fun a => (rlP f0 c0 f1 c1 d1 d2 d3 dW (L + 1)).lookup a) v u) (by
      simp only [List.forall_mem_cons]
      exact ⟨⟨_, m0, .val _ rfl⟩, ⟨_, m1, .ref rfl⟩, ⟨_, m2, .ref rfl⟩, fun _ h => by cases h⟩) e⟩
  have hLed : LedOk ⟨prog, w, hB, mg, mb, T⟩ p0 b0 sc0 := led_ok (E := ⟨prog, w, hB, mg, mb, T⟩) h423
  have hHow : HowOk ⟨prog, w, hB, mg, mb, T⟩ p1 b1 sc1 := how_ok (E := ⟨prog, w, hB, mg, mb, T⟩) h423
  have hno2 : ∀ n, (fun a => (rlP f0 c0 f1 c1 d1 d2 d3 dW (L + 1)).lookup a) n ≠ some 418 := fun n z => Nat.lt_irrefl _ (Nat.lt_trans i25 (lookup_all (P := fun _ x => L < x) (fun p hp => (hall p hp).2.2.2) z))
  clear hall hnd
  generalize (fun a => (rlP f0 c0 f1 c1 d1 d2 d3 dW (L + 1)).lookup a) = ρ at *
  have fin : ∀ (v : MV Nm) (u : Value) (ρ' : Rho Nm) (h' : Heap) (tk : Tok) (fr' : LF Nm) (m' : Str → Option Value), v = .bool true → VR ρ' v u → FS hB 79 fr' [("world", .x 2)] A L [("world", L + 1)] m' ρ' h' → Sp (some L) ρ ρ' s.heap h' → Qf (.ret u) { s with heap := h', toks := tk } := fun v u ρ' h' tk fr' m' e r X' P' => by
    subst e
    cases r
    exact hend h' tk m' X'.F ⟨⟨tabs, P'.keep 418 _ etb (fun z => Ltb (Option.some.inj z).symm) hno2⟩, trivial⟩
  have body : Wx ⟨⟨prog, w, hB, mg, mb, T⟩, a5, 79, [("world", .x 2)]⟩ s3 [("script", .val (.ref ad)), ("led_to", .ref (.x 0)), ("sort_here", .ref (.x 1))] (SeqK ⟨⟨prog, w, hB, mg, mb, T⟩, a5, 79, [("world", .x 2)]⟩ rest (fun _ _ => False) (fun v _ => v = .bool true)) (fun v _ => v = .bool true) (sgP p0 b0 sc0 p1 b1 sc1) :=
    law_body (E := ⟨prog, w, hB, mg, mb, T⟩) h423 hLed hHow hb hl hu rfl rfl rfl (Qn := fun _ _ => False) (Qr := fun v _ => v = .bool true) (fun _ => rfl)
  refine body.o A s L q f cd frm _ m ρ hX W0 Ef Qc ?_
  intro fl flc fr' m' σ' ρ' h' tk H r X' W' P'
  cases r with
  | next =>
    refine hnext _ ?_
    refine Ws.o H A { s with heap := h', toks := tk } L q f cd frm _ m' ρ' X' W' Ef Qf ?_
    intro fl flc fr'' m'' σ'' ρ'' h'' tk'' H2 r2 X'' W'' P''
    cases r2 with
    | next => exact H2.elim
    | ret rv => exact fin _ _ ρ'' h'' tk'' fr'' m'' H2 rv X'' (P'.trans P'')
  | ret rv => exact hret _ _ (fin _ _ ρ' h' tk fr' m' H rv X' P')

theorem andl {a b : Prop} (h : a ∧ b) : a := h.1
theorem statOf {K : Frag} {p : Program} {loose : List Str} {mg mb : Str → Option Value} {h : Heap} (T : TopRead p loose mg mb h) (X : K.In h) : Stat K mg mb h := ⟨X, T.g, T.b, T.nolimit, T.builtins⟩
theorem ints1 {us : List Value} {l : List Int} (h : IntsAre us l) : ∀ u ∈ us, ∃ j t, u = .int j t := by
  induction h with
  | nil => intro u hu; cases hu
  | cons _ _ _ ih =>
    intro u hu
    rcases List.mem_cons.mp hu with rfl | q
    · exact ⟨_, _, rfl⟩
    · exact ih u q
theorem ints2 {us : List Value} {l : List Int} (h : IntsAre us l) : us.length = l.length := by
  induction h with
  | nil => rfl
  | cons _ _ _ ih => simp [ih]
theorem len_of {us : List Value} {l : List Int} (h : IntsAre us l) (hn : ¬ ((63 : Nat) : Int) < (l.length : Int)) : us.length ≤ 1000 := by
  rw [ints2 h]
  omega
inductive Stop (p : Prop) : Prop
  | mk : p → Stop p
theorem stop_at {p : Prop} : Stop p → p
  | .mk h => h
end

theorem X.tw1233554830540628369 : True := trivial
theorem X.tw15304436067887115354 : True := trivial
theorem X.tw15935355887182469424 : True := trivial
theorem X.tw12044911165340773897 : True := trivial
theorem X.tw6344214443382275047 : True := trivial
theorem X.tw4583698726364029850 : True := trivial
theorem X.tw4118577971824207144 : True := trivial
theorem X.tw12584404918003750030 : True := trivial
theorem X.tw11291545239043705544 : True := trivial
theorem X.tw2175678709073588831 : True := trivial
theorem X.tw11181131630279885740 : True := trivial
theorem X.tw10286781193542543046 : True := trivial
theorem X.tw13144709809375076846 : True := trivial
theorem X.tw4710778804041007878 : True := trivial
theorem X.tw16272760583212350437 : True := trivial
theorem X.tw16574438894012053044 : True := trivial
theorem X.tw11683571193194973208 : True := trivial
theorem X.tw6526523374491123774 : True := trivial
theorem X.tw12377828774149256307 : True := trivial
theorem X.tw4105146452628438557 : True := trivial
theorem X.tw6864771757760554702 : True := trivial
theorem X.tw12457787433391899403 : True := trivial
theorem X.tw9902516577932940445 : True := trivial
theorem X.tw17479005814826754509 : True := trivial
theorem X.tw4094450964026223220 : True := trivial
theorem X.tw10869737381806325104 : True := trivial
theorem X.tw12248334682520508036 : True := trivial
theorem X.tw4052963232648840791 : True := trivial
theorem X.tw9934682944951823791 : True := trivial
theorem X.tw7454311253356857338 : True := trivial
theorem X.tw3878806035802044645 : True := trivial
theorem X.tw2273520880447597569 : True := trivial
theorem X.tw14147701053790375170 : True := trivial
theorem X.tw11044545302957401721 : True := trivial
theorem X.tw15379364564067956436 : True := trivial
theorem X.tw8772752714423907141 : True := trivial
theorem X.tw15316672452249726900 : True := trivial
theorem X.tw7075755498386439038 : True := trivial
theorem X.tw16694672638105409526 : True := trivial
theorem X.tw1492882893204578288 : True := trivial
theorem X.tw16711199105532505286 : True := trivial
theorem X.tw9970815196231006528 : True := trivial
theorem X.tw7560214171681027474 : True := trivial
theorem X.tw179771710619952371 : True := trivial
theorem X.tw5486931284162141108 : True := trivial
theorem X.tw13718997213608563046 : True := trivial
theorem X.tw1623850466617085995 : True := trivial
theorem X.tw4825215276058814059 : True := trivial
theorem X.tw15662567913288035221 : True := trivial
theorem X.tw1211600541194743961 : True := trivial
theorem X.tw5303366772761776915 : True := trivial
theorem X.tw9871073500550173427 : True := trivial
theorem X.tw7648569935604823897 : True := trivial
theorem X.tw10155927601396772373 : True := trivial
theorem X.tw16709635493001807780 : True := trivial
theorem X.tw13970240619067257440 : True := trivial
theorem X.tw1776889199175922684 : True := trivial
theorem X.tw12187046231813810049 : True := trivial
theorem X.tw5711577722486663019 : True := trivial
theorem X.tw418300716712910740 : True := trivial
theorem X.tw5589815166493167452 : True := trivial
theorem X.tw7958696736579701043 : True := trivial
theorem X.tw5341320820567248088 : True := trivial
theorem X.tw9149658703060425448 : True := trivial
theorem X.tw16510468589982010944 : True := trivial
theorem X.tw12539138535754632470 : True := trivial
theorem X.tw17333297186646960167 : True := trivial
theorem X.tw3550207525035906223 : True := trivial
theorem X.tw7248726743883494513 : True := trivial
theorem X.tw10036835116633890814 : True := trivial
theorem X.tw16817941334268058807 : True := trivial
theorem X.tw8269547140274193485 : True := trivial
theorem X.tw18287262824869387438 : True := trivial
theorem X.tw12777840735555206570 : True := trivial
theorem X.tw11974287736371790290 : True := trivial
theorem X.tw14157558802435677844 : True := trivial
theorem X.tw4308493021997430729 : True := trivial
theorem X.tw12826476232801504579 : True := trivial
theorem X.tw5159579356896613158 : True := trivial
theorem X.tw5903021197554627360 : True := trivial
theorem X.tw14248186491344734882 : True := trivial
theorem X.tw11474524620229982489 : True := trivial
theorem X.tw345504385177756202 : True := trivial
theorem X.tw7504244196287739939 : True := trivial
theorem X.tw6840704059094778312 : True := trivial
theorem X.tw5698975417520101172 : True := trivial
theorem X.tw18045720016571863378 : True := trivial
theorem X.tw3993715603023524407 : True := trivial
theorem X.tw907398935831193906 : True := trivial
theorem X.tw14995485612969326906 : True := trivial
theorem X.tw9207364088413154478 : True := trivial
theorem X.tw17338024364514139780 : True := trivial
theorem X.tw17681117709535149394 : True := trivial
theorem X.tw15113685723905088804 : True := trivial
theorem X.tw7327866730238664240 : True := trivial
theorem X.tw1758503592476345254 : True := trivial
theorem X.tw6721363425693953575 : True := trivial
theorem X.tw3814969282282694007 : True := trivial
theorem X.tw2620450913556966915 : True := trivial
theorem X.tw4037857872952377398 : True := trivial
theorem X.tw16776438932807127073 : True := trivial
theorem X.tw4055473535971164239 : True := trivial
theorem X.tw13460202996001718119 : True := trivial
theorem X.tw12988292849134238315 : True := trivial
theorem X.tw8369972080843655881 : True := trivial
theorem X.tw11584803045767122376 : True := trivial
theorem X.tw6728618711941471139 : True := trivial
theorem X.tw13380697069787530077 : True := trivial
theorem X.tw742045299382550892 : True := trivial
theorem X.tw5689137530969981072 : True := trivial
theorem X.tw10415795748560268886 : True := trivial
theorem X.tw16829980532981784401 : True := trivial
theorem X.tw4148403300619102129 : True := trivial
theorem X.tw7793310436423210636 : True := trivial
theorem X.tw6290306490620547656 : True := trivial
theorem X.tw4678093237827996004 : True := trivial
theorem X.tw15464824738149238224 : True := trivial
theorem X.tw2674264413499924329 : True := trivial
theorem X.tw9537638503310327189 : True := trivial
theorem X.tw3034417136253007796 : True := trivial
theorem X.tw14299714348264122635 : True := trivial
theorem X.tw9416338761860669587 : True := trivial
theorem X.tw7128341243169760269 : True := trivial
theorem X.tw6946073800949487731 : True := trivial
theorem X.tw4634465913056614851 : True := trivial
theorem X.tw6226168187065752249 : True := trivial
theorem X.tw8336594686429967761 : True := trivial
theorem X.tw7460155713167813168 : True := trivial
theorem X.tw8286709033192911632 : True := trivial
theorem X.tw15000919754990616925 : True := trivial
theorem X.tw16275367203278863324 : True := trivial
theorem X.tw7524706459749041325 : True := trivial
theorem X.tw17549543979812492293 : True := trivial
theorem X.tw15672173113676624223 : True := trivial
theorem X.tw4453683606616215088 : True := trivial
theorem X.tw6857848732565947109 : True := trivial
theorem X.tw15904051057234849783 : True := trivial
theorem X.tw9953581588330871030 : True := trivial
theorem X.tw18007873759500481086 : True := trivial
theorem X.tw1849517074667988032 : True := trivial
theorem X.tw14880334301646452990 : True := trivial
theorem X.tw7881349778354990134 : True := trivial
theorem X.tw7409930607370472668 : True := trivial
theorem X.tw2639500797279104738 : True := trivial
theorem X.tw10688843235290993038 : True := trivial
theorem X.tw4608468840102086789 : True := trivial
theorem X.tw2076067410212760736 : True := trivial
theorem X.tw11081900806234257951 : True := trivial
theorem X.tw5884195748457221376 : True := trivial
theorem X.tw11691632638404157234 : True := trivial
theorem X.tw9359485736827405581 : True := trivial
theorem X.tw17848969128147992950 : True := trivial
theorem X.tw7918670122540132632 : True := trivial
theorem X.tw17620094333014697164 : True := trivial
theorem X.tw11729732563963357530 : True := trivial
theorem X.tw4695044823335333579 : True := trivial
theorem X.tw7140873082177010070 : True := trivial
theorem X.tw13705870651399722797 : True := trivial
theorem X.tw414545155999194235 : True := trivial
theorem X.tw9809940056158787353 : True := trivial
theorem X.tw3400583475111017545 : True := trivial
theorem X.tw9990698239456330790 : True := trivial
theorem X.tw10204268062727599454 : True := trivial
theorem X.tw10444551433673131920 : True := trivial
theorem X.tw17628103385656004602 : True := trivial
theorem X.tw14112952577149662926 : True := trivial
theorem X.tw15173885558828718902 : True := trivial
theorem X.tw10682200609117080831 : True := trivial
theorem X.tw15775313699551717555 : True := trivial
theorem X.tw13288768329473635926 : True := trivial
theorem X.tw1191907699900362664 : True := trivial
theorem X.tw6893135173598376037 : True := trivial
theorem X.tw12547574037930385882 : True := trivial
theorem X.tw15955545786496963863 : True := trivial
theorem X.tw8970414813474867568 : True := trivial
theorem X.tw5917523712205642820 : True := trivial
theorem X.tw4239818077389401432 : True := trivial
theorem X.tw15158977193206299858 : True := trivial
theorem X.tw4697559638372092354 : True := trivial
theorem X.tw1556950849376815132 : True := trivial
theorem X.tw7961226709032919150 : True := trivial
theorem X.tw14426027794117996326 : True := trivial
theorem X.tw18145544551728140259 : True := trivial
theorem X.tw852701742461845465 : True := trivial
theorem X.tw14230704435234497865 : True := trivial
theorem X.tw4552170645806071483 : True := trivial
theorem X.tw13943615869880837177 : True := trivial
theorem X.tw15501594865730010522 : True := trivial
theorem X.tw1269235216410558776 : True := trivial
theorem X.tw5781369822077802059 : True := trivial
theorem X.tw1772543667516976917 : True := trivial
theorem X.tw6633272251527983603 : True := trivial
theorem X.tw9149485126744263186 : True := trivial
theorem X.tw10029777757909641782 : True := trivial
theorem X.tw15415078467784455356 : True := trivial
theorem X.tw17072694344553691215 : True := trivial
theorem X.tw2760363338497477620 : True := trivial
theorem X.tw1029739817297215153 : True := trivial
theorem X.tw12459839608726241310 : True := trivial
theorem X.tw15891821775779568694 : True := trivial
theorem X.tw1731823422687698545 : True := trivial
theorem X.tw2975681507428472854 : True := trivial
theorem X.tw5191532653762409057 : True := trivial
theorem X.tw15172817495588067742 : True := trivial
theorem X.tw9233842951459409988 : True := trivial
theorem X.tw13100395842339105750 : True := trivial
theorem X.tw11810152771132633722 : True := trivial
theorem X.tw6296967188633648079 : True := trivial
theorem X.tw2122662208929857132 : True := trivial
theorem X.tw11698722763673736819 : True := trivial
theorem X.tw4559024223405011597 : True := trivial
theorem X.tw3979108123509477726 : True := trivial
theorem X.tw761317271131089853 : True := trivial
theorem X.tw12561226315587940558 : True := trivial
theorem X.tw16634618199711268275 : True := trivial
theorem X.tw12382787603291471551 : True := trivial
theorem X.tw2480371841006120665 : True := trivial
theorem X.tw8731482450303001758 : True := trivial
theorem X.tw12712665387687544415 : True := trivial
theorem X.tw4591610062354082485 : True := trivial
theorem X.tw3460097100617677358 : True := trivial
theorem X.tw11391126792852955507 : True := trivial
theorem X.tw12814665370581437005 : True := trivial
theorem X.tw13951666168393586854 : True := trivial
theorem X.tw17960118923567568290 : True := trivial
theorem X.tw18412030670496779449 : True := trivial
theorem X.tw8059979573630092920 : True := trivial
theorem X.tw5273988127398664739 : True := trivial
theorem X.tw13901780492647982691 : True := trivial
theorem X.tw13612588423612712328 : True := trivial
theorem X.tw17911564349723111254 : True := trivial
theorem X.tw16295836763674754768 : True := trivial
theorem X.tw12973516674892202108 : True := trivial
theorem X.tw14928233892095282892 : True := trivial
theorem X.tw8694450216163014336 : True := trivial
theorem X.tw79949994448532967 : True := trivial
theorem X.tw12026919419366128181 : True := trivial
theorem X.tw14240680326528975323 : True := trivial
theorem X.tw10345555102269536434 : True := trivial
theorem X.tw16792233728284191780 : True := trivial
theorem X.tw1499933541685128870 : True := trivial
theorem X.tw6944884104518478496 : True := trivial
theorem X.tw9594870266114736110 : True := trivial
theorem X.tw6784177884940387994 : True := trivial
theorem X.tw17902138361269780394 : True := trivial
theorem X.tw1637978627436297335 : True := trivial
theorem X.tw2652154238690813100 : True := trivial
theorem X.tw8151320321990978495 : True := trivial
theorem X.tw14767735496408351957 : True := trivial
theorem X.tw13357250871566878897 : True := trivial
theorem X.tw12528771818564387881 : True := trivial
theorem X.tw17647116302258417345 : True := trivial
theorem X.tw6481343077798772422 : True := trivial
theorem X.tw11575533868442238594 : True := trivial
theorem X.tw13852530957316755904 : True := trivial
theorem X.tw15808863445473174209 : True := trivial
theorem X.tw6646776529966920211 : True := trivial
theorem X.tw7303952827861889379 : True := trivial
theorem X.tw1730876852629798873 : True := trivial
theorem X.tw5918412921540577722 : True := trivial
theorem X.tw14168203023808385800 : True := trivial
theorem X.tw8511941809702618761 : True := trivial
theorem X.tw8805948091052586232 : True := trivial
theorem X.tw13179936131017846627 : True := trivial
theorem X.tw18227201486979222766 : True := trivial
theorem X.tw6687999649195064186 : True := trivial
theorem X.tw3394968581401681124 : True := trivial
theorem X.tw6820569540889811099 : True := trivial
theorem X.tw14174367290447187526 : True := trivial
theorem X.tw8138050860641259445 : True := trivial
theorem X.tw14562863409560515788 : True := trivial
theorem X.tw9650267933596204220 : True := trivial
theorem X.tw6850170748588930353 : True := trivial
theorem X.tw4834626644173023988 : True := trivial
theorem X.tw11803638307587581878 : True := trivial
theorem X.tw18376027473926954338 : True := trivial
theorem X.tw15837058910124630556 : True := trivial
theorem X.tw5559910955664783708 : True := trivial
theorem X.tw15777137585188072123 : True := trivial
theorem X.tw12481965577439877168 : True := trivial
theorem X.tw3603316962845338919 : True := trivial
theorem X.tw14256144272279941918 : True := trivial
theorem X.tw11912572740585316745 : True := trivial
theorem X.tw9862517143303228728 : True := trivial
theorem X.tw13748753808887311232 : True := trivial
theorem X.tw4474860732541833706 : True := trivial
theorem X.tw8292859907717642097 : True := trivial
theorem X.tw7583283443302554409 : True := trivial
theorem X.tw16568493980376777771 : True := trivial
theorem X.tw4006377318546390421 : True := trivial
theorem X.tw17833324000518864689 : True := trivial
theorem X.tw8790652648125570219 : True := trivial
theorem X.tw18116306960810592846 : True := trivial
theorem X.tw14079487646753323945 : True := trivial
theorem X.tw15125833977868517129 : True := trivial
theorem X.tw18014801987252223506 : True := trivial
theorem X.tw16825856713101563103 : True := trivial
theorem X.tw8703066322661298015 : True := trivial
theorem X.tw8952137760668473851 : True := trivial
theorem X.tw11394681504611454366 : True := trivial
theorem X.tw17653538145926954280 : True := trivial
theorem X.tw5776883909019753549 : True := trivial
theorem X.tw12792853984484045752 : True := trivial
theorem X.tw14765960505493968436 : True := trivial
theorem X.tw18048063665550785985 : True := trivial
theorem X.tw10123783031978101358 : True := trivial
theorem X.tw4377982425423402132 : True := trivial
theorem X.tw12978934114671945080 : True := trivial
theorem X.tw6626778057731710036 : True := trivial
theorem X.tw4598807743417463212 : True := trivial
theorem X.tw12639068540220633514 : True := trivial
theorem X.tw15833662388229063124 : True := trivial
theorem X.tw4692594210318249552 : True := trivial
theorem X.tw5884338937647298217 : True := trivial
theorem X.tw16121069318586249544 : True := trivial
theorem X.tw295308033437723518 : True := trivial
theorem X.tw14166366834960235117 : True := trivial
theorem X.tw10540831819008075067 : True := trivial
theorem X.tw4960926762391688293 : True := trivial
theorem X.tw6529076679669082883 : True := trivial
theorem X.tw3235361999861777235 : True := trivial
theorem X.tw1683545871344014370 : True := trivial
theorem X.tw5556196730326756696 : True := trivial
theorem X.tw11922460019470735964 : True := trivial
theorem X.tw3899126634685473756 : True := trivial
theorem X.tw2491332794192604249 : True := trivial
theorem X.tw7413825256531674017 : True := trivial
theorem X.tw8577189094643261170 : True := trivial
theorem X.tw11521170233155341413 : True := trivial
theorem X.tw13282077072563170686 : True := trivial
theorem X.tw6627769979059691915 : True := trivial
theorem X.tw11939249034746411160 : True := trivial
theorem X.tw11384864271934390807 : True := trivial
theorem X.tw3170825111071609024 : True := trivial
theorem X.tw3040925485208438906 : True := trivial
theorem X.tw11068292170058943176 : True := trivial
theorem X.tw1864712033366151019 : True := trivial
theorem X.tw16382746778528891430 : True := trivial
theorem X.tw11263611703281190674 : True := trivial
theorem X.tw2057257395097442593 : True := trivial
theorem X.tw9008753282406518837 : True := trivial
theorem X.tw6049422964509925772 : True := trivial
theorem X.tw9858920556869128236 : True := trivial
theorem X.tw3995288032510134720 : True := trivial
theorem X.tw5959340289853745077 : True := trivial
theorem X.tw12245400890276591608 : True := trivial
theorem X.tw11879871915297439435 : True := trivial
theorem X.tw11277560555097084528 : True := trivial
theorem X.tw5397973660824563912 : True := trivial
theorem X.tw1981192048672761331 : True := trivial
theorem X.tw7463818682052584522 : True := trivial
theorem X.tw6245178534751879330 : True := trivial
theorem X.tw6589208355441282164 : True := trivial
theorem X.tw14762610698787631824 : True := trivial
theorem X.tw8451029917128796143 : True := trivial
theorem X.tw6487266231681482135 : True := trivial
theorem X.tw10939720022294020308 : True := trivial
theorem X.tw2323150018379818003 : True := trivial
theorem X.tw9096214332478258510 : True := trivial
theorem X.tw16258785955110171955 : True := trivial
theorem X.tw7460826325245315606 : True := trivial
theorem X.tw17959739062220706217 : True := trivial
theorem X.tw7390350244458595350 : True := trivial
theorem X.tw13262914639554229123 : True := trivial
theorem X.tw9705633703180463127 : True := trivial
theorem X.tw6615435675470840988 : True := trivial
theorem X.tw1069791240174439718 : True := trivial
theorem X.tw14197072647531748683 : True := trivial
theorem X.tw7589912946476293865 : True := trivial
theorem X.tw17509762829521657564 : True := trivial
theorem X.tw7995441697062450348 : True := trivial
theorem X.tw5578799108536217042 : True := trivial
theorem X.tw8401123313766526375 : True := trivial
theorem X.tw2646421756852209949 : True := trivial
theorem X.tw15266957208596625622 : True := trivial
theorem X.tw12677859995214425582 : True := trivial
theorem X.tw17943684967851089649 : True := trivial
theorem X.tw1071963554716896705 : True := trivial
theorem X.tw4242944747826377928 : True := trivial
theorem X.tw17383170078390997138 : True := trivial
theorem X.tw8645727208927572224 : True := trivial
theorem X.tw1075154489448271871 : True := trivial
theorem X.tw16482760969782681109 : True := trivial
theorem X.tw4502868568907333073 : True := trivial
theorem X.tw16292544333806180465 : True := trivial
theorem X.tw4697638207607887036 : True := trivial
theorem X.tw11489126724333454038 : True := trivial
theorem X.tw8632108778217967925 : True := trivial
theorem X.tw12002367207531531214 : True := trivial
theorem X.tw17692682106087902361 : True := trivial
theorem X.tw13303046447646138980 : True := trivial
theorem X.tw18362669630248234093 : True := trivial
theorem X.tw12155768018673182271 : True := trivial
theorem X.tw3383251880651505811 : True := trivial
theorem X.tw12269427614276095584 : True := trivial
theorem X.tw7549399439778431341 : True := trivial
theorem X.tw2277426337339194392 : True := trivial
theorem X.tw12087541272756257547 : True := trivial
theorem X.tw15177407425550788394 : True := trivial
theorem X.tw3545286394872332074 : True := trivial
theorem X.tw6041766615367818901 : True := trivial
theorem X.tw777355997204200580 : True := trivial
theorem X.tw17231803379008324886 : True := trivial
theorem X.tw4120575608492018986 : True := trivial
theorem X.tw11085556124396865359 : True := trivial
theorem X.tw6453087414237735858 : True := trivial
theorem X.tw2386980436422980316 : True := trivial
theorem X.tw3255139000487024898 : True := trivial
theorem X.tw16279869245211293408 : True := trivial
theorem X.tw14791336998692466733 : True := trivial
theorem X.tw9848910408391390029 : True := trivial
theorem X.tw9393382763999208503 : True := trivial
theorem X.tw11053081189609013793 : True := trivial
theorem X.tw16518430854568047159 : True := trivial
theorem X.tw8708839634909411484 : True := trivial
theorem X.tw17872043267224975111 : True := trivial
theorem X.tw11840949059055747208 : True := trivial
theorem X.tw5484970534995623953 : True := trivial
theorem X.tw6727882848835100957 : True := trivial
theorem X.tw17154329587869820569 : True := trivial
theorem X.tw10101574641598596388 : True := trivial
theorem X.tw2706852200556547965 : True := trivial
theorem X.tw15048121442911055316 : True := trivial
theorem X.tw6700055694453539273 : True := trivial
theorem X.tw2068479324402378455 : True := trivial
theorem X.tw11688096258574253689 : True := trivial
theorem X.tw5025588514212322968 : True := trivial
theorem X.tw16162980444515173908 : True := trivial
theorem X.tw3865586343334422809 : True := trivial
theorem X.tw8790946817518334571 : True := trivial
theorem X.tw5064593617843619931 : True := trivial
theorem X.tw5185456854118097827 : True := trivial
theorem X.tw6509292965315035057 : True := trivial
theorem X.tw7287000714584982609 : True := trivial
theorem X.tw8553856451695323595 : True := trivial
theorem X.tw10429594443090546125 : True := trivial
theorem X.tw12041992304096951698 : True := trivial
theorem X.tw4724332359347275066 : True := trivial
theorem X.tw16359081952981885384 : True := trivial
theorem X.tw861263872712073978 : True := trivial
theorem X.tw10895051324531103044 : True := trivial
theorem X.tw17342790854791901749 : True := trivial
theorem X.tw11577048916609138103 : True := trivial
theorem X.tw16714443517138947890 : True := trivial
theorem X.tw15790196003895842475 : True := trivial
theorem X.tw14000012172120771539 : True := trivial
theorem X.tw8038752573743281296 : True := trivial
theorem X.tw1983469436899852935 : True := trivial
theorem X.tw4224920875611049606 : True := trivial
theorem X.tw9121878508400668033 : True := trivial
theorem X.tw11845081499733367454 : True := trivial
theorem X.tw660760413251080118 : True := trivial
theorem X.tw5797763355442774649 : True := trivial
theorem X.tw12149143032699341510 : True := trivial
theorem X.tw7162405868117396483 : True := trivial
theorem X.tw7981270727372592689 : True := trivial
theorem X.tw13919919654957196526 : True := trivial
theorem X.tw13261520544414271054 : True := trivial
theorem X.tw8006879259124124592 : True := trivial
theorem X.tw6698739193843256856 : True := trivial
theorem X.tw17799314407991468822 : True := trivial
theorem X.tw4042957725025001779 : True := trivial
theorem X.tw12023872663686559334 : True := trivial
theorem X.tw14360175433882975695 : True := trivial
theorem X.tw15472740739025597472 : True := trivial
theorem X.tw10258580439971412042 : True := trivial
theorem X.tw10280567143314325819 : True := trivial
theorem X.tw11582736388220624060 : True := trivial
theorem X.tw14452068202931081127 : True := trivial
theorem X.tw15532136466169606333 : True := trivial
theorem X.tw4680221857198581737 : True := trivial
theorem X.tw5334185708483609134 : True := trivial
theorem X.tw9255673423378009137 : True := trivial
theorem X.tw8966540144201769366 : True := trivial
theorem X.tw9922990740616892340 : True := trivial
theorem X.tw7575497007772701928 : True := trivial
theorem X.tw8938597289122345546 : True := trivial
theorem X.tw14612911157623285501 : True := trivial
theorem X.tw14797290306700033491 : True := trivial
theorem X.tw16338683217920539678 : True := trivial
theorem X.tw10420134108073318675 : True := trivial
theorem X.tw16996420322393037616 : True := trivial
theorem X.tw15220581857806823851 : True := trivial
theorem X.tw17191413219814962486 : True := trivial
theorem X.tw16369121577936679605 : True := trivial
theorem X.tw15272053048409357215 : True := trivial
theorem X.tw7474858553877390140 : True := trivial
theorem X.tw4694626039057989541 : True := trivial
theorem X.tw5730606999876370172 : True := trivial
theorem X.tw8368394019409192741 : True := trivial
theorem X.tw12053910374535080941 : True := trivial
theorem X.tw78143245359043380 : True := trivial
theorem X.tw8349122294880815648 : True := trivial
theorem X.tw10770107563044856634 : True := trivial
theorem X.tw17941989475516392433 : True := trivial
theorem X.tw12540724698932790404 : True := trivial
theorem X.tw14287961509523126164 : True := trivial
theorem X.tw2556536804963385396 : True := trivial
theorem X.tw16634584968994723289 : True := trivial
theorem X.tw14782440973517319169 : True := trivial
theorem X.tw10312869860076134833 : True := trivial
theorem X.tw13585636237734481578 : True := trivial
theorem X.tw16766655104471817287 : True := trivial
theorem X.tw3099062456461415430 : True := trivial
theorem X.tw7927428052751545424 : True := trivial
theorem X.tw10319305940143804626 : True := trivial
theorem X.tw16002155981644912277 : True := trivial
theorem X.tw6262546934019671301 : True := trivial
theorem X.tw10896644383336123477 : True := trivial
theorem X.tw9130393676057236292 : True := trivial
theorem X.tw14714694295323656114 : True := trivial
theorem X.tw2434251301962037269 : True := trivial
theorem X.tw8886766121385989994 : True := trivial
theorem X.tw7582176592239493458 : True := trivial
theorem X.tw4939420164465296929 : True := trivial
theorem X.tw3723018337464228138 : True := trivial
theorem X.tw11918480656573845016 : True := trivial
theorem X.tw14665197895542761569 : True := trivial
theorem X.tw16106101276671364544 : True := trivial
theorem X.tw11078713457497890 : True := trivial
theorem X.tw17182143861902942900 : True := trivial
local macro_rules | `(tactic| walk_at "exec Assign") => `(tactic| refine Mine.stop_at ?_)
set_option Elab.async true
theorem X : PySem.Challenge.rw_pc0170_01.Holds := by
  w_on; o_law; k_head; (case hw => w_witness2)
  w_strict (k_go0; (all_goals try k_fold); k_steps; skip)
  refine .mk ?_
  refine joinP (statOf (topRead_of (by assumption)) (by assumption)) (by k_is) ⟨rfl, Nat.le_of_ble_eq_true rfl, Nat.le_of_ble_eq_true rfl⟩ (by assumption) (by assumption) (by assumption) (by assumption) (by assumption) (by assumption) (by assumption) (by assumption) (by assumption) (by assumption) (by assumption) ?i15 ?i16 ?i17 ?i18 ?i19 ?i20 ?i21 ?i24 ?i25 (by assumption) (len_of (by assumption) (by assumption)) (ints1 (by assumption)) (by rfl) (by rfl) (by rfl) (fun _ h => h) (fun _ _ h => h) ?hend
  case hend =>
    intro h' tk m' F' G
    dsimp only
    refine ⟨goodW_bool F' (by assumption) (raisesW_false ?_) ?_, G⟩
    · wrow_none_raised
    · kc_post
  all_goals (first | assumption | exact andl (by assumption))
end Mine
theorem PySem.Challenge.cw_pc0170_01_holds : PySem.Challenge.rw_pc0170_01.Holds :=
  Mine.X
