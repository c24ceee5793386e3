import PyProof.Rows.All
import Wide.All
import OpenK.AllK
import Wide.FinOn
import Lean
import PySem.Challenge.RW_ok0009_01
open PySem PySem.W PyProof.Rows
set_option Elab.async false
set_option maxRecDepth 100000
set_option linter.unusedVariables false
namespace Mine

section
/-! The abstract values, the abstract heap. -/
inductive D where
  | none
  | bool (b : Bool)
  | int (i : Int)
  | str (x : Str)
  | tup (ds : List D)
  | raw (v : Value)
  | inst (dx : Addr)
  | rng (a b : Int)
noncomputable abbrev Know := Addr → Obj → Prop
noncomputable abbrev Rho := Str → Option D
inductive AObj where
  | lst (ds : List D)
  | dct (es : List (Int × D)) (ep : Nat)
  | fld (es : List (Str × D))
noncomputable abbrev Sg := Addr → Option AObj
structure Cx where
  prog : Program
  w : World
  h₀ : Heap
  K : Frag
  C : Addr
mutual
inductive VR (c : Cx) (P : Know) : Value → D → Prop
  | none : VR c P Value.none D.none
  | bool (b : Bool) : VR c P (Value.bool b) (D.bool b)
  | int (i : Int) (t : Tok) : VR c P (Value.int i t) (D.int i)
  | str (x : Str) (t : Tok) : VR c P (Value.str x t) (D.str x)
  | tup {a : Addr} {vs : List Value} {n : Nat} {ds : List D} : P a { cls := .type "tuple", data := .seq vs.toArray n } → VRs c P vs ds → VR c P (Value.ref a) (D.tup ds)
  | raw (v : Value) : VR c P v (D.raw v)
  | inst {x dx : Addr} : P x (instObj c.C dx) → VR c P (Value.ref x) (D.inst dx)
  | rng {r : Addr} {a b : Int} {t u w : Tok} : P r { cls := .type "range", data := .fields #[.int a t, .int b u, .int 1 w] } → VR c P (Value.ref r) (D.rng a b)
inductive VRs (c : Cx) (P : Know) : List Value → List D → Prop
  | nil : VRs c P [] []
  | cons {v : Value} {vs : List Value} {d : D} {ds : List D} : VR c P v d → VRs c P vs ds → VRs c P (v :: vs) (d :: ds)
end
noncomputable def Imm (o : Obj) : Prop := match o.data with
  | .seq _ _ => o.cls = .type "tuple"
  | .fields _ => o.cls = .type "range"
  | .plain => True
  | _ => False
theorem VR.move {c : Cx} {P P' : Know} (hs : ∀ a o, P a o → Imm o → P' a o) {v : Value} {d : D} (h : VR c P v d) : VR c P' v d :=
  VR.rec (motive_1 := fun v d _ => VR c P' v d) (motive_2 := fun vs ds _ => VRs c P' vs ds) .none .bool .int .str (fun h _ ih => .tup (hs _ _ h rfl) ih) .raw (fun h => .inst (hs _ _ h trivial)) (fun h => .rng (hs _ _ h rfl)) .nil (fun _ _ ih ih' => .cons ih ih') h
theorem VRs.ind {c : Cx} {P : Know} {M : List Value → List D → Prop} (n : M [] []) (k : ∀ v vs d ds, VR c P v d → VRs c P vs ds → M vs ds → M (v :: vs) (d :: ds)) {vs : List Value} {ds : List D} (h : VRs c P vs ds) : M vs ds :=
  VRs.rec (motive_1 := fun _ _ _ => True) (motive_2 := fun vs ds _ => M vs ds) trivial (fun _ => trivial) (fun _ _ => trivial) (fun _ _ => trivial) (fun _ _ _ => trivial) (fun _ => trivial) (fun _ => trivial) (fun _ => trivial) n (fun h r _ ih => k _ _ _ _ h r ih) h
theorem VRs.move {c : Cx} {P P' : Know} (hs : ∀ a o, P a o → Imm o → P' a o) {vs : List Value} {ds : List D} (h : VRs c P vs ds) : VRs c P' vs ds :=
  VRs.ind (M := fun vs ds => VRs c P' vs ds) .nil (fun _ _ _ _ h _ ih => .cons (h.move hs) ih) h
theorem VR.mono {c : Cx} {P P' : Know} (hs : ∀ a o, P a o → P' a o) {v : Value} {d : D} (h : VR c P v d) : VR c P' v d := h.move fun a o x _ => hs a o x
theorem VRs.mono {c : Cx} {P P' : Know} (hs : ∀ a o, P a o → P' a o) {v : List Value} {d : List D} (h : VRs c P v d) : VRs c P' v d := h.move fun a o x _ => hs a o x
/-- what a value is, read off the abstract one (small terms: no index is met by unification) -/
inductive IsTupV (c : Cx) (P : Know) (v : Value) (ds : List D) : Prop
  | mk (a : Addr) (vs : List Value) (n : Nat) (e : v = .ref a) (h : P a { cls := .type "tuple", data := .seq vs.toArray n }) (r : VRs c P vs ds)
inductive IsConsV (c : Cx) (P : Know) (vs : List Value) (d : D) (ds : List D) : Prop
  | mk (v : Value) (us : List Value) (e : vs = v :: us) (h : VR c P v d) (r : VRs c P us ds)
inductive IsInstV (c : Cx) (P : Know) (v : Value) (dx : Addr) : Prop
  | mk (x : Addr) (e : v = .ref x) (h : P x (instObj c.C dx))
inductive IsRngV (P : Know) (v : Value) (a b : Int) : Prop
  | mk (r : Addr) (t u w : Tok) (e : v = .ref r) (h : P r { cls := .type "range", data := .fields #[.int a t, .int b u, .int 1 w] })
noncomputable def VRinv (c : Cx) (P : Know) (v : Value) : D → Prop
  | .none => v = .none
  | .bool b => v = .bool b
  | .int i => ∃ t, v = .int i t
  | .str x => ∃ t, v = .str x t
  | .tup ds => IsTupV c P v ds
  | .raw u => v = u
  | .inst dx => IsInstV c P v dx
  | .rng a b => IsRngV P v a b
noncomputable def VRsinv (c : Cx) (P : Know) (vs : List Value) : List D → Prop
  | [] => vs = []
  | d :: ds => IsConsV c P vs d ds
theorem VR.inv {c : Cx} {P : Know} {v : Value} {d : D} (h : VR c P v d) : VRinv c P v d := by
  cases h with
  | none => exact rfl
  | bool b => exact rfl
  | int i t => exact ⟨t, rfl⟩
  | str x t => exact ⟨t, rfl⟩
  | tup h r => exact ⟨_, _, _, rfl, h, r⟩
  | raw v => exact rfl
  | inst h => exact ⟨_, rfl, h⟩
  | rng h => exact ⟨_, _, _, _, rfl, h⟩
theorem VRs.inv {c : Cx} {P : Know} {vs : List Value} {ds : List D} (h : VRs c P vs ds) : VRsinv c P vs ds := by
  cases h with
  | nil => exact rfl
  | cons h r => exact ⟨_, _, rfl, h, r⟩
theorem VR.isInt {c : Cx} {P : Know} {v : Value} {a : Int} (h : VR c P v (.int a)) : ∃ t, v = .int a t := h.inv
theorem VR.isStr {c : Cx} {P : Know} {v : Value} {x : Str} (h : VR c P v (.str x)) : ∃ t, v = .str x t := h.inv
theorem VR.isBool {c : Cx} {P : Know} {v : Value} {b : Bool} (h : VR c P v (.bool b)) : v = .bool b := h.inv
theorem VR.isRaw {c : Cx} {P : Know} {v u : Value} (h : VR c P v (.raw u)) : v = u := h.inv
theorem VR.isTup {c : Cx} {P : Know} {v : Value} {ds : List D} (h : VR c P v (.tup ds)) : IsTupV c P v ds := h.inv
theorem VR.isInst {c : Cx} {P : Know} {v : Value} {dx : Addr} (h : VR c P v (.inst dx)) : IsInstV c P v dx := h.inv
theorem VR.isRng {c : Cx} {P : Know} {v : Value} {a b : Int} (h : VR c P v (.rng a b)) : IsRngV P v a b := h.inv
theorem VR.isNone {c : Cx} {P : Know} {v : Value} (h : VR c P v .none) : v = .none := h.inv
theorem VRs.isNil {c : Cx} {P : Know} {vs : List Value} (h : VRs c P vs []) : vs = [] := h.inv
theorem VRs.isCons {c : Cx} {P : Know} {vs : List Value} {d : D} {ds : List D} (h : VRs c P vs (d :: ds)) : IsConsV c P vs d ds := h.inv
theorem VRs.length {c : Cx} {P : Know} {vs : List Value} {ds : List D} (h : VRs c P vs ds) : vs.length = ds.length :=
  VRs.ind (M := fun vs ds => vs.length = ds.length) rfl (fun _ _ _ _ _ _ ih => congrArg Nat.succ ih) h
theorem VRs.append {c : Cx} {P : Know} {vs us : List Value} {ds es : List D} (h : VRs c P vs ds) (k : VRs c P us es) : VRs c P (vs ++ us) (ds ++ es) :=
  VRs.ind (M := fun vs ds => VRs c P (vs ++ us) (ds ++ es)) k (fun _ _ _ _ h _ ih => .cons h ih) h
theorem VRs.get {c : Cx} {P : Know} {vs : List Value} {ds : List D} (h : VRs c P vs ds) : ∀ {i : Nat} {d : D}, ds[i]? = some d → ∃ v, vs[i]? = some v ∧ VR c P v d :=
  VRs.ind (M := fun vs ds => ∀ {i : Nat} {d : D}, ds[i]? = some d → ∃ v, vs[i]? = some v ∧ VR c P v d) (fun {i d} e => nomatch (show (none : Option D) = some d from e))
    (fun v vs d ds h r ih i d' e => match i, e with
      | 0, e => ⟨v, rfl, Option.some.inj (show some d = some d' from e) ▸ h⟩
      | _ + 1, e => ih e) h
theorem VRs.take {c : Cx} {P : Know} {vs : List Value} {ds : List D} (n : Nat) (h : VRs c P vs ds) : VRs c P (vs.take n) (ds.take n) :=
  VRs.ind (M := fun vs ds => ∀ n, VRs c P (vs.take n) (ds.take n)) (fun n => by rw [List.take_nil, List.take_nil]; exact .nil)
    (fun v vs d ds h r ih n => match n with
      | 0 => .nil
      | n + 1 => .cons h (ih n)) h n
/-- pairs of a dict -/
inductive KVR (c : Cx) (P : Know) : List (Int × Value) → List (Int × D) → Prop
  | nil : KVR c P [] []
  | cons {k : Int} {v : Value} {d : D} {r : List (Int × Value)} {q : List (Int × D)} : VR c P v d → KVR c P r q → KVR c P ((k, v) :: r) ((k, d) :: q)
theorem KVR.move {c : Cx} {P P' : Know} (hs : ∀ a o, P a o → Imm o → P' a o) {r : List (Int × Value)} {q : List (Int × D)} (h : KVR c P r q) : KVR c P' r q :=
  KVR.rec (motive := fun r q _ => KVR c P' r q) .nil (fun h _ ih => .cons (h.move hs) ih) h
/-- the entries of an instance's dict -/
inductive FR (c : Cx) (P : Know) : List DictEntry → List (Str × D) → Prop
  | nil : FR c P [] []
  | cons {x : Str} {t : Tok} {v : Value} {d : D} {r : List DictEntry} {q : List (Str × D)} : VR c P v d → FR c P r q → FR c P (⟨PyData.keyHash c.w.params x, .str x t, v⟩ :: r) ((x, d) :: q)
theorem FR.move {c : Cx} {P P' : Know} (hs : ∀ a o, P a o → Imm o → P' a o) {r : List DictEntry} {q : List (Str × D)} (h : FR c P r q) : FR c P' r q :=
  FR.rec (motive := fun r q _ => FR c P' r q) .nil (fun h _ ih => .cons (h.move hs) ih) h
/-- an abstract object, as one object of the heap -/
noncomputable def OK (c : Cx) (P : Know) (o : Obj) : AObj → Prop
  | .lst ds => ∃ vs n, o = { cls := .type "list", data := .seq (List.toArray vs) n } ∧ VRs c P vs ds
  | .dct es ep => ∃ es' kvs, o.ExactDict ∧ o.data = .dict es' ep ∧ PySem.KeysOf (intKind c.prog c.w) es' ∧ Pairs (intKind c.prog c.w) es'.toList kvs ∧ (kvs.map (·.1)).Nodup ∧ KVR c P kvs es
  | .fld es => ∃ l n, o = dictOf l n ∧ FR c P l es
theorem OK.move {c : Cx} {P P' : Know} (hs : ∀ a o, P a o → Imm o → P' a o) {o : Obj} {O : AObj} (h : OK c P o O) : OK c P' o O := by
  cases O with
  | lst ds => obtain ⟨vs, n, h1, h2⟩ := h; exact ⟨vs, n, h1, h2.move hs⟩
  | dct es ep => obtain ⟨es', kvs, h1, h2, h3, h4, h5, h6⟩ := h; exact ⟨es', kvs, h1, h2, h3, h4, h5, h6.move hs⟩
  | fld es => obtain ⟨l, n, h0, h1⟩ := h; exact ⟨l, n, h0, h1.move hs⟩
theorem OK.notImm {c : Cx} {P : Know} {o : Obj} {O : AObj} (h : OK c P o O) : ¬ Imm o := by
  cases O with
  | lst ds => obtain ⟨vs, n, rfl, _⟩ := h; intro x; exact absurd (show Value.type "list" = Value.type "tuple" from x) (by simp)
  | dct es ep => obtain ⟨es', kvs, _, h2, _⟩ := h; unfold Imm; rw [h2]; exact id
  | fld es => obtain ⟨l, n, rfl, _⟩ := h; exact id
theorem OK.notFreed {c : Cx} {P : Know} {o : Obj} {O : AObj} (h : OK c P o O) : o.isFreed = false := by
  cases O with
  | lst ds => obtain ⟨vs, n, rfl, _⟩ := h; rfl
  | dct es ep => obtain ⟨es', kvs, _, h2, _⟩ := h; exact Obj.isFreed_of_dict h2
  | fld es => obtain ⟨l, n, rfl, _⟩ := h; rfl
/-- the heap, as the abstract heap says it -/
structure Hp (c : Cx) (σ : Sg) (P : Know) (h : Heap) : Prop where
  base : ∀ a o, c.h₀.get? a = some o → P a o
  froz : ∀ a o, P a o → h.get? a = some o
  objs : ∀ a O, σ a = some O → ∃ o, h.get? a = some o ∧ OK c P o O
  apart : ∀ a O, σ a = some O → ∀ o, ¬ P a o
  high : ∀ a O, σ a = some O → c.h₀.objs.size ≤ a
/-- where a frame lies: its names, its cells -/
structure Loc (ck : List Str) where
  L : Addr
  ca : List Addr
  len : ca.length = ck.length
  fn : Option Addr
  frm : Option Addr
noncomputable def Loc.cs {ck : List Str} (l : Loc ck) : List (Str × Addr) := ck.zip l.ca
noncomputable def Loc.all {ck : List Str} (l : Loc ck) : List Addr := l.L :: l.ca
/-- the frame, as the abstract names say it -/
structure Fm (c : Cx) {ck : List Str} (L : Loc ck) (ρ : Rho) (P : Know) (h : Heap) : Prop where
  above : c.h₀.objs.size ≤ L.L
  nodup : L.all.Nodup
  cells : ∀ a ∈ L.ca, ∃ v, h.IsCell a v
  frame : ∃ m, h.Ns L.L m ∧ ∀ x d, ρ x = some d → (∀ a, L.cs.lookup x = some a → ∃ v, h.IsCell a (some v) ∧ VR c P v d) ∧ (L.cs.lookup x = none → ∃ v, m x = some v ∧ VR c P v d)
structure Rl (c : Cx) {ck : List Str} (L : Loc ck) (ρ : Rho) (σ : Sg) (P : Know) (h : Heap) : Prop extends Hp c σ P h, Fm c L ρ P h where
  own : ∀ a ∈ L.all, σ a = none ∧ ∀ o, ¬ P a o
noncomputable def Same (s s' : Shared) : Prop := ∃ h' tk, s' = { s with heap := h', toks := tk }
theorem Same.refl (s : Shared) : Same s s := ⟨s.heap, s.toks, rfl⟩
theorem Same.trans {s s' s'' : Shared} (a : Same s s') (b : Same s' s'') : Same s s'' := by
  obtain ⟨h', tk, rfl⟩ := a
  obtain ⟨h'', tk', rfl⟩ := b
  exact ⟨h'', tk', rfl⟩
structure Good (A : Around) (k : Nat) : Prop where
  handled : A.handled = none
  depth : A.depth + 2 * k < recursionLimit
  units : A.units + 100 * k + 200 < cLine
theorem Good.mono {A : Around} {k j : Nat} (h : Good A k) (hj : j ≤ k) : Good A j :=
  ⟨h.handled, by have := h.depth; omega, by have := h.units; omega⟩
theorem Good.deeper {A : Around} {k : Nat} (h : Good A (k + 1)) (env : Env) : Good (A.deeper env) k :=
  ⟨h.handled, by have := h.depth; show A.depth + 1 + _ < _; omega, by have := h.units; show A.units + 3 + _ + _ < _; omega⟩
/-- what is so behind a step -/
structure Post (c : Cx) {ck : List Str} (L : Loc ck) (s : Shared) (P : Know) (ρ : Rho) (σ : Sg) (P' : Know) (s' : Shared) : Prop where
  more : ∀ a o, P a o → P' a o
  rl : Rl c L ρ σ P' s'.heap
  same : Same s s'
theorem Post.trans {c : Cx} {ck : List Str} {L : Loc ck} {s s' s'' : Shared} {P P' P'' : Know} {ρ ρ' : Rho} {σ σ' : Sg} (a : Post c L s P ρ σ P' s') (b : Post c L s' P' ρ' σ' P'' s'') : Post c L s P ρ' σ' P'' s'' :=
  ⟨fun x o h => b.more x o (a.more x o h), b.rl, a.same.trans b.same⟩
theorem Post.refl {c : Cx} {ck : List Str} {L : Loc ck} {s : Shared} {P : Know} {ρ : Rho} {σ : Sg} (h : Rl c L ρ σ P s.heap) : Post c L s P ρ σ P s := ⟨fun _ _ x => x, h, .refl s⟩
/-- behind a tree that gives back a value -/
inductive PD (c : Cx) {ck : List Str} (L : Loc ck) (s : Shared) (P : Know) (ρ : Rho) (Q : D → Sg → Prop) (v : Value) (s' : Shared) : Prop
  | mk (P' : Know) (d : D) (σ' : Sg) (p : Post c L s P ρ σ' P' s') (v : VR c P' v d) (q : Q d σ')
inductive PB (c : Cx) {ck : List Str} (L : Loc ck) (s : Shared) (P : Know) (ρ : Rho) (Q : Bool → Sg → Prop) (b : Bool) (s' : Shared) : Prop
  | mk (P' : Know) (σ' : Sg) (p : Post c L s P ρ σ' P' s') (q : Q b σ')
inductive PU (c : Cx) {ck : List Str} (L : Loc ck) (s : Shared) (P : Know) (ρ : Rho) (Q : Sg → Prop) (_u : Unit) (s' : Shared) : Prop
  | mk (P' : Know) (σ' : Sg) (p : Post c L s P ρ σ' P' s') (q : Q σ')
inductive PDs (c : Cx) {ck : List Str} (L : Loc ck) (s : Shared) (P : Know) (ρ : Rho) (Q : List D → Sg → Prop) (vs : List Value) (s' : Shared) : Prop
  | mk (P' : Know) (ds : List D) (σ' : Sg) (p : Post c L s P ρ σ' P' s') (v : VRs c P' vs ds) (q : Q ds σ')
inductive Out where
  | next | brk | cont
  | ret (d : D)
inductive OutR (c : Cx) (P : Know) : Flow → Out → Prop
  | next : OutR c P .next .next
  | brk : OutR c P .brk .brk
  | cont : OutR c P .cont .cont
  | ret {v : Value} {d : D} : VR c P v d → OutR c P (.ret v) (.ret d)
inductive PO (c : Cx) {ck : List Str} (L : Loc ck) (s : Shared) (P : Know) (Q : Out → Rho → Sg → Prop) (f : Flow) (s' : Shared) : Prop
  | mk (P' : Know) (o : Out) (ρ' : Rho) (σ' : Sg) (p : Post c L s P ρ' σ' P' s') (v : OutR c P' f o) (q : Q o ρ' σ')
noncomputable abbrev noE : Value → Shared → Prop := fun _ _ => False
/-- a block: what its frames are made of -/
structure Fn where
  qual : Str
  scope : Scope
  ck : List Str
  cd : Value
@[reducible] noncomputable def Fn.env (F : Fn) (l : Loc F.ck) : Env :=
  { scope := F.scope, locals := l.L, globals := mainGlobals, cells := l.cs, qual := F.qual, func := l.fn, code := F.cd, frame := l.frm, builtins := builtinsNs }
noncomputable def Ev (c : Cx) (F : Fn) (k : Nat) (ρ : Rho) (σ : Sg) (e : Expr) (Q : D → Sg → Prop) : Prop :=
  ∀ A (L : Loc F.ck) P s, Good A k → Rl c L ρ σ P s.heap → wpAny (model c.prog c.w) A (eval e (F.env L)) (PD c L s P ρ Q) noE s
noncomputable def Evs (c : Cx) (F : Fn) (k : Nat) (ρ : Rho) (σ : Sg) (es : List Expr) (Q : List D → Sg → Prop) : Prop :=
  ∀ A (L : Loc F.ck) P s pos, Good A k → Rl c L ρ σ P s.heap → wpAny (model c.prog c.w) A (spliced (backTo pos (starEach es (F.env L)))) (PDs c L s P ρ Q) noE s
noncomputable def Tr (c : Cx) (F : Fn) (k : Nat) (ρ : Rho) (σ : Sg) (e : Expr) (Q : Bool → Sg → Prop) : Prop :=
  ∀ A (L : Loc F.ck) P s, Good A k → Rl c L ρ σ P s.heap → wpAny (model c.prog c.w) A (isTrue e (F.env L) (eval e (F.env L))) (PB c L s P ρ Q) noE s
noncomputable def Ex (c : Cx) (F : Fn) (k : Nat) (ρ : Rho) (σ : Sg) (st : Stmt) (Q : Out → Rho → Sg → Prop) : Prop :=
  ∀ A (L : Loc F.ck) P s, Good A k → Rl c L ρ σ P s.heap → wpAny (model c.prog c.w) A (exec st (F.env L)) (PO c L s P Q) noE s
noncomputable def Exs (c : Cx) (F : Fn) (k : Nat) (ρ : Rho) (σ : Sg) (st : List Stmt) (Q : Out → Rho → Sg → Prop) : Prop :=
  ∀ A (L : Loc F.ck) P s, Good A k → Rl c L ρ σ P s.heap → wpAny (model c.prog c.w) A (execs st (F.env L)) (PO c L s P Q) noE s
/-- trees over values -/
noncomputable def Op1 (c : Cx) (k : Nat) (σ : Sg) (t : Value → Sem Value) (d : D) (Q : D → Sg → Prop) : Prop :=
  ∀ A {ck : List Str} (L : Loc ck) ρ P s v, Good A k → Rl c L ρ σ P s.heap → VR c P v d → wpAny (model c.prog c.w) A (t v) (PD c L s P ρ Q) noE s
noncomputable def Op2 (c : Cx) (k : Nat) (σ : Sg) (t : Value → Value → Sem Value) (d e : D) (Q : D → Sg → Prop) : Prop :=
  ∀ A {ck : List Str} (L : Loc ck) ρ P s v u, Good A k → Rl c L ρ σ P s.heap → VR c P v d → VR c P u e → wpAny (model c.prog c.w) A (t v u) (PD c L s P ρ Q) noE s
noncomputable def OpU3 (c : Cx) (k : Nat) (σ : Sg) (t : Value → Value → Value → Sem Unit) (d e f : D) (Q : Sg → Prop) : Prop :=
  ∀ A {ck : List Str} (L : Loc ck) ρ P s v u x, Good A k → Rl c L ρ σ P s.heap → VR c P v d → VR c P u e → VR c P x f → wpAny (model c.prog c.w) A (t v u x) (PU c L s P ρ Q) noE s
noncomputable def OpU2 (c : Cx) (k : Nat) (σ : Sg) (t : Value → Value → Sem Unit) (d e : D) (Q : Sg → Prop) : Prop :=
  ∀ A {ck : List Str} (L : Loc ck) ρ P s v u, Good A k → Rl c L ρ σ P s.heap → VR c P v d → VR c P u e → wpAny (model c.prog c.w) A (t v u) (PU c L s P ρ Q) noE s
/-- a call of a value with values -/
noncomputable def Cl (c : Cx) (k : Nat) (σ : Sg) (f : Value) (ds : List D) (Q : D → Sg → Prop) : Prop :=
  ∀ A {ck : List Str} (L : Loc ck) ρ P s vs, Good A k → Rl c L ρ σ P s.heap → VRs c P vs ds → wpAny (model c.prog c.w) A (call f vs) (PD c L s P ρ Q) noE s
section
variable {c : Cx} {F : Fn} {k : Nat} {ρ : Rho} {σ : Sg}
theorem Ev.mono {e : Expr} {Q Q' : D → Sg → Prop} (h : Ev c F k ρ σ e Q) (hq : ∀ d σ', Q d σ' → Q' d σ') : Ev c F k ρ σ e Q' :=
  fun A L P s g r => wpAny_mono (h A L P s g r) (fun _ _ ⟨P', d, σ', p, v, q⟩ => ⟨P', d, σ', p, v, hq _ _ q⟩) fun _ _ x => x
theorem Exs.mono {st : List Stmt} {Q Q' : Out → Rho → Sg → Prop} (h : Exs c F k ρ σ st Q) (hq : ∀ o ρ' σ', Q o ρ' σ' → Q' o ρ' σ') : Exs c F k ρ σ st Q' :=
  fun A L P s g r => wpAny_mono (h A L P s g r) (fun _ _ ⟨P', d, ρ', σ', p, v, q⟩ => ⟨P', d, ρ', σ', p, v, hq _ _ _ q⟩) fun _ _ x => x
theorem PD.of {ck : List Str} {L : Loc ck} {s s₁ : Shared} {P P₁ : Know} {σ₁ : Sg} {Q : D → Sg → Prop} {v : Value} {s' : Shared} (p : Post c L s P ρ σ₁ P₁ s₁) (h : PD c L s₁ P₁ ρ Q v s') : PD c L s P ρ Q v s' := by
  obtain ⟨P', d, σ', q, r, t⟩ := h
  exact ⟨P', d, σ', p.trans q, r, t⟩
end
end

section
section
variable {c : Cx} {F : Fn} {k : Nat} {ρ : Rho} {σ : Sg}
/-! steps of the abstract state -/
theorem Rl.bump {ck : List Str} {L : Loc ck} {P : Know} {s : Shared} {n : Nat} (R : Rl c L ρ σ P s.heap) : Post c L s P ρ σ P { s with toks := n } :=
  ⟨fun _ _ x => x, R, ⟨s.heap, n, rfl⟩⟩
theorem PD.val {ck : List Str} {L : Loc ck} {P : Know} {s : Shared} {n : Nat} {Q : D → Sg → Prop} {v : Value} {d : D} (R : Rl c L ρ σ P s.heap) (h : VR c P v d) (q : Q d σ) : PD c L s P ρ Q v { s with toks := n } :=
  ⟨P, d, σ, R.bump, h, q⟩
theorem PD.val0 {ck : List Str} {L : Loc ck} {P : Know} {s : Shared} {Q : D → Sg → Prop} {v : Value} {d : D} (R : Rl c L ρ σ P s.heap) (h : VR c P v d) (q : Q d σ) : PD c L s P ρ Q v s :=
  ⟨P, d, σ, .refl R, h, q⟩
/-! names -/
theorem lookup_zip_none {α : Type} {x : Str} : ∀ {ks : List Str} {as : List α}, ks.contains x = false → (ks.zip as).lookup x = none
  | [], _, _ => rfl
  | _ :: _, [], _ => rfl
  | y :: ks, a :: as, h => by
    rw [List.contains_cons, Bool.or_eq_false_iff] at h
    rw [List.zip_cons_cons, List.lookup, h.1]
    exact lookup_zip_none h.2
theorem lookup_zip_some {α : Type} {x : Str} : ∀ {ks : List Str} {as : List α}, as.length = ks.length → ks.contains x = true → ∃ a, (ks.zip as).lookup x = some a ∧ a ∈ as
  | [], _, _, h => by simp at h
  | _ :: _, [], h, _ => by simp at h
  | y :: ks, a :: as, hl, h => by
    rw [List.zip_cons_cons, List.lookup]
    cases hb : (x == y) with
    | true => exact ⟨a, rfl, .head _⟩
    | false =>
      rw [List.contains_cons, hb, Bool.false_or] at h
      obtain ⟨b, h1, h2⟩ := lookup_zip_some (as := as) (by simpa using hl) h
      exact ⟨b, h1, .tail _ h2⟩
theorem Loc.none {ck : List Str} (L : Loc ck) {x : Str} (h : ck.contains x = false) : L.cs.lookup x = none := lookup_zip_none h
theorem Loc.some {ck : List Str} (L : Loc ck) {x : Str} (h : ck.contains x = true) : ∃ a, L.cs.lookup x = some a ∧ a ∈ L.ca := lookup_zip_some L.len h
theorem Ev.loc {x : Str} {pos : Pos} {d : D} {Q : D → Sg → Prop} (hv : ρ x = some d) (q : Q d σ)
    (hk : F.scope.kind = .function := by rfl) (hl : F.scope.names.lookup x = some .local := by rfl) (hd : (x == ("__debug__" : Str)) = false := by decide) (hc : F.ck.contains x = false := by rfl) :
    Ev c F k ρ σ (.Name x pos) Q := by
  intro A L P s g R
  obtain ⟨m, hn, hm⟩ := R.frame
  obtain ⟨v, e, hv'⟩ := (hm x d hv).2 (L.none hc)
  exact wpAny_Name (wpAny_loadName_local (env := F.env L) hk hl hn e (PD.val0 R hv' q)) hd
theorem Ev.cell {x : Str} {pos : Pos} {d : D} {Q : D → Sg → Prop} (hv : ρ x = some d) (q : Q d σ)
    (hk : F.scope.kind = .function := by rfl) (hl : F.scope.names.lookup x = some .cell := by rfl) (hd : (x == ("__debug__" : Str)) = false := by decide) (hc : F.ck.contains x = true := by rfl) :
    Ev c F k ρ σ (.Name x pos) Q := by
  intro A L P s g R
  obtain ⟨m, hn, hm⟩ := R.frame
  obtain ⟨a, ha, _⟩ := L.some hc
  obtain ⟨v, e, hv'⟩ := (hm x d hv).1 a ha
  exact wpAny_Name (wpAny_loadName_cell (env := F.env L) hk hl ha e (PD.val0 R hv' q)) hd
/-- a name of the module's, a name of the built-ins -/
inductive IsB (d : D) (σ' : Sg) (Q : Bool → Sg → Prop) : Prop
  | mk (b : Bool) (e : d = .bool b) (q : Q b σ')
noncomputable def Gl (c : Cx) (x : Str) (v : Value) : Prop := ∃ mg, c.h₀.Ns mainGlobals mg ∧ mg x = some v
noncomputable def Bi (c : Cx) (x : Str) (v : Value) : Prop := ∃ mg mb, c.h₀.Ns mainGlobals mg ∧ mg x = none ∧ c.h₀.Ns builtinsNs mb ∧ mb x = some v
theorem Rl.old {ck : List Str} {L : Loc ck} {P : Know} {h : Heap} (R : Rl c L ρ σ P h) (a : Addr) (o : Obj) (e : c.h₀.get? a = some o) : h.get? a = some o := R.froz _ _ (R.base _ _ e)
theorem Ev.glob {x : Str} {pos : Pos} {v : Value} {d : D} {Q : D → Sg → Prop} (hg : Gl c x v) (hv : ∀ P, VR c P v d) (q : Q d σ)
    (hk : F.scope.kind = .function := by rfl) (hl : F.scope.names.lookup x = some .globalImplicit := by rfl) (hd : (x == ("__debug__" : Str)) = false := by decide) :
    Ev c F k ρ σ (.Name x pos) Q := by
  intro A L P s g R
  obtain ⟨mg, hn, e⟩ := hg
  exact Calls.Name_function_global (env := F.env L) hk hl (Calls.loadGlobal_global (env := F.env L) (hn.keeps R.old) e (PD.val0 R (hv P) q)) hd
theorem Ev.blt {x : Str} {pos : Pos} {v : Value} {Q : D → Sg → Prop} (hg : Bi c x v) (q : Q (.raw v) σ)
    (hk : F.scope.kind = .function := by rfl) (hl : F.scope.names.lookup x = some .globalImplicit := by rfl) (hd : (x == ("__debug__" : Str)) = false := by decide) :
    Ev c F k ρ σ (.Name x pos) Q := by
  intro A L P s g R
  obtain ⟨mg, mb, hn, e, hb, e'⟩ := hg
  exact Calls.Name_function_global (env := F.env L) hk hl (Calls.loadGlobal_builtin (env := F.env L) (hn.keeps R.old) e (hb.keeps R.old) e' (PD.val0 R (.raw v) q)) hd
/-! constants -/
theorem Ev.cint {i : Int} {j : Nat} {pos : Pos} {Q : D → Sg → Prop} (q : Q (.int i) σ) : Ev c F k ρ σ (.Constant (.int i) j pos) Q :=
  fun _ _ _ _ _ R => wpAny_Constant_int (PD.val R (.int _ _) q)
theorem Ev.cstr {x : Str} {j : Nat} {pos : Pos} {Q : D → Sg → Prop} (q : Q (.str x) σ) : Ev c F k ρ σ (.Constant (.str x) j pos) Q :=
  fun _ _ _ _ _ R => wpAny_Constant_str (PD.val R (.str _ _) q)
theorem Ev.cbool {b : Bool} {j : Nat} {pos : Pos} {Q : D → Sg → Prop} (q : Q (.bool b) σ) : Ev c F k ρ σ (.Constant (.bool b) j pos) Q :=
  fun _ _ _ _ _ R => wpAny_Constant_bool (PD.val0 R (.bool _) q)
/-! nodes -/
theorem Ev.binop {l r : Expr} {op : Operator} {pos : Pos} {Q : D → Sg → Prop}
    (h : Ev c F k ρ σ l (fun d σ1 => Ev c F k ρ σ1 r (fun e σ2 => Op2 c k σ2 (binaryOp op) d e Q))) : Ev c F k ρ σ (.BinOp l op r pos) Q := by
  intro A L P s g R
  refine wpAny_BinOp (wpAny_mono (h A L P s g R) ?_ fun _ _ x => x)
  rintro a s1 ⟨P1, d, σ1, p1, v1, h1⟩
  refine wpAny_mono (h1 A L P1 s1 g p1.rl) ?_ fun _ _ x => x
  rintro b s2 ⟨P2, e, σ2, p2, v2, h2⟩
  exact wpAny_mono (h2 A L ρ P2 s2 a b g p2.rl (v1.mono p2.more) v2) (fun v s' h => PD.of (p1.trans p2) h) fun _ _ x => x
theorem Ev.unop {x : Expr} {op : UnaryOp} {pos : Pos} {Q : D → Sg → Prop}
    (h : Ev c F k ρ σ x (fun d σ1 => Op1 c k σ1 (unaryOp op) d Q)) : Ev c F k ρ σ (.UnaryOp op x pos) Q := by
  intro A L P s g R
  refine wpAny_UnaryOp (wpAny_mono (h A L P s g R) ?_ fun _ _ x => x)
  rintro a s1 ⟨P1, d, σ1, p1, v1, h1⟩
  exact wpAny_mono (h1 A L ρ P1 s1 a g p1.rl v1) (fun v s' h => PD.of p1 h) fun _ _ x => x
theorem Ev.cmp {l r : Expr} {op : CmpOp} {pos : Pos} {Q : D → Sg → Prop}
    (h : Ev c F k ρ σ l (fun d σ1 => Ev c F k ρ σ1 r (fun e σ2 => Op2 c k σ2 (compareOp op) d e Q)))
    (hm : behindInMarks op r = false := by with_unfolding_all rfl) : Ev c F k ρ σ (.Compare l [op] [r] pos) Q := by
  intro A L P s g R
  refine wpAny_Compare1 (wpAny_mono (h A L P s g R) ?_ fun _ _ x => x) hm
  rintro a s1 ⟨P1, d, σ1, p1, v1, h1⟩
  refine wpAny_mono (h1 A L P1 s1 g p1.rl) ?_ fun _ _ x => x
  rintro b s2 ⟨P2, e, σ2, p2, v2, h2⟩
  exact wpAny_mono (h2 A L ρ P2 s2 a b g p2.rl (v1.mono p2.more) v2) (fun v s' h => PD.of (p1.trans p2) h) fun _ _ x => x
theorem PB.of {ck : List Str} {L : Loc ck} {s s₁ : Shared} {P P₁ : Know} {σ₁ : Sg} {Q : Bool → Sg → Prop} {v : Bool} {s' : Shared} (p : Post c L s P ρ σ₁ P₁ s₁) (h : PB c L s₁ P₁ ρ Q v s') : PB c L s P ρ Q v s' := by
  obtain ⟨P', σ', q, t⟩ := h
  exact ⟨P', σ', p.trans q, t⟩
theorem PO.of {ck : List Str} {L : Loc ck} {s s₁ : Shared} {P P₁ : Know} {ρ₁ : Rho} {σ₁ : Sg} {Q : Out → Rho → Sg → Prop} {v : Flow} {s' : Shared} (p : Post c L s P ρ₁ σ₁ P₁ s₁) (h : PO c L s₁ P₁ Q v s') : PO c L s P Q v s' := by
  obtain ⟨P', o, ρ', σ', q, r, t⟩ := h
  exact ⟨P', o, ρ', σ', p.trans q, r, t⟩
theorem PU.of {ck : List Str} {L : Loc ck} {s s₁ : Shared} {P P₁ : Know} {σ₁ : Sg} {Q : Sg → Prop} {v : Unit} {s' : Shared} (p : Post c L s P ρ σ₁ P₁ s₁) (h : PU c L s₁ P₁ ρ Q v s') : PU c L s P ρ Q v s' := by
  obtain ⟨P', σ', q, t⟩ := h
  exact ⟨P', σ', p.trans q, t⟩
/-- the truth of a bool -/
theorem truth_bool {A : Around} {ck : List Str} {L : Loc ck} {P : Know} {s s1 : Shared} {v : Value} {b : Bool} {σ1 : Sg} {Q : Bool → Sg → Prop} {P1 : Know} (p : Post c L s P ρ σ1 P1 s1) (hv : VR c P1 v (.bool b)) (q : Q b σ1) :
    wpAny (model c.prog c.w) A (truthy v) (PB c L s P ρ Q) noE s1 := by
  cases hv
  exact wpAny_truthy_bool ⟨P1, σ1, p, q⟩
theorem Tr.cmp {l r : Expr} {op : CmpOp} {pos : Pos} {Q : Bool → Sg → Prop}
    (h : Ev c F k ρ σ l (fun d σ1 => Ev c F k ρ σ1 r (fun e σ2 => Op2 c k σ2 (compareOp op) d e (fun d σ' => IsB d σ' Q))))
    (hm : behindInMarks op r = false := by with_unfolding_all rfl) : Tr c F k ρ σ (.Compare l [op] [r] pos) Q := by
  intro A L P s g R
  refine wpAny_isTrue_Compare1 (wpAny_mono (h A L P s g R) ?_ fun _ _ x => x) hm
  rintro a s1 ⟨P1, d, σ1, p1, v1, h1⟩
  refine wpAny_mono (h1 A L P1 s1 g p1.rl) ?_ fun _ _ x => x
  rintro b s2 ⟨P2, e, σ2, p2, v2, h2⟩
  refine wpAny_mono (h2 A L ρ P2 s2 a b g p2.rl (v1.mono p2.more) v2) ?_ fun _ _ x => x
  rintro v s3 ⟨P3, d3, σ3, p3, v3, b3, rfl, q⟩
  exact truth_bool ((p1.trans p2).trans p3) v3 q
theorem Tr.not {x : Expr} {pos : Pos} {Q : Bool → Sg → Prop} (h : Tr c F k ρ σ x (fun b σ' => Q (!b) σ')) : Tr c F k ρ σ (.UnaryOp .Not x pos) Q :=
  fun A L P s g R => wpAny_isTrue_Not (wpAny_mono (h A L P s g R) (fun _ _ ⟨P', σ', p, q⟩ => ⟨P', σ', p, q⟩) fun _ _ x => x)
theorem Tr.plain {e : Expr} {Q : Bool → Sg → Prop} (h : Ev c F k ρ σ e (fun d σ' => IsB d σ' Q))
    (he : ∀ L : Loc F.ck, isTrue e (F.env L) (eval e (F.env L)) = (do let v ← eval e (F.env L); standAt e.pos; holding [v] (truthy v)) := by intro _; rfl) : Tr c F k ρ σ e Q := by
  intro A L P s g R
  refine isTrue_plain (env := F.env L) (wpAny_mono (h A L P s g R) ?_ fun _ _ x => x) (he L)
  rintro v s3 ⟨P3, d3, σ3, p3, v3, b3, rfl, q⟩
  exact truth_bool p3 v3 q
/-- and, or as a test: what its parts say, in turn -/
noncomputable def TrAnd (c : Cx) (F : Fn) (k : Nat) (ρ : Rho) (Q : Bool → Sg → Prop) : List Expr → Sg → Prop
  | [], σ => Q true σ
  | e :: r, σ => Tr c F k ρ σ e (fun b σ' => if b = true then TrAnd c F k ρ Q r σ' else Q false σ')
noncomputable def TrOr (c : Cx) (F : Fn) (k : Nat) (ρ : Rho) (Q : Bool → Sg → Prop) : List Expr → Sg → Prop
  | [], σ => Q false σ
  | e :: r, σ => Tr c F k ρ σ e (fun b σ' => if b = true then Q true σ' else TrOr c F k ρ Q r σ')
theorem trAnd_go {Q : Bool → Sg → Prop} : ∀ (es : List Expr) (σ : Sg), TrAnd c F k ρ Q es σ → ∀ A (L : Loc F.ck) P s, Good A k → Rl c L ρ σ P s.heap → wpAny (model c.prog c.w) A (allTrue .And es (F.env L)) (PB c L s P ρ Q) noE s
  | [], σ, h, A, L, P, s, _, R => wpAny_allTrue_And_nil ⟨P, σ, .refl R, h⟩
  | e :: r, σ, h, A, L, P, s, g, R => by
    refine wpAny_allTrue_And_cons (wpAny_mono (h A L P s g R) ?_ fun _ _ x => x)
    rintro b s1 ⟨P1, σ1, p1, q⟩
    cases b with
    | true => exact wpAny_mono (trAnd_go r σ1 q A L P1 s1 g p1.rl) (fun _ _ x => PB.of p1 x) fun _ _ x => x
    | false => exact ⟨P1, σ1, p1, q⟩
theorem trOr_go {Q : Bool → Sg → Prop} : ∀ (es : List Expr) (σ : Sg), TrOr c F k ρ Q es σ → ∀ A (L : Loc F.ck) P s, Good A k → Rl c L ρ σ P s.heap → wpAny (model c.prog c.w) A (allTrue .Or es (F.env L)) (PB c L s P ρ Q) noE s
  | [], σ, h, A, L, P, s, _, R => wpAny_allTrue_Or_nil ⟨P, σ, .refl R, h⟩
  | e :: r, σ, h, A, L, P, s, g, R => by
    refine wpAny_allTrue_Or_cons (wpAny_mono (h A L P s g R) ?_ fun _ _ x => x)
    rintro b s1 ⟨P1, σ1, p1, q⟩
    cases b with
    | false => exact wpAny_mono (trOr_go r σ1 q A L P1 s1 g p1.rl) (fun _ _ x => PB.of p1 x) fun _ _ x => x
    | true => exact ⟨P1, σ1, p1, q⟩
theorem Tr.and {es : List Expr} {pos : Pos} {Q : Bool → Sg → Prop} (h : TrAnd c F k ρ Q es σ) : Tr c F k ρ σ (.BoolOp .And es pos) Q :=
  fun A L P s g R => wpAny_isTrue_BoolOp (trAnd_go es σ h A L P s g R)
theorem Tr.or {es : List Expr} {pos : Pos} {Q : Bool → Sg → Prop} (h : TrOr c F k ρ Q es σ) : Tr c F k ρ σ (.BoolOp .Or es pos) Q :=
  fun A L P s g R => wpAny_isTrue_BoolOp (trOr_go es σ h A L P s g R)
/-- and, or as values of bools -/
noncomputable def EvAnd (c : Cx) (F : Fn) (k : Nat) (ρ : Rho) (Q : D → Sg → Prop) : List Expr → Sg → Prop
  | [], _ => False
  | [e], σ => Ev c F k ρ σ e Q
  | e :: f :: r, σ => Ev c F k ρ σ e (fun d σ' => IsB d σ' fun b σ' => if b = true then EvAnd c F k ρ Q (f :: r) σ' else Q (.bool false) σ')
noncomputable def EvOr (c : Cx) (F : Fn) (k : Nat) (ρ : Rho) (Q : D → Sg → Prop) : List Expr → Sg → Prop
  | [], _ => False
  | [e], σ => Ev c F k ρ σ e Q
  | e :: f :: r, σ => Ev c F k ρ σ e (fun d σ' => IsB d σ' fun b σ' => if b = true then Q (.bool true) σ' else EvOr c F k ρ Q (f :: r) σ')
theorem Ev.and {pos : Pos} {Q : D → Sg → Prop} : ∀ {es : List Expr} {σ : Sg}, EvAnd c F k ρ Q es σ → Ev c F k ρ σ (.BoolOp .And es pos) Q
  | [], _, h => h.elim
  | [e], σ, h => fun A L P s g R => BoolOp_one (h A L P s g R)
  | e :: f :: r, σ, h => by
    intro A L P s g R
    refine BoolOp_and (wpAny_mono (h A L P s g R) ?_ fun _ _ x => x)
    rintro v s1 ⟨P1, d1, σ1, p1, v1, b, rfl, q⟩
    cases v1
    refine wpAny_truthy_bool ?_
    cases b with
    | true => exact wpAny_mono (Ev.and (pos := pos) q A L P1 s1 g p1.rl) (fun _ _ x => PD.of p1 x) fun _ _ x => x
    | false => exact ⟨P1, _, σ1, p1, .bool _, q⟩
theorem Ev.or {pos : Pos} {Q : D → Sg → Prop} : ∀ {es : List Expr} {σ : Sg}, EvOr c F k ρ Q es σ → Ev c F k ρ σ (.BoolOp .Or es pos) Q
  | [], _, h => h.elim
  | [e], σ, h => fun A L P s g R => BoolOp_one (h A L P s g R)
  | e :: f :: r, σ, h => by
    intro A L P s g R
    refine BoolOp_or (wpAny_mono (h A L P s g R) ?_ fun _ _ x => x)
    rintro v s1 ⟨P1, d1, σ1, p1, v1, b, rfl, q⟩
    cases v1
    refine wpAny_truthy_bool ?_
    cases b with
    | false => exact wpAny_mono (Ev.or (pos := pos) q A L P1 s1 g p1.rl) (fun _ _ x => PD.of p1 x) fun _ _ x => x
    | true => exact ⟨P1, _, σ1, p1, .bool _, q⟩
/-! many -/
theorem Evs.nil {Q : List D → Sg → Prop} (q : Q [] σ) : Evs c F k ρ σ [] Q :=
  fun _ _ P _ _ _ R => wpAny_items_nil ⟨P, [], σ, .refl R, .nil, q⟩
theorem Evs.cons {e : Expr} {r : List Expr} {Q : List D → Sg → Prop} (h : Ev c F k ρ σ e (fun d σ1 => Evs c F k ρ σ1 r (fun ds σ2 => Q (d :: ds) σ2)))
    (he : ∀ L : Loc F.ck, starEach (e :: r) (F.env L) = (false, eval e (F.env L)) :: starEach r (F.env L) := by intro _; rfl) : Evs c F k ρ σ (e :: r) Q := by
  intro A L P s pos g R
  refine wpAny_items_cons (env := F.env L) (wpAny_mono (h A L P s g R) ?_ fun _ _ x => x) (he L)
  rintro v s1 ⟨P1, d1, σ1, p1, v1, h1⟩
  refine wpAny_mono (h1 A L P1 s1 pos g p1.rl) ?_ fun _ _ x => x
  rintro vs s2 ⟨P2, ds, σ2, p2, v2, q⟩
  exact ⟨P2, d1 :: ds, σ2, p1.trans p2, .cons (v1.mono p2.more) v2, q⟩
end
end

section
noncomputable def upd (σ : Sg) (a : Addr) (O : AObj) : Sg := fun x => if x = a then some O else σ x
noncomputable def setR (ρ : Rho) (x : Str) (d : D) : Rho := fun y => if y = x then some d else ρ y
theorem upd_same {σ : Sg} {a : Addr} {O : AObj} : upd σ a O a = some O := if_pos rfl
theorem upd_ne {σ : Sg} {a b : Addr} {O : AObj} (h : b ≠ a) : upd σ a O b = σ b := if_neg h
theorem upd_new {σ : Sg} {a b : Addr} {O O' : AObj} (hn : σ a = none) (h : σ b = some O') : upd σ a O b = some O' := by
  rw [upd_ne]; exact h
  intro e; rw [e, hn] at h; cases h
theorem ne_new {σ : Sg} {a b : Addr} {O' : AObj} (hn : σ a = none) (h : σ b = some O') : b ≠ a := by
  intro e; rw [e, hn] at h; cases h
theorem setR_same {ρ : Rho} {x : Str} {d : D} : setR ρ x d x = some d := if_pos rfl
theorem setR_ne {ρ : Rho} {x y : Str} {d : D} (h : y ≠ x) : setR ρ x d y = ρ y := if_neg h
section
variable {c : Cx} {F : Fn} {k : Nat} {ρ : Rho} {σ : Sg}
theorem Hp.ext {P : Know} {h h' : Heap} (H : Hp c σ P h) (hk : ∀ a o, h.get? a = some o → h'.get? a = some o) : Hp c σ P h' :=
  ⟨H.base, fun a o x => hk _ _ (H.froz a o x), fun a O e => let ⟨o, x, y⟩ := H.objs a O e; ⟨o, hk _ _ x, y⟩, H.apart, H.high⟩
theorem isCell_at {h h' : Heap} {a : Addr} {v : Option Value} (x : h.IsCell a v) (hk : ∀ o, h.get? a = some o → h'.get? a = some o) : h'.IsCell a v := let ⟨o, e, r⟩ := x; ⟨o, hk _ e, r⟩
theorem lookup_mem {x : Str} {a : Addr} : ∀ {ks : List Str} {as : List Addr}, (ks.zip as).lookup x = some a → a ∈ as
  | [], _, e => by simp at e
  | _ :: _, [], e => by simp at e
  | k :: ks, b :: as, e => by
    rw [List.zip_cons_cons, List.lookup] at e
    split at e
    · cases e; exact .head _
    · exact .tail _ (lookup_mem e)
/-- a frame whose objects stand as they stood -/
theorem Fm.keep {ck : List Str} {L : Loc ck} {P P' : Know} {h h' : Heap} (M : Fm c L ρ P h) (hk : ∀ a ∈ L.all, ∀ o, h.get? a = some o → h'.get? a = some o) (hs : ∀ a o, P a o → Imm o → P' a o) : Fm c L ρ P' h' := by
  have hl : ∀ {x : Str} {a : Addr}, L.cs.lookup x = some a → a ∈ L.all := fun e => .tail _ (lookup_mem e)
  refine ⟨M.above, M.nodup, fun a ha => let ⟨v, x⟩ := M.cells a ha; ⟨v, isCell_at x (hk a (.tail _ ha))⟩, ?_⟩
  obtain ⟨m, ⟨o, es, ep, e, r⟩, q⟩ := M.frame
  refine ⟨m, ⟨o, es, ep, hk _ (.head _) _ e, r⟩, fun x d e => ⟨fun a ha => ?_, fun hn => ?_⟩⟩
  · obtain ⟨v, h1, h2⟩ := (q x d e).1 a ha
    exact ⟨v, isCell_at h1 (hk a (hl ha)), h2.move hs⟩
  · obtain ⟨v, h1, h2⟩ := (q x d e).2 hn
    exact ⟨v, h1, h2.move hs⟩
theorem Rl.ext {ck : List Str} {L : Loc ck} {P : Know} {h h' : Heap} (R : Rl c L ρ σ P h) (hk : ∀ a o, h.get? a = some o → h'.get? a = some o) : Rl c L ρ σ P h' :=
  ⟨R.toHp.ext hk, R.toFm.keep (fun _ _ => hk _) fun _ _ x _ => x, R.own⟩
/-- an object that stands elsewhere -/
theorem Rl.extBut {ck : List Str} {L : Loc ck} {P : Know} {h h' : Heap} (R : Rl c L ρ σ P h) {b : Addr} (hk : ∀ a o, a ≠ b → h.get? a = some o → h'.get? a = some o) (hb : σ b = none) (hL : b ∉ L.all) (hP : ∀ o, ¬ P b o) : Rl c L ρ σ P h' :=
  ⟨⟨R.base, fun a o x => hk _ _ (fun e => hP o (e ▸ x)) (R.froz a o x), fun a O e => let ⟨o, x, y⟩ := R.objs a O e; ⟨o, hk _ _ (fun e' => by rw [e', hb] at e; cases e) x, y⟩, R.apart, R.high⟩,
    R.toFm.keep (fun a ha o => hk a o fun e => hL (e ▸ ha)) fun _ _ x _ => x, R.own⟩
theorem Rl.alive {ck : List Str} {L : Loc ck} {P : Know} {h : Heap} (R : Rl c L ρ σ P h) {a : Addr} {O : AObj} (e : σ a = some O) : a < h.objs.size :=
  let ⟨_, x, _⟩ := R.objs a O e; Heap.lt_size x
theorem Rl.new {ck : List Str} {L : Loc ck} {P : Know} {h : Heap} (R : Rl c L ρ σ P h) : σ h.objs.size = none := by
  cases e : σ h.objs.size with
  | none => rfl
  | some O => exact absurd (R.alive e) (Nat.lt_irrefl _)
theorem Rl.newP {ck : List Str} {L : Loc ck} {P : Know} {h : Heap} (R : Rl c L ρ σ P h) (o : Obj) : ¬ P h.objs.size o := fun x => absurd (Heap.lt_size (R.froz _ _ x)) (Nat.lt_irrefl _)
/-- what a frame's object is -/
theorem Fm.objAt {ck : List Str} {L : Loc ck} {P : Know} {h : Heap} (R : Fm c L ρ P h) {a : Addr} (ha : a ∈ L.all) : ∃ o, h.get? a = some o ∧ ¬ Imm o := by
  rcases List.mem_cons.mp ha with rfl | ha
  · obtain ⟨m, ⟨o, es, ep, e, d, _⟩, _⟩ := R.frame
    exact ⟨o, e, fun i => by unfold Imm at i; rw [d] at i; exact i⟩
  · obtain ⟨v, o, e, d⟩ := R.cells a ha
    exact ⟨o, e, fun i => by unfold Imm at i; rw [d] at i; exact i⟩
theorem Fm.lt {ck : List Str} {L : Loc ck} {P : Know} {h : Heap} (R : Fm c L ρ P h) {a : Addr} (ha : a ∈ L.all) : a < h.objs.size := let ⟨_, e, _⟩ := R.objAt ha; Heap.lt_size e
theorem Fm.notNew {ck : List Str} {L : Loc ck} {P : Know} {h : Heap} (R : Fm c L ρ P h) : h.objs.size ∉ L.all := fun x => absurd (R.lt x) (Nat.lt_irrefl _)
theorem Fm.ltL {ck : List Str} {L : Loc ck} {P : Know} {h : Heap} (R : Fm c L ρ P h) : L.L < h.objs.size := R.lt (.head _)
theorem Rl.fr {ck : List Str} {L : Loc ck} {P : Know} {h : Heap} (R : Rl c L ρ σ P h) : ∃ m, Fr c.h₀ L.L h m ∧ (h.Ns L.L m → ∀ h', h'.Ns L.L m → (∀ a ∈ L.ca, ∀ o, h.get? a = some o → h'.get? a = some o) → Fm c L ρ P h') :=
  let ⟨m, n, q⟩ := R.frame
  ⟨m, ⟨n, R.old, R.above⟩, fun _ h' n' hk => by
    have M := R.toFm
    have hl : ∀ {x : Str} {a : Addr}, L.cs.lookup x = some a → a ∈ L.ca := fun e => lookup_mem e
    exact ⟨M.above, M.nodup, fun a ha => let ⟨v, x⟩ := M.cells a ha; ⟨v, isCell_at x (hk a ha)⟩, m, n', fun x d e => ⟨fun a ha => let ⟨v, h1, h2⟩ := (q x d e).1 a ha; ⟨v, isCell_at h1 (hk a (hl ha)), h2⟩, (q x d e).2⟩⟩⟩
noncomputable def addP (P : Know) (a : Addr) (o : Obj) : Know := fun b p => P b p ∨ (b = a ∧ p = o)
theorem Rl.know {ck : List Str} {L : Loc ck} {P : Know} {h : Heap} (R : Rl c L ρ σ P h) {a : Addr} {o : Obj} (ho : h.get? a = some o) (ha : σ a = none) (hL : a ∉ L.all) : Rl c L ρ σ (addP P a o) h := by
  refine ⟨⟨fun a o x => .inl (R.base a o x), ?_, fun b O e => ?_, fun b O e p hp => ?_, R.high⟩, R.toFm.keep (fun _ _ _ x => x) fun _ _ x _ => .inl x, fun b hb => ⟨(R.own b hb).1, fun p hp => ?_⟩⟩
  · rintro b p (x | ⟨rfl, rfl⟩)
    · exact R.froz _ _ x
    · exact ho
  · obtain ⟨q, x, y⟩ := R.objs b O e
    exact ⟨q, x, y.move fun _ _ z _ => .inl z⟩
  · rcases hp with hp | ⟨rfl, rfl⟩
    · exact R.apart b O e p hp
    · rw [ha] at e; cases e
  · rcases hp with hp | ⟨rfl, rfl⟩
    · exact (R.own b hb).2 p hp
    · exact hL hb
/-- a new frozen object -/
theorem Rl.pushP {ck : List Str} {L : Loc ck} {P : Know} {s : Shared} {n : Nat} (R : Rl c L ρ σ P s.heap) (o : Obj) (ho : o.isFreed = false) :
    Post c L s P ρ σ (addP P s.heap.objs.size o) { s with heap := s.heap.push o, toks := n } :=
  ⟨fun _ _ x => .inl x, (R.ext (h' := s.heap.push o) fun _ _ e => Heap.get?_push_of_some _ e).know (Heap.get?_push_size _ ho) R.new R.notNew, ⟨_, _, rfl⟩⟩
/-- one object turned, the frame told apart -/
theorem Rl.setF {ck : List Str} {L : Loc ck} {P : Know} {h h' : Heap} (R : Rl c L ρ σ P h) {a : Addr} {o : Obj} {O : AObj} (M : Fm c L ρ P h')
    (hk : ∀ b p, b ≠ a → b ∉ L.all → h.get? b = some p → h'.get? b = some p) (ho : h'.get? a = some o) (hO : OK c P o O) (hL : a ∉ L.all) (hP : ∀ o, ¬ P a o) (hA : c.h₀.objs.size ≤ a) : Rl c L ρ (Mine.upd σ a O) P h' := by
  refine ⟨⟨R.base, fun b p x => hk _ _ (fun e => hP p (e ▸ x)) (fun e => (R.own b e).2 p x) (R.froz b p x), fun b O' e => ?_, fun b O' e => ?_, fun b O' e => ?_⟩, M, fun b hb => ⟨?_, (R.own b hb).2⟩⟩
  · by_cases hb : b = a
    · subst hb; rw [upd_same] at e; cases e; exact ⟨o, ho, hO⟩
    · rw [upd_ne hb] at e
      obtain ⟨q, x, y⟩ := R.objs b O' e
      exact ⟨q, hk _ _ hb (fun t => by rw [(R.own b t).1] at e; cases e) x, y⟩
  · by_cases hb : b = a
    · subst hb; exact hP
    · rw [upd_ne hb] at e; exact R.apart b O' e
  · by_cases hb : b = a
    · subst hb; exact hA
    · rw [upd_ne hb] at e; exact R.high b O' e
  · rw [upd_ne (fun e => hL (by rw [← e]; exact hb))]; exact (R.own b hb).1
theorem Rl.set {ck : List Str} {L : Loc ck} {P : Know} {h h' : Heap} (R : Rl c L ρ σ P h) {a : Addr} {o : Obj} {O : AObj} (hk : ∀ b p, b ≠ a → h.get? b = some p → h'.get? b = some p) (ho : h'.get? a = some o) (hO : OK c P o O) (hL : a ∉ L.all) (hP : ∀ o, ¬ P a o) (hA : c.h₀.objs.size ≤ a) :
    Rl c L ρ (Mine.upd σ a O) P h' :=
  R.setF (R.toFm.keep (fun b hb p => hk b p fun e => hL (e ▸ hb)) fun _ _ x _ => x) (fun b p hb _ => hk b p hb) ho hO hL hP hA
theorem Rl.notL {ck : List Str} {L : Loc ck} {P : Know} {h : Heap} (R : Rl c L ρ σ P h) {a : Addr} {O : AObj} (e : σ a = some O) : a ∉ L.all := fun x => by rw [(R.own a x).1] at e; cases e
theorem Rl.upd {ck : List Str} {L : Loc ck} {P : Know} {h h' : Heap} (R : Rl c L ρ σ P h) {a : Addr} {o : Obj} {O O' : AObj} (ha : σ a = some O') (hs : Heap.SameBut a h h') (ho : h'.get? a = some o) (hO : OK c P o O) : Rl c L ρ (Mine.upd σ a O) P h' :=
  R.set (fun b p hb e => (hs.2 b hb).trans e) ho hO (R.notL ha) (R.apart a O' ha) (R.high a O' ha)
theorem Rl.pushO {ck : List Str} {L : Loc ck} {P : Know} {s : Shared} {n : Nat} (R : Rl c L ρ σ P s.heap) {o : Obj} {O : AObj} (hO : OK c P o O) :
    Post c L s P ρ (Mine.upd σ s.heap.objs.size O) P { s with heap := s.heap.push o, toks := n } :=
  ⟨fun _ _ x => x, R.set (fun _ _ _ e => Heap.get?_push_of_some _ e) (Heap.get?_push_size _ hO.notFreed) hO R.notNew R.newP (Nat.le_trans R.above (Nat.le_of_lt R.ltL)), ⟨_, _, rfl⟩⟩
/-- a store in the frame -/
theorem Rl.bind {ck : List Str} {L : Loc ck} {P : Know} {h h' : Heap} {m : Str → Option Value} {x : Str} {v : Value} {d : D} (R : Rl c L ρ σ P h)
    (hm : ∀ x d, ρ x = some d → (∀ a, L.cs.lookup x = some a → ∃ v, h.IsCell a (some v) ∧ VR c P v d) ∧ (L.cs.lookup x = none → ∃ v, m x = some v ∧ VR c P v d))
    (hx : L.cs.lookup x = none) (hn : h'.Ns L.L (fun y => if y = x then some v else m y)) (hs : Heap.SameBut L.L h h') (hv : VR c P v d) : Rl c L (setR ρ x d) σ P h' := by
  have hca : ∀ a ∈ L.ca, a ≠ L.L := fun a ha e => (List.nodup_cons.mp R.nodup).1 (e ▸ ha)
  have hcell : ∀ {a v}, h.IsCell a v → a ≠ L.L → h'.IsCell a v := fun {a v} x e => isCell_at x fun o q => (hs.2 a e).trans q
  refine ⟨⟨R.base, fun b p e => (hs.2 b (fun q => (R.own L.L (.head _)).2 p (q ▸ e))).trans (R.froz b p e), fun b O e => ?_, R.apart, R.high⟩, ⟨R.above, R.nodup, fun a ha => let ⟨u, y⟩ := R.cells a ha; ⟨u, hcell y (hca a ha)⟩, _, hn, fun y d' e => ?_⟩, R.own⟩
  · obtain ⟨o, q, r⟩ := R.objs b O e
    exact ⟨o, (hs.2 b (fun t => by rw [t, (R.own L.L (.head _)).1] at e; cases e)).trans q, r⟩
  · by_cases hy : y = x
    · subst hy
      rw [setR_same] at e
      cases e
      exact ⟨fun a ha => (by rw [hx] at ha; cases ha), fun _ => ⟨v, if_pos rfl, hv⟩⟩
    · rw [setR_ne hy] at e
      have hq := hm y d' e
      refine ⟨fun a ha => ?_, fun hy' => ?_⟩
      · obtain ⟨u, q, r⟩ := hq.1 a ha
        refine ⟨u, hcell q fun e' => ?_, r⟩
        obtain ⟨m', hns, _⟩ := R.frame
        obtain ⟨o1, es, ep, e1, d1, _⟩ := hns
        obtain ⟨o2, e2, d2⟩ := q
        rw [e', e1] at e2
        cases e2
        rw [d1] at d2
        cases d2
      · obtain ⟨u, q, r⟩ := hq.2 hy'
        exact ⟨u, by rw [if_neg hy]; exact q, r⟩
theorem lookup_inj {x y : Str} {a : Addr} : ∀ {ks : List Str} {as : List Addr}, as.Nodup → (ks.zip as).lookup x = some a → (ks.zip as).lookup y = some a → x = y
  | [], _, _, h, _ => by simp at h
  | _ :: _, [], _, h, _ => by simp at h
  | k :: ks, b :: as, hn, h1, h2 => by
    have hn' := List.nodup_cons.mp hn
    rw [List.zip_cons_cons, List.lookup] at h1 h2
    cases hx : (x == k) <;> cases hy : (y == k) <;> simp only [hx, hy] at h1 h2
    · exact lookup_inj hn'.2 h1 h2
    · cases h2; exact absurd (lookup_mem h1) hn'.1
    · cases h1; exact absurd (lookup_mem h2) hn'.1
    · rw [beq_iff_eq.mp hx, beq_iff_eq.mp hy]
theorem Rl.bindCell {ck : List Str} {L : Loc ck} {P : Know} {h h' : Heap} {x : Str} {v : Value} {d : D} {a : Addr} (R : Rl c L ρ σ P h)
    (hx : L.cs.lookup x = some a) (ha : a ∈ L.ca) (hn : h'.IsCell a (some v)) (hs : Heap.SameBut a h h') (hv : VR c P v d) : Rl c L (setR ρ x d) σ P h' := by
  have haL : a ≠ L.L := fun e => (List.nodup_cons.mp R.nodup).1 (e ▸ ha)
  have own := R.own a (.tail _ ha)
  obtain ⟨m, n, hm⟩ := R.frame
  refine ⟨⟨R.base, fun b p e => (hs.2 b (fun q => own.2 p (q ▸ e))).trans (R.froz b p e), fun b O e => ?_, R.apart, R.high⟩, ⟨R.above, R.nodup, fun b hb => ?_, m, n.sameBut hs haL.symm, fun y d' e => ?_⟩, R.own⟩
  · obtain ⟨o, q, r⟩ := R.objs b O e
    exact ⟨o, (hs.2 b (fun t => by rw [t, own.1] at e; cases e)).trans q, r⟩
  · by_cases h' : b = a
    · subst h'; exact ⟨_, hn⟩
    · obtain ⟨u, q⟩ := R.cells b hb
      exact ⟨u, isCell_at q fun o w => (hs.2 b h').trans w⟩
  · by_cases hy : y = x
    · subst hy
      rw [setR_same] at e
      cases e
      exact ⟨fun b hb => (by rw [hx] at hb; cases hb; exact ⟨v, hn, hv⟩), fun hb => (by rw [hx] at hb; cases hb)⟩
    · rw [setR_ne hy] at e
      refine ⟨fun b hb => ?_, (hm y d' e).2⟩
      obtain ⟨u, q, r⟩ := (hm y d' e).1 b hb
      refine ⟨u, isCell_at q fun o w => (hs.2 b fun e' => ?_).trans w, r⟩
      rw [e'] at hb
      exact hy (lookup_inj (List.nodup_cons.mp R.nodup).2 hb hx)
/-- a name bound: a name of the frame's, or a cell -/
noncomputable def Binds (F : Fn) (x : Str) : Prop := F.scope.kind = .function ∧ ((F.scope.names.lookup x = some .local ∧ F.ck.contains x = false) ∨ (F.scope.names.lookup x = some .cell ∧ F.ck.contains x = true))
theorem store_ok {A : Around} {L : Loc F.ck} {P : Know} {s : Shared} {x : Str} {v : Value} {d : D} {Q : Unit → Shared → Prop} (R : Rl c L ρ σ P s.heap) (hv : VR c P v d)
    (h : ∀ s', Post c L s P (setR ρ x d) σ P s' → Q () s') (hb : Binds F x) :
    wpAny (model c.prog c.w) A (storeName (F.env L) x v) Q noE s := by
  obtain ⟨hk, ⟨hl, hc⟩ | ⟨hl, hc⟩⟩ := hb
  · obtain ⟨m, hn, hm⟩ := R.frame
    refine wpAny_storeName_local (env := F.env L) hl hn (fun h' hn' hs => h _ ⟨fun _ _ x => x, R.bind hm (L.none hc) hn' hs hv, ⟨_, _, rfl⟩⟩) ?_
    show (F.scope.kind == .class || (F.scope.kind == .module && L.L != mainGlobals)) = false
    rw [hk]; rfl
  · obtain ⟨a, ha, hm⟩ := L.some hc
    obtain ⟨u, hu⟩ := R.cells a hm
    exact wpAny_storeName_cell (env := F.env L) hk hl ha hu fun h' hn hs => h _ ⟨fun _ _ x => x, R.bindCell ha hm hn hs hv, ⟨_, s.toks, rfl⟩⟩
/-! statements -/
theorem Exs.nil {Q : Out → Rho → Sg → Prop} (q : Q .next ρ σ) : Exs c F k ρ σ [] Q :=
  fun _ _ P _ _ R => wpAny_execs_nil ⟨P, .next, ρ, σ, .refl R, .next, q⟩
/-- the rest of a body, behind a statement -/
noncomputable def After (c : Cx) (F : Fn) (k : Nat) (rest : List Stmt) (Q : Out → Rho → Sg → Prop) (o : Out) (ρ : Rho) (σ : Sg) : Prop :=
  match o with
  | .next => Exs c F k ρ σ rest Q
  | o => Q o ρ σ
theorem Exs.cons {st : Stmt} {rest : List Stmt} {Q : Out → Rho → Sg → Prop} (h : Ex c F k ρ σ st (After c F k rest Q)) : Exs c F k ρ σ (st :: rest) Q := by
  intro A L P s g R
  refine wpAny_execs_cons (wpAny_mono (h A L P s g R) ?_ fun _ _ x => x)
  rintro f s1 ⟨P1, o, ρ1, σ1, p1, r, q⟩
  cases r with
  | next => exact wpAny_mono (q A L P1 s1 g p1.rl) (fun _ _ x => PO.of p1 x) fun _ _ x => x
  | brk => exact ⟨P1, .brk, ρ1, σ1, p1, .brk, q⟩
  | cont => exact ⟨P1, .cont, ρ1, σ1, p1, .cont, q⟩
  | ret hv => exact ⟨P1, .ret _, ρ1, σ1, p1, .ret hv, q⟩
theorem Ex.assign {x : Str} {px pos : Pos} {e : Expr} {Q : Out → Rho → Sg → Prop} (h : Ev c F k ρ σ e (fun d σ' => Q .next (setR ρ x d) σ'))
    (hb : Binds F x := by first | exact ⟨rfl, .inl ⟨rfl, rfl⟩⟩ | exact ⟨rfl, .inr ⟨rfl, rfl⟩⟩)
    (hs : ∀ L : Loc F.ck, swapsWith e (some (.Name x px)) pos.line (F.env L) = pure false := by intro _; rfl) :
    Ex c F k ρ σ (.Assign [.Name x px] e pos) Q := by
  intro A L P s g R
  refine wpAny_Assign_Name (env := F.env L) (wpAny_mono (h A L P s g R) ?_ fun _ _ x => x) (hs L)
  rintro v s1 ⟨P1, d, σ1, p1, v1, q⟩
  exact store_ok p1.rl v1 (fun s' p => ⟨P1, .next, _, σ1, p1.trans p, .next, q⟩) hb
theorem Ex.ret {e : Expr} {pos : Pos} {Q : Out → Rho → Sg → Prop} (h : Ev c F k ρ σ e (fun d σ' => Q (.ret d) ρ σ')) : Ex c F k ρ σ (.Return (some e) pos) Q := by
  intro A L P s g R
  refine wpAny_Return_some (wpAny_mono (h A L P s g R) ?_ fun _ _ x => x)
  rintro v s1 ⟨P1, d, σ1, p1, v1, q⟩
  exact ⟨P1, .ret d, ρ, σ1, p1, .ret v1, q⟩
theorem Ex.cont {pos : Pos} {Q : Out → Rho → Sg → Prop} (h : Q .cont ρ σ) : Ex c F k ρ σ (.Continue pos) Q :=
  fun _ _ P _ _ R => wpAny_Continue ⟨P, .cont, ρ, σ, .refl R, .cont, h⟩
theorem Ex.ite {t : Expr} {b e : List Stmt} {pos : Pos} {Q : Out → Rho → Sg → Prop}
    (h : Tr c F k ρ σ t (fun v σ' => if v = true then Exs c F k ρ σ' b Q else Exs c F k ρ σ' e Q)) : Ex c F k ρ σ (.If t b e pos) Q := by
  intro A L P s g R
  refine wpAny_If (wpAny_mono (h A L P s g R) ?_ fun _ _ x => x)
  rintro v s1 ⟨P1, σ1, p1, q⟩
  cases v with
  | true => exact wpAny_mono (q A L P1 s1 g p1.rl) (fun _ _ x => PO.of p1 x) fun _ _ x => x
  | false => exact wpAny_mono (q A L P1 s1 g p1.rl) (fun _ _ x => PO.of p1 x) fun _ _ x => x
theorem Ex.aug {x : Str} {px pos : Pos} {op : Operator} {e : Expr} {d : D} {Q : Out → Rho → Sg → Prop} (hv : ρ x = some d)
    (h : Ev c F k ρ σ e (fun d' σ1 => Op2 c k σ1 (inplaceOp op) d d' (fun r σ' => Q .next (setR ρ x r) σ')))
    (hk : F.scope.kind = .function := by rfl) (hl : F.scope.names.lookup x = some .local := by rfl) (hc : F.ck.contains x = false := by rfl) :
    Ex c F k ρ σ (.AugAssign (.Name x px) op e pos) Q := by
  intro A L P s g R
  obtain ⟨m, hn, hm⟩ := R.frame
  obtain ⟨v, e', hv'⟩ := (hm x d hv).2 (L.none hc)
  refine wpAny_AugAssign_Name (wpAny_loadName_local (env := F.env L) hk hl hn e' (wpAny_mono (h A L P s g R) ?_ fun _ _ x => x))
  rintro u s1 ⟨P1, d1, σ1, p1, v1, q1⟩
  refine wpAny_mono (q1 A L ρ P1 s1 v u g p1.rl (hv'.mono p1.more) v1) ?_ fun _ _ x => x
  rintro r s2 ⟨P2, d2, σ2, p2, v2, q2⟩
  exact store_ok p2.rl v2 (fun s' p => ⟨P2, .next, _, σ2, (p1.trans p2).trans p, .next, q2⟩) ⟨hk, .inl ⟨hl, hc⟩⟩
/-- an expression alone, whose value is none -/
theorem Ex.expr {e : Expr} {pos : Pos} {Q : Out → Rho → Sg → Prop} (h : Ev c F k ρ σ e (fun d σ' => d = .none ∧ Q .next ρ σ'))
    (hi : ∀ L : Loc F.ck, interactive (F.env L) = false := by intro _; rfl) (hs : ∀ L : Loc F.ck, swapsWith e none pos.line (F.env L) = pure false := by intro _; rfl) : Ex c F k ρ σ (.Expr e pos) Q := by
  intro A L P s g R
  refine wpAny_Expr (wpAny_mono (h A L P s g R) ?_ fun _ _ x => x) (hi L) (hs L)
  rintro v s1 ⟨P1, d, σ1, p1, v1, rfl, q⟩
  cases v1
  exact ⟨P1, .next, ρ, σ1, p1, .next, q⟩
/-! arithmetic, comparison -/
theorem Op2.ints {t : Value → Value → Sem Value} {a b : Int} {Q : D → Sg → Prop} (h : ∀ A {ck : List Str} (L : Loc ck) ρ P s u w, Good A k → Rl c L ρ σ P s.heap → wpAny (model c.prog c.w) A (t (.int a u) (.int b w)) (PD c L s P ρ Q) noE s) : Op2 c k σ t (.int a) (.int b) Q := by
  intro A ck L ρ P s v u g R hv hu
  obtain ⟨_, rfl⟩ := hv.isInt
  obtain ⟨_, rfl⟩ := hu.isInt
  exact h A L ρ P s _ _ g R
theorem Op2.strs {t : Value → Value → Sem Value} {a b : Str} {Q : D → Sg → Prop} (h : ∀ A {ck : List Str} (L : Loc ck) ρ P s u w, Good A k → Rl c L ρ σ P s.heap → wpAny (model c.prog c.w) A (t (.str a u) (.str b w)) (PD c L s P ρ Q) noE s) : Op2 c k σ t (.str a) (.str b) Q := by
  intro A ck L ρ P s v u g R hv hu
  obtain ⟨_, rfl⟩ := hv.isStr
  obtain ⟨_, rfl⟩ := hu.isStr
  exact h A L ρ P s _ _ g R
theorem Op2.ri {t : Value → Value → Sem Value} {a : Value} {b : Int} {Q : D → Sg → Prop} (h : ∀ A {ck : List Str} (L : Loc ck) ρ P s w, Good A k → Rl c L ρ σ P s.heap → wpAny (model c.prog c.w) A (t a (.int b w)) (PD c L s P ρ Q) noE s) : Op2 c k σ t (.raw a) (.int b) Q := by
  intro A ck L ρ P s v u g R hv hu
  rw [hv.isRaw]
  obtain ⟨_, rfl⟩ := hu.isInt
  exact h A L ρ P s _ g R
theorem Op2.ir {t : Value → Value → Sem Value} {a : Value} {b : Int} {Q : D → Sg → Prop} (h : ∀ A {ck : List Str} (L : Loc ck) ρ P s w, Good A k → Rl c L ρ σ P s.heap → wpAny (model c.prog c.w) A (t (.int b w) a) (PD c L s P ρ Q) noE s) : Op2 c k σ t (.int b) (.raw a) Q := by
  intro A ck L ρ P s v u g R hv hu
  rw [hu.isRaw]
  obtain ⟨_, rfl⟩ := hv.isInt
  exact h A L ρ P s _ g R
theorem Op2.rr {t : Value → Value → Sem Value} {a b : Value} {Q : D → Sg → Prop} (h : ∀ A {ck : List Str} (L : Loc ck) ρ P s, Good A k → Rl c L ρ σ P s.heap → wpAny (model c.prog c.w) A (t a b) (PD c L s P ρ Q) noE s) : Op2 c k σ t (.raw a) (.raw b) Q := by
  intro A ck L ρ P s v u g R hv hu
  rw [hv.isRaw, hu.isRaw]
  exact h A L ρ P s g R
theorem Op2.dr {t : Value → Value → Sem Value} {a : Value} {d : D} {Q : D → Sg → Prop} (h : ∀ A {ck : List Str} (L : Loc ck) ρ P s v, Good A k → Rl c L ρ σ P s.heap → VR c P v d → wpAny (model c.prog c.w) A (t v a) (PD c L s P ρ Q) noE s) : Op2 c k σ t d (.raw a) Q := by
  intro A ck L ρ P s v u g R hv hu
  rw [hu.isRaw]
  exact h A L ρ P s _ g R hv
theorem Op1.int {t : Value → Sem Value} {a : Int} {Q : D → Sg → Prop} (h : ∀ A {ck : List Str} (L : Loc ck) ρ P s w, Good A k → Rl c L ρ σ P s.heap → wpAny (model c.prog c.w) A (t (.int a w)) (PD c L s P ρ Q) noE s) : Op1 c k σ t (.int a) Q := by
  intro A ck L ρ P s v g R hv
  obtain ⟨_, rfl⟩ := hv.isInt
  exact h A L ρ P s _ g R
theorem Op1.bool {t : Value → Sem Value} {b : Bool} {Q : D → Sg → Prop} (h : ∀ A {ck : List Str} (L : Loc ck) ρ P s, Good A k → Rl c L ρ σ P s.heap → wpAny (model c.prog c.w) A (t (.bool b)) (PD c L s P ρ Q) noE s) : Op1 c k σ t (.bool b) Q := by
  intro A ck L ρ P s v g R hv
  rw [hv.isBool]
  exact h A L ρ P s g R
theorem OpU3.rid {t : Value → Value → Value → Sem Unit} {a : Value} {b : Int} {d : D} {Q : Sg → Prop} (h : ∀ A {ck : List Str} (L : Loc ck) ρ P s w x, Good A k → Rl c L ρ σ P s.heap → VR c P x d → wpAny (model c.prog c.w) A (t a (.int b w) x) (PU c L s P ρ Q) noE s) : OpU3 c k σ t (.raw a) (.int b) d Q := by
  intro A ck L ρ P s v u x g R hv hu hx
  rw [hv.isRaw]
  obtain ⟨_, rfl⟩ := hu.isInt
  exact h A L ρ P s _ x g R hx
theorem Cl.r {f a : Value} {Q : D → Sg → Prop} (h : ∀ A {ck : List Str} (L : Loc ck) ρ P s, Good A k → Rl c L ρ σ P s.heap → wpAny (model c.prog c.w) A (call f [a]) (PD c L s P ρ Q) noE s) : Cl c k σ f [.raw a] Q := by
  intro A ck L ρ P s vs g R hv
  obtain ⟨_, _, rfl, h1, r1⟩ := hv.isCons
  rw [h1.isRaw, r1.isNil]
  exact h A L ρ P s g R
theorem Cl.d {f : Value} {d : D} {Q : D → Sg → Prop} (h : ∀ A {ck : List Str} (L : Loc ck) ρ P s v, Good A k → Rl c L ρ σ P s.heap → VR c P v d → wpAny (model c.prog c.w) A (call f [v]) (PD c L s P ρ Q) noE s) : Cl c k σ f [d] Q := by
  intro A ck L ρ P s vs g R hv
  obtain ⟨v, _, rfl, h1, r1⟩ := hv.isCons
  rw [r1.isNil]
  exact h A L ρ P s v g R h1
theorem Cl.dd {f : Value} {d e : D} {Q : D → Sg → Prop} (h : ∀ A {ck : List Str} (L : Loc ck) ρ P s v u, Good A k → Rl c L ρ σ P s.heap → VR c P v d → VR c P u e → wpAny (model c.prog c.w) A (call f [v, u]) (PD c L s P ρ Q) noE s) : Cl c k σ f [d, e] Q := by
  intro A ck L ρ P s vs g R hv
  obtain ⟨v, _, rfl, h1, r1⟩ := hv.isCons
  obtain ⟨u, _, rfl, h2, r2⟩ := r1.isCons
  rw [r2.isNil]
  exact h A L ρ P s v u g R h1 h2
theorem Cl.ddd {f : Value} {d e b : D} {Q : D → Sg → Prop} (h : ∀ A {ck : List Str} (L : Loc ck) ρ P s v u w, Good A k → Rl c L ρ σ P s.heap → VR c P v d → VR c P u e → VR c P w b → wpAny (model c.prog c.w) A (call f [v, u, w]) (PD c L s P ρ Q) noE s) : Cl c k σ f [d, e, b] Q := by
  intro A ck L ρ P s vs g R hv
  obtain ⟨v, _, rfl, h1, r1⟩ := hv.isCons
  obtain ⟨u, _, rfl, h2, r2⟩ := r1.isCons
  obtain ⟨w, _, rfl, h3, r3⟩ := r2.isCons
  rw [r3.isNil]
  exact h A L ρ P s v u w g R h1 h2 h3
theorem Cl.rd {f a : Value} {d : D} {Q : D → Sg → Prop} (h : ∀ A {ck : List Str} (L : Loc ck) ρ P s v, Good A k → Rl c L ρ σ P s.heap → VR c P v d → wpAny (model c.prog c.w) A (call f [a, v]) (PD c L s P ρ Q) noE s) : Cl c k σ f [.raw a, d] Q :=
  Cl.dd fun A _ L ρ P s v u g R h1 h2 => h1.isRaw ▸ h A L ρ P s u g R h2
theorem Cl.rid {f a : Value} {i : Int} {d : D} {Q : D → Sg → Prop} (h : ∀ A {ck : List Str} (L : Loc ck) ρ P s t v, Good A k → Rl c L ρ σ P s.heap → VR c P v d → wpAny (model c.prog c.w) A (call f [a, .int i t, v]) (PD c L s P ρ Q) noE s) : Cl c k σ f [.raw a, .int i, d] Q :=
  Cl.ddd fun A _ L ρ P s v u w g R h1 h2 h3 => by
    obtain ⟨t, rfl⟩ := h2.isInt
    rw [h1.isRaw]
    exact h A L ρ P s t w g R h3
theorem Cl.i {f : Value} {i : Int} {Q : D → Sg → Prop} (h : ∀ A {ck : List Str} (L : Loc ck) ρ P s t, Good A k → Rl c L ρ σ P s.heap → wpAny (model c.prog c.w) A (call f [.int i t]) (PD c L s P ρ Q) noE s) : Cl c k σ f [.int i] Q :=
  Cl.d fun A _ L ρ P s v g R h1 => by
    obtain ⟨t, rfl⟩ := h1.isInt
    exact h A L ρ P s t g R
theorem Cl.ii {f : Value} {i j : Int} {Q : D → Sg → Prop} (h : ∀ A {ck : List Str} (L : Loc ck) ρ P s t u, Good A k → Rl c L ρ σ P s.heap → wpAny (model c.prog c.w) A (call f [.int i t, .int j u]) (PD c L s P ρ Q) noE s) : Cl c k σ f [.int i, .int j] Q :=
  Cl.dd fun A _ L ρ P s v u g R h1 h2 => by
    obtain ⟨t, rfl⟩ := h1.isInt
    obtain ⟨t', rfl⟩ := h2.isInt
    exact h A L ρ P s t t' g R
theorem Op2.of {t : Value → Value → Sem Value} {d e : D} {Q : D → Sg → Prop}
    (h : ∀ A {ck : List Str} (L : Loc ck) ρ P s v u, Good A k → Rl c L ρ σ P s.heap → VR c P v d → VR c P u e → wpAny (model c.prog c.w) A (t v u) (PD c L s P ρ Q) noE s) : Op2 c k σ t d e Q := h
theorem add_ok {a b : Int} {Q : D → Sg → Prop} (q : Q (.int (a + b)) σ) : Op2 c k σ (binaryOp .Add) (.int a) (.int b) Q :=
  Op2.ints fun _ _ _ _ _ _ _ _ _ R => wpAny_add_int (PD.val R (.int _ _) q)
theorem sub_ok {a b : Int} {Q : D → Sg → Prop} (q : Q (.int (a - b)) σ) : Op2 c k σ (binaryOp .Sub) (.int a) (.int b) Q :=
  Op2.ints fun _ _ _ _ _ _ _ _ _ R => PyProof.Rows.sub_int (PD.val R (.int _ _) q)
theorem mod_ok {a b : Int} {Q : D → Sg → Prop} (hb : 0 < b) (q : Q (.int (a % b)) σ) : Op2 c k σ (binaryOp .Mod) (.int a) (.int b) Q := by
  refine Op2.ints fun A ck L ρ P s _ _ g R => ?_
  refine PyProof.Rows.mod_int (by omega) (PD.val R (d := .int (a % b)) ?_ q)
  rw [Int.fmod_eq_emod_of_nonneg a (by omega)]
  exact .int _ _
theorem iadd_ok {a b : Int} {Q : D → Sg → Prop} (q : Q (.int (a + b)) σ) : Op2 c k σ (inplaceOp .Add) (.int a) (.int b) Q :=
  Op2.ints fun _ _ _ _ _ _ _ _ _ R => PyProof.Rows.iadd_int (PD.val R (.int _ _) q)
theorem neg_ok {a : Int} {Q : D → Sg → Prop} (q : Q (.int (-a)) σ) : Op1 c k σ (unaryOp .USub) (.int a) Q :=
  Op1.int fun _ _ _ _ _ _ _ _ R => PyProof.Rows.neg_int (PD.val R (.int _ _) q)
theorem not_ok {b : Bool} {Q : D → Sg → Prop} (q : Q (.bool (!b)) σ) : Op1 c k σ (unaryOp .Not) (.bool b) Q :=
  Op1.bool fun _ _ _ _ _ _ _ R => not_of (wpAny_truthy_bool (PD.val0 R (.bool _) q))
theorem lt_ok {a b : Int} {Q : D → Sg → Prop} (q : Q (.bool (decide (a < b))) σ) : Op2 c k σ (compareOp .Lt) (.int a) (.int b) Q :=
  Op2.ints fun _ _ _ _ _ _ _ _ _ R => PyProof.Rows.lt_int (PD.val0 R (.bool _) q)
theorem le_ok {a b : Int} {Q : D → Sg → Prop} (q : Q (.bool (decide (a ≤ b))) σ) : Op2 c k σ (compareOp .LtE) (.int a) (.int b) Q :=
  Op2.ints fun _ _ _ _ _ _ _ _ _ R => PyProof.Rows.le_int (PD.val0 R (.bool _) q)
theorem gt_ok {a b : Int} {Q : D → Sg → Prop} (q : Q (.bool (decide (b < a))) σ) : Op2 c k σ (compareOp .Gt) (.int a) (.int b) Q :=
  Op2.ints fun _ _ _ _ _ _ _ _ _ R => PyProof.Rows.gt_int (PD.val0 R (.bool _) q)
theorem eqi_ok {a b : Int} {Q : D → Sg → Prop} (q : Q (.bool (a == b)) σ) : Op2 c k σ (compareOp .Eq) (.int a) (.int b) Q :=
  Op2.ints fun _ _ _ _ _ _ _ _ _ R => PyProof.Rows.eq_int (PD.val0 R (.bool _) q)
theorem nei_ok {a b : Int} {Q : D → Sg → Prop} (q : Q (.bool (a != b)) σ) : Op2 c k σ (compareOp .NotEq) (.int a) (.int b) Q :=
  Op2.ints fun _ _ _ _ _ _ _ _ _ R => PyProof.Rows.ne_int (PD.val0 R (.bool _) q)
theorem eqs_ok {a b : Str} {Q : D → Sg → Prop} (q : Q (.bool (a == b)) σ) : Op2 c k σ (compareOp .Eq) (.str a) (.str b) Q :=
  Op2.strs fun _ _ _ _ _ _ _ _ _ R => PyProof.Rows.eq_str (PD.val0 R (.bool _) q)
theorem nes_ok {a b : Str} {Q : D → Sg → Prop} (q : Q (.bool (a != b)) σ) : Op2 c k σ (compareOp .NotEq) (.str a) (.str b) Q :=
  Op2.strs fun _ _ _ _ _ _ _ _ _ R => PyProof.Rows.ne_str (PD.val0 R (.bool _) q)
/-! made things -/
theorem Ev.tup {es : List Expr} {j : Nat} {pos : Pos} {Q : D → Sg → Prop} (h : Evs c F k ρ σ es (fun ds σ' => ds.length ≤ sizeLine ∧ Q (.tup ds) σ')) : Ev c F k ρ σ (.Tuple es j pos) Q := by
  intro A L P s g R
  refine wpAny_Tuple (wpAny_mono (h A L P s pos g R) ?_ fun _ _ x => x)
  rintro vs s1 ⟨P1, ds, σ1, p1, v1, hl, q⟩
  refine ⟨by rw [v1.length]; exact hl, ?_⟩
  have p2 := p1.rl.pushP (n := s1.toks) { cls := .type "tuple", data := .seq vs.toArray } rfl
  exact ⟨_, .tup ds, σ1, p1.trans p2, .tup (.inr ⟨rfl, rfl⟩) (v1.mono p2.more), q⟩
theorem Ev.list {es : List Expr} {pos : Pos} {Q : D → Sg → Prop} (h : Evs c F k ρ σ es (fun ds σ' => ds.length ≤ sizeLine ∧ ∀ a, σ' a = none → Q (.raw (.ref a)) (Mine.upd σ' a (.lst ds)))) : Ev c F k ρ σ (.List es pos) Q := by
  intro A L P s g R
  refine wpAny_List (wpAny_mono (h A L P s pos g R) ?_ fun _ _ x => x)
  rintro vs s1 ⟨P1, ds, σ1, p1, v1, hl, q⟩
  refine ⟨by rw [v1.length]; exact hl, ?_⟩
  have p2 := p1.rl.pushO (n := s1.toks) (O := .lst ds) ⟨vs, 0, rfl, v1⟩
  exact ⟨_, .raw (.ref s1.heap.objs.size), _, p1.trans p2, .raw _, q _ p1.rl.new⟩
theorem Ev.dict0 {pos : Pos} {Q : D → Sg → Prop} (h : ∀ a, σ a = none → Q (.raw (.ref a)) (Mine.upd σ a (.dct [] 0))) : Ev c F k ρ σ (.Dict [] [] pos) Q := by
  intro A L P s g R
  have p2 := R.pushO (n := s.toks) (o := { cls := .type "dict", data := .dict #[] }) (O := .dct [] 0) ⟨#[], [], ⟨rfl, rfl, rfl⟩, rfl, fun _ hx => by simp at hx, .nil, .nil, .nil⟩
  exact wpAny_Dict_empty ⟨_, .raw (.ref s.heap.objs.size), _, p2, .raw _, h _ R.new⟩
end
end

section
section
variable {c : Cx} {F : Fn} {k : Nat} {ρ : Rho} {σ : Sg}
/-- what the world must hold -/
structure Wd (c : Cx) : Prop where
  big : 3 < c.h₀.objs.size
  nolimit : c.h₀.NoLimit
/-! subscripts -/
theorem Ev.sub {v sl : Expr} {pos : Pos} {Q : D → Sg → Prop} (h : Ev c F k ρ σ v (fun d σ1 => Ev c F k ρ σ1 sl (fun e σ2 => Op2 c k σ2 (subscriptTail v sl) d e Q))) : Ev c F k ρ σ (.Subscript v sl pos) Q := by
  intro A L P s g R
  refine Subscript_ (wpAny_mono (h A L P s g R) ?_ fun _ _ x => x)
  rintro a s1 ⟨P1, d, σ1, p1, v1, h1⟩
  refine wpAny_mono (h1 A L P1 s1 g p1.rl) ?_ fun _ _ x => x
  rintro b s2 ⟨P2, e, σ2, p2, v2, h2⟩
  exact wpAny_mono (h2 A L ρ P2 s2 a b g p2.rl (v1.mono p2.more) v2) (fun v s' h => PD.of (p1.trans p2) h) fun _ _ x => x
noncomputable abbrev IdxPlain (sl : Expr) : Prop := ∀ (t : Addr) (i : Int) (u : Tok), subscripted sl false (.ref t) (.int i u) = operate [.ref t, .int i u] (getItem (.ref t) (.int i u))
theorem sub_tup {v sl : Expr} {ds : List D} {i : Int} {j : Nat} {x : D} {Q : D → Sg → Prop} (hj : seqIndex? i ds.length = some j) (hx : ds[j]? = some x) (q : Q x σ)
    (hlo : -(2 ^ 63) ≤ i := by decide) (hhi : i < 2 ^ 63 := by decide) (hs : IdxPlain sl := by intro _ _ _; with_unfolding_all rfl) : Op2 c k σ (subscriptTail v sl) (.tup ds) (.int i) Q := by
  intro A ck L ρ P s a b g R ha hb
  obtain ⟨_, _, _, rfl, ht, hv⟩ := ha.isTup
  obtain ⟨_, rfl⟩ := hb.isInt
  obtain ⟨y, hy, hv'⟩ := hv.get hx
  exact item_tupleT ⟨_, R.froz _ _ ht, rfl, _, rfl⟩ hlo hhi (by rw [hv.length]; exact hj) hy (PD.val0 R hv' q) (hs _ _ _)
theorem Rl.isList {ck : List Str} {L : Loc ck} {P : Know} {h : Heap} {a : Addr} {ds : List D} (R : Rl c L ρ σ P h) (e : σ a = some (.lst ds)) : ∃ vs, h.PlainList a (List.toArray vs) ∧ VRs c P vs ds := by
  obtain ⟨o, ho, vs, n, rfl, hv⟩ := R.objs a _ e
  exact ⟨vs, ⟨n, ho⟩, hv⟩
theorem get_lst {A : Around} {ck : List Str} {L : Loc ck} {P : Know} {s : Shared} {a : Addr} {ds : List D} {i : Int} {u : Tok} {x : D} {Q : D → Sg → Prop} (R : Rl c L ρ σ P s.heap) (e : σ a = some (.lst ds)) (h0 : 0 ≤ i) (hhi : i < 2 ^ 63) (hx : ds[i.toNat]? = some x) (q : Q x σ) :
    wpAny (model c.prog c.w) A (getItem (.ref a) (.int i u)) (PD c L s P ρ Q) noE s := by
  obtain ⟨vs, hl, hv⟩ := R.isList e
  obtain ⟨y, hy, hv'⟩ := hv.get hx
  exact wpAny_getItem_list hl.isList h0 hhi (by simpa using hy) (PD.val0 R hv' q)
theorem sub_lst {v sl : Expr} {a : Addr} {ds : List D} {i : Int} {x : D} {Q : D → Sg → Prop} (e : σ a = some (.lst ds)) (h0 : 0 ≤ i) (hhi : i < 2 ^ 63) (hx : ds[i.toNat]? = some x) (q : Q x σ)
    (hs : IdxPlain sl := by intro _ _ _; with_unfolding_all rfl) : Op2 c k σ (subscriptTail v sl) (.raw (.ref a)) (.int i) Q := by
  refine Op2.ri fun A ck L ρ P s _ g R => ?_
  obtain ⟨vs, hl, hv⟩ := R.isList e
  exact tail_any hl.isList.typeIs slot_list_getitem.lookup (get_lst R e h0 hhi hx q) (hs _ _ _)
/-- the last one of a list -/
theorem sub_last {v sl : Expr} {a : Addr} {ds : List D} {x : D} {Q : D → Sg → Prop} (e : σ a = some (.lst (ds ++ [x]))) (q : Q x σ)
    (hs : IdxPlain sl := by intro _ _ _; with_unfolding_all rfl) : Op2 c k σ (subscriptTail v sl) (.raw (.ref a)) (.int (-1)) Q := by
  refine Op2.ri fun A ck L ρ P s _ g R => ?_
  obtain ⟨vs, hl, hv⟩ := R.isList e
  have hlen := hv.length
  obtain ⟨y, hy, hv'⟩ := hv.get (i := ds.length) (d := x) (by simp)
  simp only [List.length_append, List.length_cons, List.length_nil] at hlen
  refine tail_any hl.isList.typeIs slot_list_getitem.lookup (wpAny_getItem_list_neg hl.isList (by decide) (by simp; omega) (by decide) ?_ (PD.val0 R hv' q)) (hs _ _ _)
  have : ((-1 : Int) + ((List.toArray vs).size : Int)).toNat = ds.length := by simp; omega
  rw [this]
  simpa using hy
/-! dicts of ints -/
noncomputable def dget (es : List (Int × D)) (i : Int) : Option D := (es.find? fun kv => kv.1 = i).map (·.2)
noncomputable def dset (es : List (Int × D)) (i : Int) (d : D) : List (Int × D) :=
  if es.any (fun kv => kv.1 = i) then es.map (fun kv => if kv.1 = i then (kv.1, d) else kv) else es ++ [(i, d)]
theorem KVR.get {P : Know} {kvs : List (Int × Value)} {es : List (Int × D)} (i : Int) (h : KVR c P kvs es) : (match dget es i with | some d => ∃ v, valueAt kvs i = some v ∧ VR c P v d | none => valueAt kvs i = none) := by
  induction h with
  | nil => simp [dget, valueAt]
  | @cons k' v d r q h _ ih =>
    unfold dget valueAt at ih ⊢
    by_cases hk : k' = i
    · simp only [List.find?_cons, hk, decide_true, Option.map_some]; exact ⟨_, rfl, h⟩
    · simp only [List.find?_cons, hk, decide_false]; exact ih
theorem KVR.keys {P : Know} {kvs : List (Int × Value)} {es : List (Int × D)} (h : KVR c P kvs es) : kvs.map (·.1) = es.map (·.1) :=
  KVR.rec (motive := fun kvs es _ => kvs.map (·.1) = es.map (·.1)) rfl (fun _ _ ih => congrArg _ ih) h
theorem KVR.length {P : Know} {kvs : List (Int × Value)} {es : List (Int × D)} (h : KVR c P kvs es) : kvs.length = es.length := by
  have := congrArg List.length h.keys; simpa using this
theorem KVR.any {P : Know} {i : Int} {kvs : List (Int × Value)} {es : List (Int × D)} (h : KVR c P kvs es) : kvs.any (fun kv => kv.1 = i) = es.any (fun kv => kv.1 = i) :=
  KVR.rec (motive := fun kvs es _ => kvs.any (fun kv => kv.1 = i) = es.any (fun kv => kv.1 = i)) rfl (fun _ _ ih => congrArg _ ih) h
theorem KVR.map {P : Know} {i : Int} {v : Value} {d : D} (hv : VR c P v d) {kvs : List (Int × Value)} {es : List (Int × D)} (h : KVR c P kvs es) : KVR c P (kvs.map fun kv => if kv.1 = i then (kv.1, v) else kv) (es.map fun kv => if kv.1 = i then (kv.1, d) else kv) := by
  induction h with
  | nil => exact .nil
  | @cons k' _ _ _ _ h _ ih =>
    rw [List.map_cons, List.map_cons]
    by_cases hk : k' = i
    · rw [if_pos hk, if_pos hk]; exact .cons hv ih
    · rw [if_neg hk, if_neg hk]; exact .cons h ih
theorem KVR.append {P : Know} {kvs us : List (Int × Value)} {es fs : List (Int × D)} (h : KVR c P kvs es) (k : KVR c P us fs) : KVR c P (kvs ++ us) (es ++ fs) :=
  KVR.rec (motive := fun kvs es _ => KVR c P (kvs ++ us) (es ++ fs)) k (fun h _ ih => .cons h ih) h
theorem KVR.set {P : Know} {i : Int} {v : Value} {d : D} (hv : VR c P v d) {kvs : List (Int × Value)} {es : List (Int × D)} (h : KVR c P kvs es) : KVR c P (stored kvs i v) (dset es i d) := by
  unfold stored dset
  rw [h.any]
  split
  · exact h.map hv
  · exact h.append (.cons hv .nil)
theorem Rl.isDict {ck : List Str} {L : Loc ck} {P : Know} {h : Heap} {a : Addr} {es : List (Int × D)} {ep : Nat} (R : Rl c L ρ σ P h) (e : σ a = some (.dct es ep)) : ∃ kvs, h.DictOf (intKind c.prog c.w) a kvs ∧ KVR c P kvs es ∧ h.DictAt (intKind c.prog c.w) a kvs ep := by
  obtain ⟨o, ho, es', kvs, h1, h2, h3, h4, h5, hv⟩ := R.objs a _ e
  have hd : h.DictAt (intKind c.prog c.w) a kvs ep := ⟨o, es', ho, h1, h2, h3, h4, h5⟩
  exact ⟨kvs, hd.dictOf, hv, hd⟩
theorem isInt_self (i : Int) (t : Tok) : (intKind c.prog c.w).is i (.int i t) = true := by show (i == i) = true; simp
theorem Rl.notSys {ck : List Str} {L : Loc ck} {P : Know} {h : Heap} {a : Addr} {O : AObj} (W : Wd c) (R : Rl c L ρ σ P h) (e : σ a = some O) : (a == sysModules) = false := by
  have h1 := R.high a O e
  have h2 := W.big
  have : a ≠ sysModules := by show a ≠ 1; exact Nat.ne_of_gt (Nat.lt_of_lt_of_le (Nat.lt_trans (by decide) h2) h1)
  exact beq_eq_false_iff_ne.mpr this
theorem get_dct {A : Around} {ck : List Str} {L : Loc ck} {P : Know} {s : Shared} {a : Addr} {es : List (Int × D)} {ep : Nat} {i : Int} {u : Tok} {x : D} {Q : D → Sg → Prop} (R : Rl c L ρ σ P s.heap) (e : σ a = some (.dct es ep)) (hx : dget es i = some x) (q : Q x σ) :
    wpAny (model c.prog c.w) A (getItem (.ref a) (.int i u)) (PD c L s P ρ Q) noE s := by
  obtain ⟨kvs, hl, hv, _⟩ := R.isDict e
  have := hv.get i
  rw [hx] at this
  obtain ⟨y, hy, hv'⟩ := this
  exact wpAny_getItem_of (isInt_self i u) hl.mapOf hy (PD.val R hv' q)
theorem sub_dct {v sl : Expr} {a : Addr} {es : List (Int × D)} {ep : Nat} {i : Int} {x : D} {Q : D → Sg → Prop} (e : σ a = some (.dct es ep)) (hx : dget es i = some x) (q : Q x σ)
    (hs : IdxPlain sl := by intro _ _ _; with_unfolding_all rfl) : Op2 c k σ (subscriptTail v sl) (.raw (.ref a)) (.int i) Q := by
  refine Op2.ri fun A ck L ρ P s _ g R => ?_
  obtain ⟨kvs, hl, hv, _⟩ := R.isDict e
  exact tail_any hl.typeIs slot_dict_getitem.lookup (get_dct R e hx q) (hs _ _ _)
theorem notIn_dct {a : Addr} {es : List (Int × D)} {ep : Nat} {i : Int} {Q : D → Sg → Prop} (W : Wd c) (e : σ a = some (.dct es ep)) (q : Q (.bool (!(dget es i).isSome)) σ) : Op2 c k σ (compareOp .NotIn) (.int i) (.raw (.ref a)) Q := by
  refine Op2.ir fun A ck L ρ P s _ g R => ?_
  obtain ⟨kvs, hl, hv, _⟩ := R.isDict e
  refine wpAny_notIn_of (isInt_self i _) (R.notSys W e) hl.mapOf (PD.val R (d := .bool (!(dget es i).isSome)) ?_ q)
  have h2 := hv.get i
  cases hx : dget es i with
  | none => rw [hx] at h2; simp only at h2; rw [h2]; exact .bool _
  | some d => rw [hx] at h2; simp only at h2; obtain ⟨y, hy, _⟩ := h2; rw [hy]; exact .bool _
theorem set_dct {a : Addr} {es : List (Int × D)} {ep : Nat} {i : Int} {d : D} {Q : Sg → Prop} (e : σ a = some (.dct es ep)) (hz : es.length ≤ sizeLine) (q : ∀ ep', Q (upd σ a (.dct (dset es i d) ep'))) : OpU3 c k σ setItem (.raw (.ref a)) (.int i) d Q := by
  refine OpU3.rid fun A ck L ρ P s _ x g R hx => ?_
  obtain ⟨kvs, hl, hv, _⟩ := R.isDict e
  refine wpAny_setItem_pairs (isInt_self i _) hl (fun h' hd hs => ?_) (by rw [hv.length]; exact hz)
  obtain ⟨o, es', ep', ho, h1, h2, h3, h4, h5⟩ := hd
  exact ⟨P, _, ⟨fun _ _ x => x, R.upd e hs ho (O := .dct (dset es i d) ep') ⟨es', _, h1, h2, h3, h4, h5, hv.set hx⟩, ⟨_, _, rfl⟩⟩, q ep'⟩
/-! list stores -/
theorem setItem_plain {prog : Program} {w : World} {A : Around} {E : Value → Shared → Prop} {s : Shared} {l : Addr} {items : Array Value} {i : Int} {t : Tok} {v : Value} {Q : Unit → Shared → Prop} (hl : s.heap.PlainList l items)
    (h0 : 0 ≤ i) (hfit : i < 2 ^ 63) (hn : i < items.size)
    (hQ : ∀ h', h'.PlainList l (items.setIfInBounds i.toNat v) → Heap.SameBut l s.heap h' → Q () { s with heap := h' }) :
    wpAny (model prog w) A (setItem (.ref l) (.int i t) v) Q E s := by
  obtain ⟨ne, ho⟩ := id hl
  have hd : (({ cls := .type "list", data := .seq items ne } : Obj)).data = .seq items ne := rfl
  unfold setItem
  try with_reducible refine wpAny_holding ?_
  first | refine wpAny_bind (wpAny_pure ?_) | skip
  refine wpAny_bind (wpAny_sequenceKey hl.isList.typeIs (by decide) ?_)
  refine wpAny_bind (wpAny_callSpecial?_slot (name := Str.ofString "__setitem__") hl.isList.typeIs slot_list_setitem
    (wpAny_call_entry slot_list_setitem hl.isList.typeIs entry_list_setitem ?_ (args_list_setitem _ _ _)))
  show wpAny _ _ (Builtin.List.listSubscript? (.int i t) >>= _) _ _ s
  refine wpAny_bind (wpAny_listSubscript_int (fitsIndex_of h0 hfit) ?_)
  clear hfit
  obtain ⟨j, rfl⟩ := Int.eq_ofNat_of_zero_le h0
  have hj : j < items.size := by omega
  have hx' : items[j]? = some items[j] := Array.getElem?_eq_getElem hj
  show wpAny _ _ ((seqItemAt l j >>= fun r => pure (r.map (j, ·))) >>= _) _ _ s
  refine wpAny_bind (wpAny_bind (wpAny_seqItemAt ho hd (wpAny_pure ?_)))
  rw [hx']
  show wpAny _ _ (setSeqItemAt l j v >>= _) _ _ s
  have hfin : (s.heap.update l (Obj.mapSeq (·.setIfInBounds j v))).PlainList l (items.setIfInBounds j v) := ⟨_, Heap.get?_update_self _ ho rfl⟩
  refine wpAny_bind (wpAny_setSeqItemAt ho hd ?_)
  first
    | exact wpAny_bind (wpAny_pure (wpAny_pure ⟨.none, rfl, wpAny_pure (hQ _ hfin (Heap.SameBut.update ..))⟩))
    | exact wpAny_pure ⟨.none, rfl, wpAny_pure (hQ _ hfin (Heap.SameBut.update ..))⟩
theorem VRs.set {P : Know} {x : Value} {d : D} (hx : VR c P x d) {vs : List Value} {ds : List D} (i : Nat) (h : VRs c P vs ds) : VRs c P (vs.set i x) (ds.set i d) :=
  VRs.ind (M := fun vs ds => ∀ i, VRs c P (vs.set i x) (ds.set i d)) (fun _ => .nil) (fun _ _ _ _ h r ih i => match i with
    | 0 => .cons hx r
    | i + 1 => .cons h (ih i)) h i
theorem set_lst {a : Addr} {ds : List D} {i : Int} {d : D} {Q : Sg → Prop} (e : σ a = some (.lst ds)) (h0 : 0 ≤ i) (hfit : i < 2 ^ 63) (hn : i < ds.length) (q : Q (upd σ a (.lst (ds.set i.toNat d)))) : OpU3 c k σ setItem (.raw (.ref a)) (.int i) d Q := by
  refine OpU3.rid fun A ck L ρ P s _ x g R hx => ?_
  obtain ⟨vs, hl, hv⟩ := R.isList e
  refine setItem_plain hl h0 hfit (by simp only [List.size_toArray, hv.length]; exact hn) fun h' hl' hs => ?_
  obtain ⟨n, ho⟩ := hl'
  exact ⟨P, _, ⟨fun _ _ x => x, R.upd e hs ho (O := .lst (ds.set i.toNat d)) ⟨vs.set i.toNat x, n, by simp, hv.set hx _⟩, ⟨_, _, rfl⟩⟩, q⟩
/-! stores by a subscript -/
theorem Ex.setSub {o i value : Expr} {pos' pos : Pos} {Q : Out → Rho → Sg → Prop}
    (h : Ev c F k ρ σ value (fun d σ1 => Ev c F k ρ σ1 o (fun od σ2 => Ev c F k ρ σ2 i (fun id σ3 => OpU3 c k σ3 setItem od id d (fun σ' => Q .next ρ σ')))))
    (hs : ∀ L : Loc F.ck, swapsWith value (some (.Subscript o i pos')) pos.line (F.env L) = pure false := by intro _; rfl) : Ex c F k ρ σ (.Assign [.Subscript o i pos'] value pos) Q := by
  intro A L P s g R
  refine wpAny_Assign_Subscript (env := F.env L) (wpAny_mono (h A L P s g R) ?_ fun _ _ x => x) (hs L)
  rintro v1 s1 ⟨P1, d1, σ1, p1, r1, h1⟩
  refine wpAny_mono (h1 A L P1 s1 g p1.rl) ?_ fun _ _ x => x
  rintro v2 s2 ⟨P2, d2, σ2, p2, r2, h2⟩
  refine wpAny_mono (h2 A L P2 s2 g p2.rl) ?_ fun _ _ x => x
  rintro v3 s3 ⟨P3, d3, σ3, p3, r3, h3⟩
  refine wpAny_mono (h3 A L ρ P3 s3 v2 v3 v1 g p3.rl (r2.mono p3.more) r3 (r1.mono fun a o x => p3.more _ _ (p2.more _ _ x))) ?_ fun _ _ x => x
  rintro _ s4 ⟨P4, σ4, p4, q⟩
  exact ⟨P4, .next, ρ, σ4, ((p1.trans p2).trans p3).trans p4, .next, q⟩
theorem Ex.augSub {o i value : Expr} {tpos pos : Pos} {op : Operator} {Q : Out → Rho → Sg → Prop}
    (h : Ev c F k ρ σ o (fun od σ1 => Ev c F k ρ σ1 i (fun id σ2 => Op2 c k σ2 getItem od id (fun old σ3 => Ev c F k ρ σ3 value (fun d σ4 => Op2 c k σ4 (inplaceOp op) old d (fun new σ5 => OpU3 c k σ5 setItem od id new (fun σ' => Q .next ρ σ')))))))
    (hi : ∀ ov iv new, augStore i ov iv new = (do holding [new, ov, iv] (setItem ov iv new); release [new, ov, iv] []; pure .next) := by intros; rfl) : Ex c F k ρ σ (.AugAssign (.Subscript o i tpos) op value pos) Q := by
  intro A L P s g R
  refine wpAny_AugAssign_SubscriptAny (wpAny_mono (h A L P s g R) ?_ fun _ _ x => x) hi
  rintro v1 s1 ⟨P1, d1, σ1, p1, r1, h1⟩
  refine wpAny_mono (h1 A L P1 s1 g p1.rl) ?_ fun _ _ x => x
  rintro v2 s2 ⟨P2, d2, σ2, p2, r2, h2⟩
  refine wpAny_mono (h2 A L ρ P2 s2 v1 v2 g p2.rl (r1.mono p2.more) r2) ?_ fun _ _ x => x
  rintro v3 s3 ⟨P3, d3, σ3, p3, r3, h3⟩
  refine wpAny_mono (h3 A L P3 s3 g p3.rl) ?_ fun _ _ x => x
  rintro v4 s4 ⟨P4, d4, σ4, p4, r4, h4⟩
  refine wpAny_mono (h4 A L ρ P4 s4 v3 v4 g p4.rl (r3.mono p4.more) r4) ?_ fun _ _ x => x
  rintro v5 s5 ⟨P5, d5, σ5, p5, r5, h5⟩
  have m3 : ∀ a o, P2 a o → P5 a o := fun a o x => p5.more _ _ (p4.more _ _ (p3.more _ _ x))
  refine wpAny_mono (h5 A L ρ P5 s5 v1 v2 v5 g p5.rl (r1.mono fun a o x => m3 _ _ (p2.more _ _ x)) (r2.mono m3) r5) ?_ fun _ _ x => x
  rintro _ s6 ⟨P6, σ6, p6, q⟩
  exact ⟨P6, .next, ρ, σ6, ((((p1.trans p2).trans p3).trans p4).trans p5).trans p6, .next, q⟩
theorem gi_lst {a : Addr} {ds : List D} {i : Int} {x : D} {Q : D → Sg → Prop} (e : σ a = some (.lst ds)) (h0 : 0 ≤ i) (hhi : i < 2 ^ 63) (hx : ds[i.toNat]? = some x) (q : Q x σ) : Op2 c k σ getItem (.raw (.ref a)) (.int i) Q := by
  refine Op2.ri fun A ck L ρ P s _ g R => ?_
  exact get_lst R e h0 hhi hx q
/-! methods of lists and dicts -/
theorem Ev.meth {o e : Expr} {rest : List Expr} {name : Str} {T id : String} {apos pos : Pos} {Q : D → Sg → Prop} (pa : PlainAttrs T) (slot : Slot T name id) (ty : typeOf (.builtin id) = pure (.type "method_descriptor"))
    (h : Ev c F k ρ σ o (fun d σ1 => ∃ l O, d = .raw (.ref l) ∧ σ1 l = some O ∧ (∀ P ob, OK c P ob O → ob.cls = .type T ∧ ob.dict = none) ∧
      Evs c F k ρ σ1 (e :: rest) (fun ds σ2 => Cl c k σ2 (.builtin id) (.raw (.ref l) :: ds) Q)))
    (hbase : ∀ L : Loc F.ck, attributeBase o name (F.env L) (eval o (F.env L)) = eval o (F.env L) := by intro _; rfl)
    (hfew : ∀ L : Loc F.ck, ((backTo pos (starEach (e :: rest) (F.env L))).all (fun x => !x.1) && (backToKw pos (keywordEach [] (F.env L))).all (fun x => x.1.isSome)
      && decide ((e :: rest).length + ([] : List Keyword).length + (if ([] : List Keyword).isEmpty then 0 else 1) < 30)) = true := by intro _; rfl)
    (hline : (apos.endLine == pos.line) = true := by rfl)
    (he : ∀ L : Loc F.ck, starEach (e :: rest) (F.env L) = (false, eval e (F.env L)) :: starEach rest (F.env L) := by intro _; rfl)
    (hplain : ∀ L : Loc F.ck, (backTo pos (starEach rest (F.env L))).any (·.1) = false := by intro _; rfl) :
    Ev c F k ρ σ (.Call (.Attribute o name apos) (e :: rest) [] pos) Q := by
  intro A L P s g R
  refine wpAny_Call_method_lateS (env := F.env L) (hbase L) (hfew L) hline (wpAny_mono (h A L P s g R) ?_ fun _ _ x => x)
  rintro v s1 ⟨P1, d1, σ1, p1, r1, l, O, rfl, hO, hT, h1⟩
  cases r1
  obtain ⟨ob, hob, hok⟩ := p1.rl.objs l O hO
  obtain ⟨hc, hd⟩ := hT _ _ hok
  refine ⟨T, id, pa, slot, ty, ⟨ob, hob, hc⟩, fun a ea => by cases ea; exact ⟨ob, hob, hd⟩, ?_⟩
  refine callWith_method1 (env := F.env L) (wpAny_mono (h1 A L P1 s1 pos g p1.rl) ?_ fun _ _ x => x) (he L) (hplain L)
  rintro vs s2 ⟨P2, ds, σ2, p2, r2, h2⟩
  exact wpAny_mono (h2 A L ρ P2 s2 _ g p2.rl (.cons (.raw _) r2)) (fun v s' h => PD.of (p1.trans p2) h) fun _ _ x => x
theorem ok_lst {ds : List D} : ∀ P ob, OK c P ob (.lst ds) → ob.cls = .type "list" ∧ ob.dict = none := by
  rintro P ob ⟨vs, n, rfl, _⟩; exact ⟨rfl, rfl⟩
theorem ok_dct {es : List (Int × D)} {ep : Nat} : ∀ P ob, OK c P ob (.dct es ep) → ob.cls = .type "dict" ∧ ob.dict = none := by
  rintro P ob ⟨_, kvs, hx, _⟩; exact ⟨hx.1, hx.2.1⟩
theorem cl_append {l : Addr} {ds : List D} {x : D} {Q : D → Sg → Prop} (e : σ l = some (.lst ds)) (hz : ds.length ≤ sizeLine) (q : Q .none (upd σ l (.lst (ds ++ [x])))) : Cl c k σ (.builtin "list.append") [.raw (.ref l), x] Q := by
  refine Cl.rd fun A ck L ρ P s _ g R hx => ?_
  obtain ⟨us, hl, hv⟩ := R.isList e
  refine wpAny_list_append_plain hl (fun h' hl' hs => ?_) (by simp only [List.size_toArray, hv.length]; exact hz)
  obtain ⟨n, ho⟩ := hl'
  refine ⟨P, .none, _, ⟨fun _ _ x => x, R.upd e hs ho (O := .lst (ds ++ [x])) ⟨us ++ [_], n, by simp, hv.append (.cons hx .nil)⟩, ⟨_, _, rfl⟩⟩, .none, q⟩
/-- «o.append(e)» -/
theorem Ev.append {o e : Expr} {apos pos : Pos} {Q : D → Sg → Prop}
    (h : Ev c F k ρ σ o (fun d σ1 => ∃ l O, d = .raw (.ref l) ∧ σ1 l = some (.lst O) ∧ Ev c F k ρ σ1 e (fun x σ2 => ∃ ds, σ2 l = some (.lst ds) ∧ ds.length ≤ sizeLine ∧ Q .none (upd σ2 l (.lst (ds ++ [x]))))))
    (hbase : ∀ L : Loc F.ck, attributeBase o "append" (F.env L) (eval o (F.env L)) = eval o (F.env L) := by intro _; rfl)
    (hfew : ∀ L : Loc F.ck, ((backTo pos (starEach [e] (F.env L))).all (fun x => !x.1) && (backToKw pos (keywordEach [] (F.env L))).all (fun x => x.1.isSome)
      && decide ([e].length + ([] : List Keyword).length + (if ([] : List Keyword).isEmpty then 0 else 1) < 30)) = true := by intro _; rfl)
    (hline : (apos.endLine == pos.line) = true := by rfl)
    (he : ∀ L : Loc F.ck, starEach [e] (F.env L) = (false, eval e (F.env L)) :: starEach [] (F.env L) := by intro _; rfl) :
    Ev c F k ρ σ (.Call (.Attribute o "append" apos) [e] [] pos) Q :=
  Ev.meth PySem.F.plainAttrs_list slot_list_append type_list_append (h.mono fun d σ1 ⟨l, O, hd, h1, h2⟩ => ⟨l, _, hd, h1, ok_lst, .cons (h2.mono fun x σ2 ⟨ds, h3, h4, h5⟩ => .nil (cl_append h3 h4 h5)) he⟩)
    hbase hfew hline he (fun _ => rfl)
end
end

section
section
variable {c : Cx} {F : Fn} {k : Nat} {ρ : Rho} {σ : Sg}
/-- addresses fenced off: they are known as they stand -/
noncomputable def guardP (P : Know) (h : Heap) (as : List Addr) : Know := fun a o => P a o ∨ (a ∈ as ∧ h.get? a = some o)
noncomputable def dropP (P : Know) (as : List Addr) : Know := fun a o => P a o ∧ a ∉ as
structure Fence (σ : Sg) (P : Know) (h : Heap) (as : List Addr) : Prop where
  there : ∀ a ∈ as, ∃ o, h.get? a = some o ∧ ¬ Imm o
  off : ∀ a ∈ as, ∀ o, ¬ P a o
  no : ∀ a ∈ as, σ a = none
theorem Hp.guard {P : Know} {h : Heap} {as : List Addr} (H : Hp c σ P h) (G : Fence σ P h as) : Hp c σ (guardP P h as) h :=
  ⟨fun a o x => .inl (H.base a o x), fun a o x => x.elim (H.froz a o) fun y => y.2, fun a O e => let ⟨o, x, y⟩ := H.objs a O e; ⟨o, x, y.move fun _ _ z _ => .inl z⟩,
    fun a O e o x => x.elim (H.apart a O e o) fun y => (by rw [G.no a y.1] at e; cases e), H.high⟩
/-- what the fence gives back -/
structure Back (c : Cx) (σ' : Sg) (P : Know) (h : Heap) (as : List Addr) (P' : Know) (h' : Heap) : Prop where
  hp : Hp c σ' (dropP P' as) h'
  more : ∀ a o, P a o → dropP P' as a o
  same : ∀ a ∈ as, ∀ o, h.get? a = some o → h'.get? a = some o
  no : ∀ a ∈ as, σ' a = none
  imm : ∀ a o, P' a o → Imm o → dropP P' as a o
theorem Fence.back {σ' : Sg} {P P' : Know} {h h' : Heap} {as : List Addr} (G : Fence σ P h as) (B : ∀ a o, c.h₀.get? a = some o → P a o) (H : Hp c σ' P' h') (m : ∀ a o, guardP P h as a o → P' a o) : Back c σ' P h as P' h' := by
  have same : ∀ a ∈ as, ∀ o, h.get? a = some o → P' a o := fun a ha o e => m a o (.inr ⟨ha, e⟩)
  have more : ∀ a o, P a o → dropP P' as a o := fun a o x => ⟨m a o (.inl x), fun ha => G.off a ha o x⟩
  have imm : ∀ a o, P' a o → Imm o → dropP P' as a o := fun a o x i => ⟨x, fun ha => by
    obtain ⟨q, e, ni⟩ := G.there a ha
    have h1 := H.froz _ _ x
    have h2 := H.froz _ _ (same a ha q e)
    rw [h1] at h2
    cases h2
    exact ni i⟩
  refine ⟨⟨fun a o x => more _ _ (B a o x), fun a o x => H.froz _ _ x.1, fun a O e => let ⟨o, x, y⟩ := H.objs a O e; ⟨o, x, y.move imm⟩, fun a O e o x => H.apart a O e o x.1, H.high⟩, more, fun a ha o e => H.froz _ _ (same a ha o e), fun a ha => ?_, imm⟩
  cases e : σ' a with
  | none => rfl
  | some O =>
    obtain ⟨q, e', _⟩ := G.there a ha
    exact absurd (same a ha q e') (H.apart a O e q)
theorem Rl.fence {ck : List Str} {L : Loc ck} {P : Know} {h : Heap} (R : Rl c L ρ σ P h) : Fence σ P h L.all := ⟨fun _ ha => R.objAt ha, fun a ha => (R.own a ha).2, fun a ha => (R.own a ha).1⟩
/-- a frame behind a step that it did not take part in -/
theorem Rl.again {ck : List Str} {L : Loc ck} {P P' : Know} {h h' : Heap} {σ' : Sg} {as : List Addr} (R : Rl c L ρ σ P h) (has : ∀ a ∈ L.all, a ∈ as) (B : Back c σ' P h as P' h') : Rl c L ρ σ' (dropP P' as) h' :=
  ⟨B.hp, R.toFm.keep (fun a ha => B.same a (has a ha)) (fun a o x _ => B.more a o x), fun a ha => ⟨B.no a (has a ha), fun o x => x.2 (has a ha)⟩⟩
theorem len0 {α : Type} {p : List α → Prop} (h : p []) : ∀ vs : List α, vs.length = 0 → p vs := fun vs e => by rw [List.length_eq_zero_iff.mp e]; exact h
theorem lenS {α : Type} {n : Nat} {p : List α → Prop} (h : ∀ a (vs : List α), vs.length = n → p (a :: vs)) : ∀ vs : List α, vs.length = n + 1 → p vs
  | [], e => nomatch e
  | a :: vs, e => h a vs (Nat.succ.inj e)
inductive FnMade (c : Cx) (F : Fn) (addr : Addr) (params : List Str) (body : List Stmt) : Prop
  | mk (o : Obj) (fd : FuncData) (ho : c.h₀.get? addr = some o) (hd : o.data = .func fd) (hb : fd.body = .stmts body) (hs : fd.scope = F.scope) (hc : fd.code = F.cd) (hq : fd.qualname ++ ".<locals>." = F.qual) (hg : fd.globals = mainGlobals) (hl : fd.closure = []) (hi : fd.builtins = builtinsNs)
      (hr : c.h₀.CodeRec fd.code fd.qualname) (ha : ∀ vs : List Value, vs.length = params.length → bindArgs fd ⟨vs, []⟩ = pure (params.zip vs))
/-- a def of the module's (or a method), as the heap holds it -/
structure IsFn (c : Cx) (F : Fn) (addr : Addr) (params : List Str) (body : List Stmt) : Prop where
  made : FnMade c F addr params body
  kind : F.scope.kind = .function
  nco : F.scope.isCoroutine = false
  ngen : F.scope.isGenerator = false
  ncell : ∀ x ∈ F.scope.names, x.2 ≠ .cell
  nck : F.ck = []
  loc : ∀ p ∈ params, F.scope.names.lookup p = some .local
/-- the frame's first names -/
noncomputable def argR : List Str → List D → Rho → Rho
  | p :: ps, d :: ds, ρ => argR ps ds (setR ρ p d)
  | _, _, ρ => ρ
theorem lookup_snoc (l : List (Str × Value)) (p : Str) (v : Value) (x : Str) : (l ++ [(p, v)]).lookup x = (l.lookup x).or (if x = p then some v else none) := by
  induction l with
  | nil =>
    by_cases h : x = p
    · subst h; simp [List.lookup]
    · have hb : (x == p) = false := by simpa using h
      simp [List.lookup, hb, h]
  | cons q l ih =>
    obtain ⟨y, u⟩ := q
    by_cases h : x = y
    · subst h; simp [List.lookup]
    · have hb : (x == y) = false := by simpa using h
      simp only [List.cons_append, List.lookup, hb]
      exact ih
theorem argR_ok {P : Know} : ∀ (ps : List Str) {vs : List Value} {ds : List D} (ρ₀ : Rho) (m₀ : Str → Option Value), VRs c P vs ds → (∀ x d, ρ₀ x = some d → ∃ v, m₀ x = some v ∧ VR c P v d) →
    ∀ x d, argR ps ds ρ₀ x = some d → ∃ v, ((ps.zip vs).reverse.lookup x).or (m₀ x) = some v ∧ VR c P v d
  | [], vs, ds, ρ₀, m₀, hv, h0, x, d, e => by
    have : argR [] ds ρ₀ = ρ₀ := by cases ds <;> rfl
    rw [this] at e
    simpa using h0 x d e
  | p :: ps, _, _, ρ₀, m₀, .nil, h0, x, d, e => by simpa using h0 x d e
  | p :: ps, _, _, ρ₀, m₀, .cons (v := v) (d := d') h r, h0, x, d, e => by
    have ih := argR_ok ps (setR ρ₀ p d') (fun y => if y = p then some v else m₀ y) r (fun y e' he => by
      by_cases hy : y = p
      · subst hy; rw [setR_same] at he; cases he; exact ⟨v, if_pos rfl, h⟩
      · rw [setR_ne hy] at he
        obtain ⟨u, hu, hv⟩ := h0 y e' he
        exact ⟨u, by rw [if_neg hy]; exact hu, hv⟩) x d e
    obtain ⟨u, hu, hv⟩ := ih
    refine ⟨u, ?_, hv⟩
    rw [List.zip_cons_cons, List.reverse_cons, lookup_snoc]
    rw [← hu]
    cases List.lookup x (ps.zip _).reverse with
    | some w => rfl
    | none =>
      simp only [Option.none_or]
      by_cases hy : x = p
      · simp [hy]
      · simp [hy]
noncomputable def outD : Out → D
  | .ret d => d
  | _ => .none
/-- a call, as the code of it -/
noncomputable def Cd (c : Cx) (k : Nat) (σ : Sg) (f : Value) (ds : List D) (Q : D → Sg → Prop) : Prop :=
  ∀ A {ck : List Str} (L : Loc ck) ρ P s vs, Good A k → Rl c L ρ σ P s.heap → VRs c P vs ds → codeAny (model c.prog c.w) A (.call f ⟨vs, []⟩) (fun r s' => match r with | .ok (.ret v) => PD c L s P ρ Q v s' | .ok _ => False | .error _ => False) s
theorem Cl.of_code {f : Value} {ds : List D} {Q : D → Sg → Prop} (h : Cd c k σ f ds Q) : Cl c k σ f ds Q :=
  fun A _ L ρ P s vs g R hv => wpAny_call (codeAny_mono (h A L ρ P s vs g R hv) fun r s' q => by
    cases r with
    | ok fl => cases fl <;> exact q
    | error e => exact q)
theorem Cd.mono {f : Value} {ds : List D} {Q Q' : D → Sg → Prop} (h : Cd c k σ f ds Q) (hq : ∀ d σ', Q d σ' → Q' d σ') : Cd c k σ f ds Q' :=
  fun A _ L ρ P s vs g R hv => codeAny_mono (h A L ρ P s vs g R hv) fun r s' q => by
    cases r with
    | ok fl =>
      cases fl with
      | ret v => obtain ⟨P', d, σ', p, v, q⟩ := q; exact ⟨P', d, σ', p, v, hq _ _ q⟩
      | _ => exact q
    | error e => exact q
/-- behind a call: the caller's frame again -/
theorem leave_ok {ck ck' : List Str} {L : Loc ck} {L' : Loc ck'} {P P' : Know} {ρ' : Rho} {σ' : Sg} {s s₁ s' : Shared} {Q : D → Sg → Prop} {v : Value} {d : D} (R : Rl c L ρ σ P s.heap)
    (hs : Same s s₁) (p : Post c L' s₁ (guardP P s.heap L.all) ρ' σ' P' s') (hv : VR c P' v d) (q : Q d σ') : PD c L s P ρ Q v s' := by
  have B := R.fence.back R.base p.rl.toHp p.more
  exact ⟨dropP P' L.all, d, σ', ⟨B.more, R.again (fun _ x => x) B, hs.trans p.same⟩, hv.move B.imm, q⟩
theorem Cd.fn {addr : Addr} {params : List Str} {body : List Stmt} {ds : List D} {Q : D → Sg → Prop} (W : Wd c) (I : IsFn c F addr params body) (hl : ds.length = params.length)
    (h : Exs c F k (argR params ds fun _ => none) σ body (fun o _ σ' => Q (outD o) σ')) : Cd c (k + 1) σ (.ref addr) ds Q := by
  intro A ck L ρ P s vs g R hv
  obtain ⟨o, fd, ho, hd, hb, hsc, hco, hqu, hgl, hcl, hbl, hcr, hbind⟩ := I.made
  have hvl : vs.length = params.length := by rw [hv.length, hl]
  refine codeAny_call_def (binds := params.zip vs) (by have := g.depth; omega) (R.old _ _ ho) hd (W.nolimit.keeps R.old) (hcr.keeps R.old) hb (BindsTo.of_eq (hbind vs hvl)) (by rw [hsc]; exact I.ncell)
    (fun x hx => by rw [hsc]; exact I.loc _ (List.of_mem_zip hx).1) (fun h₁ hns hk => ?_) (by rw [hsc]; exact I.nco) (by rw [hsc]; exact I.ngen) (by rw [hsc]; exact I.kind)
  let L' : Loc F.ck := ⟨s.heap.objs.size, [], by rw [I.nck]; rfl, some addr, some s.heap.objs.size⟩
  have hcs : L'.cs = [] := by show F.ck.zip [] = []; simp
  have henv : callEnv fd s.heap.objs.size addr = F.env L' := by
    unfold callEnv newEnv Fn.env
    rw [hsc, hco, hqu, hgl, hcl, hbl, hcs]
  rw [henv]
  have R' : Rl c L' (argR params ds fun _ => none) σ (guardP P s.heap L.all) h₁ := by
    refine ⟨(R.toHp.guard R.fence).ext hk, ⟨Nat.le_trans R.above (Nat.le_of_lt R.ltL), by simp [Loc.all, L'], fun a ha => by simp [L'] at ha, ⟨_, hns, fun x d e => ⟨fun a ha => by rw [hcs] at ha; simp at ha, fun _ => ?_⟩⟩⟩, fun a ha => ?_⟩
    · have := argR_ok (c := c) (P := guardP P s.heap L.all) params (fun _ => none) (fun _ => none) (hv.mono fun _ _ z => .inl z) (fun _ _ e => by cases e) x d e
      simpa using this
    · have ha' : a = s.heap.objs.size := by simpa [Loc.all, L'] using ha
      subst ha'
      refine ⟨R.new, fun o x => ?_⟩
      rcases x with x | ⟨x, _⟩
      · exact R.newP o x
      · exact R.notNew x
  refine wpAny_mono (h (A.deeper (F.env L')) L' (guardP P s.heap L.all) { s with heap := h₁, toks := s.toks + (params.zip vs).length } (g.deeper _) R') (fun f s' hf => ?_) fun _ _ x => x.elim
  obtain ⟨P', o', ρ', σ', p, r, q⟩ := hf
  cases r with
  | ret hv' => exact leave_ok R ⟨_, _, rfl⟩ p hv' q
  | next => exact leave_ok R ⟨_, _, rfl⟩ p .none q
  | brk => exact leave_ok R ⟨_, _, rfl⟩ p .none q
  | cont => exact leave_ok R ⟨_, _, rfl⟩ p .none q
/-- what may be called by a name -/
noncomputable def Callee (c : Cx) (v : Value) : Prop := (c.K.In c.h₀ ∧ keepIn c.K v = true) ∨ (∃ id, v = .builtin id) ∨ ∃ T, v = .type T
inductive FC (c : Cx) (F : Fn) (k : Nat) (ρ : Rho) (es : List Expr) (Q : D → Sg → Prop) (f : D) (σ1 : Sg) : Prop
  | mk (v : Value) (e : f = .raw v) (ce : Callee c v) (h : Evs c F k ρ σ1 es (fun ds σ2 => Cl c k σ2 v ds Q))
theorem Ev.fcall {func e : Expr} {rest : List Expr} {pos : Pos} {Q : D → Sg → Prop}
    (h : Ev c F k ρ σ func (FC c F k ρ (e :: rest) Q))
    (he : ∀ L : Loc F.ck, eval (.Call func (e :: rest) [] pos) (F.env L) = (do callWith pos (← eval func (F.env L)) [] (backTo pos (starEach (e :: rest) (F.env L))) (backToKw pos (keywordEach [] (F.env L)))) := by intro _; rfl)
    (hs : ∀ L : Loc F.ck, starEach (e :: rest) (F.env L) = (false, eval e (F.env L)) :: starEach rest (F.env L) := by intro _; rfl)
    (hplain : ∀ L : Loc F.ck, (backTo pos (starEach rest (F.env L))).any (·.1) = false := by intro _; rfl) : Ev c F k ρ σ (.Call func (e :: rest) [] pos) Q := by
  intro A L P s g R
  refine Call_ (env := F.env L) (wpAny_mono (h A L P s g R) ?_ fun _ _ x => x) (he L)
  rintro f s1 ⟨P1, d1, σ1, p1, r1, v, rfl, hc, h1⟩
  cases r1
  have step : wpAny (model c.prog c.w) A (spliced (backTo pos (starEach (e :: rest) (F.env L)))) (fun vs s₂ => (∀ a o, c.h₀.get? a = some o → s₂.heap.get? a = some o) ∧ wpAny (model c.prog c.w) A (call f vs) (PD c L s P ρ Q) noE s₂) noE s1 := by
    refine wpAny_mono (h1 A L P1 s1 pos g p1.rl) ?_ fun _ _ x => x
    rintro vs s2 ⟨P2, ds, σ2, p2, r2, h2⟩
    exact ⟨p2.rl.old, wpAny_mono (h2 A L ρ P2 s2 vs g p2.rl r2) (fun v s' h => PD.of (p1.trans p2) h) fun _ _ x => x⟩
  rcases hc with ⟨hK, hk⟩ | ⟨id, rfl⟩ | ⟨T, rfl⟩
  · exact callWith_K (env := F.env L) hK hk (wpAny_mono step (fun vs s₂ x => ⟨hK.keeps x.1, x.2⟩) fun _ _ x => x) (hs L) (hplain L)
  · exact callWith_builtin1 (env := F.env L) (wpAny_mono step (fun vs s₂ x => x.2) fun _ _ x => x) (hs L) (hplain L)
  · exact callWith_type1 (env := F.env L) (wpAny_mono step (fun vs s₂ x => x.2) fun _ _ x => x) (hs L) (hplain L)
end
end

section
noncomputable def fieldNames : List Str := ["kind", "number", "start", "stop"]
structure Kf (c : Cx) : Prop where
  inn : c.K.In c.h₀
  get : plainGet c.K c.C "" = true
  dict : hasDictIn c.K c.C = true
  attr : ∀ x ∈ fieldNames, findIn c.K (.ref c.C) x = some none
  setattr : findIn c.K (.ref c.C) "__setattr__" = some (some (.builtin "object.__setattr__"))
  over : plainOver c.K c.C = true
  taker : ∀ x ∈ fieldNames, takerIn c.K c.C x = some none
  makes : makesIn c.K c.C = true
section
variable {c : Cx} {F : Fn} {k : Nat} {ρ : Rho} {σ : Sg}
/-- all else that stands, as a ledger behind one entry -/
theorem Rl.ledger {ck : List Str} {l : Loc ck} {P : Know} {h : Heap} (R : Rl c l ρ σ P h) {L : Addr} {a : Addr} {o : Obj} (ho : h.get? a = some o) (hL : a ≠ L) (hn : c.h₀.get? a = none) :
    ∃ rest, News c.h₀ L h ((a, o) :: rest) ∧ (∀ p ∈ rest, p.1 ≠ a) ∧ ∀ b p, b ≠ L → b ≠ a → h.get? b = some p → c.h₀.get? b = some p ∨ (b, p) ∈ rest := by
  classical
  let pick : Nat → Option (Addr × Obj) := fun b => if b = L ∨ b = a then none else match h.get? b, c.h₀.get? b with
    | some p, none => some (b, p)
    | _, _ => none
  have hpick : ∀ b q, pick b = some q → q.1 = b ∧ b ≠ L ∧ b ≠ a ∧ h.get? b = some q.2 ∧ c.h₀.get? b = none := by
    intro b q e
    simp only [pick] at e
    split at e
    · cases e
    · rename_i hb
      have h1 : b ≠ L := fun x => hb (.inl x)
      have h2 : b ≠ a := fun x => hb (.inr x)
      split at e
      · rename_i p e1 e2
        cases e
        exact ⟨rfl, h1, h2, e1, e2⟩
      · cases e
  refine ⟨(List.range h.objs.size).filterMap pick, ?_, ?_, ?_⟩
  · intro p hp
    rcases List.mem_cons.mp hp with rfl | hp
    · exact ⟨ho, hL, hn⟩
    · obtain ⟨b, _, e⟩ := List.mem_filterMap.mp hp
      obtain ⟨h1, h2, _, h4, h5⟩ := hpick b p e
      rw [h1]
      exact ⟨h4, h2, h5⟩
  · intro p hp
    obtain ⟨b, _, e⟩ := List.mem_filterMap.mp hp
    obtain ⟨h1, _, h3, _⟩ := hpick b p e
    rw [h1]; exact h3
  · intro b p hb ha e
    cases e' : c.h₀.get? b with
    | some q =>
      have := R.old b q e'
      rw [e] at this
      cases this
      exact .inl rfl
    | none =>
      refine .inr (List.mem_filterMap.mpr ⟨b, List.mem_range.mpr (Heap.lt_size e), ?_⟩)
      simp only [pick]
      rw [if_neg (fun x => x.elim hb ha), e, e']
/-! the fields of an instance -/
noncomputable def fget (es : List (Str × D)) (x : Str) : Option D := (es.find? fun e => e.1 == x).map (·.2)
noncomputable def fput (x : Str) (d : D) : List (Str × D) → List (Str × D)
  | [] => [(x, d)]
  | e :: r => if e.1 == x then (e.1, d) :: r else e :: fput x d r
theorem fput_length (x : Str) (d : D) : ∀ es : List (Str × D), (fput x d es).length ≤ es.length + 1
  | [] => Nat.le_refl _
  | e :: r => by
    unfold fput
    split
    · simp
    · have := fput_length x d r; simp; omega
theorem FR.noRef {P : Know} : ∀ {l : List DictEntry} {es : List (Str × D)}, FR c P l es → l.any (·.refKey) = false
  | _, _, .nil => rfl
  | _, _, .cons _ r => by rw [List.any_cons, r.noRef]; rfl
theorem FR.find {P : Know} (x : Str) : ∀ {l : List DictEntry} {es : List (Str × D)}, FR c P l es →
    match fget es x with | some d => ∃ e, l.find? (·.key.isStr x) = some e ∧ VR c P e.val d | none => l.find? (·.key.isStr x) = none
  | _, _, .nil => rfl
  | _, _, .cons (x := y) (t := t) (v := v) (d := d) h r => by
    have ih := r.find x
    unfold fget at ih ⊢
    rw [List.find?_cons, List.find?_cons]
    have e : (Value.str y t).isStr x = (y == x) := rfl
    simp only [e]
    cases hb : (y == x) with
    | true => exact ⟨_, rfl, h⟩
    | false => exact ih
theorem FR.getL_some {P : Know} {x : Str} {l : List DictEntry} {es : List (Str × D)} {d : D} (h : FR c P l es) (e : fget es x = some d) : ∃ v, getL x l = some (some v) ∧ VR c P v d := by
  have := h.find x
  rw [e] at this
  obtain ⟨q, h1, h2⟩ := this
  exact ⟨q.val, by unfold getL; rw [h1], h2⟩
theorem FR.getL_ok {P : Know} {l : List DictEntry} {es : List (Str × D)} (x : Str) (h : FR c P l es) : (getL x l).isSome = true := by
  unfold getL
  split
  · rfl
  · rw [h.noRef]; rfl
theorem FR.getL_none {P : Know} {x : Str} {l : List DictEntry} {es : List (Str × D)} (h : FR c P l es) (e : fget es x = none) : getL x l = some none := by
  have := h.find x
  rw [e] at this
  unfold getL
  rw [this, h.noRef]; rfl
theorem FR.put {P : Know} {x : Str} {t : Tok} {v : Value} {d : D} (hv : VR c P v d) : ∀ {l : List DictEntry} {es : List (Str × D)}, FR c P l es → FR c P (putL x (PyData.keyHash c.w.params x) (.str x t) v l) (fput x d es)
  | _, _, .nil => .cons hv .nil
  | _, _, .cons (x := y) (t := t') (v := v') (d := d') h r => by
    unfold putL fput
    have e : (Value.str y t').isStr x = (y == x) := rfl
    simp only [e]
    cases hb : (y == x) with
    | true => exact .cons hv r
    | false => exact .cons h (r.put hv)
theorem FR.length {P : Know} : ∀ {l : List DictEntry} {es : List (Str × D)}, FR c P l es → l.length = es.length
  | _, _, .nil => rfl
  | _, _, .cons _ r => by rw [List.length_cons, List.length_cons, r.length]
theorem Rl.inst {ck : List Str} {L : Loc ck} {P : Know} {h : Heap} {x dx : Addr} {es : List (Str × D)} (R : Rl c L ρ σ P h) (hv : VR c P (.ref x) (.inst dx)) (e : σ dx = some (.fld es)) :
    ∃ l n, PySem.W.InstAt h x (instObj c.C dx) c.C (some (dictOf l n)) ∧ h.get? dx = some (dictOf l n) ∧ FR c P l es := by
  obtain ⟨y, hy, hx⟩ := hv.isInst
  obtain rfl : x = y := by injection hy
  obtain ⟨o, ho, l, n, rfl, hf⟩ := R.objs dx _ e
  exact ⟨l, n, ⟨R.froz _ _ hx, rfl, rfl, ho⟩, ho, hf⟩
inductive AtF (c : Cx) (name : Str) (Q : D → Sg → Prop) (d : D) (σ1 : Sg) : Prop
  | mk (dx : Addr) (es : List (Str × D)) (x : D) (e : d = .inst dx) (h : σ1 dx = some (.fld es)) (g : fget es name = some x) (hi : ∀ P v, VR c P v x → handedIn v = true) (q : Q x σ1)
inductive StF (name : Str) (x : D) (Q : Sg → Prop) (d : D) (σ1 : Sg) : Prop
  | mk (dx : Addr) (es : List (Str × D)) (e : d = .inst dx) (h : σ1 dx = some (.fld es)) (z : es.length ≤ 100) (q : Q (upd σ1 dx (.fld (fput name x es))))
inductive OwF (c : Cx) (F : Fn) (k : Nat) (ρ : Rho) (name : Str) (f : Addr) (es' : List Expr) (Q : D → Sg → Prop) (d : D) (σ1 : Sg) : Prop
  | mk (dx : Addr) (es : List (Str × D)) (e : d = .inst dx) (h : σ1 dx = some (.fld es)) (g : fget es name = none) (r : Evs c F k ρ σ1 es' (fun ds σ2 => Cl c k σ2 (.ref f) (.inst dx :: ds) Q))
/-- an attribute read -/
theorem Ev.attr {o : Expr} {name : Str} {pos : Pos} {Q : D → Sg → Prop} (Kc : Kf c) (hn : name ∈ fieldNames)
    (h : Ev c F k ρ σ o (AtF c name Q))
    (he : ∀ L : Loc F.ck, eval (.Attribute o name pos) (F.env L) = (do
      let ov ← eval o (F.env L)
      standAt pos.atName
      let r ← holding [ov] (getAttr ov name true)
      letTemporaryGo o ov r
      pure r) := by intro _; with_unfolding_all rfl) : Ev c F k ρ σ (.Attribute o name pos) Q := by
  intro A L P s g R
  refine Attribute_any_ (wpAny_mono (h A L P s g R) ?_ fun _ _ x => x) (he L)
  rintro v s1 ⟨P1, d1, σ1, p1, r1, dx, es, x, rfl, e, hx, hd, q⟩
  obtain ⟨m, Fr, _⟩ := p1.rl.fr
  obtain ⟨y, rfl, _⟩ := r1.isInst
  obtain ⟨l, n, I, _, hf⟩ := p1.rl.inst r1 e
  obtain ⟨u, h1, h2⟩ := hf.getL_some hx
  exact get_own Fr Kc.inn I Kc.get Kc.dict (Kc.attr _ hn) rfl h1 (hd _ _ h2) ⟨P1, x, σ1, p1.trans p1.rl.bump, h2, q⟩
/-- an attribute stored -/
theorem setAttr_ok {name : Str} {dx : Addr} {es : List (Str × D)} {d : D} {Q : Sg → Prop} (Kc : Kf c) (hn : name ∈ fieldNames) (e : σ dx = some (.fld es)) (hz : es.length ≤ 100) (q : Q (upd σ dx (.fld (fput name d es)))) :
    OpU2 c k σ (fun o v => setAttr o name v) (.inst dx) d Q := by
  intro A ck L ρ P s o v g R ho hv
  obtain ⟨m, Fr, hm⟩ := R.fr
  obtain ⟨y, rfl⟩ : ∃ y, o = .ref y := by cases ho; exact ⟨_, rfl⟩
  obtain ⟨l, n, I, hd, hf⟩ := R.inst ho e
  have hnA := R.notL e
  have hnL : dx ≠ L.L := fun x => hnA (x ▸ .head _)
  have hn0 : c.h₀.get? dx = none := by
    cases e' : c.h₀.get? dx with
    | none => rfl
    | some o => exact absurd (R.base _ _ e') (R.apart _ _ e o)
  obtain ⟨rest, N, hr, hall⟩ := R.ledger hd hnL hn0
  refine set_dict Fr Kc.inn N I rfl Kc.setattr Kc.over (Kc.taker _ hn) Kc.dict (hf.getL_ok name) rfl (Upd.head hr) ?_ fun h' F' N' => ?_
  · have h1 := (hf.put (x := name) (t := s.toks + 1) hv).length
    have h2 := fput_length name d es
    omega
  · refine ⟨P, _, ⟨fun _ _ x => x, ?_, ⟨_, _, rfl⟩⟩, q⟩
    have keep : ∀ b p, b ≠ dx → b ≠ L.L → s.heap.get? b = some p → h'.get? b = some p := fun b p hb hbL hbp => by
      rcases hall b p hbL hb hbp with h0 | h0
      · exact F'.keep _ _ h0
      · exact (N' _ (.tail _ h0)).1
    have M := hm Fr.ns h' F'.ns fun a ha o q => keep a o (fun x => hnA (x ▸ .tail _ ha)) (fun x => (List.nodup_cons.mp R.nodup).1 (x ▸ ha)) q
    exact R.setF (O := .fld (fput name d es)) M (fun b p hb hbL hbp => keep b p hb (fun x => hbL (x ▸ .head _)) hbp) (N' _ (.head _)).1 ⟨_, _, rfl, hf.put hv⟩ hnA (R.apart _ _ e) (R.high _ _ e)
theorem Ex.setAttr {o value : Expr} {name : Str} {pos' pos : Pos} {Q : Out → Rho → Sg → Prop} (Kc : Kf c) (hn : name ∈ fieldNames)
    (h : Ev c F k ρ σ value (fun d σ1 => Ev c F k ρ σ1 o (StF name d (Q .next ρ))))
    (hs : ∀ L : Loc F.ck, swapsWith value (some (.Attribute o name pos')) pos.line (F.env L) = pure false := by intro _; rfl) : Ex c F k ρ σ (.Assign [.Attribute o name pos'] value pos) Q := by
  intro A L P s g R
  refine plainObj_wpAny_Assign_Attribute (env := F.env L) (wpAny_mono (h A L P s g R) ?_ fun _ _ x => x) (hs L)
  rintro v1 s1 ⟨P1, d1, σ1, p1, r1, h1⟩
  refine wpAny_mono (h1 A L P1 s1 g p1.rl) ?_ fun _ _ x => x
  rintro v2 s2 ⟨P2, d2, σ2, p2, r2, dx, es, rfl, e, hz, q⟩
  refine wpAny_mono (setAttr_ok Kc hn e hz (Q := fun σ' => Q .next ρ σ') q A L ρ P2 s2 v2 v1 g p2.rl r2 (r1.mono p2.more)) ?_ fun _ _ x => x
  rintro _ s3 ⟨P3, σ3, p3, q3⟩
  exact ⟨P3, .next, ρ, σ3, (p1.trans p2).trans p3, .next, q3⟩
theorem Good.make {A : Around} {k : Nat} (h : Good A (k + 1)) (C : Addr) (args : List Value) (kw : List (Str × Value)) : Good (A.under (.builtin "type.__call__" ⟨.ref C :: args, kw⟩)) k := by
  have hw : (Code.builtin "type.__call__" ⟨.ref C :: args, kw⟩).weight = 1 := by rfl
  have hu : (Code.builtin "type.__call__" ⟨.ref C :: args, kw⟩).cUnits = 1 := by rfl
  refine ⟨h.handled, ?_, ?_⟩
  · have := h.depth
    show A.depth + (Code.builtin "type.__call__" ⟨.ref C :: args, kw⟩).weight + 2 * k < recursionLimit
    rw [hw]; omega
  · have := h.units
    show A.units + (Code.builtin "type.__call__" ⟨.ref C :: args, kw⟩).cUnits + 100 * k + 200 < cLine
    rw [hu]; omega
/-- an instance made -/
theorem Cl.new {fI : Addr} {ds : List D} {Q : D → Sg → Prop} (Kc : Kf c) (hi : findIn c.K (.ref c.C) "__init__" = some (some (.ref fI))) (hf : typeIn c.K (.ref fI) = some (.type "function"))
    (h : ∀ dx, σ dx = none → Cd c k (upd σ dx (.fld [])) (.ref fI) (.inst dx :: ds) (fun d σ' => d = .none ∧ Q (.inst dx) σ')) : Cl c (k + 1) σ (.ref c.C) ds Q := by
  intro A ck L ρ P s vs g R hv
  obtain ⟨hh, gn, dr, t, os⟩ := s
  have KX := Kc.inn.keeps R.old
  refine wpAny_call (make_core (makes_of KX Kc.makes) (looks_findIn KX hi) (fun self => bind_fn KX self hf) (.inl rfl) ?_)
  have p1 := R.pushO (s := ⟨hh, gn, dr, t, os⟩) (n := t) (o := emptyDict) (O := .fld []) ⟨[], 0, rfl, .nil⟩
  have p2 := p1.rl.pushP (n := t) (instObj c.C hh.objs.size) rfl
  have hsz : (hh.push emptyDict).objs.size = hh.objs.size + 1 := by simp
  have hx : addP P (hh.push emptyDict).objs.size (instObj c.C hh.objs.size) (hh.objs.size + 1) (instObj c.C hh.objs.size) := .inr ⟨hsz.symm, rfl⟩
  refine codeAny_mono (h hh.objs.size R.new (A.under (.builtin "type.__call__" ⟨.ref c.C :: vs, []⟩)) L ρ _ ⟨(hh.push emptyDict).push (instObj c.C hh.objs.size), gn, dr, t, os⟩ (.ref (hh.objs.size + 1) :: vs) (g.make _ _ _) p2.rl (.cons (.inst hx) (hv.mono p2.more))) ?_
  intro r s' hr
  cases r with
  | error e => exact hr
  | ok fl =>
    cases fl with
    | ret v =>
      obtain ⟨P', d, σ', p3, hvd, rfl, q⟩ := hr
      obtain rfl := hvd.isNone
      exact ⟨rfl, P', .inst hh.objs.size, σ', (p1.trans p2).trans p3, .inst (p3.more _ _ hx), q⟩
    | _ => exact hr.elim
/-- a method of one's own, called -/
theorem Ev.own {o e : Expr} {rest : List Expr} {name : Str} {f : Addr} {apos pos : Pos} {Q : D → Sg → Prop} (Kc : Kf c) (hf : findIn c.K (.ref c.C) name = some (some (.ref f))) (ht : isFn c.K (.ref f) = true) (hk : keepIn c.K (.ref f) = true)
    (h : Ev c F k ρ σ o (OwF c F k ρ name f (e :: rest) Q))
    (pl : Loc F.ck → Sem Bool)
    (he : ∀ L : Loc F.ck, eval (.Call (.Attribute o name apos) (e :: rest) [] pos) (F.env L) = (do
      let ov ← eval o (F.env L)
      standAt apos.atName
      let (f, first) ← holding [ov] (getMethod ov name (pl L))
      callWith pos f first (backTo pos (starEach (e :: rest) (F.env L))) []))
    (hs : ∀ L : Loc F.ck, starEach (e :: rest) (F.env L) = (false, eval e (F.env L)) :: starEach rest (F.env L) := by intro _; rfl)
    (hplain : ∀ L : Loc F.ck, (backTo pos (starEach rest (F.env L))).any (·.1) = false := by intro _; rfl) : Ev c F k ρ σ (.Call (.Attribute o name apos) (e :: rest) [] pos) Q := by
  intro A L P s g R
  refine MethodCall_ (env := F.env L) (wpAny_mono (h A L P s g R) ?_ fun _ _ x => x) (he L)
  rintro v s1 ⟨P1, d1, σ1, p1, r1, dx, es, rfl, e1, hx, h1⟩
  obtain ⟨m, Fr, _⟩ := p1.rl.fr
  obtain ⟨y, rfl, _⟩ := r1.isInst
  obtain ⟨l, n, I, _, hfr⟩ := p1.rl.inst r1 e1
  refine method_inst Fr Kc.inn I Kc.get hf ht (hfr.getL_none hx) ?_
  refine callWith_K (env := F.env L) (f := .ref f) (first := [.ref y]) Kc.inn hk (wpAny_mono (h1 A L P1 s1 pos g p1.rl) ?_ fun _ _ x => x) (hs L) (hplain L)
  rintro vs s2 ⟨P2, ds, σ2, p2, r2, h2⟩
  exact ⟨Kc.inn.keeps p2.rl.old, wpAny_mono (h2 A L ρ P2 s2 (.ref y :: vs) g p2.rl (.cons (r1.mono p2.more) r2)) (fun v s' h => PD.of (p1.trans p2) h) fun _ _ x => x⟩
end
end

section
section
variable {c : Cx} {F : Fn} {k : Nat} {ρ : Rho} {σ : Sg}
noncomputable def plainIters : List String := ["list_iterator", "tuple_iterator", "range_iterator", "dict_keyiterator"]
/-- an iterator whose whole state lies in the object at I; it hands on what ds says -/
structure Steps (c : Cx) (ds : List D) (okS : Sg → Prop) (okP : Know → Prop) (I : Addr) (St : Nat → Heap → Prop) : Prop where
  obj : ∀ i h, St i h → ∃ o n fs, h.get? I = some o ∧ o.cls = .type n ∧ o.data = .fields fs ∧ n ∈ plainIters
  at_ : ∀ i h h', St i h → (∀ o, h.get? I = some o → h'.get? I = some o) → St i h'
  okm : ∀ P P', okP P → (∀ a o, P a o → Imm o → P' a o) → okP P'
  item : ∀ (i : Nat) (A : Around) (ck : List Str) (L : Loc ck) (ρ : Rho) (σ : Sg) (P : Know) (s : Shared) (Q : Option Value → Shared → Prop) (d : D), A.handled = none → Rl c L ρ σ P s.heap → okS σ → okP P → St i s.heap → ds[i]? = some d →
    (∀ v h' tk, VR c P v d → St (i + 1) h' → Heap.ExtBut I s.heap h' → Q (some v) { s with heap := h', toks := tk }) → wpAny (model c.prog c.w) A (pyNext (.ref I)) Q noE s
  done : ∀ (A : Around) (ck : List Str) (L : Loc ck) (ρ : Rho) (σ : Sg) (P : Know) (s : Shared) (Q : Option Value → Shared → Prop), A.handled = none → Rl c L ρ σ P s.heap → okS σ → okP P → St ds.length s.heap →
    (∀ h' tk, Heap.ExtBut I s.heap h' → Q none { s with heap := h', toks := tk }) → wpAny (model c.prog c.w) A (pyNext (.ref I)) Q noE s
  self : ∀ (i : Nat) (A : Around) (s : Shared) (Q : Value → Shared → Prop) (E : Value → Shared → Prop), St i s.heap → Q (.ref I) s → wpAny (model c.prog c.w) A (pyIter (.ref I)) Q E s
theorem Steps.notImm {ds : List D} {okS : Sg → Prop} {okP : Know → Prop} {I : Addr} {St : Nat → Heap → Prop} (S : Steps c ds okS okP I St) {i : Nat} {h : Heap} (st : St i h) : ∃ o, h.get? I = some o ∧ ¬ Imm o := by
  obtain ⟨o, n, fs, h1, h2, h3, h4⟩ := S.obj i h st
  refine ⟨o, h1, fun x => ?_⟩
  unfold Imm at x
  rw [h3, h2] at x
  have hn : n = "range" := by simpa using x
  subst hn
  exact absurd h4 (by decide)
theorem letOwned_ok {M : Model} {A : Around} {E : Value → Shared → Prop} {s : Shared} {Q : Unit → Shared → Prop} {ds : List D} {okS : Sg → Prop} {okP : Know → Prop} {I : Addr} {St : Nat → Heap → Prop} (S : Steps c ds okS okP I St) {i : Nat} (st : St i s.heap) (t : Expr) (v : Value) (q : Q () s) :
    wpAny M A (letOwnedTupleGo t (.ref I) v) Q E s := by
  obtain ⟨o, n, fs, h1, h2, h3, h4⟩ := S.obj i _ st
  have hb : (["enumerate", "zip", "dict_itemiterator", "dict_reverseitemiterator", "odict_iterator", "itertools.zip_longest", "itertools.pairwise"] : List String).contains n = false := by
    simp only [plainIters, List.mem_cons, List.not_mem_nil, or_false] at h4
    rcases h4 with rfl | rfl | rfl | rfl <;> decide
  have go : wpAny M A (do
      let (.ref r, .ref a) := ((Value.ref I, v) : Value × Value) | return
      let o ← load r
      match o.cls, o.data with
      | .type n, .fields vs =>
        if ["enumerate", "zip", "dict_itemiterator", "dict_reverseitemiterator", "odict_iterator", "itertools.zip_longest", "itertools.pairwise"].contains n && vs[0]? == some (rawInt a) then
          rule "for.unpacks-the-owned-tuple"
          updateField r 0 .none
      | _, _ => pure () : Sem Unit) Q E s := by
    cases v with
    | ref a =>
      refine wpAny_bind (wpAny_load h1 ?_)
      rw [h2, h3]
      simp only [hb, Bool.false_and, Bool.false_eq_true, if_false]
      exact wpAny_pure q
    | _ => exact wpAny_pure q
  unfold letOwnedTupleGo
  cases t <;> first | exact go | exact wpAny_pure q
/-- a thing that may be iterated over -/
noncomputable def Itb (c : Cx) (σ : Sg) (d : D) (ds : List D) (okS : Sg → Prop) : Prop :=
  okS σ ∧ ∀ (A : Around) (ck : List Str) (L : Loc ck) (ρ : Rho) (P : Know) (s : Shared) (v : Value) (Q : Value → Shared → Prop), A.handled = none → Rl c L ρ σ P s.heap → VR c P v d →
    (∀ o okP St, o.isFreed = false → Steps c ds okS okP s.heap.objs.size St → okP P → St 0 (s.heap.push o) → Q (.ref s.heap.objs.size) { s with heap := s.heap.push o }) → wpAny (model c.prog c.w) A (pyIter v) Q noE s
theorem itb_list {l : Addr} {ds : List D} (e : σ l = some (.lst ds)) : Itb c σ (.raw (.ref l)) ds (fun σ' => σ' l = some (.lst ds)) := by
  refine ⟨e, fun A ck L ρ P s v Q hh R hv hQ => ?_⟩
  obtain rfl := hv.isRaw
  obtain ⟨vs, hl, hvs⟩ := R.isList e
  refine wpAny_pyIter_list hl.isList (hQ _ (fun _ => True) (fun i h => h.IsListIter s.heap.objs.size l i) rfl ?_ trivial ⟨_, Heap.get?_push_size _ rfl, rfl, rfl⟩)
  refine ⟨fun i h ⟨o, h1, h2, h3⟩ => ⟨o, _, _, h1, h2, h3, by decide⟩, fun i h h' ⟨o, h1, h2, h3⟩ hk => ⟨o, hk _ h1, h2, h3⟩, fun _ _ _ _ => trivial, ?_, ?_, fun _ _ _ _ _ st hQ => wpAny_pyIter_listiter st hQ⟩
  · intro i A ck L ρ σ P s Q d hh R hS _ st hd hQ
    obtain ⟨vs, hl, hvs⟩ := R.isList hS
    obtain ⟨x, hx, hxd⟩ := hvs.get hd
    exact wpAny_pyNext_list_item st hl.isList (x := x) (by simpa using hx) fun h' hit' hs' => hQ x h' s.toks hxd hit' hs'.extBut
  · intro A ck L ρ σ P s Q hh R hS _ st hQ
    obtain ⟨vs, hl, hvs⟩ := R.isList hS
    exact wpAny_pyNext_list_end hh st hl.isList (by simp [hvs.length]) fun h' he => hQ h' s.toks he
theorem itb_tup {ds : List D} : Itb c σ (.tup ds) ds (fun _ => True) := by
  refine ⟨trivial, fun A ck L ρ P s v Q hh R hv hQ => ?_⟩
  obtain ⟨t, vs, n, rfl, ht, hvs⟩ := hv.isTup
  have hT : s.heap.IsTuple t (List.toArray vs) := ⟨_, R.froz _ _ ht, rfl, n, rfl⟩
  refine wpAny_pyIter_tuple hT (hQ _ (fun P => P t { cls := .type "tuple", data := .seq (List.toArray vs) n } ∧ VRs c P vs ds) (fun i h => h.IsTupleIter s.heap.objs.size t i) rfl ?_ ⟨ht, hvs⟩ ⟨_, Heap.get?_push_size _ rfl, rfl, rfl⟩)
  refine ⟨fun i h ⟨o, h1, h2, h3⟩ => ⟨o, _, _, h1, h2, h3, by decide⟩, fun i h h' ⟨o, h1, h2, h3⟩ hk => ⟨o, hk _ h1, h2, h3⟩, fun _ _ h hs => ⟨hs _ _ h.1 rfl, h.2.move hs⟩, ?_, ?_, fun _ _ _ _ _ st hQ => wpAny_pyIter_tupleiter st hQ⟩
  · intro i A ck L ρ σ P s Q d hh R _ hP st hd hQ
    obtain ⟨x, hx, hxd⟩ := hP.2.get hd
    exact wpAny_pyNext_tuple_item st ⟨_, R.froz _ _ hP.1, rfl, n, rfl⟩ (x := x) (by simpa using hx) fun h' hit' hs' => hQ x h' s.toks hxd hit' hs'.extBut
  · intro A ck L ρ σ P s Q hh R _ hP st hQ
    exact wpAny_pyNext_tuple_end hh st ⟨_, R.froz _ _ hP.1, rfl, n, rfl⟩ (by simp [hP.2.length]) fun h' he => hQ h' s.toks he
/-- the ints of a range -/
noncomputable def rngDs (a b : Int) : List D := (List.range (b - a).toNat).map fun (i : Nat) => D.int (a + (i : Int))
theorem rngDs_length (a b : Int) : (rngDs a b).length = (b - a).toNat := by simp [rngDs]
theorem itb_rng {a b : Int} (ha : -(2 ^ 62) ≤ a) (ha' : a < 2 ^ 62) (hb : -(2 ^ 62) ≤ b) (hb' : b < 2 ^ 62) : Itb c σ (.rng a b) (rngDs a b) (fun _ => True) := by
  refine ⟨trivial, fun A ck L ρ P s v Q hh R hv hQ => ?_⟩
  obtain ⟨r, t, u, w, rfl, hr⟩ := hv.isRng
  have hR : IsRange s.heap r a b 1 t u w := R.froz _ _ hr
  refine wpAny_pyIter_range hR (small_one ha ha' hb hb') (hQ _ (fun _ => True) (fun i h => IsRangeIter h s.heap.objs.size (a + (i : Nat)) (((b - a).toNat : Int) - (i : Nat)) 1) rfl ?_ trivial ?_)
  · refine ⟨fun i h st => ⟨_, _, _, st, rfl, rfl, by decide⟩, fun i h h' st hk => hk _ st, fun _ _ _ _ => trivial, ?_, ?_, fun _ _ _ _ _ st hQ => wpAny_pyIter_rangeiter st hQ⟩
    · intro i A ck L ρ σ P s Q d hh R _ _ st hd hQ
      have hi : i < (b - a).toNat := by
        have := (List.getElem?_eq_some_iff.mp hd).1
        rw [rngDs_length] at this; exact this
      have hdd : d = .int (a + (i : Int)) := by
        unfold rngDs at hd
        simp only [List.getElem?_map, List.getElem?_range hi, Option.map_some, Option.some.injEq] at hd
        exact hd.symm
      subst hdd
      refine wpAny_pyNext_range_item st (by omega) fun h' hit' hs' => hQ _ h' _ (.int _ _) ?_ hs'.extBut
      have e1 : a + ((i + 1 : Nat) : Int) = a + (i : Int) + 1 := by omega
      have e2 : (((b - a).toNat : Int)) - ((i + 1 : Nat) : Int) = ((b - a).toNat : Int) - (i : Int) - 1 := by omega
      rw [e1, e2]; exact hit'
    · intro A ck L ρ σ P s Q hh R _ _ st hQ
      rw [rngDs_length] at st
      exact wpAny_pyNext_range_end hh st (by omega) fun h' he => hQ h' s.toks he
  · have e : Builtin.Range.rangeSize a b 1 = ((b - a).toNat : Int) - (0 : Nat) := by rw [rangeSize_nat]; simp
    have := Heap.get?_push_size s.heap (o := { cls := .type "range_iterator", data := .fields #[rawInt a, rawInt (Builtin.Range.rangeSize a b 1), rawInt 1] }) rfl
    rw [e] at this ⊢
    simpa using this
theorem itb_dct {d : Addr} {es : List (Int × D)} {ep : Nat} (W : Wd c) (e : σ d = some (.dct es ep)) : Itb c σ (.raw (.ref d)) (es.map fun kv => .int kv.1) (fun σ' => σ' d = some (.dct es ep)) := by
  refine ⟨e, fun A ck L ρ P s v Q hh R hv hQ => ?_⟩
  obtain rfl := hv.isRaw
  obtain ⟨kvs, _, hkv, hat⟩ := R.isDict e
  refine wpAny_pyIter_dict (R.notSys W e) hat (hQ _ (fun _ => True) (fun i h => h.IsKeyIter s.heap.objs.size d i es.length ep) rfl ?_ trivial ⟨_, Heap.get?_push_size _ rfl, rfl, by rw [hkv.length]; rfl⟩)
  refine ⟨fun i h ⟨o, h1, h2, h3⟩ => ⟨o, _, _, h1, h2, h3, by decide⟩, fun i h h' ⟨o, h1, h2, h3⟩ hk => ⟨o, hk _ h1, h2, h3⟩, fun _ _ _ _ => trivial, ?_, ?_, fun _ _ _ _ _ st hQ => wpAny_pyIter_keyiter st hQ⟩
  · intro i A ck L ρ σ P s Q dd hh R hS _ st hd hQ
    obtain ⟨kvs, _, hkv, hat⟩ := R.isDict hS
    rw [← hkv.length] at st
    have hi : i < kvs.length := by
      have := (List.getElem?_eq_some_iff.mp hd).1
      rw [List.length_map] at this; rw [hkv.length]; exact this
    obtain ⟨⟨k, x⟩, hx⟩ : ∃ p, kvs[i]? = some p := ⟨kvs[i], by simp [hi]⟩
    have hkey : es[i]?.map (·.1) = some k := by
      rw [← List.getElem?_map, ← hkv.keys, List.getElem?_map, hx]; rfl
    have hdd : dd = .int k := by
      rw [List.getElem?_map] at hd
      cases he : es[i]? with
      | none => rw [he] at hd; cases hd
      | some q => rw [he] at hd hkey; simp at hd hkey; rw [← hd, hkey]
    subst hdd
    refine wpAny_pyNext_dict_item st hat hx fun key h' hk' hit' hs' => ?_
    rw [hkv.length] at hit'
    obtain ⟨t, rfl⟩ := Value.isInt_shape hk'
    exact hQ _ h' s.toks (.int _ _) hit' hs'.extBut
  · intro A ck L ρ σ P s Q hh R hS _ st hQ
    obtain ⟨kvs, _, hkv, hat⟩ := R.isDict hS
    rw [List.length_map, ← hkv.length] at st
    have hle : es.length = kvs.length := hkv.length.symm
    rw [hkv.length] at st
    rw [← hkv.length] at st
    exact wpAny_pyNext_dict_end hh st hat (by simp) fun h' he => hQ h' s.toks he
/-! the target of a loop -/
inductive PA (c : Cx) {ck : List Str} (L : Loc ck) (s : Shared) (P : Know) (Q : Rho → Sg → Prop) (s' : Shared) : Prop
  | mk (P' : Know) (ρ' : Rho) (σ' : Sg) (p : Post c L s P ρ' σ' P' s') (q : Q ρ' σ')
noncomputable def As (c : Cx) (F : Fn) (k : Nat) (ρ : Rho) (σ : Sg) (t : Expr) (d : D) (Q : Rho → Sg → Prop) : Prop :=
  ∀ A (L : Loc F.ck) P s v, Good A k → Rl c L ρ σ P s.heap → VR c P v d → wpAny (model c.prog c.w) A (assign t (F.env L) v) (fun _ => PA c L s P Q) noE s
theorem As.name {x : Str} {pos : Pos} {d : D} {Q : Rho → Sg → Prop} (q : Q (setR ρ x d) σ) (hb : Binds F x := by first | exact ⟨rfl, .inl ⟨rfl, rfl⟩⟩ | exact ⟨rfl, .inr ⟨rfl, rfl⟩⟩) : As c F k ρ σ (.Name x pos) d Q :=
  fun A L P s v g R hv => wpAny_assign_Name (env := F.env L) (store_ok R hv (fun s' p => ⟨P, _, σ, p, q⟩) hb)
theorem As.pair {x y : Str} {px py pos : Pos} {j : Nat} {d e : D} {Q : Rho → Sg → Prop} (q : Q (setR (setR ρ x d) y e) σ)
    (hx : Binds F x := by first | exact ⟨rfl, .inl ⟨rfl, rfl⟩⟩ | exact ⟨rfl, .inr ⟨rfl, rfl⟩⟩) (hy : Binds F y := by first | exact ⟨rfl, .inl ⟨rfl, rfl⟩⟩ | exact ⟨rfl, .inr ⟨rfl, rfl⟩⟩)
    (hn : ∀ L : Loc F.ck, assignEach [.Name x px, .Name y py] (F.env L) = [(false, assign (.Name x px) (F.env L)), (false, assign (.Name y py) (F.env L))] := by intro _; rfl) :
    As c F k ρ σ (.Tuple [.Name x px, .Name y py] j pos) (.tup [d, e]) Q := by
  intro A L P s v g R hv
  obtain ⟨t, _, n, rfl, ht, hvs⟩ := hv.isTup
  obtain ⟨v1, _, rfl, h1, w1⟩ := hvs.isCons
  obtain ⟨v2, _, rfl, h2, w2⟩ := w1.isCons
  obtain rfl := w2.isNil
  refine wpAny_assign_Tuple (env := F.env L) g.handled ⟨_, R.froz _ _ ht, rfl, n, rfl⟩ (by rw [hn]; rfl) (by rw [hn]; rfl) fun h' he => ?_
  rw [hn]
  have R' : Rl c L ρ σ P h' := R.extBut (fun a o hne => he a o hne) R.new R.notNew R.newP
  have p' : Post c L s P ρ σ P { s with heap := h' } := ⟨fun _ _ x => x, R', ⟨h', s.toks, rfl⟩⟩
  refine wpAny_bind (wpAny_holding (wpAny_assign_Name (env := F.env L) (store_ok (s := { s with heap := h' }) R' h1 (fun s1 p1 => ?_) hx)))
  refine wpAny_bind (wpAny_holding (wpAny_assign_Name (env := F.env L) (store_ok p1.rl (h2.mono p1.more) (fun s2 p2 => ?_) hy)))
  exact wpAny_pure ⟨P, _, σ, (p'.trans p1).trans p2, q⟩
/-! the loop -/
noncomputable def LoopW (c : Cx) (F : Fn) (k : Nat) (t : Expr) (body : List Stmt) (okS : Sg → Prop) (Q : Out → Rho → Sg → Prop) : List D → Rho → Sg → Prop
  | [], ρ, σ => Q .next ρ σ
  | d :: ds, ρ, σ => As c F k ρ σ t d (fun ρ1 σ1 => Exs c F k ρ1 σ1 body (fun o ρ2 σ2 => match o with
    | .next => okS σ2 ∧ LoopW c F k t body okS Q ds ρ2 σ2
    | .cont => okS σ2 ∧ LoopW c F k t body okS Q ds ρ2 σ2
    | .brk => Q .next ρ2 σ2
    | .ret d => Q (.ret d) ρ2 σ2))
theorem Rl.drop {ck : List Str} {L : Loc ck} {P P' : Know} {h₁ h : Heap} {σ₁ : Sg} {as : List Addr} (R : Rl c L ρ σ P' h) (B : Back c σ P h₁ as P' h) : Rl c L ρ σ (dropP P' as) h :=
  ⟨B.hp, R.toFm.keep (fun _ _ _ x => x) B.imm, fun a ha => ⟨(R.own a ha).1, fun o x => (R.own a ha).2 o x.1⟩⟩
theorem Rl.guarded {ck : List Str} {L : Loc ck} {P : Know} {h : Heap} {as : List Addr} (R : Rl c L ρ σ P h) (G : Fence σ P h as) (hL : ∀ a ∈ as, a ∉ L.all) : Rl c L ρ σ (guardP P h as) h :=
  ⟨R.toHp.guard G, R.toFm.keep (fun _ _ _ x => x) fun _ _ x _ => .inl x, fun a ha => ⟨(R.own a ha).1, fun o x => x.elim ((R.own a ha).2 o) fun y => hL a y.1 ha⟩⟩
inductive FL (c : Cx) (F : Fn) (k : Nat) (t : Expr) (body : List Stmt) (okS : Sg → Prop) (okP : Know → Prop) (Q : Out → Rho → Sg → Prop) (ds : List D) (I : Addr) (St : Nat → Heap → Prop) (L : Loc F.ck) (s : Shared) (P : Know) (n : Nat) (s' : Shared) : Prop
  | mk (i : Nat) (P' : Know) (ρ' : Rho) (σ' : Sg) (hn : n = ds.length - i) (hi : i ≤ ds.length) (p : Post c L s P ρ' σ' P' s') (hS : okS σ') (hP : okP P') (st : St i s'.heap) (nI : σ' I = none) (pI : ∀ o, ¬ P' I o) (h : LoopW c F k t body okS Q (ds.drop i) ρ' σ')
theorem loop_code {t : Expr} {body : List Stmt} {okS : Sg → Prop} {okP : Know → Prop} {Q : Out → Rho → Sg → Prop} {ds : List D} {I : Addr} {St : Nat → Heap → Prop} {A : Around} {L : Loc F.ck} {P : Know} {s : Shared}
    (g : Good A k) (S : Steps c ds okS okP I St) (R : Rl c L ρ σ P s.heap) (hS : okS σ) (hP : okP P) (st : St 0 s.heap) (nI : σ I = none) (lI : I ∉ L.all) (pI : ∀ o, ¬ P I o) (h : LoopW c F k t body okS Q ds ρ σ) :
    codeAny (model c.prog c.w) A (.forLoop t (.ref I) body [] (F.env L)) (fun r s' => match r with | .ok f => PO c L s P Q f s' | .error _ => False) s := by
  refine codeAny_forLoop_any (FL c F k t body okS okP Q ds I St L s P) ?_ ds.length
    ⟨0, P, ρ, σ, rfl, Nat.zero_le _, .refl R, hS, hP, st, nI, pI, by simpa using h⟩
  rintro n s₀ ⟨i, P₀, ρ₀, σ₀, rfl, hi, p₀, hS₀, hP₀, st₀, nI₀, pI₀, h₀⟩
  by_cases hlt : i < ds.length
  · have hd : ds[i]? = some ds[i] := List.getElem?_eq_getElem hlt
    have hdr : ds.drop i = ds[i] :: ds.drop (i + 1) := List.drop_eq_getElem_cons hlt
    rw [hdr] at h₀
    refine wpAny_mono (S.item i A F.ck L ρ₀ σ₀ P₀ s₀ _ _ g.handled p₀.rl hS₀ hP₀ st₀ hd (fun v h' tk hv st' he => ?_)) (fun _ _ x => x) fun _ _ x => x.elim
    have R' : Rl c L ρ₀ σ₀ P₀ h' := p₀.rl.extBut (fun a o hne => he a o hne) nI₀ lI pI₀
    obtain ⟨oI, hoI, nim⟩ := S.notImm st'
    have G : Fence σ₀ P₀ h' [I] := ⟨fun a ha => by rw [List.mem_singleton.mp ha]; exact ⟨oI, hoI, nim⟩, fun a ha => by rw [List.mem_singleton.mp ha]; exact pI₀, fun a ha => by rw [List.mem_singleton.mp ha]; exact nI₀⟩
    have Rg : Rl c L ρ₀ σ₀ (guardP P₀ h' [I]) h' := R'.guarded G fun a ha => by rw [List.mem_singleton.mp ha]; exact lI
    refine letOwned_ok S (s := { s₀ with heap := h', toks := tk }) (i := i + 1) st' t v ?_
    refine wpAny_mono (h₀ A L _ { s₀ with heap := h', toks := tk } v g Rg (hv.mono fun _ _ z => .inl z)) ?_ fun _ _ x => x.elim
    rintro _ s2 ⟨P2, ρ2, σ2, p2, h2⟩
    refine wpAny_mono (h2 A L P2 s2 g p2.rl) ?_ fun _ _ x => x.elim
    rintro f s3 ⟨P3, o, ρ3, σ3, p3, r3, h3⟩
    have p23 := p2.trans p3
    have B := G.back R'.base p23.rl.toHp p23.more
    have Rd : Rl c L ρ3 σ3 (dropP P3 [I]) s3.heap := p23.rl.drop (σ₁ := σ₀) B
    have pd : Post c L s P ρ3 σ3 (dropP P3 [I]) s3 := ⟨fun a o x => B.more _ _ (p₀.more _ _ x), Rd, (p₀.same.trans ⟨h', tk, rfl⟩).trans p23.same⟩
    have next : (okS σ3 ∧ LoopW c F k t body okS Q (ds.drop (i + 1)) ρ3 σ3) → ∃ m, m < ds.length - i ∧ FL c F k t body okS okP Q ds I St L s P m s3 := fun q =>
      ⟨ds.length - (i + 1), by omega, i + 1, _, ρ3, σ3, rfl, hlt, pd, q.1, S.okm _ _ hP₀ fun a o x _ => B.more a o x, S.at_ _ _ _ st' fun o e => B.same I (.head _) o e, B.no I (.head _), fun o x => x.2 (.head _), q.2⟩
    cases r3 with
    | next => exact next h3
    | cont => exact next h3
    | brk => exact ⟨_, .next, ρ3, σ3, pd, .next, h3⟩
    | ret hv3 => exact ⟨_, .ret _, ρ3, σ3, pd, .ret (hv3.move B.imm), h3⟩
  · have hin : i = ds.length := by omega
    subst hin
    rw [List.drop_length] at h₀
    refine wpAny_mono (S.done A F.ck L ρ₀ σ₀ P₀ s₀ _ g.handled p₀.rl hS₀ hP₀ st₀ (fun h' tk he => ?_)) (fun _ _ x => x) fun _ _ x => x.elim
    have R' : Rl c L ρ₀ σ₀ P₀ h' := p₀.rl.extBut (fun a o hne => he a o hne) nI₀ lI pI₀
    exact wpAny_execs_nil ⟨P₀, .next, ρ₀, σ₀, ⟨p₀.more, R', p₀.same.trans ⟨h', tk, rfl⟩⟩, .next, h₀⟩
inductive ForK (c : Cx) (F : Fn) (k : Nat) (t : Expr) (body : List Stmt) (Q : Out → Rho → Sg → Prop) (ρ : Rho) (d : D) (σ1 : Sg) : Prop
  | mk (ds : List D) (okS : Sg → Prop) (it : Itb c σ1 d ds okS) (h : LoopW c F k t body okS Q ds ρ σ1)
theorem Ex.forIn {t iter : Expr} {body : List Stmt} {pos : Pos} {Q : Out → Rho → Sg → Prop}
    (h : Ev c F k ρ σ iter (ForK c F k t body Q ρ))
    (hs : ∀ (L : Loc F.ck) (x : Value), foldedSetIterable iter (F.env L) x = pure x := by intro _ _; rfl) : Ex c F k ρ σ (.For t iter body [] pos) Q := by
  intro A L P s g R
  refine wpAny_For (env := F.env L) (wpAny_mono (h A L P s g R) ?_ fun _ _ x => x) (hs L)
  rintro v s1 ⟨P1, d, σ1, p1, r1, ds, okS, ⟨hS, hI⟩, h1⟩
  refine hI A F.ck L ρ P1 s1 v _ g.handled p1.rl r1 fun o okP St hf S hP st => ?_
  have R' : Rl c L ρ σ1 P1 (s1.heap.push o) := p1.rl.ext fun _ _ e => Heap.get?_push_of_some _ e
  refine codeAny_mono (loop_code (s := { s1 with heap := s1.heap.push o }) g S R' hS hP st p1.rl.new p1.rl.notNew p1.rl.newP h1) fun r s' hr => ?_
  cases r with
  | ok f => exact PO.of (p1.trans ⟨fun _ _ x => x, R', ⟨_, s1.toks, rfl⟩⟩) hr
  | error e => exact hr.elim
end
end

section
section
variable {c : Cx} {F F' : Fn} {k : Nat} {ρ : Rho} {σ : Sg}
/-! a while -/
noncomputable def WhileOk (c : Cx) (F : Fn) (k : Nat) (test : Expr) (body : List Stmt) (Q : Out → Rho → Sg → Prop) (Inv : Nat → Rho → Sg → Prop) : Prop :=
  ∀ n ρ σ, Inv n ρ σ → Tr c F k ρ σ test (fun b σ1 => if b = true then Exs c F k ρ σ1 body (fun o ρ2 σ2 => match o with
    | .next => ∃ m, m < n ∧ Inv m ρ2 σ2
    | .cont => ∃ m, m < n ∧ Inv m ρ2 σ2
    | .brk => Q .next ρ2 σ2
    | .ret d => Q (.ret d) ρ2 σ2) else Q .next ρ σ1)
theorem Ex.while {test : Expr} {body : List Stmt} {pos : Pos} {Q : Out → Rho → Sg → Prop} (Inv : Nat → Rho → Sg → Prop) (n : Nat) (hI : Inv n ρ σ) (h : WhileOk c F k test body Q Inv) : Ex c F k ρ σ (.While test body [] pos) Q := by
  intro A L P s g R
  refine wpAny_While (codeAny_mono (codeAny_whileLoop (R := fun r s' => match r with | .ok f => PO c L s P Q f s' | .error _ => False) (fun n s' => ∃ P' ρ' σ', Post c L s P ρ' σ' P' s' ∧ Inv n ρ' σ') ?_ n ⟨P, ρ, σ, .refl R, hI⟩) ?_)
  · rintro n s0 ⟨P0, ρ0, σ0, p0, h0⟩
    refine wpAny_mono (h n ρ0 σ0 h0 A L P0 s0 g p0.rl) ?_ fun _ _ x => x.elim
    rintro b s1 ⟨P1, σ1, p1, h1⟩
    cases b with
    | true =>
      refine wpAny_mono (h1 A L P1 s1 g p1.rl) ?_ fun _ _ x => x.elim
      rintro f s2 ⟨P2, o, ρ2, σ2, p2, r2, h2⟩
      have p := (p0.trans p1).trans p2
      cases r2 with
      | next => obtain ⟨m, hm, hi⟩ := h2; exact ⟨m, hm, P2, ρ2, σ2, p, hi⟩
      | cont => obtain ⟨m, hm, hi⟩ := h2; exact ⟨m, hm, P2, ρ2, σ2, p, hi⟩
      | brk => exact ⟨P2, .next, ρ2, σ2, p, .next, h2⟩
      | ret hv => exact ⟨P2, .ret _, ρ2, σ2, p, .ret hv, h2⟩
    | false => exact wpAny_execs_nil ⟨P1, .next, ρ0, σ1, p0.trans p1, .next, h1⟩
  · intro r s' hr
    cases r with
    | ok f => exact hr
    | error e => exact hr.elim
/-! a comprehension -/
/-- the block of a comprehension in F's frames -/
noncomputable def inner (F : Fn) (scope : Scope) (ck : List Str) : Fn where
  qual := F.qual
  scope := { scope with names := scope.names.map fun (n, k) => if (k == .free && F.scope.kind == .function && F.scope.names.lookup n == some .cell) then (n, .cell) else (n, k) }
  ck := ck
  cd := F.cd
/-- its cells, out of F's -/
structure Caught (F : Fn) (scope : Scope) (ck : List Str) : Prop where
  cl : ∀ L : Loc F.ck, ∃ cl, closureFor scope (F.env L) = pure cl ∧ cl.map (·.1) = ck ∧ (L.ca.Nodup → (cl.map (·.2)).Nodup) ∧ (∀ x a, cl.lookup x = some a → L.cs.lookup x = some a) ∧ (∀ p ∈ cl, p.2 ∈ L.ca) ∧
    (L.ca.Nodup → ∀ x a, L.cs.lookup x = some a → a ∈ cl.map (·.2) → cl.lookup x = some a)
  kind : scope.kind = .function
  names : ∀ x ∈ scope.names, x.2 = .local → scope.names.lookup x.1 = some .local
  ncell : ∀ y ∈ scope.names, y.2 ≠ .cell
noncomputable def CondW (c : Cx) (F : Fn) (k : Nat) (ρ : Rho) (Q : Bool → Sg → Prop) : List Expr → Sg → Prop
  | [], σ => Q true σ
  | [e], σ => Tr c F k ρ σ e Q
  | _ :: _ :: _, _ => False
theorem cond_go {Q : Bool → Sg → Prop} : ∀ (ifs : List Expr) (σ : Sg), CondW c F k ρ Q ifs σ → ∀ A (L : Loc F.ck) P s, Good A k → Rl c L ρ σ P s.heap →
    wpAny (model c.prog c.w) A (forIn ifs true fun e r => if r = true then do let ok ← isTrue e (F.env L) (eval e (F.env L)); pure (ForInStep.yield ok) else pure (ForInStep.yield r)) (PB c L s P ρ Q) noE s
  | [], σ, h, A, L, P, s, _, R => by rw [List.forIn_nil]; exact wpAny_pure ⟨P, σ, .refl R, h⟩
  | [e], σ, h, A, L, P, s, g, R => by
    rw [List.forIn_cons]
    refine wpAny_bind ?_
    rw [if_pos rfl]
    refine wpAny_bind (wpAny_mono (h A L P s g R) (fun b s1 h1 => wpAny_pure ?_) fun _ _ x => x)
    show wpAny _ _ (forIn [] b _) _ _ _
    rw [List.forIn_nil]
    exact wpAny_pure h1
  | _ :: _ :: _, _, h, _, _, _, _, _, _ => h.elim
noncomputable def CompW (c : Cx) (F : Fn) (k : Nat) (ρ : Rho) (x : Str) (elt : Expr) (ifs : List Expr) (okS : Sg → Prop) (Q : List D → Sg → Prop) : List D → List D → Sg → Prop
  | [], acc, σ => Q acc σ
  | d :: ds, acc, σ => CondW c F k (setR ρ x d) (fun b σ1 => if b = true then Ev c F k (setR ρ x d) σ1 elt (fun e σ2 => okS σ2 ∧ acc.length ≤ sizeLine ∧ CompW c F k ρ x elt ifs okS Q ds (acc ++ [e]) σ2)
    else okS σ1 ∧ CompW c F k ρ x elt ifs okS Q ds acc σ1) ifs σ
theorem setR_setR (ρ : Rho) (x : Str) (d e : D) : setR (setR ρ x d) x e = setR ρ x e := by
  funext y
  unfold setR
  by_cases h : y = x <;> simp [h]
/-- the part of a comprehension's loop that its frame does not own -/
structure Side (c : Cx) {ck : List Str} (L' : Loc ck) (σ : Sg) (P : Know) (as : List Addr) : Prop where
  no : ∀ a ∈ as, σ a = none
  off : ∀ a ∈ as, ∀ o, ¬ P a o
  apart : ∀ a ∈ as, a ∉ L'.all
inductive CL (c : Cx) (F : Fn) (k : Nat) (ρ : Rho) (x : Str) (elt : Expr) (ifs : List Expr) (okS : Sg → Prop) (okP : Know → Prop) (Q : List D → Sg → Prop) (ds : List D) (I D' : Addr) (as₀ : List Addr) (St : Nat → Heap → Prop) (L : Loc F.ck) (P : Know) (s : Shared) (ρ₀ : Rho) (n : Nat) (s' : Shared) : Prop
  | mk (i : Nat) (P' : Know) (ρ' : Rho) (σ' : Sg) (acc : List D) (vs : List Value) (hn : n = ds.length - i) (hi : i ≤ ds.length) (m : ∀ a o, P a o → P' a o) (R : Rl c L ρ' σ' P' s'.heap) (same : Same s s') (hρ : ∀ y, y ≠ x → ρ' y = ρ₀ y) (hr : ∀ d, setR ρ' x d = setR ρ x d) (hS : okS σ') (hP : okP P') (st : St i s'.heap)
      (hD : s'.heap.PlainList D' (List.toArray vs)) (hv : VRs c P' vs acc) (sd : Side c L σ' P' (I :: D' :: as₀)) (ha : ∀ a ∈ as₀, ∀ o, s.heap.get? a = some o → s'.heap.get? a = some o) (hw : CompW c F k ρ x elt ifs okS Q (ds.drop i) acc σ')
theorem comp_loop {elt iter : Expr} {x : Str} {px : Pos} {ifs : List Expr} {scope : Scope} {pos : Pos} {okS : Sg → Prop} {okP : Know → Prop} {Q : List D → Sg → Prop} {ds : List D} {I D' : Addr} {as₀ : List Addr} {St : Nat → Heap → Prop} {A : Around} {L : Loc F.ck}
    {P : Know} {s : Shared} {ρ₀ : Rho} {R₀ : Result → Shared → Prop} (g : Good A k) (S : Steps c ds okS okP I St) (R : Rl c L ρ₀ σ P s.heap) (hS : okS σ) (hP : okP P) (st : St 0 s.heap) (hD : s.heap.PlainList D' #[])
    (sd : Side c L σ P (I :: D' :: as₀)) (h0 : ∀ a ∈ as₀, ∃ o, s.heap.get? a = some o ∧ ¬ Imm o) (hID : I ≠ D') (hIa : I ∉ as₀) (hDa : D' ∉ as₀) (hb : Binds F x) (hr : ∀ d, setR ρ₀ x d = setR ρ x d) (h : CompW c F k ρ x elt ifs okS Q ds [] σ)
    (fin : ∀ s' P' ρ' σ' acc vs, (∀ a o, P a o → P' a o) → Rl c L ρ' σ' P' s'.heap → Same s s' → (∀ y, y ≠ x → ρ' y = ρ₀ y) → s'.heap.PlainList D' (List.toArray vs) → VRs c P' vs acc → Side c L σ' P' (I :: D' :: as₀) →
      (∀ a ∈ as₀, ∀ o, s.heap.get? a = some o → s'.heap.get? a = some o) → Q acc σ' → R₀ (.ok .next) s') :
    codeAny (model c.prog c.w) A (.compLoop (.ListComp elt [⟨.Name x px, iter, ifs, 0⟩] scope pos) 0 (.ref I) (.ref D') (F.env L)) R₀ s := by
  refine codeAny_compLoop_tests (CL c F k ρ x elt ifs okS okP Q ds I D' as₀ St L P s ρ₀) ?_ ds.length
    ⟨0, P, ρ₀, σ, [], [], rfl, Nat.zero_le _, fun _ _ x => x, R, .refl s, fun _ _ => rfl, hr, hS, hP, st, hD, .nil, sd, fun _ _ _ e => e, by simpa using h⟩
  rintro n s₀ ⟨i, P₀, ρ₁, σ₀, acc, vs, rfl, hi, m₀, R₁, same₀, hρ, hr₁, hS₀, hP₀, st₀, hD₀, hv₀, sd₀, ha₀, hw⟩
  by_cases hlt : i < ds.length
  · have hd : ds[i]? = some ds[i] := List.getElem?_eq_getElem hlt
    have hdr : ds.drop i = ds[i] :: ds.drop (i + 1) := List.drop_eq_getElem_cons hlt
    rw [hdr] at hw
    refine wpAny_mono (S.item i A F.ck L ρ₁ σ₀ P₀ s₀ _ _ g.handled R₁ hS₀ hP₀ st₀ hd (fun v h' tk hv st' he => ?_)) (fun _ _ x => x) fun _ _ x => x.elim
    have nI := sd₀.no I (.head _)
    have pI := sd₀.off I (.head _)
    have R' : Rl c L ρ₁ σ₀ P₀ h' := R₁.extBut (fun a o hne => he a o hne) nI (sd₀.apart I (.head _)) pI
    obtain ⟨nD, hD1⟩ := hD₀
    have hD2 : h'.get? D' = some { cls := .type "list", data := .seq (List.toArray vs) nD } := he _ _ (Ne.symm hID) hD1
    have ha1 : ∀ a ∈ as₀, ∀ o, s.heap.get? a = some o → h'.get? a = some o := fun a ha o e => he a o (fun e' => hIa (e' ▸ ha)) (ha₀ a ha o e)
    have G : Fence σ₀ P₀ h' (I :: D' :: as₀) := ⟨fun a ha => by
        rcases List.mem_cons.mp ha with rfl | ha
        · exact S.notImm st'
        · rcases List.mem_cons.mp ha with rfl | ha
          · exact ⟨_, hD2, fun x => absurd (show Value.type "list" = Value.type "tuple" from x) (by simp)⟩
          · obtain ⟨o, e, ni⟩ := h0 a ha
            exact ⟨o, ha1 a ha o e, ni⟩, sd₀.off, sd₀.no⟩
    have Rg := R'.guarded G sd₀.apart
    refine wpAny_mono (wpAny_assign_Name (env := F.env L) (store_ok (s := { s₀ with heap := h', toks := tk }) (Q := fun _ s1 => Post c L { s₀ with heap := h', toks := tk } (guardP P₀ h' (I :: D' :: as₀)) (setR ρ₁ x ds[i]) σ₀ (guardP P₀ h' (I :: D' :: as₀)) s1) Rg (hv.mono fun _ _ z => .inl z) (fun s1 p1 => p1) hb)) ?_ fun _ _ x => x.elim
    intro _ s1 p1
    rw [hr₁] at p1
    refine wpAny_mono (cond_go ifs σ₀ hw A L _ s1 g p1.rl) ?_ fun _ _ x => x.elim
    rintro ok s3 ⟨P3, σ3, p3, h3⟩
    have p13 := p1.trans p3
    have hρ' : ∀ y, y ≠ x → setR ρ x ds[i] y = ρ₀ y := fun y hy => by
      have e := congrFun (hr₁ ds[i]) y
      rw [setR_ne hy] at e
      rw [← hρ y hy, ← e]
    cases ok with
    | false =>
      have B := G.back R'.base p13.rl.toHp p13.more
      refine ⟨ds.length - (i + 1), by omega, i + 1, dropP P3 (I :: D' :: as₀), setR ρ x ds[i], σ3, acc, vs, rfl, hlt, fun a o y => B.more _ _ (m₀ _ _ y), p13.rl.drop (σ₁ := σ₀) B, (same₀.trans ⟨h', tk, rfl⟩).trans p13.same, hρ', fun d => setR_setR _ _ _ _, h3.1,
        S.okm _ _ hP₀ fun a o y _ => B.more a o y, S.at_ _ _ _ st' fun o e => B.same I (.head _) o e, ⟨nD, B.same D' (.tail _ (.head _)) _ hD2⟩, hv₀.mono B.more, ⟨B.no, fun a ha o y => y.2 ha, sd₀.apart⟩, fun a ha o e => B.same a (.tail _ (.tail _ ha)) o (ha1 a ha o e), h3.2⟩
    | true =>
      refine wpAny_mono (h3 A L P3 s3 g p3.rl) ?_ fun _ _ x => x.elim
      rintro u s4 ⟨P4, e, σ4, p4, hu, hS4, hz, h4⟩
      have p14 := p13.trans p4
      have B := G.back R'.base p14.rl.toHp p14.more
      have Rd := p14.rl.drop (σ₁ := σ₀) B
      have hD4 : s4.heap.PlainList D' (List.toArray vs) := ⟨nD, B.same D' (.tail _ (.head _)) _ hD2⟩
      have hz' : (List.toArray vs).size ≤ sizeLine := by simp only [List.size_toArray, hv₀.length]; exact hz
      refine wpAny_list_append_plain (E := _) hD4 (fun h5 hl5 hs5 => ?_) hz'
      have R5 : Rl c L (setR ρ x ds[i]) σ4 (dropP P4 (I :: D' :: as₀)) h5 := Rd.extBut (fun a o hne e => (hs5.2 a hne).trans e) (B.no D' (.tail _ (.head _))) (sd₀.apart D' (.tail _ (.head _))) (fun o y => y.2 (.tail _ (.head _)))
      refine ⟨ds.length - (i + 1), by omega, i + 1, dropP P4 (I :: D' :: as₀), setR ρ x ds[i], σ4, acc ++ [e], vs ++ [u], rfl, hlt, fun a o y => B.more _ _ (m₀ _ _ y), R5, ((same₀.trans ⟨h', tk, rfl⟩).trans p14.same).trans ⟨h5, s4.toks, rfl⟩, hρ', fun d => setR_setR _ _ _ _, hS4,
        S.okm _ _ hP₀ fun a o y _ => B.more a o y, S.at_ _ _ _ st' fun o e => (hs5.2 I hID).trans (B.same I (.head _) o e), (by simpa using hl5), (hv₀.mono B.more).append (.cons (hu.move B.imm) .nil), ⟨B.no, fun a ha o y => y.2 ha, sd₀.apart⟩,
        fun a ha o e => (hs5.2 a (fun e' => hDa (e' ▸ ha))).trans (B.same a (.tail _ (.tail _ ha)) o (ha1 a ha o e)), h4⟩
  · have hin : i = ds.length := by omega
    subst hin
    rw [List.drop_length] at hw
    refine wpAny_mono (S.done A F.ck L ρ₁ σ₀ P₀ s₀ _ g.handled R₁ hS₀ hP₀ st₀ (fun h' tk he => ?_)) (fun _ _ x => x) fun _ _ x => x.elim
    have R' : Rl c L ρ₁ σ₀ P₀ h' := R₁.extBut (fun a o hne => he a o hne) (sd₀.no I (.head _)) (sd₀.apart I (.head _)) (sd₀.off I (.head _))
    obtain ⟨nD, hD1⟩ := hD₀
    exact fin { s₀ with heap := h', toks := tk } P₀ ρ₁ σ₀ acc vs m₀ R' (same₀.trans ⟨h', tk, rfl⟩) hρ ⟨nD, he _ _ (Ne.symm hID) hD1⟩ hv₀ sd₀ (fun a ha o e => he a o (fun e' => hIa (e' ▸ ha)) (ha₀ a ha o e)) hw
end
end

section
section
variable {c : Cx} {F F' : Fn} {k : Nat} {ρ : Rho} {σ : Sg}
/-- the caught names alone -/
noncomputable def inR (ck : List Str) (ρ : Rho) : Rho := fun y => if ck.contains y = true then ρ y else none
theorem zip_fst_snd {α β : Type} : ∀ (l : List (α × β)), (l.map (·.1)).zip (l.map (·.2)) = l
  | [] => rfl
  | (a, b) :: r => by simp [zip_fst_snd r]
theorem comp_block {elt iter : Expr} {x : Str} {px : Pos} {ifs : List Expr} {scope : Scope} {ck : List Str} {pos : Pos} {okS : Sg → Prop} {okP : Know → Prop} {Q : List D → Sg → Prop} {ds : List D} {I : Addr} {St : Nat → Heap → Prop} {A : Around} {L : Loc F.ck}
    {P : Know} {s : Shared} {E : Value → Shared → Prop} {RR : Value → Addr → Result → Shared → Prop} {cl : List (Str × Addr)} (g : Good A k) (kind : scope.kind = .function) (ncell : ∀ y ∈ scope.names, y.2 ≠ .cell)
    (hx : (inner F scope ck).scope.names.lookup x = some .local) (hxk : ck.contains x = false) (hck : cl.map (·.1) = ck) (hnd : (cl.map (·.2)).Nodup) (hlk : ∀ x a, cl.lookup x = some a → L.cs.lookup x = some a) (hmem : ∀ p ∈ cl, p.2 ∈ L.ca)
    (hinv : ∀ x a, L.cs.lookup x = some a → a ∈ cl.map (·.2) → cl.lookup x = some a)
    (S : Steps c ds okS okP I St) (R : Rl c L ρ σ P s.heap) (hS : okS σ) (hP : okP P) (st : St 0 s.heap) (nI : σ I = none) (lI : I ∉ L.all) (pI : ∀ o, ¬ P I o)
    (h : CompW c (inner F scope ck) k (inR ck ρ) x elt ifs okS Q ds [] σ)
    (fin : ∀ D C s' P' σ' acc vs, Post c L s P ρ σ' P' s' → s'.heap.PlainList D (List.toArray vs) → VRs c P' vs acc → σ' D = none → (∀ o, ¬ P' D o) → D ∉ L.all → c.h₀.objs.size ≤ D → σ' C = none → (∀ o, ¬ P' C o) → C ∉ L.all → C ≠ D → (∃ m, s'.heap.Ns C m) → Q acc σ' → RR (.ref D) C (.ok .next) s') :
    wpAny (model c.prog c.w) A (newList []) (fun acc s₃ => wpAny (model c.prog c.w) A (newFunctionEnv scope mainGlobals cl [] F.qual none .none (some (F.env L))) (fun cenv s₄ =>
      codeAny (model c.prog c.w) A (.compStart (.ListComp elt [⟨.Name x px, iter, ifs, 0⟩] scope pos) 0 (.ref I) acc { cenv with scope := relabel scope (F.env L) }) (RR acc cenv.locals) s₄) E s₃) E s := by
  refine wpAny_newObj_type (wpAny_newFunctionEnv ncell (by intro y hy; simp at hy) (fun h₁ hns₁ hsb₁ => ?_) kind)
  dsimp only at hns₁ hsb₁ ⊢
  generalize hH2 : s.heap.push { cls := .type "list", dict := none, data := .seq ([] : List Value).toArray } = H2 at hns₁ hsb₁ ⊢
  have hC : H2.objs.size = s.heap.objs.size + 1 := by rw [← hH2, Heap.size_push]
  have hCs : s.heap.objs.size < H2.objs.size := by rw [hC]; exact Nat.lt_succ_self _
  have below : ∀ b, b < s.heap.objs.size → b ≠ H2.objs.size ∧ b ≠ s.heap.objs.size := fun b hb => ⟨Nat.ne_of_lt (Nat.lt_trans hb hCs), Nat.ne_of_lt hb⟩
  have old : ∀ b o, s.heap.get? b = some o → h₁.get? b = some o := fun b o e => hsb₁.extBut b o (below b (Heap.lt_size e)).1 (Heap.get?_push_of_some _ (hH2 ▸ Heap.get?_push_of_some _ e))
  have hacc : h₁.PlainList s.heap.objs.size #[] := ⟨_, hsb₁.extBut _ _ (Nat.ne_of_lt hCs) (Heap.get?_push_of_some _ (hH2 ▸ Heap.get?_push_size _ rfl))⟩
  have hcaL : ∀ a ∈ cl.map (·.2), a ∈ L.ca := fun a ha => by
    obtain ⟨p, hp, rfl⟩ := List.mem_map.mp ha
    exact hmem p hp
  have hlow : ∀ a ∈ L.all, a < s.heap.objs.size := fun a ha => R.lt ha
  have hIlt : I < s.heap.objs.size := by
    obtain ⟨o, _, _, h1, _⟩ := S.obj 0 _ st
    exact Heap.lt_size h1
  let L' : Loc (inner F scope ck).ck := ⟨H2.objs.size, cl.map (·.2), by show _ = ck.length; rw [← hck]; simp, none, L.frm⟩
  have hcs : L'.cs = cl := by show ck.zip (cl.map (·.2)) = cl; rw [← hck]; exact zip_fst_snd cl
  have R₁ : Rl c L' (inR ck ρ) σ P h₁ := by
    refine ⟨R.toHp.ext old, ⟨Nat.le_trans R.above (Nat.le_of_lt (Nat.lt_trans R.ltL hCs)), ?_, fun a ha => ?_, _, hns₁, fun y d e => ?_⟩, fun a ha => ?_⟩
    · refine List.nodup_cons.mpr ⟨fun hm => ?_, hnd⟩
      exact absurd (Nat.lt_trans (hlow _ (.tail _ (hcaL _ hm))) hCs) (Nat.lt_irrefl _)
    · obtain ⟨v, hv⟩ := R.cells a (hcaL a ha)
      exact ⟨v, isCell_at hv (old a)⟩
    · unfold inR at e
      split at e
      · rename_i hyk
        obtain ⟨m, hn, hm⟩ := R.frame
        refine ⟨fun a ha => ?_, fun hnone => ?_⟩
        · rw [hcs] at ha
          obtain ⟨v, h1, h2⟩ := (hm y d e).1 a (hlk y a ha)
          exact ⟨v, isCell_at h1 (old a), h2⟩
        · obtain ⟨a, ha, _⟩ := L'.some hyk
          rw [ha] at hnone; cases hnone
      · cases e
    · rcases List.mem_cons.mp ha with rfl | ha
      · refine ⟨?_, fun o x => ?_⟩
        · cases e : σ L'.L with
          | none => rfl
          | some O =>
            exact absurd (Nat.lt_trans (R.alive e) hCs) (Nat.lt_irrefl _)
        · exact absurd (Nat.lt_trans (Heap.lt_size (R.froz _ _ x)) hCs) (Nat.lt_irrefl _)
      · exact R.own a (.tail _ (hcaL a ha))
  let as₀ : List Addr := L.L :: L.ca.filter fun a => decide (a ∉ cl.map (·.2))
  have has : ∀ a ∈ as₀, a ∈ L.all ∧ a ∉ cl.map (·.2) := fun a ha => by
    rcases List.mem_cons.mp ha with rfl | ha
    · exact ⟨.head _, fun hm => (List.nodup_cons.mp R.nodup).1 (hcaL _ hm)⟩
    · obtain ⟨h1, h2⟩ := List.mem_filter.mp ha
      exact ⟨.tail _ h1, by simpa using h2⟩
  have sd : Side c L' σ P (I :: s.heap.objs.size :: as₀) := by
    refine ⟨fun a ha => ?_, fun a ha => ?_, fun a ha hm => ?_⟩
    · rcases List.mem_cons.mp ha with rfl | ha
      · exact nI
      · rcases List.mem_cons.mp ha with rfl | ha
        · exact R.new
        · exact (R.own a (has a ha).1).1
    · rcases List.mem_cons.mp ha with rfl | ha
      · exact pI
      · rcases List.mem_cons.mp ha with rfl | ha
        · exact R.newP
        · exact (R.own a (has a ha).1).2
    · rcases List.mem_cons.mp hm with e | hm
      · have e' : a = H2.objs.size := e
        have hlt : a < H2.objs.size := by
          rcases List.mem_cons.mp ha with rfl | ha
          · exact Nat.lt_trans hIlt hCs
          · rcases List.mem_cons.mp ha with rfl | ha
            · exact hCs
            · exact Nat.lt_trans (hlow a (has a ha).1) hCs
        exact absurd hlt (by rw [e']; exact Nat.lt_irrefl _)
      · have hm' : a ∈ cl.map (·.2) := hm
        rcases List.mem_cons.mp ha with rfl | ha
        · exact lI (.tail _ (hcaL _ hm'))
        · rcases List.mem_cons.mp ha with rfl | ha
          · exact absurd (hlow _ (.tail _ (hcaL _ hm'))) (Nat.lt_irrefl _)
          · exact (has a ha).2 hm'
  have loop : codeAny (model c.prog c.w) A (.compLoop (.ListComp elt [⟨.Name x px, iter, ifs, 0⟩] scope pos) 0 (.ref I) (.ref s.heap.objs.size) ((inner F scope ck).env L'))
      (RR (.ref s.heap.objs.size) H2.objs.size) { s with heap := h₁, toks := s.toks + ([] : List (Str × Value)).length } := by
    refine comp_loop (s := { s with heap := h₁, toks := s.toks + ([] : List (Str × Value)).length }) g S R₁ hS hP (S.at_ _ _ _ st (old I)) hacc sd (fun a ha => ?_) (Nat.ne_of_lt hIlt) (fun hm => lI (has _ hm).1) (fun hm => R.notNew (has _ hm).1) ⟨kind, .inl ⟨hx, hxk⟩⟩ (fun _ => rfl) h ?_
    · obtain ⟨o, e, ni⟩ := R.objAt (has a ha).1
      exact ⟨o, old _ _ e, ni⟩
    · intro s' P' ρ' σ' acc vs more R' same hρ hD hv sd' ha0 q
      have hlk' : ∀ {y : Str} {a : Addr}, L.cs.lookup y = some a → a ∈ L.ca := fun e => lookup_mem e
      have kept : ∀ a ∈ as₀, ∀ o, s.heap.get? a = some o → s'.heap.get? a = some o := fun a ha o e => ha0 a ha o (old _ _ e)
      have inAs : ∀ a ∈ L.ca, a ∉ cl.map (·.2) → a ∈ as₀ := fun a ha hn => .tail _ (List.mem_filter.mpr ⟨ha, by simpa using hn⟩)
      have R'' : Rl c L ρ σ' P' s'.heap := by
        refine ⟨R'.toHp, ⟨R.above, R.nodup, fun a ha => ?_, ?_⟩, fun a ha => ?_⟩
        · by_cases hc : a ∈ cl.map (·.2)
          · exact R'.cells a hc
          · obtain ⟨v, hv⟩ := R.cells a ha
            exact ⟨v, isCell_at hv (kept a (inAs a ha hc))⟩
        · obtain ⟨m, ⟨o, es, ep, e, r⟩, hm⟩ := R.frame
          refine ⟨m, ⟨o, es, ep, kept _ (.head _) _ e, r⟩, fun y d e => ⟨fun a ha => ?_, fun hn => ?_⟩⟩
          · by_cases hc : a ∈ cl.map (·.2)
            · have hcy := hinv y a ha hc
              have hyk : ck.contains y = true := by
                rw [← hck]
                have := mem_of_lookup hcy
                exact List.contains_iff_mem.mpr (List.mem_map.mpr ⟨_, this, rfl⟩)
              have hyx : y ≠ x := fun e' => by rw [e', hxk] at hyk; cases hyk
              obtain ⟨m', _, hm'⟩ := R'.frame
              have e2 : ρ' y = some d := by rw [hρ y hyx]; unfold inR; rw [if_pos hyk]; exact e
              exact (hm' y d e2).1 a (by rw [hcs]; exact hcy)
            · obtain ⟨v, h1, h2⟩ := (hm y d e).1 a ha
              exact ⟨v, isCell_at h1 (kept a (inAs a (hlk' ha) hc)), h2.mono more⟩
          · obtain ⟨v, h1, h2⟩ := (hm y d e).2 hn
            exact ⟨v, h1, h2.mono more⟩
        · rcases List.mem_cons.mp ha with rfl | ha
          · exact ⟨sd'.no _ (.tail _ (.tail _ (.head _))), sd'.off _ (.tail _ (.tail _ (.head _)))⟩
          · by_cases hc : a ∈ cl.map (·.2)
            · exact R'.own a (.tail _ hc)
            · exact ⟨sd'.no _ (.tail _ (.tail _ (inAs a ha hc))), sd'.off _ (.tail _ (.tail _ (inAs a ha hc)))⟩
      have hs2 : Same s s' := by
        obtain ⟨h', tk, rfl⟩ := same
        exact ⟨h', tk, rfl⟩
      obtain ⟨mC, hnC, _⟩ := R'.frame
      exact fin s.heap.objs.size H2.objs.size s' P' σ' acc vs ⟨more, R'', hs2⟩ hD hv (sd'.no _ (.tail _ (.head _))) (sd'.off _ (.tail _ (.head _))) R.notNew (Nat.le_trans R.above (Nat.le_of_lt R.ltL)) (R'.own _ (.head _)).1 (R'.own _ (.head _)).2
        (fun hm => absurd (Nat.lt_trans (hlow _ hm) hCs) (Nat.lt_irrefl _)) (Nat.ne_of_gt hCs) ⟨mC, hnC⟩ q
  have henv : (inner F scope ck).env L' = { newEnv scope H2.objs.size mainGlobals cl F.qual none Value.none (some (F.env L)) builtinsNs with scope := relabel scope (F.env L) } := by
    unfold Fn.env
    rw [hcs]
    rfl
  rw [henv] at loop
  exact codeAny_compStart_list loop (S.self 0 _ _ _ _ (S.at_ _ _ _ st (old I)) loop)
theorem comp_post {L : Loc F.ck} {s' : Shared} {P' : Know} {σ' : Sg} {D' : Addr} {vs : List Value} {acc : List D} {h' : Heap} {C : Addr} (R : Rl c L ρ σ' P' s'.heap) (hD : s'.heap.PlainList D' (List.toArray vs)) (hv : VRs c P' vs acc) (nD : σ' D' = none) (pD : ∀ o, ¬ P' D' o) (lD : D' ∉ L.all) (bD : c.h₀.objs.size ≤ D')
    (nC : σ' C = none) (pC : ∀ o, ¬ P' C o) (lC : C ∉ L.all) (hCD : C ≠ D') (hs : Heap.SameBut C s'.heap h') : Rl c L ρ (upd σ' D' (.lst acc)) P' h' := by
  have R1 : Rl c L ρ σ' P' h' := R.extBut (fun a o hne e => (hs.2 a hne).trans e) nC lC pC
  obtain ⟨n, ho⟩ := hD
  exact R1.set (fun _ _ _ e => e) ((hs.2 D' (Ne.symm hCD)).trans ho) (O := .lst acc) ⟨vs, n, rfl, hv⟩ lD pD bD
theorem Ev.comp {elt iter : Expr} {x : Str} {px : Pos} {ifs : List Expr} {scope : Scope} {ck : List Str} {pos : Pos} {Q : D → Sg → Prop} (Kt : Caught F scope ck) (hx : (inner F scope ck).scope.names.lookup x = some .local := by rfl) (hxk : ck.contains x = false := by rfl)
    (h : Ev c F k ρ σ iter (fun d σ1 => ∃ ds okS, Itb c σ1 d ds okS ∧ CompW c (inner F scope ck) k (inR ck ρ) x elt ifs okS (fun acc σ2 => ∀ a, σ2 a = none → Q (.raw (.ref a)) (upd σ2 a (.lst acc))) ds [] σ1))
    (hs : ∀ (L : Loc F.ck) (x : Value), foldedSetIterable iter (F.env L) x = pure x := by intro _ _; rfl) : Ev c F k ρ σ (.ListComp elt [⟨.Name x px, iter, ifs, 0⟩] scope pos) Q := by
  intro A L P s g R
  obtain ⟨cl, e1, e2, e3, e4, e5, e6⟩ := Kt.cl L
  have nd := (List.nodup_cons.mp R.nodup).2
  rw [eval_ListComp]
  refine wpAny_comprehension_free (use := none) rfl (hs L) e1 Kt.kind Kt.names (wpAny_mono (h A L P s g R) (fun xv s₁ h₁ => ?_) fun _ _ e => e)
  obtain ⟨P1, d, σ1, p1, r1, ds, okS, ⟨hS, hI⟩, hw⟩ := h₁
  refine hI A F.ck L ρ P1 s₁ xv _ g.handled p1.rl r1 fun o okP St hf S hP st => ?_
  have R' : Rl c L ρ σ1 P1 (s₁.heap.push o) := p1.rl.ext fun _ _ e => Heap.get?_push_of_some _ e
  refine comp_block (RR := fun acc C => compPost (model c.prog c.w) A noE none (PD c L s P ρ Q) acc C) (s := { s₁ with heap := s₁.heap.push o }) g Kt.kind Kt.ncell hx hxk e2 (e3 nd) e4 e5 (e6 nd) S R' hS hP st p1.rl.new p1.rl.notNew p1.rl.newP hw ?_
  intro D' C s' P' σ' acc vs p hD hv nD pD lD bD nC pC lC hCD hm q
  obtain ⟨m, hm⟩ := hm
  refine ⟨m, hm, fun h' hs' => ?_⟩
  exact ⟨P', .raw (.ref D'), upd σ' D' (.lst acc), ⟨fun a o x => p.more _ _ (p1.more _ _ x), comp_post p.rl hD hv nD pD lD bD nC pC lC hCD hs', (p1.same.trans ⟨_, s₁.toks, rfl⟩).trans (p.same.trans ⟨h', s'.toks, rfl⟩)⟩, .raw _, q D' nD⟩
/-- «y = [ … for … ]»: the name is bound ahead of the comprehension's frame -/
theorem Ex.assignComp {elt iter : Expr} {x y : Str} {px py : Pos} {ifs : List Expr} {scope : Scope} {ck : List Str} {pos spos : Pos} {Q : Out → Rho → Sg → Prop} (Kt : Caught F scope ck) (hx : (inner F scope ck).scope.names.lookup x = some .local := by rfl) (hxk : ck.contains x = false := by rfl)
    (h : Ev c F k ρ σ iter (fun d σ1 => ∃ ds okS, Itb c σ1 d ds okS ∧ CompW c (inner F scope ck) k (inR ck ρ) x elt ifs okS (fun acc σ2 => ∀ a, σ2 a = none → Q .next (setR ρ y (.raw (.ref a))) (upd σ2 a (.lst acc))) ds [] σ1))
    (hsw : ∀ L : Loc F.ck, swapsWith (.ListComp elt [⟨.Name x px, iter, ifs, 0⟩] scope pos) (some (.Name y py)) spos.line (F.env L) = pure true := by intro _; rfl)
    (hb : Binds F y := by first | exact ⟨rfl, .inl ⟨rfl, rfl⟩⟩ | exact ⟨rfl, .inr ⟨rfl, rfl⟩⟩)
    (hs : ∀ (L : Loc F.ck) (x : Value), foldedSetIterable iter (F.env L) x = pure x := by intro _ _; rfl) : Ex c F k ρ σ (.Assign [.Name y py] (.ListComp elt [⟨.Name x px, iter, ifs, 0⟩] scope pos) spos) Q := by
  intro A L P s g R
  obtain ⟨cl, e1, e2, e3, e4, e5, e6⟩ := Kt.cl L
  have nd := (List.nodup_cons.mp R.nodup).2
  rw [exec_Assign_Name_used _ _ _ _ (hsw L)]
  refine wpAny_bind (wpAny_standAt (wpAny_bind ?_))
  show wpAny _ A (do let _ ← comprehension (.ListComp elt [⟨.Name x px, iter, ifs, 0⟩] scope pos) scope (F.env L) _ (newList []) false (eval iter (F.env L)) (some (PySem.assign (.Name y py) (F.env L)))) _ _ s
  refine wpAny_bind (wpAny_mono (wpAny_comprehension_free (E := noE) (use := some (PySem.assign (.Name y py) (F.env L))) (Q := fun _ s' => PO c L s P Q .next s') rfl (hs L) e1 Kt.kind Kt.names
    (wpAny_mono (h A L P s g R) (fun xv s₁ h₁ => ?_) fun _ _ e => e)) (fun _ s' hq => wpAny_pure (wpAny_pure hq)) fun _ _ e => e)
  obtain ⟨P1, d, σ1, p1, r1, ds, okS, ⟨hS, hI⟩, hw⟩ := h₁
  refine hI A F.ck L ρ P1 s₁ xv _ g.handled p1.rl r1 fun o okP St hf S hP st => ?_
  have R' : Rl c L ρ σ1 P1 (s₁.heap.push o) := p1.rl.ext fun _ _ e => Heap.get?_push_of_some _ e
  refine comp_block (RR := fun acc C => compPost (model c.prog c.w) A noE (some (PySem.assign (.Name y py) (F.env L))) (fun _ s' => PO c L s P Q .next s') acc C) (s := { s₁ with heap := s₁.heap.push o }) g Kt.kind Kt.ncell hx hxk e2 (e3 nd) e4 e5 (e6 nd) S R' hS hP st p1.rl.new p1.rl.notNew p1.rl.newP hw ?_
  intro D' C s' P' σ' acc vs p hD hv nD pD lD bD nC pC lC hCD hm q
  obtain ⟨m, hm⟩ := hm
  have RD := comp_post p.rl hD hv nD pD lD bD nC pC lC hCD (h' := s'.heap) ⟨rfl, fun _ _ => rfl⟩
  obtain ⟨oC, esC, epC, eC, dC⟩ := hm
  have GC : Fence (upd σ' D' (.lst acc)) P' s'.heap [C] := ⟨fun a ha => by rw [List.mem_singleton.mp ha]; exact ⟨oC, eC, fun i => by unfold Imm at i; rw [dC.1] at i; exact i⟩, fun a ha => by rw [List.mem_singleton.mp ha]; exact pC, fun a ha => by rw [List.mem_singleton.mp ha, upd_ne hCD]; exact nC⟩
  have Rg := RD.guarded GC fun a ha => by rw [List.mem_singleton.mp ha]; exact lC
  show wpAny _ A (PySem.assign (.Name y py) (F.env L) (.ref D')) _ _ _
  refine wpAny_assign_Name (store_ok Rg (d := .raw (.ref D')) (.raw _) (fun s'' p'' => ?_) hb)
  have B := GC.back RD.base p''.rl.toHp p''.more
  refine ⟨m, ⟨oC, esC, epC, B.same C (.head _) _ eC, dC⟩, fun h' hs' => ?_⟩
  have R3 := (p''.rl.drop (σ₁ := upd σ' D' (.lst acc)) B).extBut (h' := h') (fun a o hne e => (hs'.2 a hne).trans e) (B.no C (.head _)) lC (fun o x => x.2 (.head _))
  exact ⟨_, .next, _, _, ⟨fun a o x => B.more _ _ (p.more _ _ (p1.more _ _ x)), R3, ((p1.same.trans ⟨_, s₁.toks, rfl⟩).trans (p.same.trans p''.same)).trans ⟨h', s''.toks, rfl⟩⟩, .next, q D' nD⟩
end
end

section
section
variable {c : Cx} {F F' : Fn} {k : Nat} {ρ : Rho} {σ : Sg}
/-! a def some of whose names are cells -/
structure IsFnC (c : Cx) (F : Fn) (addr : Addr) (params : List Str) (body : List Stmt) : Prop where
  made : FnMade c F addr params body
  kind : F.scope.kind = .function
  nco : F.scope.isCoroutine = false
  ngen : F.scope.isGenerator = false
  cells : ∀ n, (cellsFrom n F.scope.names []).map (·.1) = F.ck
  nodup : F.ck.Nodup
  loc : ∀ p ∈ params, (F.scope.names.lookup p = some .local ∧ F.ck.contains p = false) ∨ (F.scope.names.lookup p = some .cell ∧ F.ck.contains p = true)
theorem argR_mem : ∀ (ps : List Str) (ds : List D) (ρ₀ : Rho) (x : Str) (d : D), argR ps ds ρ₀ x = some d → x ∈ ps ∨ ρ₀ x = some d
  | [], ds, ρ₀, x, d, e => by
    have : argR [] ds ρ₀ = ρ₀ := by cases ds <;> rfl
    rw [this] at e; exact .inr e
  | p :: ps, [], ρ₀, x, d, e => .inr e
  | p :: ps, d' :: ds, ρ₀, x, d, e => by
    rcases argR_mem ps ds (setR ρ₀ p d') x d e with h | h
    · exact .inl (.tail _ h)
    · by_cases hx : x = p
      · subst hx; exact .inl (.head _)
      · rw [setR_ne hx] at h; exact .inr h
theorem argR_okC {P : Know} (kd : Str → Option NameKind) : ∀ (ps : List Str) {vs : List Value} {ds : List D} (ρ₀ : Rho) (m₀ c₀ : Str → Option Value), VRs c P vs ds → (∀ x d, ρ₀ x = some d → ∃ v, VR c P v d ∧ (kd x = some .local → m₀ x = some v) ∧ (kd x ≠ some .local → c₀ x = some v)) →
    ∀ x d, argR ps ds ρ₀ x = some d → ∃ v, VR c P v d ∧ (kd x = some .local → bindL kd (ps.zip vs) m₀ x = some v) ∧ (kd x ≠ some .local → bindC kd (ps.zip vs) c₀ x = some v)
  | [], vs, ds, ρ₀, m₀, c₀, hv, h0, x, d, e => by
    have : argR [] ds ρ₀ = ρ₀ := by cases ds <;> rfl
    rw [this] at e
    exact h0 x d e
  | p :: ps, _, _, ρ₀, m₀, c₀, .nil, h0, x, d, e => h0 x d e
  | p :: ps, _, _, ρ₀, m₀, c₀, .cons (v := v) (d := d') h r, h0, x, d, e => by
    refine argR_okC kd ps (setR ρ₀ p d') _ _ r (fun y e' he => ?_) x d e
    by_cases hy : y = p
    · subst hy
      rw [setR_same] at he
      cases he
      exact ⟨v, h, fun hk => by rw [if_pos hk]; simp, fun hk => by rw [if_neg hk]; simp⟩
    · rw [setR_ne hy] at he
      obtain ⟨u, hu, h1, h2⟩ := h0 y e' he
      refine ⟨u, hu, fun hk => ?_, fun hk => ?_⟩
      · split
        · simp only [hy, if_false]; exact h1 hk
        · exact h1 hk
      · split
        · exact h2 hk
        · simp only [hy, if_false]; exact h2 hk
theorem lookup_of_mem {α : Type} : ∀ {l : List (Str × α)} {n : Str} {a : α}, (l.map (·.1)).Nodup → (n, a) ∈ l → l.lookup n = some a
  | (y, b) :: r, n, a, hn, hm => by
    obtain ⟨h1, h2⟩ := List.nodup_cons.mp hn
    rw [List.lookup]
    rcases List.mem_cons.mp hm with e | hm
    · cases e; simp
    · have : (n == y) = false := by
        cases hb : (n == y) with
        | false => rfl
        | true => exact absurd (List.mem_map.mpr ⟨_, hm, beq_iff_eq.mp hb⟩) h1
      rw [this]
      exact lookup_of_mem h2 hm
theorem Cd.fnC {addr : Addr} {params : List Str} {body : List Stmt} {ds : List D} {Q : D → Sg → Prop} (W : Wd c) (I : IsFnC c F addr params body) (hl : ds.length = params.length)
    (h : Exs c F k (argR params ds fun _ => none) σ body (fun o _ σ' => Q (outD o) σ')) : Cd c (k + 1) σ (.ref addr) ds Q := by
  intro A ck L ρ P s vs g R hv
  obtain ⟨o, fd, ho, hd, hb, hsc, hco, hqu, hgl, hcl, hbl, hcr, hbind⟩ := I.made
  have hvl : vs.length = params.length := by rw [hv.length, hl]
  have hcells : ∀ n, (cellsFrom n fd.scope.names []).map (·.1) = F.ck := by rw [hsc]; exact I.cells
  let cs := cellsFrom (s.heap.objs.size + 1) fd.scope.names []
  let L' : Loc F.ck := ⟨s.heap.objs.size, cs.map (·.2), by rw [← hcells (s.heap.objs.size + 1), List.length_map, List.length_map], some addr, some s.heap.objs.size⟩
  have hcs : L'.cs = cs := by show F.ck.zip (cs.map (·.2)) = cs; rw [← hcells (s.heap.objs.size + 1)]; exact zip_fst_snd cs
  have henv : callEnvC fd s.heap.objs.size addr = F.env L' := by
    unfold callEnvC newEnv Fn.env
    rw [hcs, hsc, hco, hqu, hgl, hbl]
    show _ = ({ scope := F.scope, locals := s.heap.objs.size, globals := mainGlobals, cells := cellsFrom (s.heap.objs.size + 1) fd.scope.names [], qual := F.qual, func := some addr, code := F.cd, frame := some s.heap.objs.size, builtins := builtinsNs } : Env)
    rw [hsc]
  refine codeAny_call_cells (binds := params.zip vs) (by have := g.depth; omega) (R.old _ _ ho) hd (W.nolimit.keeps R.old) (hcr.keeps R.old) hb (hbind vs hvl) hcl
    (fun x hx => ?_) (fun s₁ X => ?_) (by rw [hsc]; exact I.nco) (by rw [hsc]; exact I.ngen) (by rw [hsc]; exact I.kind)
  · rw [hsc]
    rcases I.loc _ (List.of_mem_zip hx).1 with ⟨h1, _⟩ | ⟨h1, h2⟩
    · exact .inl h1
    · refine .inr ⟨h1, ?_⟩
      obtain ⟨a, ha, _⟩ := L'.some h2
      rw [hcs] at ha
      have ha : List.lookup x.1 (cellsFrom (s.heap.objs.size + 1) fd.scope.names []) = some a := ha
      rw [hsc] at ha
      rw [ha]; rfl
  · obtain ⟨⟨hsame, hns, hkeep, hfresh⟩, hcell, hapart, habove⟩ := X
    rw [henv] at hns hcell hapart habove ⊢
    have ecs : (F.env L').cells = cs := hcs
    rw [ecs] at hcell hapart habove
    have hcsn : (cs.map (·.1)).Nodup := by rw [hcells]; exact I.nodup
    obtain ⟨h₁, tk, rfl⟩ := hsame
    have hnew : ∀ a, s.heap.objs.size ≤ a → σ a = none ∧ ∀ o, ¬ guardP P s.heap L.all a o := fun a ha => by
      refine ⟨?_, fun o x => ?_⟩
      · cases e : σ a with
        | none => rfl
        | some O => exact absurd (R.alive e) (Nat.not_lt.mpr ha)
      · rcases x with x | ⟨x, _⟩
        · exact absurd (Heap.lt_size (R.froz _ _ x)) (Nat.not_lt.mpr ha)
        · exact absurd (R.lt x) (Nat.not_lt.mpr ha)
    have hcaL : ∀ a ∈ L'.ca, ∃ n, (n, a) ∈ cs := fun a ha => by
      obtain ⟨p, hp, rfl⟩ := List.mem_map.mp ha
      exact ⟨p.1, hp⟩
    have R' : Rl c L' (argR params ds fun _ => none) σ (guardP P s.heap L.all) h₁ := by
      refine ⟨(R.toHp.guard R.fence).ext hkeep, ⟨Nat.le_trans R.above (Nat.le_of_lt R.ltL), ?_, fun a ha => ?_, ⟨_, hns, fun x d e => ?_⟩⟩, fun a ha => ?_⟩
      · refine List.nodup_cons.mpr ⟨fun hm => ?_, ?_⟩
        · obtain ⟨n, hn⟩ := hcaL _ hm
          exact absurd (habove n _ hn) (Nat.lt_irrefl _)
        · exact List.pairwise_map.mpr hapart
      · obtain ⟨n, hn⟩ := hcaL a ha
        exact ⟨_, hcell n a (lookup_of_mem hcsn hn)⟩
      · obtain ⟨v, hv', h1, h2⟩ := argR_okC (c := c) (P := guardP P s.heap L.all) (F.env L').kindOf params (fun _ => none) (fun _ => none) (fun _ => none) (hv.mono fun _ _ z => .inl z) (fun _ _ e => by cases e) x d e
        have hp : x ∈ params := (argR_mem params ds _ x d e).elim id fun e => by cases e
        rcases I.loc x hp with ⟨hk, hc⟩ | ⟨hk, hc⟩
        · refine ⟨fun a ha => ?_, fun _ => ⟨v, h1 hk, hv'⟩⟩
          rw [L'.none hc] at ha; cases ha
        · refine ⟨fun a ha => ⟨v, ?_, hv'⟩, fun hn => ?_⟩
          · have := hcell x a (by rw [← hcs]; exact ha)
            rw [h2 (by show F.scope.names.lookup x ≠ _; rw [hk]; decide)] at this
            exact this
          · obtain ⟨a, ha, _⟩ := L'.some hc
            rw [hn] at ha; cases ha
      · rcases List.mem_cons.mp ha with rfl | ha
        · exact hnew _ (Nat.le_refl _)
        · obtain ⟨n, hn⟩ := hcaL a ha
          exact hnew _ (Nat.le_of_lt (habove n a hn))
    refine wpAny_mono (h (A.deeper (F.env L')) L' (guardP P s.heap L.all) { s with heap := h₁, toks := tk } (g.deeper _) R') (fun f s' hf => ?_) fun _ _ x => x.elim
    obtain ⟨P', o', ρ', σ', p, r, q⟩ := hf
    cases r with
    | ret hv' => exact leave_ok R ⟨_, _, rfl⟩ p hv' q
    | next => exact leave_ok R ⟨_, _, rfl⟩ p .none q
    | brk => exact leave_ok R ⟨_, _, rfl⟩ p .none q
    | cont => exact leave_ok R ⟨_, _, rfl⟩ p .none q
end
end

section
section
variable {c : Cx} {F F' : Fn} {k : Nat} {ρ : Rho} {σ : Sg}
/-! built-ins -/
theorem cl_len {l : Addr} {ds : List D} {Q : D → Sg → Prop} (e : σ l = some (.lst ds)) (hz : ds.length < 2 ^ 63) (q : Q (.int ds.length) σ) : Cl c k σ (.builtin "len") [.raw (.ref l)] Q := by
  refine Cl.r fun A ck L ρ P s g R => ?_
  obtain ⟨us, hl, hv⟩ := R.isList e
  have hs : us.toArray.size = ds.length := by simp [hv.length]
  refine len_list hl.isList (by rw [hs]; exact_mod_cast hz) ?_
  rw [hs]
  exact PD.val (n := s.toks + 1 + 1) R (.int _ _) q
theorem cl_abs {i : Int} {Q : D → Sg → Prop} (q : Q (.int i.natAbs) σ) : Cl c k σ (.builtin "abs") [.int i] Q := by
  refine Cl.i fun A ck L ρ P s _ g R => ?_
  refine call_abs_int fun u tk => ?_
  have e : (if i < 0 then -i else i) = (i.natAbs : Int) := by split <;> omega
  rw [e]
  exact PD.val R (.int _ _) q
theorem cl_max {a b : Int} {Q : D → Sg → Prop} (q : Q (.int (max a b)) σ) : Cl c k σ (.builtin "max") [.int a, .int b] Q := by
  refine Cl.ii fun A ck L ρ P s _ _ g R => ?_
  refine max_two_ints g.handled fun h' tk hk => ?_
  have R' : Rl c L ρ σ P h' := R.ext hk
  refine ⟨P, .int (max a b), σ, ⟨fun _ _ x => x, R', ⟨h', tk, rfl⟩⟩, ?_, q⟩
  by_cases hb : b > a
  · rw [if_pos hb]
    have : max a b = b := by omega
    rw [this]; exact .int _ _
  · rw [if_neg hb]
    have : max a b = a := by omega
    rw [this]; exact .int _ _
theorem cl_range1 {b : Int} {Q : D → Sg → Prop} (q : Q (.rng 0 b) σ) : Cl c k σ (.type "range") [.int b] Q := by
  refine Cl.i fun A ck L ρ P s _ g R => ?_
  refine call_range_1 ?_
  exact ⟨_, _, σ, R.pushP (n := s.toks + 1 + 1) _ rfl, .rng (.inr ⟨rfl, rfl⟩), q⟩
theorem cl_range2 {a b : Int} {Q : D → Sg → Prop} (q : Q (.rng a b) σ) : Cl c k σ (.type "range") [.int a, .int b] Q := by
  refine Cl.ii fun A ck L ρ P s _ _ g R => ?_
  refine call_range_2 ?_
  exact ⟨_, _, σ, R.pushP (n := s.toks + 1) _ rfl, .rng (.inr ⟨rfl, rfl⟩), q⟩
noncomputable def isTup : D → Option Bool
  | .tup _ => some true
  | .int _ => some false
  | .str _ => some false
  | _ => none
theorem cl_isi {d : D} {b : Bool} {Q : D → Sg → Prop} (hb : isTup d = some b) (q : Q (.bool b) σ) : Cl c k σ (.builtin "isinstance") [d, .raw (.type "tuple")] Q := by
  refine Cl.dd fun A ck L ρ P s v u g R hv hu => ?_
  rw [hu.isRaw]
  match d, hb with
  | .tup _, hb => cases hb; obtain ⟨_, _, _, rfl, h, _⟩ := hv.isTup; exact IsiPair.tuple_tuple (R.froz _ _ h) rfl (PD.val0 R (.bool _) q)
  | .int _, hb => cases hb; obtain ⟨_, rfl⟩ := hv.isInt; exact IsiPair.int_tuple (PD.val R (.bool _) q)
  | .str _, hb => cases hb; obtain ⟨_, rfl⟩ := hv.isStr; exact IsiPair.str_tuple (PD.val R (.bool _) q)
theorem cl_tuple {l : Addr} {ds : List D} {Q : D → Sg → Prop} (e : σ l = some (.lst ds)) (hz : ds.length ≤ sizeLine) (q : Q (.tup ds) σ) : Cl c k σ (.type "tuple") [.raw (.ref l)] Q := by
  refine Cl.r fun A ck L ρ P s g R => ?_
  obtain ⟨us, hl, hv⟩ := R.isList e
  refine call_tuple_list hl.isList (fun h' hk => ?_) (by simp only [List.size_toArray, hv.length]; exact hz)
  have R' : Rl c L ρ σ P h' := R.ext hk
  have p := R'.pushP (s := { s with heap := h' }) (n := s.toks) { cls := .type "tuple", data := .seq us.toArray } rfl
  exact ⟨_, _, σ, (Post.trans ⟨fun _ _ x => x, R', ⟨h', s.toks, rfl⟩⟩ p : Post c L s P ρ σ _ _), .tup (.inr ⟨rfl, rfl⟩) (hv.mono p.more), q⟩
theorem add_lst {a b : Addr} {ds es : List D} {Q : D → Sg → Prop} (ea : σ a = some (.lst ds)) (eb : σ b = some (.lst es)) (hz : ds.length + es.length ≤ sizeLine) (q : ∀ n, σ n = none → Q (.raw (.ref n)) (upd σ n (.lst (ds ++ es)))) :
    Op2 c k σ (binaryOp .Add) (.raw (.ref a)) (.raw (.ref b)) Q := by
  refine Op2.rr fun A ck L ρ P s g R => ?_
  obtain ⟨us, hl, hv⟩ := R.isList ea
  obtain ⟨ws, hm, hw⟩ := R.isList eb
  obtain ⟨m, Fr, _⟩ := R.fr
  obtain ⟨n1, ho1⟩ := id hl
  obtain ⟨n2, ho2⟩ := id hm
  have e : us.toArray ++ ws.toArray = (us ++ ws).toArray := by simp
  refine concat_meets ⟨_, ho1, rfl⟩ ⟨_, ho2, rfl⟩ noFill_list_add seq_list_add PySem.F.slot_list_add PySem.F.entry_list_add (PySem.F.args_list_add_2 _ _) (list_addW a b us.toArray ws.toArray n1 n2 _ _ _ _ (by simpa [hv.length, hw.length] using hz)) ⟨ho1, ho2, ?_⟩
  rw [e]
  have p := R.pushO (n := s.toks) (O := .lst (ds ++ es)) (o := { cls := .type "list", data := .seq (us ++ ws).toArray }) ⟨us ++ ws, 0, rfl, hv.append hw⟩
  exact (⟨P, _, _, p, .raw _, q _ R.new⟩ : PD c L s P ρ Q (.ref s.heap.objs.size) _)
theorem neb_ok {a b : Bool} {Q : D → Sg → Prop} (q : Q (.bool (a != b)) σ) : Op2 c k σ (compareOp .NotEq) (.bool a) (.bool b) Q := by
  intro A ck L ρ P s v u g R hv hu; rw [hv.isBool, hu.isBool]; exact PyProof.Rows.ne_bool (PD.val0 R (.bool _) q)
/-! dict.get, dict.setdefault -/
theorem cl_get2 {d : Addr} {es : List (Int × D)} {ep : Nat} {i : Int} {x : D} {Q : D → Sg → Prop} (W : Wd c) (e : σ d = some (.dct es ep)) (q : Q ((dget es i).getD x) σ) : Cl c k σ (.builtin "dict.get") [.raw (.ref d), .int i, x] Q := by
  refine Cl.rid fun A ck L ρ P s _ _ g R hx => ?_
  obtain ⟨kvs, hl, hv, _⟩ := R.isDict e
  refine call_meetsIn PySem.F.slot_dict_get hl.typeIs PySem.F.entry_dict_get (PySem.F.args_dict_get_3 _ _ _) (meets_dict_get_default (intKind c.prog c.w) d (isInt_self i _) (R.notSys W e) _) ⟨_, hl.mapOf, ?_⟩
  show PD c L s P ρ Q ((valueAt kvs i).getD _) { s with toks := s.toks + 1 }
  have h2 := hv.get i
  cases hy : dget es i with
  | none => rw [hy] at h2 q; simp only at h2; rw [h2]; exact PD.val R hx q
  | some d => rw [hy] at h2 q; simp only at h2; obtain ⟨y, e', h3⟩ := h2; rw [e']; exact PD.val R h3 q
theorem cl_setdefault {d : Addr} {es : List (Int × D)} {ep : Nat} {i : Int} {x : D} {Q : D → Sg → Prop} (W : Wd c) (e : σ d = some (.dct es ep)) (hz : es.length ≤ sizeLine) (q1 : ∀ y, dget es i = some y → Q y σ) (q2 : dget es i = none → ∀ ep', Q x (upd σ d (.dct (dset es i x) ep'))) :
    Cl c k σ (.builtin "dict.setdefault") [.raw (.ref d), .int i, x] Q := by
  refine Cl.rid fun A ck L ρ P s _ _ g R hx => ?_
  obtain ⟨kvs, hl, hv, _⟩ := R.isDict e
  refine call_meetsIn PySem.F.slot_dict_setdefault hl.typeIs PySem.F.entry_dict_setdefault (PySem.F.args_dict_setdefault_3 _ _ _) (kt_meets_setdefault (intKind c.prog c.w) d (isInt_self i _) (R.notSys W e) _) ⟨kvs, hl, by rw [hv.length]; exact hz, fun y hy => ?_, fun hn h' hd hs => ?_⟩
  · show PD c L s P ρ Q y { s with toks := s.toks + 1 }
    have h2 := hv.get i
    cases hg : dget es i with
    | none => rw [hg] at h2; simp only at h2; rw [h2] at hy; cases hy
    | some z =>
      rw [hg] at h2; simp only at h2
      obtain ⟨u, e', h3⟩ := h2
      rw [e'] at hy; cases hy
      exact PD.val R h3 (q1 z hg)
  · show PD c L s P ρ Q _ { s with heap := h', toks := s.toks + 1 }
    have h2 := hv.get i
    cases hg : dget es i with
    | none =>
      obtain ⟨o, es', ep', ho, h1, h2, h3, h4, h5⟩ := hd
      exact ⟨P, _, _, ⟨fun _ _ x => x, R.upd e hs ho (O := .dct (dset es i x) ep') ⟨es', _, h1, h2, h3, h4, h5, hv.set hx⟩, ⟨_, _, rfl⟩⟩, hx, q2 hg ep'⟩
    | some z =>
      rw [hg] at h2; simp only at h2
      obtain ⟨u, e', h3⟩ := h2
      rw [e'] at hn; cases hn
/-! slices -/
theorem sliceOf {M : Model} {A : Around} {E : Value → Shared → Prop} {s : Shared} {env : Env} {value : Expr} {lower upper : Option Expr} {p pos : Pos} {Q : Value → Shared → Prop}
    (h : wpAny M A (eval value env) (fun o s₁ => (∀ r, letTemporaryGo value o r = pure ()) ∧ wpAny M A (eval (.Slice lower upper none p) env) (fun i s₂ => ItemOn M A E o i Q s₂) E s₁) E s) :
    wpAny M A (eval (.Subscript value (.Slice lower upper none p) pos) env) Q E s := by
  rw [eval_Subscript]
  refine wpAny_bind (wpAny_mono h (fun o s₁ h₁ => wpAny_bind (wpAny_holding (wpAny_mono h₁.2 (fun i s₂ h₂ => wpAny_bind (wpAny_standAt ?_)) fun _ _ x => x))) fun _ _ x => x)
  obtain ⟨T, id, hl, hT, hg⟩ := h₂
  have fin : wpAny M A (operate [i, o] (getItem o i)) (fun r s₃ => wpAny M A (letTemporaryGo value o r >>= fun _ => pure r) Q E s₃) E s₂ :=
    wpAny_operating (wpAny_mono hg (fun r s₃ h₃ => wpAny_bind (wpAny_of_eq (h₁.1 r) (wpAny_pure h₃))) fun _ _ x => x)
  first
    | (refine wpAny_bind ?_
       rw [getitemInPython_of_ne hT.not_modules]
       refine wpAny_bind (wpAny_specialOf hT hl ?_)
       first
         | exact wpAny_pure (wpAny_bind fin)
         | exact wpAny_bind (wpAny_pure (wpAny_bind fin))
         | exact wpAny_bind fin)
    | (refine wpAny_bind (wpAny_specialOf hT hl ?_)
       first
         | exact wpAny_bind (wpAny_pure (wpAny_bind fin))
         | exact wpAny_bind fin)
theorem goes_str (v : Expr) (x : Str) (t : Tok) (r : Value) : letTemporaryGo v (.str x t) r = pure () := by
  unfold letTemporaryGo
  cases v <;> rfl
theorem Ev.strTo {v : Expr} {j : Nat} {n : Int} {p px pos : Pos} {Q : D → Sg → Prop} (h : Ev c F k ρ σ v (fun d σ1 => ∃ x, d = .str x ∧ x.length ≤ sizeLine ∧ Q (.str (Txt.slice x none (some n))) σ1)) :
    Ev c F k ρ σ (.Subscript v (.Slice none (some (.Constant (.int n) j px)) none p) pos) Q := by
  intro A L P s g R
  refine sliceOf (wpAny_mono (h A L P s g R) ?_ fun _ _ x => x)
  rintro o s1 ⟨P1, d1, σ1, p1, r1, x, rfl, hz, q⟩
  obtain ⟨_, rfl⟩ := r1.isStr
  refine ⟨goes_str v _ _, ?_⟩
  refine wpAny_Slice (evalPart_none_step (evalPart_some_step (wpAny_Constant_int (evalPart_none_step ?_))))
  refine ⟨"str", _, PySem.F.slot_str_getitem.lookup, typeIs_str _ _ _, wpAny_getItem_str_slice (l := none) (u := some (n, s1.toks)) (st := none) ⟨_, Heap.get?_push_size _ rfl, rfl, rfl⟩ rfl (post_val_or_str ⟨Nat.le_trans (Txt.slice_le x _ _) hz, fun t' k' => ?_⟩)⟩
  have R' : Rl c L ρ σ1 P1 (s1.heap.push { cls := .type "slice", data := .fields #[.none, .int n s1.toks, .none] }) := p1.rl.ext fun _ _ e => Heap.get?_push_of_some _ e
  exact ⟨P1, .str (Txt.slice x none (some n)), σ1, p1.trans (⟨fun _ _ x => x, R', ⟨_, k', rfl⟩⟩ : Post c L s1 P1 ρ σ1 P1 _), .str _ t', q⟩
/-- a cut of a list of ints that stood at first -/
theorem VRs.ofInts {P : Know} : ∀ {vs : List Value} {ns : List Int}, IntsAre vs ns → VRs c P vs (ns.map .int)
  | _, _, .nil => .nil
  | _, _, .cons n t r => .cons (.int n t) (VRs.ofInts r)
theorem Ev.listTo {v : Expr} {j : Nat} {n : Int} {p px pos : Pos} {a : Addr} {us : List Value} {ns : List Int} {Q : D → Sg → Prop} (hl : c.h₀.IsList a us.toArray) (hi : IntsAre us ns) (hn : 0 ≤ n) (hz : ns.length ≤ sizeLine)
    (h : Ev c F k ρ σ v (fun d σ1 => d = .raw (.ref a) ∧ ∀ b, σ1 b = none → Q (.raw (.ref b)) (upd σ1 b (.lst ((ns.take n.toNat).map .int)))))
    (ht : ∀ o r, letTemporaryGo v o r = pure () := by intro _ _; rfl) : Ev c F k ρ σ (.Subscript v (.Slice none (some (.Constant (.int n) j px)) none p) pos) Q := by
  intro A L P s g R
  refine wpAny_Subscript_list_slice (wpAny_mono (h A L P s g R) ?_ fun _ _ x => x) ht
  rintro o s1 ⟨P1, d1, σ1, p1, r1, rfl, q⟩
  obtain rfl := r1.isRaw
  refine evalPart_none_step (evalPart_some_step (wpAny_Constant_int ?_))
  have hl' : s1.heap.IsList a us.toArray := by
    obtain ⟨o, ho, r⟩ := hl
    exact ⟨o, p1.rl.old _ _ ho, r⟩
  refine ⟨a, us.toArray, none, some n, rfl, hl', by rw [List.size_toArray, hi.length]; exact hz, .none, .int n _, ?_⟩
  have R' : Rl c L ρ σ1 P1 (s1.heap.push { cls := .type "slice", data := .fields #[.none, .int n s1.toks, .none] }) := p1.rl.ext fun _ _ e => Heap.get?_push_of_some _ e
  have p2 : Post c L s1 P1 ρ σ1 P1 { s1 with heap := s1.heap.push { cls := .type "slice", data := .fields #[.none, .int n s1.toks, .none] }, toks := s1.toks + 1 } := ⟨fun _ _ x => x, R', ⟨_, _, rfl⟩⟩
  have p3 := p2.rl.pushO (n := s1.toks + 1) (O := .lst ((ns.take n.toNat).map .int)) (o := { cls := .type "list", data := .seq (slicePick us.toArray none (some n) none) }) ⟨(slicePick us.toArray none (some n) none).toList, 0, by simp, VRs.ofInts (slice_ints_uptoW hi hn)⟩
  have hsz : (s1.heap.push { cls := .type "slice", data := .fields #[.none, .int n s1.toks, .none] }).objs.size = s1.heap.objs.size + 1 := Heap.size_push ..
  have nn := p2.rl.new
  rw [hsz] at p3 nn
  exact ⟨P1, _, _, p1.trans (p2.trans p3), .raw _, q _ nn⟩
/-! two names at once -/
theorem unpack_n {M : Program} {w : World} {A : Around} {E : Value → Shared → Prop} {s : Shared} {t : Addr} {items : Array Value} {n : Nat} {Q : List Value → Shared → Prop} (hh : A.handled = none) (ht : IsTup s.heap t items) (hn : n = items.size)
    (hQ : ∀ h', Heap.ExtBut s.heap.objs.size s.heap h' → Q items.toList { s with heap := h' }) : wpAny (model M w) A (unpackItems (.ref t) n none) Q E s := by
  subst hn; exact unpackItems_tuple hh ht hQ
theorem inOrder2 (f g : Value → Sem Unit) (u v : Value) : assignInOrder [f, g] [u, v] = (do holding [v] (f u); do holding [] (g v); pure ()) := rfl
theorem Ex.pair {x y : Str} {px py tp pos : Pos} {j : Nat} {value : Expr} {Q : Out → Rho → Sg → Prop} (h : Ev c F k ρ σ value (fun v σ' => ∃ d e, v = .tup [d, e] ∧ Q .next (setR (setR ρ y e) x d) σ'))
    (hs : ∀ L : Loc F.ck, swapsWithSole [.Tuple [.Name x px, .Name y py] j tp] value pos.line (F.env L) = pure false := by intro _; rfl)
    (hw : ∀ L : Loc F.ck, swappedStores [.Tuple [.Name x px, .Name y py] j tp] value (F.env L) = pure (some [x, y]) := by intro _; rfl)
    (hx : Binds F x := by first | exact ⟨rfl, .inl ⟨rfl, rfl⟩⟩ | exact ⟨rfl, .inr ⟨rfl, rfl⟩⟩) (hy : Binds F y := by first | exact ⟨rfl, .inl ⟨rfl, rfl⟩⟩ | exact ⟨rfl, .inr ⟨rfl, rfl⟩⟩) :
    Ex c F k ρ σ (.Assign [.Tuple [.Name x px, .Name y py] j tp] value pos) Q := by
  intro A L P s g R
  refine Assign_Tuple_swapped (names := [x, y]) (wpAny_mono (h A L P s g R) ?_ fun _ _ x => x) (hs L) (hw L)
  rintro v s1 ⟨P1, d1, σ1, p1, r1, d, e, rfl, q⟩
  obtain ⟨t, _, n, rfl, ht, hvs⟩ := r1.isTup
  obtain ⟨v1, _, rfl, h1, w1⟩ := hvs.isCons
  obtain ⟨v2, _, rfl, h2, w2⟩ := w1.isCons
  obtain rfl := w2.isNil
  refine unpack_n g.handled ⟨_, p1.rl.froz _ _ ht, rfl, n, rfl⟩ rfl fun h' he => ?_
  have R' : Rl c L ρ σ1 P1 h' := p1.rl.extBut (fun a o hne => he a o hne) p1.rl.new p1.rl.notNew p1.rl.newP
  have p' : Post c L s1 P1 ρ σ1 P1 { s1 with heap := h' } := ⟨fun _ _ x => x, R', ⟨h', s1.toks, rfl⟩⟩
  have e : assignInOrder (List.map (fun n => bindName (F.env L) n) [x, y].reverse) (List.toArray [v1, v2]).toList.reverse = assignInOrder [bindName (F.env L) y, bindName (F.env L) x] [v2, v1] := rfl
  rw [e, inOrder2]
  refine wpAny_bind (wpAny_holding (wpAny_bindName (store_ok (s := { s1 with heap := h' }) R' h2 (fun s2 p2 => ?_) hy)))
  refine wpAny_bind (wpAny_holding (wpAny_bindName (store_ok p2.rl (h1.mono p2.more) (fun s3 p3 => ?_) hx)))
  exact wpAny_pure ⟨P1, .next, _, σ1, ((p1.trans p').trans p2).trans p3, .next, q⟩
end
end

section
mutual
noncomputable def pyD : D → PyData
  | .int i => .int i
  | .str x => .str x
  | .tup ds => .tuple (pyDs ds)
  | _ => .none
noncomputable def pyDs : List D → List PyData
  | [] => []
  | d :: ds => pyD d :: pyDs ds
end
noncomputable def okD : Nat → D → Bool
  | _, .int _ => true
  | _, .str x => PyData.strOk x
  | n + 1, .tup ds => ds.all (okD n)
  | _, _ => false
/-- what a comparable value is -/
inductive OkV (n : Nat) (d : D) : Prop
  | int (i : Int) (e : d = .int i)
  | str (x : Str) (e : d = .str x) (h : PyData.strOk x = true)
  | tup (m : Nat) (ds : List D) (en : n = m + 1) (e : d = .tup ds) (h : ∀ d ∈ ds, okD m d = true)
theorem okD_view {n : Nat} {d : D} (h : okD n d = true) : OkV n d := by
  cases d with
  | int i => exact .int i rfl
  | str x => exact .str x rfl (by simpa [okD] using h)
  | tup ds => cases n with
    | zero => simp [okD] at h
    | succ m => exact .tup m ds rfl rfl (by simpa [okD] using h)
  | _ => simp [okD] at h
theorem rd_allOf {c : Cx} {P : Know} {h : Heap} {n : Nat} (ih : ∀ (v : Value) (d : D), VR c P v d → okD n d = true → ∃ as, Reads h v (pyD d) as) {vs : List Value} {ds : List D} (r : VRs c P vs ds) : (∀ d ∈ ds, okD n d = true) → ∃ as, ReadsAll h vs (pyDs ds) as :=
  VRs.ind (M := fun vs ds => (∀ d ∈ ds, okD n d = true) → ∃ as, ReadsAll h vs (pyDs ds) as) (fun _ => ⟨_, ReadsAll.nil⟩) (fun v vs d ds hd _ hi hk => by
    obtain ⟨as, q⟩ := ih v d hd (hk _ (.head _))
    obtain ⟨bs, p⟩ := hi fun d hm => hk d (.tail _ hm)
    rw [pyDs]
    exact ⟨_, ReadsAll.cons q p⟩) r
theorem rd_in0 {c : Cx} {σ : Sg} {P : Know} {h : Heap} (H : Hp c σ P h) (n : Nat) : ∀ (v : Value) (d : D), VR c P v d → okD n d = true → ∃ as, Reads h v (pyD d) as := by
  induction n with
  | zero =>
    intro v d hv hk
    rcases okD_view hk with ⟨i, rfl⟩ | ⟨x, rfl, _⟩ | ⟨m, ds, e, _, _⟩
    · obtain ⟨t, rfl⟩ := hv.isInt; exact ⟨_, Reads.int i t⟩
    · obtain ⟨t, rfl⟩ := hv.isStr; exact ⟨_, Reads.str x t⟩
    · cases e
  | succ n ih =>
    intro v d hv hk
    rcases okD_view hk with ⟨i, rfl⟩ | ⟨x, rfl, _⟩ | ⟨m, ds, e, rfl, hd⟩
    · obtain ⟨t, rfl⟩ := hv.isInt; exact ⟨_, Reads.int i t⟩
    · obtain ⟨t, rfl⟩ := hv.isStr; exact ⟨_, Reads.str x t⟩
    · obtain rfl := Nat.succ.inj e
      obtain ⟨a, vs, k, rfl, hm, r⟩ := hv.isTup
      obtain ⟨as, q⟩ := rd_allOf ih r hd
      rw [pyD]
      exact ⟨as, reads_tuple_at (H.froz _ _ hm) rfl rfl (by simpa using q)⟩
theorem rd_in {c : Cx} {σ : Sg} {P : Know} {h : Heap} (H : Hp c σ P h) {v : Value} {d : D} (n : Nat) (hv : VR c P v d) (hk : okD n d = true) : ∃ as, Reads h v (pyD d) as := rd_in0 H n v d hv hk
theorem rd_all {c : Cx} {σ : Sg} {P : Know} {h : Heap} (H : Hp c σ P h) {vs : List Value} {ds : List D} (n : Nat) (hv : VRs c P vs ds) (hk : ∀ d ∈ ds, okD n d = true) : ∃ as, ReadsAll h vs (pyDs ds) as := rd_allOf (rd_in0 H n) hv hk
theorem okD_lay : ∀ (n : Nat) (d : D), okD n d = true → (pyD d).canLay0 = true ∧ (pyD d).depth ≤ n := by
  have all : ∀ (n : Nat), (∀ d, okD n d = true → (pyD d).canLay0 = true ∧ (pyD d).depth ≤ n) → ∀ ds : List D, (∀ d ∈ ds, okD n d = true) → PyData.canLayAll0 (pyDs ds) = true ∧ PyData.depthAll (pyDs ds) ≤ n := by
    intro n ih ds
    induction ds with
    | nil => intro _; simp [pyDs, PyData.canLayAll0, PyData.depthAll]
    | cons d ds hi =>
      intro h
      have h1 := ih d (h d (.head _))
      have h2 := hi fun e he => h e (.tail _ he)
      simp only [pyDs, PyData.canLayAll0, PyData.depthAll, h1.1, h2.1, Bool.and_self, true_and]
      have a1 := h1.2
      have a2 := h2.2
      omega
  intro n
  induction n with
  | zero =>
    intro d h
    rcases okD_view h with ⟨i, rfl⟩ | ⟨x, rfl, hx⟩ | ⟨m, ds, e, _, _⟩
    · exact ⟨rfl, Nat.le_refl _⟩
    · exact ⟨hx, Nat.le_refl _⟩
    · cases e
  | succ n ih =>
    intro d h
    rcases okD_view h with ⟨i, rfl⟩ | ⟨x, rfl, hx⟩ | ⟨m, ds, e, rfl, hd⟩
    · exact ⟨rfl, Nat.zero_le _⟩
    · exact ⟨hx, Nat.zero_le _⟩
    · obtain rfl := Nat.succ.inj e
      have q := all n ih ds hd
      have q2 := q.2
      simp only [pyD, PyData.canLay0, PyData.depth, q.1, true_and]
      omega
theorem okD_eqv : ∀ (n : Nat) (d e : D) (k : Nat), okD n d = true → okD k e = true → (PyData.eqv (pyD d) (pyD e) = true ↔ d = e) := by
  have all : ∀ (n : Nat), (∀ d e k, okD n d = true → okD k e = true → (PyData.eqv (pyD d) (pyD e) = true ↔ d = e)) → ∀ (k : Nat) (ds es : List D), (∀ d ∈ ds, okD n d = true) → (∀ d ∈ es, okD k d = true) →
      (PyData.eqvAll (pyDs ds) (pyDs es) = true ↔ ds = es) := by
    intro n ih k ds
    induction ds with
    | nil => intro es _ _; cases es <;> simp [pyDs, PyData.eqvAll]
    | cons d ds hi =>
      intro es h1 h2
      cases es with
      | nil => simp [pyDs, PyData.eqvAll]
      | cons e es =>
        have q1 := ih d e k (h1 d (.head _)) (h2 e (.head _))
        have q2 := hi es (fun x hx => h1 x (.tail _ hx)) fun x hx => h2 x (.tail _ hx)
        simp only [pyDs, PyData.eqvAll, Bool.and_eq_true, q1, q2, List.cons.injEq]
  intro n
  induction n with
  | zero =>
    intro d e k h1 h2
    rcases okD_view h1 with ⟨i, rfl⟩ | ⟨x, rfl, hx⟩ | ⟨m, ds, en, _, _⟩
    · rcases okD_view h2 with ⟨j, rfl⟩ | ⟨y, rfl, hy⟩ | ⟨m', es, _, rfl, he⟩ <;> simp [pyD, PyData.eqv]
    · rcases okD_view h2 with ⟨j, rfl⟩ | ⟨y, rfl, hy⟩ | ⟨m', es, _, rfl, he⟩ <;> simp [pyD, PyData.eqv]
    · cases en
  | succ n ih =>
    intro d e k h1 h2
    rcases okD_view h1 with ⟨i, rfl⟩ | ⟨x, rfl, hx⟩ | ⟨m, ds, en, rfl, hd⟩
    · rcases okD_view h2 with ⟨j, rfl⟩ | ⟨y, rfl, hy⟩ | ⟨m', es, _, rfl, he⟩ <;> simp [pyD, PyData.eqv]
    · rcases okD_view h2 with ⟨j, rfl⟩ | ⟨y, rfl, hy⟩ | ⟨m', es, _, rfl, he⟩ <;> simp [pyD, PyData.eqv]
    · rcases okD_view h2 with ⟨j, rfl⟩ | ⟨y, rfl, hy⟩ | ⟨m', es, _, rfl, he⟩
      · simp [pyD, PyData.eqv]
      · simp [pyD, PyData.eqv]
      · obtain rfl := Nat.succ.inj en
        simp only [pyD, PyData.eqv, D.tup.injEq]
        exact all n ih m' ds es hd he
open Classical in
noncomputable def deq (d e : D) : Bool := decide (d = e)
open Classical in
noncomputable def deql (d e : List D) : Bool := decide (d = e)
open Classical in
noncomputable def memD (d : D) (ds : List D) : Bool := decide (d ∈ ds)
theorem deq_iff {d e : D} : deq d e = true ↔ d = e := by unfold deq; simp
theorem deql_iff {d e : List D} : deql d e = true ↔ d = e := by unfold deql; simp
theorem memD_iff {d : D} {ds : List D} : memD d ds = true ↔ d ∈ ds := by unfold memD; simp
theorem bool_iff {a b : Bool} (h : a = true ↔ b = true) : a = b := by
  cases a <;> cases b <;> simp_all
theorem okD_any : ∀ (ds : List D) (d : D), (∀ e ∈ ds, okD 8 e = true) → okD 8 d = true → ((pyDs ds).any (fun y => PyData.eqv y (pyD d)) = true ↔ d ∈ ds)
  | [], d, _, _ => by simp [pyDs]
  | e :: ds, d, h, hd => by
    have q := okD_any ds d (fun x hx => h x (.tail _ hx)) hd
    have q1 := okD_eqv 8 e d 8 (h e (.head _)) hd
    simp only [pyDs, List.any_cons, Bool.or_eq_true, q, q1, List.mem_cons]
    constructor
    · rintro (x | x)
      · exact .inl x.symm
      · exact .inr x
    · rintro (x | x)
      · exact .inl x.symm
      · exact .inr x
theorem okD_layL {ds : List D} (h : ∀ d ∈ ds, okD 8 d = true) : PyData.canLayAll0 (pyDs ds) = true ∧ PyData.depthAll (pyDs ds) ≤ 9 := by
  have l := okD_lay 9 (.tup ds) (by simpa [okD] using h)
  rw [pyD] at l
  simp only [PyData.canLay0, PyData.depth] at l
  have l2 := l.2
  exact ⟨l.1, by omega⟩
theorem okD_shaped {d : D} {n : Nat} (hn : n ≤ 64) (h : okD n d = true) : SeqAt.shaped (pyD d) = true := by
  have l := okD_lay n d h
  unfold SeqAt.shaped; rw [l.1, Bool.true_and]; exact decide_eq_true (Nat.le_trans l.2 hn)
section
variable {c : Cx} {F F' : Fn} {k : Nat} {ρ : Rho} {σ : Sg}
theorem eqt_ok {d e : D} {Q : D → Sg → Prop} (hd : okD 8 d = true) (he : okD 8 e = true) (q : Q (.bool (deq d e)) σ) : Op2 c k σ (compareOp .Eq) d e Q := by
  intro A ck L ρ P s v u g R hv hu
  obtain ⟨as, ra⟩ := rd_in R.toHp 8 hv hd
  obtain ⟨bs, rb⟩ := rd_in R.toHp 8 hu he
  have e : PyData.eqv (pyD d) (pyD e) = deq d e := bool_iff ((okD_eqv 8 d e 8 hd he).trans deq_iff.symm)
  exact eq_dataH ra rb (okD_shaped (by decide) hd) (okD_shaped (by decide) he) (by have := g.units; omega) (by rw [e]; exact PD.val0 R (.bool _) q)
theorem net_ok {d e : D} {Q : D → Sg → Prop} (hd : okD 8 d = true) (he : okD 8 e = true) (q : Q (.bool (!deq d e)) σ) : Op2 c k σ (compareOp .NotEq) d e Q := by
  intro A ck L ρ P s v u g R hv hu
  obtain ⟨as, ra⟩ := rd_in R.toHp 8 hv hd
  obtain ⟨bs, rb⟩ := rd_in R.toHp 8 hu he
  have e : PyData.eqv (pyD d) (pyD e) = deq d e := bool_iff ((okD_eqv 8 d e 8 hd he).trans deq_iff.symm)
  exact ne_dataH ra rb (okD_shaped (by decide) hd) (okD_shaped (by decide) he) (by have := g.units; omega) (by rw [e]; exact PD.val0 R (.bool _) q)
theorem Rl.readsList {ck : List Str} {L : Loc ck} {P : Know} {h : Heap} (R : Rl c L ρ σ P h) {a : Addr} {ds : List D} (e : σ a = some (.lst ds)) (hd : ∀ d ∈ ds, okD 8 d = true) : ∃ as, Reads h (.ref a) (.list (pyDs ds)) as := by
  obtain ⟨us, hl, hv⟩ := R.isList e
  obtain ⟨n, ho⟩ := hl
  obtain ⟨as, q⟩ := rd_all R.toHp 8 hv hd
  exact ⟨_, reads_list_at ho rfl rfl (by simpa using q)⟩
theorem list_shaped {ds : List D} (h : ∀ d ∈ ds, okD 8 d = true) : SeqAt.shaped (.list (pyDs ds)) = true := by
  have l := okD_layL h
  unfold SeqAt.shaped
  simp only [PyData.canLay0, PyData.depth, l.1, Bool.true_and]
  exact decide_eq_true (by have := l.2; omega)
theorem list_eqv {ds es : List D} (h : ∀ d ∈ ds, okD 8 d = true) (h' : ∀ d ∈ es, okD 8 d = true) : PyData.eqv (.list (pyDs ds)) (.list (pyDs es)) = deql ds es := by
  refine bool_iff (Iff.trans ?_ deql_iff.symm)
  have q := okD_eqv 9 (.tup ds) (.tup es) 9 (by simpa [okD] using h) (by simpa [okD] using h')
  rw [pyD, pyD, D.tup.injEq] at q
  exact q
theorem eql_ok {a b : Addr} {ds es : List D} {Q : D → Sg → Prop} (ea : σ a = some (.lst ds)) (eb : σ b = some (.lst es)) (hd : ∀ d ∈ ds, okD 8 d = true) (he : ∀ d ∈ es, okD 8 d = true) (q : Q (.bool (deql ds es)) σ) : Op2 c k σ (compareOp .Eq) (.raw (.ref a)) (.raw (.ref b)) Q := by
  refine Op2.rr fun A ck L ρ P s g R => ?_
  obtain ⟨as, ra⟩ := R.readsList ea hd
  obtain ⟨bs, rb⟩ := R.readsList eb he
  exact eq_dataH ra rb (list_shaped hd) (list_shaped he) (by have := g.units; omega) (by rw [list_eqv hd he]; exact PD.val0 R (.bool _) q)
theorem nel_ok {a b : Addr} {ds es : List D} {Q : D → Sg → Prop} (ea : σ a = some (.lst ds)) (eb : σ b = some (.lst es)) (hd : ∀ d ∈ ds, okD 8 d = true) (he : ∀ d ∈ es, okD 8 d = true) (q : Q (.bool (!deql ds es)) σ) : Op2 c k σ (compareOp .NotEq) (.raw (.ref a)) (.raw (.ref b)) Q := by
  refine Op2.rr fun A ck L ρ P s g R => ?_
  obtain ⟨as, ra⟩ := R.readsList ea hd
  obtain ⟨bs, rb⟩ := R.readsList eb he
  exact ne_dataH ra rb (list_shaped hd) (list_shaped he) (by have := g.units; omega) (by rw [list_eqv hd he]; exact PD.val0 R (.bool _) q)
theorem any_mem {x : D} {ds : List D} (hd : ∀ d ∈ ds, okD 8 d = true) (hx : okD 8 x = true) : ((pyDs ds).any fun y => PyData.eqv y (pyD x)) = memD x ds := bool_iff ((okD_any ds x hd hx).trans memD_iff.symm)
theorem in_units {A : Around} {n : Nat} (g : Good A k) {x : D} (hx : okD 8 x = true) : A.units + 1 + min n (pyD x).depth < cLine := by
  have h1 := (okD_lay 8 x hx).2
  have h2 := Nat.min_le_right n (pyD x).depth
  have := g.units
  omega
theorem in_lst {l : Addr} {ds : List D} {x : D} {Q : D → Sg → Prop} (e : σ l = some (.lst ds)) (hd : ∀ d ∈ ds, okD 8 d = true) (hx : okD 8 x = true) (q : Q (.bool (memD x ds)) σ) : Op2 c k σ (compareOp .In) x (.raw (.ref l)) Q := by
  refine Op2.dr fun A ck L ρ P s v g R hv => ?_
  obtain ⟨as, ra⟩ := R.readsList e hd
  obtain ⟨bs, rb⟩ := rd_in R.toHp 8 hv hx
  exact SeqAt.in_list_reads ra rb (okD_layL hd).1 (okD_lay 8 x hx).1 (in_units g hx) (by rw [any_mem hd hx]; exact PD.val0 R (.bool _) q)
theorem notIn_lst {l : Addr} {ds : List D} {x : D} {Q : D → Sg → Prop} (e : σ l = some (.lst ds)) (hd : ∀ d ∈ ds, okD 8 d = true) (hx : okD 8 x = true) (q : Q (.bool (!memD x ds)) σ) : Op2 c k σ (compareOp .NotIn) x (.raw (.ref l)) Q := by
  refine Op2.dr fun A ck L ρ P s v g R hv => ?_
  obtain ⟨as, ra⟩ := R.readsList e hd
  obtain ⟨bs, rb⟩ := rd_in R.toHp 8 hv hx
  exact SeqAt.notIn_list_reads ra rb (okD_layL hd).1 (okD_lay 8 x hx).1 (in_units g hx) (by rw [any_mem hd hx]; exact PD.val0 R (.bool _) q)
theorem in_tup {ds : List D} {x : D} {Q : D → Sg → Prop} (hd : ∀ d ∈ ds, okD 8 d = true) (hx : okD 8 x = true) (q : Q (.bool (memD x ds)) σ) : Op2 c k σ (compareOp .In) x (.tup ds) Q := by
  rintro A ck L ρ P s v u g R hv hu
  obtain ⟨as, ra⟩ := rd_in R.toHp 9 hu (by simpa [okD] using hd)
  obtain ⟨bs, rb⟩ := rd_in R.toHp 8 hv hx
  rw [pyD] at ra
  exact SeqAt.in_tuple_reads ra rb (okD_layL hd).1 (okD_lay 8 x hx).1 (in_units g hx) (by rw [any_mem hd hx]; exact PD.val0 R (.bool _) q)
/-! two dicts of lists -/
/-- a dict whose values are lists -/
inductive Dl (σ : Sg) : List (Int × D) → List (Int × List D) → Prop
  | nil : Dl σ [] []
  | cons {i : Int} {a : Addr} {ds : List D} {es : List (Int × D)} {ls : List (Int × List D)} : σ a = some (.lst ds) → (∀ d ∈ ds, okD 8 d = true) → Dl σ es ls → Dl σ ((i, .raw (.ref a)) :: es) ((i, ds) :: ls)
noncomputable def lget (ls : List (Int × List D)) (i : Int) : Option (List D) := (ls.find? fun kv => kv.1 = i).map (·.2)
theorem Dl.length {es : List (Int × D)} {ls : List (Int × List D)} (h : Dl σ es ls) : es.length = ls.length :=
  Dl.rec (motive := fun es ls _ => es.length = ls.length) rfl (fun _ _ _ ih => congrArg Nat.succ ih) h
theorem Dl.get {es : List (Int × D)} {ls : List (Int × List D)} {i : Int} {ds : List D} (hd : Dl σ es ls) : lget ls i = some ds → ∃ a, dget es i = some (.raw (.ref a)) ∧ σ a = some (.lst ds) ∧ ∀ d ∈ ds, okD 8 d = true := by
  induction hd with
  | nil => intro h; simp [lget] at h
  | @cons j a xs _ _ h1 h2 r ih =>
    intro h
    unfold lget at h ih
    unfold dget at ih ⊢
    rw [List.find?_cons] at h ⊢
    by_cases hk : j = i
    · simp only [hk, decide_true, Option.map_some, Option.some.injEq] at h ⊢
      subst h
      exact ⟨a, rfl, h1, h2⟩
    · simp only [hk, decide_false] at h ⊢
      exact ih h
theorem eq_hits {ck : List Str} {L : Loc ck} {A : Around} {P : Know} {s : Shared} (g : Good A k) (R : Rl c L ρ σ P s.heap) {kb : List (Int × Value)} {fs : List (Int × D)} {ms : List (Int × List D)} (hb : KVR c P kb fs) (db : Dl σ fs ms) : ∀ {ka : List (Int × Value)} {es : List (Int × D)} {ls : List (Int × List D)}, KVR c P ka es → Dl σ es ls → (∀ p ∈ ls, lget ms p.1 = some p.2) → KeqHits A.in1 s kb ka true := by
  intro ka es ls hva
  induction hva generalizing ls with
  | nil => intro da _; exact .nil
  | @cons i _ _ _ _ hv r ih0 =>
    intro da h
    cases da with
    | cons h1 h2 r' =>
    have ih := ih0 r' fun p hp => h p (.tail _ hp)
    obtain ⟨a, e1, e2, e3⟩ := db.get (h _ (.head _))
    have hg := hb.get i
    rw [e1] at hg
    obtain ⟨y, hy, hyv⟩ := hg
    obtain rfl := hv.isRaw
    obtain rfl := hyv.isRaw
    obtain ⟨as, ra⟩ := R.readsList h1 h2
    obtain ⟨bs, rb⟩ := R.readsList e2 e3
    have q := keq_at (A := A) ra rb (list_shaped h2) (list_shaped e3) (by show A.units + 1 + 64 < cLine; have := g.units; omega)
    rw [list_eqv h2 e3, deql_iff.mpr rfl] at q
    exact KeqHits.hit (b := true) hy q ih
theorem eqd_ok {a b : Addr} {es fs : List (Int × D)} {ep ep' : Nat} {ls ms : List (Int × List D)} {Q : D → Sg → Prop} (W : Wd c) (ea : σ a = some (.dct es ep)) (eb : σ b = some (.dct fs ep')) (da : Dl σ es ls) (db : Dl σ fs ms)
    (hl : ls.length = ms.length) (h : ∀ p ∈ ls, lget ms p.1 = some p.2) (q : Q (.bool true) σ) : Op2 c k σ (compareOp .Eq) (.raw (.ref a)) (.raw (.ref b)) Q := by
  refine Op2.rr fun A ck L ρ P s g R => ?_
  obtain ⟨ka, hA, hva, _⟩ := R.isDict ea
  obtain ⟨kb, hB, hvb, _⟩ := R.isDict eb
  refine keq_eq (r := true) (R.notSys W ea) (R.notSys W eb) hA hB (by have := g.units; omega) (fun _ => eq_hits g R hvb db hva da h) ?_
  have : (ka.length == kb.length) = true := by rw [hva.length, hvb.length, da.length, db.length, hl]; simp
  rw [this]
  exact PD.val0 R (.bool true) q
end
end

section
namespace Srt
variable {O : KeyOrd} {key : Nat → O.α} {N : Nat} {s : Shared}
noncomputable def kk (key : Nat → O.α) (p : Array Nat) (i : Nat) : O.α := key (p.getD i 0)
noncomputable def SortedP (key : Nat → O.α) (p : Array Nat) (m : Nat) : Prop := ∀ i j, i ≤ j → j < m → O.kle (kk key p i) (kk key p j)
noncomputable def NonIncP (key : Nat → O.α) (p : Array Nat) (m : Nat) : Prop := ∀ i j, i ≤ j → j < m → O.kle (kk key p j) (kk key p i)
noncomputable def Pm (N : Nat) (p : Array Nat) : Prop := p.Perm (List.range N).toArray
noncomputable def cmp (key : Nat → O.α) (N : Nat) (i j : Nat) (C : Bool → Shared → Prop) (s : Shared) : Prop := i < N ∧ j < N ∧ C (O.blt (key i) (key j)) s
theorem Pm.size {p : Array Nat} (h : Pm N p) : p.size = N := by have := h.size_eq; simpa using this
theorem Pm.get {p : Array Nat} (h : Pm N p) {i : Nat} (hi : i < N) : p.getD i 0 < N := by
  have hs : i < p.size := by rw [h.size]; exact hi
  have e : p.getD i 0 = p[i] := by simp [hs]
  rw [e]
  have hm : p[i] ∈ (List.range N).toArray.toList := (Array.perm_iff_toList_perm.mp h).mem_iff.mp (by simp)
  simpa using hm
theorem Pm.rev {p : Array Nat} (h : Pm N p) (i j : Nat) : Pm N (kas_rev p i j) := (mirror_perm _ _ _ _).trans h
theorem Pm.bub {p : Array Nat} (h : Pm N p) (i j : Nat) : Pm N (bubble p i j) := (bubble_perm _ _ _).trans h
theorem kk_congr {p q : Array Nat} {i j : Nat} (h : p[i]? = q[j]?) : kk key p i = kk key q j := by
  unfold kk
  rw [Array.getD_eq_getD_getElem?, Array.getD_eq_getD_getElem?, h]
theorem kk_rev {p : Array Nat} {i j : Nat} (hj : j ≤ p.size) (k : Nat) : kk key (kas_rev p i j) k = if i ≤ k ∧ k < j then kk key p (i + j - 1 - k) else kk key p k := by
  have e := getElem?_mirror_all (i := i) hj k
  unfold kas_rev
  by_cases h1 : i ≤ k ∧ k < j
  · rw [if_pos h1] at e ⊢; exact kk_congr e
  · rw [if_neg h1] at e ⊢; exact kk_congr e
theorem kk_rev_equal {p : Array Nat} {i j : Nat} (hj : j ≤ p.size) (heq : ∀ k, i ≤ k → k < j → kk key p k = kk key p (j - 1)) (k : Nat) : kk key (kas_rev p i j) k = kk key p k := by
  rw [kk_rev hj]
  split
  · rw [heq _ (by omega) (by omega), heq k (by omega) (by omega)]
  · rfl
theorem kk_bub {p : Array Nat} {src d : Nat} (hs : src < p.size) (hd : d ≤ src) (k : Nat) :
    kk key (bubble p src d) k = if k = src - d then kk key p src else if src - d < k ∧ k ≤ src then kk key p (k - 1) else kk key p k := by
  have e := getElem?_bubble hs d hd k
  by_cases h1 : k = src - d
  · rw [if_pos h1] at e ⊢; exact kk_congr e
  · rw [if_neg h1] at e ⊢
    by_cases h2 : src - d < k ∧ k ≤ src
    · rw [if_pos h2] at e ⊢; exact kk_congr e
    · rw [if_neg h2] at e ⊢; exact kk_congr e
theorem asc_ok {p : Array Nat} (hp : Pm N p) {Q : Nat → Shared → Prop} : ∀ (f n : Nat), 1 ≤ n → n + f ≤ N → SortedP key p n →
    (∀ m, n ≤ m → m ≤ n + f → SortedP key p m → (m = n + f ∨ O.klt (kk key p m) (kk key p (m - 1))) → Q m s) → (kas_asc p f n).kasWp (cmp key N) Q s
  | 0, n, h1, hn, hs, h => h n (Nat.le_refl _) (Nat.le_refl _) hs (.inl rfl)
  | f + 1, n, h1, hn, hs, h => by
    show cmp key N _ _ _ s
    refine ⟨hp.get (by omega), hp.get (by omega), ?_⟩
    show KasT.kasWp _ (if O.blt (kk key p n) (kk key p (n - 1)) = true then _ else _) Q s
    by_cases hc : O.blt (kk key p n) (kk key p (n - 1)) = true
    · rw [if_pos hc]
      exact h n (Nat.le_refl _) (by omega) hs (.inr hc)
    · rw [if_neg hc]
      refine asc_ok hp f (n + 1) (by omega) (by omega) ?_ fun m h2 h3 h4 h5 => h m (by omega) (by omega) h4 (by rcases h5 with h5 | h5; exact .inl (by omega); exact .inr h5)
      have hle : O.kle (kk key p (n - 1)) (kk key p n) := KeyOrd.kle_of_not_klt hc
      intro i j hij hj
      by_cases hjn : j = n
      · subst hjn
        by_cases hi : i = j
        · subst hi; exact KeyOrd.kle_refl _
        · exact KeyOrd.kle_trans (hs i (j - 1) (by omega) (by omega)) hle
      · exact hs i j hij (by omega)
theorem nonInc_snoc {p : Array Nat} {n : Nat} (h1 : 1 ≤ n) (hs : NonIncP key p n) (hle : O.kle (kk key p n) (kk key p (n - 1))) : NonIncP key p (n + 1) := by
  intro i j hij hj
  by_cases hjn : j = n
  · subst hjn
    by_cases hi : i = j
    · subst hi; exact KeyOrd.kle_refl _
    · exact KeyOrd.kle_trans hle (hs i (j - 1) (by omega) (by omega))
  · exact hs i j hij (by omega)
theorem nonInc_congr {p q : Array Nat} {n : Nat} (h : NonIncP key p n) (e : ∀ k, kk key q k = kk key p k) : NonIncP key q n := fun i j hij hj => by rw [e, e]; exact h i j hij hj
theorem desc_ok {Q : Array Nat × Nat × Nat → Shared → Prop} : ∀ (f : Nat) (p : Array Nat) (n q : Nat), Pm N p → 1 ≤ n → n + f ≤ N → NonIncP key p n → q + 1 ≤ n → (∀ i, n - (q + 1) ≤ i → i < n → kk key p i = kk key p (n - 1)) →
    (∀ p' m q', Pm N p' → n ≤ m → m ≤ n + f → NonIncP key p' m → q' + 1 ≤ m → (∀ i, m - (q' + 1) ≤ i → i < m → kk key p' i = kk key p' (m - 1)) → Q (p', m, q') s) → (kas_desc f p n q).kasWp (cmp key N) Q s
  | 0, p, n, q, hp, h1, hn, hs, hq, he, h => h p n q hp (Nat.le_refl _) (Nat.le_refl _) hs hq he
  | f + 1, p, n, q, hp, h1, hn, hs, hq, he, h => by
    show cmp key N _ _ _ s
    refine ⟨hp.get (by omega), hp.get (by omega), ?_⟩
    show KasT.kasWp _ (if O.blt (kk key p n) (kk key p (n - 1)) = true then _ else _) Q s
    by_cases hc : O.blt (kk key p n) (kk key p (n - 1)) = true
    · rw [if_pos hc]
      have hle : O.kle (kk key p n) (kk key p (n - 1)) := KeyOrd.kle_of_klt hc
      by_cases hq0 : q > 0
      · rw [if_pos hq0]
        have e : ∀ k, kk key (kas_rev p (n - (q + 1)) n) k = kk key p k := kk_rev_equal (by rw [hp.size]; omega) he
        refine desc_ok f _ (n + 1) 0 (hp.rev _ _) (by omega) (by omega) (nonInc_congr (nonInc_snoc h1 hs hle) e) (by omega) (fun i h2 h3 => ?_) fun p' m q' a b d => h p' m q' a (by omega) (by omega)
        have : i = n := by omega
        subst this; rfl
      · rw [if_neg hq0]
        refine desc_ok f p (n + 1) 0 hp (by omega) (by omega) (nonInc_snoc h1 hs hle) (by omega) (fun i h2 h3 => ?_) fun p' m q' a b d => h p' m q' a (by omega) (by omega)
        have : i = n := by omega
        subst this; rfl
    · rw [if_neg hc]
      show cmp key N _ _ _ s
      refine ⟨hp.get (by omega), hp.get (by omega), ?_⟩
      show KasT.kasWp _ (if O.blt (kk key p (n - 1)) (kk key p n) = true then _ else _) Q s
      by_cases hd : O.blt (kk key p (n - 1)) (kk key p n) = true
      · rw [if_pos hd]
        exact h p n q hp (Nat.le_refl _) (by omega) hs hq he
      · rw [if_neg hd]
        have heq : kk key p n = kk key p (n - 1) := O.total _ _ (by simpa using hc) (by simpa using hd)
        refine desc_ok f p (n + 1) (q + 1) hp (by omega) (by omega) (nonInc_snoc h1 hs (by rw [heq]; exact KeyOrd.kle_refl _)) (by omega) (fun i h2 h3 => ?_) fun p' m q' a b d => h p' m q' a (by omega) (by omega)
        show _ = kk key p n
        by_cases hi : i = n
        · subst hi; rfl
        · rw [heq]; exact he i (by omega) (by omega)
theorem tail3_ok {p : Array Nat} (hp : Pm N p) {n : Nat} (h1 : 1 ≤ n) (hn : n ≤ N) (hs : NonIncP key p n) {Q : Nat × Array Nat → Shared → Prop}
    (h : ∀ m p', Pm N p' → 1 ≤ m → m ≤ N → SortedP key p' m → Q (m, p') s) : (kas_tail3 n N p).kasWp (cmp key N) Q s := by
  unfold kas_tail3
  rw [KasT.kasWp_bind]
  refine asc_ok (hp.rev 0 n) (N - n) n h1 (by omega) (fun i j hij hj => ?_) fun m h2 h3 h4 _ => h m _ (hp.rev 0 n) (by omega) (by omega) h4
  have hsz : n ≤ p.size := by rw [hp.size]; exact hn
  rw [kk_rev hsz, kk_rev hsz, if_pos (by omega), if_pos (by omega)]
  exact hs _ _ (by omega) (by omega)
theorem descPart_ok {p : Array Nat} (hp : Pm N p) {n : Nat} (hn : n + 1 ≤ N) (hs : NonIncP key p (n + 1)) {Q : Nat × Array Nat → Shared → Prop}
    (h : ∀ m p', Pm N p' → 1 ≤ m → m ≤ N → SortedP key p' m → Q (m, p') s) : (kas_descPart n N p).kasWp (cmp key N) Q s := by
  unfold kas_descPart
  rw [KasT.kasWp_bind]
  refine desc_ok (N - (n + 1)) p (n + 1) 0 hp (by omega) (by omega) hs (by omega) (fun i h2 h3 => ?_) fun p' m q' hp' h2 h3 h4 h5 h6 => ?_
  · have : i = n := by omega
    subst this; rfl
  · dsimp only
    by_cases hq : q' > 0
    · rw [if_pos hq]
      exact tail3_ok (hp'.rev _ _) (by omega) (by omega) (nonInc_congr h4 (kk_rev_equal (by rw [hp'.size]; omega) h6)) h
    · rw [if_neg hq]
      exact tail3_ok hp' (by omega) (by omega) h4 h
theorem count_ok {p : Array Nat} (hp : Pm N p) (h1 : 1 ≤ N) {Q : Nat × Array Nat → Shared → Prop}
    (h : ∀ m p', Pm N p' → 1 ≤ m → m ≤ N → SortedP key p' m → Q (m, p') s) : (kas_count N p).kasWp (cmp key N) Q s := by
  unfold kas_count
  rw [KasT.kasWp_bind]
  refine asc_ok hp (N - 1) 1 (Nat.le_refl _) (by omega) (fun i j hij hj => ?_) fun n h2 h3 hs hor => ?_
  · have : i = j := by omega
    subst this; exact KeyOrd.kle_refl _
  · by_cases hnn : (n == N) = true
    · rw [if_pos hnn]
      exact h n p hp (by omega) (by omega) hs
    · rw [if_neg hnn]
      have hne : n ≠ N := by simpa using hnn
      have hlt : O.klt (kk key p n) (kk key p (n - 1)) := by
        rcases hor with h4 | h4
        · omega
        · exact h4
      by_cases hn1 : n > 1
      · rw [if_pos hn1]
        show cmp key N _ _ _ s
        refine ⟨hp.get (by omega), hp.get (by omega), ?_⟩
        show KasT.kasWp _ (if O.blt (kk key p 0) (kk key p (n - 1)) = true then _ else _) Q s
        by_cases hc : O.blt (kk key p 0) (kk key p (n - 1)) = true
        · rw [if_pos hc]
          exact h n p hp (by omega) (by omega) hs
        · rw [if_neg hc]
          have hall : ∀ i, 0 ≤ i → i < n → kk key p i = kk key p (n - 1) := fun i _ hi => by
            refine KeyOrd.kle_antisymm (hs i (n - 1) (by omega) (by omega)) ?_
            exact KeyOrd.kle_trans (KeyOrd.kle_of_not_klt hc) (hs 0 i (by omega) hi)
          have e : ∀ k, kk key (kas_rev p 0 n) k = kk key p k := kk_rev_equal (by rw [hp.size]; omega) hall
          refine descPart_ok (hp.rev _ _) (by omega) (nonInc_congr (nonInc_snoc (by omega) (fun i j hij hj => ?_) (KeyOrd.kle_of_klt hlt)) e) h
          rw [hall i (by omega) (by omega), hall j (by omega) hj]; exact KeyOrd.kle_refl _
      · rw [if_neg hn1]
        have : n = 1 := by omega
        subst this
        refine descPart_ok hp (by omega) (nonInc_snoc (by omega) (fun i j hij hj => ?_) (KeyOrd.kle_of_klt hlt)) h
        have : i = j := by omega
        subst this; exact KeyOrd.kle_refl _
theorem place_ok {p : Array Nat} (hp : Pm N p) {k : Nat} (hk : k < N) (hs : SortedP key p k) {Q : Nat → Shared → Prop}
    (h : ∀ l, l ≤ k → (∀ i, i < l → O.kle (kk key p i) (kk key p k)) → (∀ i, l ≤ i → i < k → O.klt (kk key p k) (kk key p i)) → Q l s) : ∀ (f l r : Nat), l ≤ r → r ≤ k → r - l ≤ f →
    (∀ i, i < l → O.kle (kk key p i) (kk key p k)) → (∀ i, r ≤ i → i < k → O.klt (kk key p k) (kk key p i)) → (kas_place p k f l r).kasWp (cmp key N) Q s
  | 0, l, r, hlr, hr, hf, hlo, hhi => by
    have : l = r := by omega
    subst this
    exact h l hr hlo hhi
  | f + 1, l, r, hlr, hr, hf, hlo, hhi => by
    unfold kas_place
    by_cases hge : l ≥ r
    · rw [if_pos hge]
      have : l = r := by omega
      subst this
      exact h l hr hlo hhi
    · rw [if_neg hge]
      show cmp key N _ _ _ s
      refine ⟨hp.get (by omega), hp.get (by omega), ?_⟩
      show KasT.kasWp _ (if O.blt (kk key p k) (kk key p ((l + r) / 2)) = true then _ else _) Q s
      by_cases hc : O.blt (kk key p k) (kk key p ((l + r) / 2)) = true
      · rw [if_pos hc]
        exact place_ok hp hk hs h f l ((l + r) / 2) (by omega) (by omega) (by omega) hlo fun i h1 h2 => KeyOrd.klt_of_klt_of_kle hc (hs _ _ h1 h2)
      · rw [if_neg hc]
        exact place_ok hp hk hs h f ((l + r) / 2 + 1) r (by omega) (by omega) (by omega) (fun i h1 => KeyOrd.kle_trans (hs i ((l + r) / 2) (by omega) (by omega)) (KeyOrd.kle_of_not_klt hc)) hhi
theorem bin_ok {Q : Array Nat → Shared → Prop} (h : ∀ p', Pm N p' → SortedP key p' N → Q p' s) : ∀ (f : Nat) (p : Array Nat) (k : Nat), Pm N p → k + f = N → SortedP key p k → (kas_bin f p k).kasWp (cmp key N) Q s
  | 0, p, k, hp, hk, hs => h p hp (by have : k = N := by omega
                                      rw [this] at hs; exact hs)
  | f + 1, p, k, hp, hk, hs => by
    unfold kas_bin
    rw [KasT.kasWp_bind]
    refine place_ok hp (by omega) hs (fun l hl hlo hhi => ?_) k 0 k (by omega) (by omega) (by omega) (fun i hi => by omega) (fun i h1 h2 => by omega)
    refine bin_ok h f _ (k + 1) (hp.bub _ _) (by omega) ?_
    have hks : k < p.size := by rw [hp.size]; omega
    intro i j hij hj
    rw [kk_bub hks (by omega), kk_bub hks (by omega), show k - (k - l) = l by omega]
    repeat' split
    all_goals first
      | (exfalso; omega)
      | exact KeyOrd.kle_refl _
      | exact hlo _ (by omega)
      | exact KeyOrd.kle_of_klt (hhi _ (by omega) (by omega))
      | exact hs _ _ (by omega) (by omega)
theorem sort_ok (h1 : 1 ≤ N) {Q : Array Nat → Shared → Prop} (h : ∀ p, Pm N p → SortedP key p N → Q p s) : (kas_sort N).kasWp (cmp key N) Q s := by
  unfold kas_sort
  rw [KasT.kasWp_bind]
  refine count_ok (show Pm N (List.toArray (List.range N)) from Array.Perm.refl _) h1 fun m p hp h2 h3 hs => ?_
  dsimp only
  by_cases hm : m < N
  · rw [if_pos hm]
    refine bin_ok h _ _ _ hp (by omega) ?_
    rw [show max m 1 = m by omega]; exact hs
  · rw [if_neg hm]
    have : m = N := by omega
    subst this
    exact h p hp hs
/-- another way to ask -/
theorem wp_map {α : Type} {cmp₁ cmp₂ : Nat → Nat → (Bool → Shared → Prop) → Shared → Prop} (hc : ∀ i j (C C' : Bool → Shared → Prop) s, (∀ b s', C b s' → C' b s') → cmp₁ i j C s → cmp₂ i j C' s) {Q : α → Shared → Prop} : ∀ (t : KasT α) (s : Shared), t.kasWp cmp₁ Q s → t.kasWp cmp₂ Q s
  | .ret _, _, h => h
  | .ask _ _ k, _, h => hc _ _ _ _ _ (fun b s' h' => wp_map hc (k b) s' h') h
end Srt
end

section
/-! sorted, of few -/
section
variable {prog : Program} {w : World} {A : Around} {E : Value → Shared → Prop} {s : Shared}
theorem few_sort {a : Addr} {vs : List Value} {n : Nat} {P : PySem.Fin → Shared → Prop} (ho : s.heap.get? a = some (seqObj "list" vs.toArray n)) (hs : vs.length < 2)
    (h : P (.done (.ret .none)) { s with heap := sortedHeap s.heap a vs vs.toArray }) : wpAny (model prog w) A (Builtin.«list.sort» ⟨[.ref a], []⟩) P E s := by
  have lt : a < s.heap.objs.size := Heap.lt_size ho
  have small : vs.toArray.size < 2 := by simpa using hs
  rw [list_sort_plain]
  refine wpAny_bind (listItems_at ho rfl (wpAny_bind (listUpdate_at ho rfl ?_)))
  obtain ⟨e, he⟩ : ∃ e, (s.heap.update a (Obj.mapSeq fun _ => #[])).get? a = some (seqObj "list" #[] e) := ⟨_, get?_update_seq ho fun _ => #[]⟩
  refine wpAny_bind (seqEpoch_at he rfl (wpAny_bind (wpAny_newTuple (wpAny_bind (wpAny_newList (wpAny_holding ?_))))))
  have he' : (((s.heap.update a (Obj.mapSeq fun _ => #[])).push (seqObj "tuple" vs.toArray 0)).push (seqObj "list" #[] 0)).get? a = some (seqObj "list" #[] e) := Heap.get?_push_of_some _ (Heap.get?_push_of_some _ he)
  show wpAny (model prog w) A _ P E { s with heap := ((s.heap.update a (Obj.mapSeq fun _ => #[])).push (seqObj "tuple" vs.toArray 0)).push (seqObj "list" #[] 0) }
  dsimp only
  rw [if_pos small, if_pos small]
  refine wpAny_bind (wpAny_pure ?_)
  rw [StateT.run_pure]
  refine wpAny_bind (wpAny_pure ?_)
  dsimp only
  have out : (arrOf (SortSt.mk' general' (vs.toArray.zip vs.toArray) #[] 7 none)).map (·.2) = vs.toArray := by
    show (vs.toArray.zip vs.toArray).map (·.2) = vs.toArray
    apply Array.toList_inj.mp
    simp [List.map_snd_zip]
  rw [out]
  refine wpAny_bind (seqEpoch_at he' rfl (wpAny_bind (listUpdate_at he' rfl ?_ (hsz2 := by rw [sizeLine_eq]; omega))))
  simp only [bne_self_eq_false, Bool.false_eq_true, if_false]
  exact wpAny_pure h
theorem few_sorted {l : Addr} {vs : List Value} {Q : Value → Shared → Prop} (hl : s.heap.IsList l vs.toArray) (hs : vs.length < 2) (h : Q (.ref (s.heap.objs.size + 1)) { s with heap := sortedAll s.heap vs vs.toArray }) :
    wpAny (model prog w) A (call (.builtin "sorted") [.ref l]) Q E s := by
  have hz : vs.toArray.size ≤ sizeLine := by rw [List.size_toArray, sizeLine_eq]; omega
  refine Calls.call_function_entry kind_sorted plain_sorted entry_sorted (args_sorted1 _) ?_
  unfold Builtin.«sorted»
  refine wpAny_bind (m := checkCount "sorted" 1 1 _) (wpAny_pure (wpAny_bind (collect_list hl (wpAny_bind (wpAny_newList ?_ (by simpa using hz))) hz)))
  have sz : ((s.heap.push (seqObj "list" #[] 0)).update s.heap.objs.size (Obj.mapSeq (· ++ vs.toArray))).objs.size = s.heap.objs.size + 1 := by rw [Heap.size_update, size_push']
  have at_ : (((s.heap.push (seqObj "list" #[] 0)).update s.heap.objs.size (Obj.mapSeq (· ++ vs.toArray))).push (seqObj "list" vs.toArray 0)).get? (s.heap.objs.size + 1) = some (seqObj "list" vs.toArray 0) := by
    rw [← sz]; exact Heap.get?_push_size _ rfl
  show wpAny _ _ _ _ _ { s with heap := ((s.heap.push (seqObj "list" #[] 0)).update s.heap.objs.size (Obj.mapSeq (· ++ vs.toArray))).push (seqObj "list" vs.toArray 0) }
  rw [sz]
  exact wpAny_bind (wpAny_holding (wpAny_call_entry slot_list_sort ⟨_, at_, rfl⟩ entry_list_sort (few_sort at_ hs ⟨_, rfl, wpAny_pure ⟨_, rfl, h⟩⟩) (args_list_sort _)))
end
/-! an order of pairs -/
noncomputable def lexO (A B : KeyOrd) : KeyOrd where
  α := A.α × B.α
  blt x y := A.blt x.1 y.1 || (!A.blt y.1 x.1 && B.blt x.2 y.2)
  irrefl x := by simp [A.irrefl, B.irrefl]
  trans x y z h1 h2 := by
    simp only [Bool.or_eq_true, Bool.and_eq_true, Bool.not_eq_true'] at h1 h2 ⊢
    rcases h1 with h1 | ⟨h1, h1'⟩
    · rcases h2 with h2 | ⟨h2, _⟩
      · exact .inl (A.trans _ _ _ h1 h2)
      · exact .inl (KeyOrd.klt_of_klt_of_kle h1 h2)
    · rcases h2 with h2 | ⟨h2, h2'⟩
      · exact .inl (KeyOrd.klt_of_kle_of_klt h1 h2)
      · exact .inr ⟨KeyOrd.kle_trans h1 h2, B.trans _ _ _ h1' h2'⟩
  negTrans x y z h := by
    simp only [Bool.or_eq_true, Bool.and_eq_true, Bool.not_eq_true'] at h ⊢
    by_cases a : A.blt x.1 y.1 = true
    · exact .inl (.inl a)
    · by_cases b : A.blt y.1 z.1 = true
      · exact .inr (.inl b)
      · have a' : A.kle y.1 x.1 := KeyOrd.kle_of_not_klt a
        have b' : A.kle z.1 y.1 := KeyOrd.kle_of_not_klt b
        have zx : A.kle z.1 x.1 := KeyOrd.kle_trans b' a'
        rcases h with h | ⟨h, h'⟩
        · exact absurd (show A.blt x.1 z.1 = false from zx) (by rw [h]; simp)
        · have xz : A.kle x.1 z.1 := h
          rcases B.negTrans _ y.2 _ h' with h2 | h2
          · exact .inl (.inr ⟨KeyOrd.kle_trans xz b', h2⟩)
          · exact .inr (.inr ⟨KeyOrd.kle_trans a' xz, h2⟩)
  total x y h1 h2 := by
    simp only [Bool.or_eq_false_iff, Bool.and_eq_false_iff, Bool.not_eq_false'] at h1 h2
    have e1 : x.1 = y.1 := A.total _ _ h1.1 h2.1
    have e2 : x.2 = y.2 := B.total _ _ (h1.2.resolve_left (by rw [h2.1]; simp)) (h2.2.resolve_left (by rw [h1.1]; simp))
    exact Prod.ext e1 e2
@[reducible] noncomputable def intO : KeyOrd where
  α := Int
  blt a b := decide (a < b)
  irrefl a := by simp
  trans a b c h1 h2 := by simp only [decide_eq_true_eq] at *; omega
  negTrans a b c h := by simp only [decide_eq_true_eq] at *; omega
  total a b h1 h2 := by simp only [decide_eq_false_iff_not] at *; omega
noncomputable abbrev Qd := Str × Int × Int × Int
noncomputable def qdD (q : Qd) : D := .tup [.str q.1, .int q.2.1, .int q.2.2.1, .int q.2.2.2]
noncomputable def qdO : KeyOrd := lexO strKind.toKeyOrd (lexO intO (lexO intO intO))
noncomputable def qdK (q : Qd) : qdO.α := (q.1.cps.toList, q.2.1, q.2.2.1, q.2.2.2)
theorem qdK_inj {q r : Qd} (h : qdK q = qdK r) : q = r := by
  have h' : ((q.1.cps.toList, q.2.1, q.2.2.1, q.2.2.2) : List Nat × Int × Int × Int) = (r.1.cps.toList, r.2.1, r.2.2.1, r.2.2.2) := h
  obtain ⟨⟨a⟩, x, y, z⟩ := q
  obtain ⟨⟨a'⟩, x', y', z'⟩ := r
  simp only [Prod.mk.injEq, Array.toList_inj] at h'
  obtain ⟨rfl, rfl, rfl, rfl⟩ := h'
  rfl
noncomputable def qdLe (q r : Qd) : Prop := qdO.kle (qdK q) (qdK r)
section
variable {c : Cx} {k : Nat} {ρ : Rho} {σ : Sg}
/-- all that stands, as a ledger -/
theorem Rl.stands {ck : List Str} {l : Loc ck} {P : Know} {h : Heap} (R : Rl c l ρ σ P h) (L : Addr) :
    ∃ rest, News c.h₀ L h rest ∧ ∀ b p, b ≠ L → h.get? b = some p → c.h₀.get? b = some p ∨ (b, p) ∈ rest := by
  classical
  let pick : Nat → Option (Addr × Obj) := fun b => if b = L then none else match h.get? b, c.h₀.get? b with
    | some p, none => some (b, p)
    | _, _ => none
  have hpick : ∀ b q, pick b = some q → q.1 = b ∧ b ≠ L ∧ h.get? b = some q.2 ∧ c.h₀.get? b = none := by
    intro b q e
    simp only [pick] at e
    split at e
    · cases e
    · rename_i hb
      split at e
      · rename_i p e1 e2
        cases e
        exact ⟨rfl, hb, e1, e2⟩
      · cases e
  refine ⟨(List.range h.objs.size).filterMap pick, ?_, ?_⟩
  · intro p hp
    obtain ⟨b, _, e⟩ := List.mem_filterMap.mp hp
    obtain ⟨h1, h2, h4, h5⟩ := hpick b p e
    rw [h1]
    exact ⟨h4, h2, h5⟩
  · intro b p hb e
    cases e' : c.h₀.get? b with
    | some q =>
      have := R.old b q e'
      rw [e] at this
      cases this
      exact .inl rfl
    | none =>
      refine .inr (List.mem_filterMap.mpr ⟨b, List.mem_range.mpr (Heap.lt_size e), ?_⟩)
      simp only [pick]
      rw [if_neg hb, e, e']
theorem VR.quad {P : Know} {h : Heap} (H : ∀ a o, P a o → Imm o → h.get? a = some o) {v : Value} {q : Qd} (hv : VR c P v (qdD q)) :
    ∃ a n x1 x2 x3 t1 t2 t3 t4, v = .ref a ∧ h.get? a = some { cls := .type "tuple", data := .seq (List.toArray [.str q.1 t1, .int x1 t2, .int x2 t3, .int x3 t4]) n } ∧ x1 = q.2.1 ∧ x2 = q.2.2.1 ∧ x3 = q.2.2.2 := by
  obtain ⟨a, _, n, rfl, ht, hvs⟩ := hv.isTup
  obtain ⟨v1, _, rfl, h1, r1⟩ := hvs.isCons
  obtain ⟨t1, rfl⟩ := h1.isStr
  obtain ⟨v2, _, rfl, h2, r2⟩ := r1.isCons
  obtain ⟨t2, rfl⟩ := h2.isInt
  obtain ⟨v3, _, rfl, h3, r3⟩ := r2.isCons
  obtain ⟨t3, rfl⟩ := h3.isInt
  obtain ⟨v4, _, rfl, h4, r4⟩ := r3.isCons
  obtain ⟨t4, rfl⟩ := h4.isInt
  obtain rfl := r4.isNil
  exact ⟨_, _, _, _, _, _, _, _, _, rfl, H _ _ ht rfl, rfl, rfl, rfl⟩
theorem VRs.quads {P : Know} {h : Heap} (H : ∀ a o, P a o → Imm o → h.get? a = some o) {vs : List Value} {qs : List Qd} (hv : VRs c P vs (qs.map qdD)) {i : Nat} (hi : i < qs.length) :
    ∃ a n x1 x2 x3 t1 t2 t3 t4, vs.getD i Value.none = .ref a ∧ h.get? a = some { cls := .type "tuple", data := .seq (List.toArray [.str (qs[i]).1 t1, .int x1 t2, .int x2 t3, .int x3 t4]) n } ∧ x1 = (qs[i]).2.1 ∧ x2 = (qs[i]).2.2.1 ∧ x3 = (qs[i]).2.2.2 := by
  obtain ⟨v, e, r⟩ := hv.get (i := i) (d := qdD qs[i]) (by rw [List.getElem?_map, List.getElem?_eq_getElem hi]; rfl)
  rw [List.getD_eq_getElem?_getD, e]
  exact r.quad H
theorem VRs.firsts {P : Know} {h : Heap} (H : ∀ a o, P a o → Imm o → h.get? a = some o) : ∀ (qs : List Qd) (vs : List Value), VRs c P vs (qs.map qdD) → ∃ fs, KatTups h vs fs ∧ fs.length = qs.length ∧ ∀ v ∈ fs, ∃ x t, v = Value.str x t := by
  intro qs
  induction qs with
  | nil => intro vs hv; obtain rfl := hv.isNil; exact ⟨[], KatTups.nil, rfl, fun _ hv => nomatch hv⟩
  | cons q qs ih =>
    intro vs hv
    obtain ⟨v, us, rfl, hq, r⟩ := hv.isCons
    obtain ⟨fs, h1, h2, h3⟩ := ih us r
    obtain ⟨a, _, n, rfl, ht, hvs⟩ := hq.isTup
    obtain ⟨v1, _, rfl, e1, r1⟩ := hvs.isCons
    obtain ⟨t, rfl⟩ := e1.isStr
    exact ⟨Value.str _ t :: fs, KatTups.cons (H _ _ ht rfl) rfl rfl rfl h1, congrArg Nat.succ h2, fun v hv => (List.mem_cons.mp hv).elim (fun e => ⟨_, _, e⟩) (h3 v)⟩
theorem lt_quad {A : Around} {E : Value → Shared → Prop} {s : Shared} {a b : Addr} {n n' : Nat} {x y : Str} {x1 x2 x3 y1 y2 y3 : Int} {t1 t2 t3 t4 u1 u2 u3 u4 : Tok} {Q : Bool → Shared → Prop}
    (ha : s.heap.get? a = some { cls := .type "tuple", data := .seq (List.toArray [.str x t1, .int x1 t2, .int x2 t3, .int x3 t4]) n }) (hb : s.heap.get? b = some { cls := .type "tuple", data := .seq (List.toArray [.str y u1, .int y1 u2, .int y2 u3, .int y3 u4]) n' })
    (q : Q (qdO.blt (qdK (x, x1, x2, x3)) (qdK (y, y1, y2, y3))) s) : wpAny (model c.prog c.w) A (keyLt' (tuples' true) (.ref a) (.ref b)) Q E s := by
  have e : qdO.blt (qdK (x, x1, x2, x3)) (qdK (y, y1, y2, y3)) = (decide (x.cps.toList < y.cps.toList) || (!decide (y.cps.toList < x.cps.toList) && (decide (x1 < y1) || (!decide (y1 < x1) && (decide (x2 < y2) || (!decide (y2 < x2) && decide (x3 < y3))))))) := rfl
  rw [e] at q
  refine kat_lt ha rfl hb rfl ?_
  show KatLex c.prog c.w A true _ Q [(.str x t1, .str y u1), (.int x1 t2, .int y1 u2), (.int x2 t3, .int y2 u3), (.int x3 t4, .int y3 u4)] 0 s
  refine kat_cons (wpAny_eqBool_str ?_)
  by_cases h1 : x = y
  · rw [decide_eq_true h1]
    subst h1
    simp only [List.lt_irrefl, decide_false, Bool.false_or, Bool.not_false, Bool.true_and] at q
    refine kat_yes (kat_cons (wpAny_eqBool_int ?_))
    by_cases h2 : x1 = y1
    · subst h2
      simp only [Int.lt_irrefl, decide_false, Bool.false_or, Bool.not_false, Bool.true_and] at q
      rw [beq_self_eq_true]
      refine kat_yes (kat_cons (wpAny_eqBool_int ?_))
      by_cases h3 : x2 = y2
      · subst h3
        simp only [Int.lt_irrefl, decide_false, Bool.false_or, Bool.not_false, Bool.true_and] at q
        rw [beq_self_eq_true]
        refine kat_yes (kat_cons (wpAny_eqBool_int ?_))
        by_cases h4 : x3 = y3
        · subst h4
          simp only [Int.lt_irrefl, decide_false] at q
          rw [beq_self_eq_true]
          exact kat_yes (kat_nil q)
        · rw [beq_false_of_ne h4]
          exact kat_no (kat_one _ _ (PyProof.Rows.lt_int q))
      · have e3 : (decide (x2 < y2) || (!decide (y2 < x2) && decide (x3 < y3))) = decide (x2 < y2) := by
          by_cases h : x2 < y2
          · simp [h]
          · have : y2 < x2 := by omega
            simp [h, this]
        rw [e3] at q
        rw [beq_false_of_ne h3]
        exact kat_no (kat_one _ _ (PyProof.Rows.lt_int q))
    · have e2 : (decide (x1 < y1) || (!decide (y1 < x1) && (decide (x2 < y2) || (!decide (y2 < x2) && decide (x3 < y3))))) = decide (x1 < y1) := by
        by_cases h : x1 < y1
        · simp [h]
        · have : y1 < x1 := by omega
          simp [h, this]
      rw [e2] at q
      rw [beq_false_of_ne h2]
      exact kat_no (kat_one _ _ (PyProof.Rows.lt_int q))
  · rw [decide_eq_false h1]
    have e1 : (decide (x.cps.toList < y.cps.toList) || (!decide (y.cps.toList < x.cps.toList) && (decide (x1 < y1) || (!decide (y1 < x1) && (decide (x2 < y2) || (!decide (y2 < x2) && decide (x3 < y3))))))) = decide (x.cps.toList < y.cps.toList) := by
      by_cases h : x.cps.toList < y.cps.toList
      · simp [h]
      · have : y.cps.toList < x.cps.toList := by
          rcases Classical.em (y.cps.toList < x.cps.toList) with h' | h'
          · exact h'
          · exfalso
            apply h1
            have := List.le_antisymm (List.not_lt.mp h') (List.not_lt.mp h)
            obtain ⟨a⟩ := x
            obtain ⟨b⟩ := y
            simp only [Array.toList_inj] at this
            rw [this]
        simp [h, this]
    rw [e1] at q
    exact kat_no (oneLt_str q)
theorem wp_ask {O : KeyOrd} {key : Nat → O.α} {N : Nat} {s : Shared} {α : Type} {cmp₂ : Nat → Nat → (Bool → Shared → Prop) → Shared → Prop} (hc : ∀ i j (C : Bool → Shared → Prop), i < N → j < N → C (O.blt (key i) (key j)) s → cmp₂ i j C s) {Q : α → Shared → Prop} :
    ∀ (t : KasT α), t.kasWp (Srt.cmp key N) Q s → t.kasWp cmp₂ Q s
  | .ret _, h => h
  | .ask _ _ k, ⟨h1, h2, h3⟩ => hc _ _ _ h1 h2 (wp_ask hc (k _) h3)
theorem VRs.getD {P : Know} {vs : List Value} {ds : List D} (h : VRs c P vs ds) {i : Nat} (hi : i < ds.length) : VR c P (vs.getD i Value.none) ds[i] := by
  obtain ⟨v, e, hv⟩ := h.get (List.getElem?_eq_getElem hi)
  rw [List.getD_eq_getElem?_getD, e]
  exact hv
theorem VRs.ofMap {P : Know} {vs : List Value} {qs : List Qd} (h : VRs c P vs (qs.map qdD)) (d : Qd) : ∀ (l : List Nat), (∀ i ∈ l, i < qs.length) → VRs c P (l.map fun i => vs.getD i Value.none) ((l.map fun i => qs.getD i d).map qdD)
  | [], _ => .nil
  | i :: l, hl => by
    have hi := hl i (.head _)
    refine .cons ?_ (VRs.ofMap h d l fun j hj => hl j (.tail _ hj))
    have := h.getD (i := i) (by rw [List.length_map]; exact hi)
    rw [List.getElem_map] at this
    show VR c P _ (qdD (qs.getD i d))
    rw [List.getD_eq_getElem?_getD, List.getElem?_eq_getElem hi]
    exact this
theorem cl_sorted {l : Addr} {qs : List Qd} {Q : D → Sg → Prop} (e : σ l = some (.lst (qs.map qdD))) (hz : qs.length < 64) (q : ∀ (n : Addr) (qs' : List Qd), σ n = none → qs'.Perm qs → qs'.Pairwise qdLe → Q (.raw (.ref n)) (upd σ n (.lst (qs'.map qdD)))) :
    Cl c k σ (.builtin "sorted") [.raw (.ref l)] Q := by
  refine Cl.r fun A ck L ρ P s g R => ?_
  obtain ⟨us, hl, hv⟩ := R.isList e
  have hlen : us.length = qs.length := by rw [hv.length, List.length_map]
  by_cases h2 : us.length < 2
  · refine few_sorted hl.isList h2 ?_
    obtain ⟨ep, he⟩ := sortedAll_at s.heap us us.toArray
    have new : ∀ o, s.heap.get? (s.heap.objs.size + 1) ≠ some o := fun o x => absurd (Heap.lt_size x) (Nat.not_lt.mpr (Nat.le_succ _))
    have hn : σ (s.heap.objs.size + 1) = none := by
      cases x : σ (s.heap.objs.size + 1) with
      | none => rfl
      | some O => exact absurd (R.alive x) (Nat.not_lt.mpr (Nat.le_succ _))
    refine ⟨P, _, _, ⟨fun _ _ x => x, R.set (fun b p _ x => sortedAll_old x) he (O := .lst (qs.map qdD)) ⟨us, ep, rfl, hv⟩ (fun x => ?_) (fun o x => new o (R.froz _ _ x)) (Nat.le_trans R.above (Nat.le_of_lt (Nat.lt_succ_of_lt R.ltL))), ⟨_, s.toks, rfl⟩⟩, .raw _, q _ qs hn (List.Perm.refl _) ?_⟩
    · obtain ⟨o, ho, _⟩ := R.objAt x
      exact new o ho
    · match qs, hlen with
      | [], _ => exact .nil
      | [_], _ => exact List.pairwise_singleton _ _
      | _ :: _ :: _, hlen => simp at hlen; omega
  · obtain ⟨m, Fr, hm⟩ := R.fr
    obtain ⟨rest, N, hall⟩ := R.stands L.L
    have h2' : 2 ≤ us.length := by omega
    refine kat_sorted Fr N hl.isList h2' (by rw [hlen]; exact hz) fun D' e1 h' F' N' hlt => ?_
    have hDr : ∀ p ∈ rest, p.1 ≠ D' := fun p hp => Nat.ne_of_lt (hlt p hp)
    have keep : ∀ b p, b ≠ L.L → s.heap.get? b = some p → h'.get? b = some p := fun b p hbL hbp => by
      rcases hall b p hbL hbp with h0 | h0
      · exact F'.keep _ _ h0
      · exact (N' _ (.tail _ h0)).1
    have H : ∀ a o, P a o → Imm o → h'.get? a = some o := fun a o x _ => keep a o (fun y => (R.own L.L (.head _)).2 o (y ▸ x)) (R.froz _ _ x)
    obtain ⟨fs, f1, f2, f3⟩ := hv.firsts H _ _
    refine kat_kind (T := .type "str") f1 (by rw [f2]; omega) (fun v hv' => ?_) rfl ?_
    · obtain ⟨x, t, rfl⟩ := f3 v hv'
      exact fun A Q E s _ hq => wpAny_pure hq
    show KasT.kasWp (kas_ask c.prog c.w A.in1.in1 (tuples' true) us) (kas_sort us.length) _ _
    rw [hlen]
    let d₀ : Qd := ("", 0, 0, 0)
    refine wp_ask (O := qdO) (key := fun i => qdK (qs.getD i d₀)) (N := qs.length) (fun i j C hi hj hC => ?_) _ (Srt.sort_ok (by omega) fun p hp hs => ?_)
    · obtain ⟨a, n, x1, x2, x3, t1, t2, t3, t4, ea, ga, rfl, rfl, rfl⟩ := hv.quads H hi
      obtain ⟨b, n', y1, y2, y3, u1, u2, u3, u4, eb, gb, rfl, rfl, rfl⟩ := hv.quads H hj
      have ei : qs.getD i d₀ = qs[i] := by rw [List.getD_eq_getElem?_getD, List.getElem?_eq_getElem hi]; rfl
      have ej : qs.getD j d₀ = qs[j] := by rw [List.getD_eq_getElem?_getD, List.getElem?_eq_getElem hj]; rfl
      simp only [ei, ej] at hC
      unfold kas_ask
      rw [ea, eb]
      exact lt_quad ga gb hC
    · refine KasFin.intro F' N' (UpdF.head hDr) fun h'' c' F'' N'' => ?_
      have nD := N' _ (.head _)
      have keep2 : ∀ b p, b ≠ D' → b ≠ L.L → s.heap.get? b = some p → h''.get? b = some p := fun b p hb hbL hbp => by
        rcases hall b p hbL hbp with h0 | h0
        · exact F''.keep _ _ h0
        · exact (N'' _ (.tail _ h0)).1
      have hno : ∀ o, s.heap.get? D' ≠ some o := fun o x => by
        rcases hall D' o nD.2.1 x with h0 | h0
        · rw [nD.2.2] at h0; cases h0
        · exact hDr _ h0 rfl
      have hDL : D' ∉ L.all := fun x => by
        obtain ⟨o, ho, _⟩ := R.objAt x
        exact hno o ho
      have hσ : σ D' = none := by
        cases x : σ D' with
        | none => rfl
        | some O =>
          obtain ⟨o, ho, _⟩ := R.objs _ _ x
          exact absurd ho (hno o)
      have M := hm Fr.ns h'' F''.ns fun a ha o x => keep2 a o (fun y => hDL (y ▸ .tail _ ha)) (fun y => (List.nodup_cons.mp R.nodup).1 (y ▸ ha)) x
      have hbig : c.h₀.objs.size ≤ D' := by
        obtain ⟨n, ho⟩ := hl
        have hlL : l ≠ L.L := fun y => R.notL e (y ▸ .head _)
        rcases hall l _ hlL ho with h0 | h0
        · exact absurd (R.base _ _ h0) (R.apart _ _ e _)
        · exact Nat.le_trans (R.high _ _ e) (Nat.le_of_lt (hlt _ h0))
      have hpl : ∀ i ∈ p.toList, i < qs.length := fun i hi => by
        have := (Array.perm_iff_toList_perm.mp hp).mem_iff.mp hi
        simpa using this
      let qs' : List Qd := p.toList.map fun i => qs.getD i d₀
      have R2 := R.setF (O := .lst (qs'.map qdD)) M (fun b o hb hbL hbp => keep2 b o hb (fun y => hbL (y ▸ .head _)) hbp) (N'' _ (.head _)).1 ⟨_, _, rfl, hv.ofMap d₀ p.toList hpl⟩ hDL (fun o x => hno o (R.froz _ _ x)) hbig
      refine ⟨P, _, _, ⟨fun _ _ x => x, R2, ⟨_, s.toks, rfl⟩⟩, .raw _, q _ qs' hσ ?_ ?_⟩
      · have e1 : qs'.Perm ((List.range qs.length).map fun i => qs.getD i d₀) := ((Array.perm_iff_toList_perm.mp hp).trans (by simp)).map _
        have e2 : ((List.range qs.length).map fun i => qs.getD i d₀) = qs := by
          apply List.ext_getElem
          · simp
          · intro i h1 h2
            simp [List.getD_eq_getElem?_getD, h2]
        rw [e2] at e1
        exact e1
      · refine List.pairwise_map.mpr (List.pairwise_iff_getElem.mpr fun i j hi hj hij => ?_)
        have hj' : j < qs.length := by rw [← hp.size]; simpa using hj
        have := hs i j (Nat.le_of_lt hij) hj'
        have hi2 : i < p.size := by simpa using hi
        have hj2 : j < p.size := by simpa using hj
        unfold Srt.kk at this
        simp only [Array.getD_eq_getD_getElem?, Array.getElem?_eq_getElem hi2, Array.getElem?_eq_getElem hj2, Option.getD_some] at this
        unfold qdLe
        simpa using this
end
end

section
set_option maxHeartbeats 8000000
open PySem.Challenge
/-! the head by hand: the text's view, the written part of the heap, the run of the top as one look of the kernel's -/
noncomputable def hdS (i : Nat) : Stmt := match pw_ok0009_01.main.body[i]? with
  | some s => s
  | none => .Break default
noncomputable def hdM (i j : Nat) : Stmt := match hdS i with
  | .ClassDef _ _ _ b _ _ _ _ _ _ _ => (match b[j]? with
    | some s => s
    | none => .Break default)
  | s => s
noncomputable def fdMk (s : Stmt) (n q : Str) (globals : Addr) (closure : List (Str × Addr)) (defaults kwdefaults doc pyModule : Value) (ann : Option Addr) (code tup : Value) (bl : Addr) : FuncData := match s with
  | .FunctionDef _ a b _ _ _ sc _ _ _ => ⟨n, q, a, .stmts b, sc, globals, closure, defaults, kwdefaults, doc, pyModule, ann, code, tup, bl⟩
  | _ => default
noncomputable def hdV : Program := { pw_ok0009_01 with main := { pw_ok0009_01.main with body := (pw_ok0009_01.main.body.drop 1).take 11 ++ pw_ok0009_01.main.body.drop 13 } }
noncomputable def hdD : DefRec := match hdS 22 with
  | .FunctionDef _ a b _ _ _ sc _ _ p => ⟨"law", a, b, sc, p⟩
  | _ => ⟨"law", default, [], default, default⟩
noncomputable def hdK : Params → Frag := fun P => [
  (2, (Obj.mk Value.none (Option.none) (Data.dict (List.toArray []) 0) (List.toArray []))),
  (3, (Obj.mk (Value.type "dict") (Option.none) (Data.dict (List.toArray [(DictEntry.mk (PyData.keyHash P "__name__") (Value.str "__name__" 165) (Value.str "law_ok0009_01" 297)), (DictEntry.mk (PyData.keyHash P "__doc__") (Value.str "__doc__" 166) Value.none), (DictEntry.mk (PyData.keyHash P "__package__") (Value.str "__package__" 167) Value.none), (DictEntry.mk (PyData.keyHash P "__loader__") (Value.str "__loader__" 168) (Value.builtin "__main__.__loader__#opaque")), (DictEntry.mk (PyData.keyHash P "__spec__") (Value.str "__spec__" 169) Value.none), (DictEntry.mk (PyData.keyHash P "__annotations__") (Value.str "__annotations__" 170) (Value.ref 6)), (DictEntry.mk (PyData.keyHash P "__builtins__") (Value.str "__builtins__" 171) (Value.ref 4)), (DictEntry.mk (PyData.keyHash P "__file__") (Value.str "__file__" 173) (Value.str "/claim/cut.py" 172)), (DictEntry.mk (PyData.keyHash P "__cached__") (Value.str "__cached__" 174) Value.none), (DictEntry.mk (PyData.keyHash P "READS") (Value.str "READS" 190) (Value.int 1 189)), (DictEntry.mk (PyData.keyHash P "WRITES") (Value.str "WRITES" 192) (Value.int 2 191)), (DictEntry.mk (PyData.keyHash P "UPDATES") (Value.str "UPDATES" 194) (Value.int 3 193)), (DictEntry.mk (PyData.keyHash P "operand_roles") (Value.str "operand_roles" 202) (Value.ref 21)), (DictEntry.mk (PyData.keyHash P "ends_arguments") (Value.str "ends_arguments" 210) (Value.ref 28)), (DictEntry.mk (PyData.keyHash P "Occupation") (Value.str "Occupation" 253) (Value.ref 52)), (DictEntry.mk (PyData.keyHash P "intervals") (Value.str "intervals" 259) (Value.ref 61)), (DictEntry.mk (PyData.keyHash P "wishes") (Value.str "wishes" 271) (Value.ref 68)), (DictEntry.mk (PyData.keyHash P "is_idle") (Value.str "is_idle" 279) (Value.ref 75)), (DictEntry.mk (PyData.keyHash P "peephole") (Value.str "peephole" 285) (Value.ref 80)), (DictEntry.mk (PyData.keyHash P "greatest") (Value.str "greatest" 296) (Value.ref 87)), (DictEntry.mk (PyData.keyHash P "_law_next") (Value.str "_law_next" 305) (Value.ref 94)), (DictEntry.mk (PyData.keyHash P "_law_head") (Value.str "_law_head" 318) (Value.ref 101)), (DictEntry.mk (PyData.keyHash P "_law_puts") (Value.str "_law_puts" 330) (Value.ref 108)), (DictEntry.mk (PyData.keyHash P "_law_places") (Value.str "_law_places" 336) (Value.ref 113)), (DictEntry.mk (PyData.keyHash P "_law_due") (Value.str "_law_due" 350) (Value.ref 120)), (DictEntry.mk (PyData.keyHash P "_law_lives_right") (Value.str "_law_lives_right" 356) (Value.ref 125)), (DictEntry.mk (PyData.keyHash P "_law_wishes_right") (Value.str "_law_wishes_right" 366) (Value.ref 132)), (DictEntry.mk (PyData.keyHash P "_law_real") (Value.str "_law_real" 378) (Value.ref 139)), (DictEntry.mk (PyData.keyHash P "_law_real_right") (Value.str "_law_real_right" 389) (Value.ref 146)), (DictEntry.mk (PyData.keyHash P "law") (Value.str "law" 401) (Value.ref 153))]) 30) (List.toArray []))),
  (15, (Obj.mk (Value.type "tuple") (Option.none) (Data.seq (List.toArray []) 0) (List.toArray []))),
  (17, (Obj.mk (Value.type "tuple") (Option.none) (Data.seq (List.toArray [(Value.str "instruction" 198), (Value.str "name" 199)]) 0) (List.toArray []))),
  (18, (Obj.mk (Value.type "tuple") (Option.none) (Data.seq (List.toArray []) 0) (List.toArray []))),
  (20, (Obj.mk (Value.type "code") (Option.none) (Data.fields (List.toArray [(Value.str "operand_roles" 195), (Value.str "operand_roles" 196), (Value.str "/claim/cut.py" 197), (Value.int 5 0), (Value.int 1 0), (Value.int 0 0), (Value.int 0 0), (Value.int 3 0), (Value.ref 15), (Value.bool Bool.true), (Value.int 181 0), (Value.ref 16), Value.none, (Value.ref 17), (Value.ref 18), (Value.ref 19), (Value.int 200 0), (Value.int 5 0), (Value.str "/claim/cut.py" 201)])) (List.toArray []))),
  (21, (Obj.mk (Value.type "function") (Option.none) (Data.func (fdMk (hdS 4) "operand_roles" "operand_roles" 3 [] Value.none Value.none Value.none (Value.str "clausemill.registers" 187) (Option.none) (Value.ref 20) Value.none 0)) (List.toArray []))),
  (22, (Obj.mk (Value.type "tuple") (Option.none) (Data.seq (List.toArray []) 0) (List.toArray []))),
  (24, (Obj.mk (Value.type "tuple") (Option.none) (Data.seq (List.toArray [(Value.str "instruction" 206), (Value.str "name" 207)]) 0) (List.toArray []))),
  (25, (Obj.mk (Value.type "tuple") (Option.none) (Data.seq (List.toArray []) 0) (List.toArray []))),
  (27, (Obj.mk (Value.type "code") (Option.none) (Data.fields (List.toArray [(Value.str "ends_arguments" 203), (Value.str "ends_arguments" 204), (Value.str "/claim/cut.py" 205), (Value.int 34 0), (Value.int 1 0), (Value.int 0 0), (Value.int 0 0), (Value.int 3 0), (Value.ref 22), (Value.bool Bool.true), (Value.int 181 0), (Value.ref 23), Value.none, (Value.ref 24), (Value.ref 25), (Value.ref 26), (Value.int 208 0), (Value.int 34 0), (Value.str "/claim/cut.py" 209)])) (List.toArray []))),
  (28, (Obj.mk (Value.type "function") (Option.none) (Data.func (fdMk (hdS 5) "ends_arguments" "ends_arguments" 3 [] Value.none Value.none Value.none (Value.str "clausemill.registers" 187) (Option.none) (Value.ref 27) Value.none 0)) (List.toArray []))),
  (36, (Obj.mk (Value.type "tuple") (Option.none) (Data.seq (List.toArray []) 0) (List.toArray []))),
  (38, (Obj.mk (Value.type "tuple") (Option.none) (Data.seq (List.toArray [(Value.str "self" 226), (Value.str "kind" 227), (Value.str "number" 228), (Value.str "start" 229), (Value.str "stop" 230)]) 0) (List.toArray []))),
  (39, (Obj.mk (Value.type "tuple") (Option.none) (Data.seq (List.toArray []) 0) (List.toArray []))),
  (41, (Obj.mk (Value.type "code") (Option.none) (Data.fields (List.toArray [(Value.str "__init__" 223), (Value.str "Occupation.__init__" 224), (Value.str "/claim/cut.py" 225), (Value.int 39 0), (Value.int 5 0), (Value.int 0 0), (Value.int 0 0), (Value.int 3 0), (Value.ref 36), (Value.bool Bool.true), (Value.int 181 0), (Value.ref 37), Value.none, (Value.ref 38), (Value.ref 39), (Value.ref 40), (Value.int 231 0), (Value.int 39 0), (Value.str "/claim/cut.py" 232)])) (List.toArray []))),
  (42, (Obj.mk (Value.type "function") (Option.none) (Data.func (fdMk (hdM 6 0) "__init__" "Occupation.__init__" 3 [] Value.none Value.none Value.none (Value.str "clausemill.registers" 187) (Option.none) (Value.ref 41) Value.none 0)) (List.toArray []))),
  (43, (Obj.mk (Value.type "tuple") (Option.none) (Data.seq (List.toArray []) 0) (List.toArray []))),
  (45, (Obj.mk (Value.type "tuple") (Option.none) (Data.seq (List.toArray [(Value.str "self" 237), (Value.str "other" 238)]) 0) (List.toArray []))),
  (46, (Obj.mk (Value.type "tuple") (Option.none) (Data.seq (List.toArray []) 0) (List.toArray []))),
  (48, (Obj.mk (Value.type "code") (Option.none) (Data.fields (List.toArray [(Value.str "overlaps" 234), (Value.str "Occupation.overlaps" 235), (Value.str "/claim/cut.py" 236), (Value.int 45 0), (Value.int 2 0), (Value.int 0 0), (Value.int 0 0), (Value.int 3 0), (Value.ref 43), (Value.bool Bool.true), (Value.int 181 0), (Value.ref 44), Value.none, (Value.ref 45), (Value.ref 46), (Value.ref 47), (Value.int 239 0), (Value.int 45 0), (Value.str "/claim/cut.py" 240)])) (List.toArray []))),
  (49, (Obj.mk (Value.type "function") (Option.none) (Data.func (fdMk (hdM 6 1) "overlaps" "Occupation.overlaps" 3 [] Value.none Value.none Value.none (Value.str "clausemill.registers" 187) (Option.none) (Value.ref 48) Value.none 0)) (List.toArray []))),
  (50, (Obj.mk (Value.type "tuple") (Option.none) (Data.seq (List.toArray [(Value.str "kind" 242), (Value.str "number" 243), (Value.str "start" 244), (Value.str "stop" 245)]) 0) (List.toArray []))),
  (51, (Obj.mk (Value.type "dict") (Option.none) (Data.dict (List.toArray [(DictEntry.mk (PyData.keyHash P "__module__") (Value.str "__module__" 218) (Value.str "clausemill.registers" 187)), (DictEntry.mk (PyData.keyHash P "__firstlineno__") (Value.str "__firstlineno__" 222) (Value.int 37 221)), (DictEntry.mk (PyData.keyHash P "__init__") (Value.str "__init__" 233) (Value.ref 42)), (DictEntry.mk (PyData.keyHash P "overlaps") (Value.str "overlaps" 241) (Value.ref 49)), (DictEntry.mk (PyData.keyHash P "__static_attributes__") (Value.str "__static_attributes__" 246) (Value.ref 50)), (DictEntry.mk (PyData.keyHash P "__dict__") (Value.str "__dict__" 248) (Value.ref 53)), (DictEntry.mk (PyData.keyHash P "__weakref__") (Value.str "__weakref__" 250) (Value.ref 54)), (DictEntry.mk (PyData.keyHash P "__doc__") (Value.str "__doc__" 251) Value.none)]) 4) (List.toArray []))),
  (52, (Obj.mk (Value.type "type") (Option.none) (Data.cls (ClassData.mk "Occupation" [(Value.type "object")] [(Value.ref 52), (Value.type "object")] 51 "Occupation" Bool.true [] [] Bool.false (Option.none) Bool.false)) (List.toArray [(Option.none), (Option.none), (Option.some (Value.str "Occupation" 211)), (Option.some (Value.str "Occupation" 219)), (Option.some (Value.builtin "object.__new__")), (Option.some (Value.bool Bool.true))]))),
  (53, (Obj.mk (Value.type "getset_descriptor") (Option.none) (Data.fields (List.toArray [(Value.str "__dict__" 247), (Value.ref 52), (Value.builtin "function.__dict__"), (Value.builtin "function.__dict__#set")])) (List.toArray []))),
  (54, (Obj.mk (Value.type "getset_descriptor") (Option.none) (Data.fields (List.toArray [(Value.str "__weakref__" 249), (Value.ref 52), (Value.builtin "ExceptionGroup.__weakref__"), Value.none])) (List.toArray []))),
  (57, (Obj.mk (Value.type "tuple") (Option.none) (Data.seq (List.toArray []) 0) (List.toArray []))),
  (60, (Obj.mk (Value.type "code") (Option.none) (Data.fields (List.toArray [(Value.str "intervals" 254), (Value.str "intervals" 255), (Value.str "/claim/cut.py" 256), (Value.int 47 0), (Value.int 2 0), (Value.int 0 0), (Value.int 0 0), (Value.int 3 0), (Value.ref 57), (Value.bool Bool.true), (Value.int 181 0), (Value.ref 58), Value.none, Value.none, Value.none, (Value.ref 59), (Value.int 257 0), (Value.int 47 0), (Value.str "/claim/cut.py" 258)])) (List.toArray []))),
  (61, (Obj.mk (Value.type "function") (Option.none) (Data.func (fdMk (hdS 7) "intervals" "intervals" 3 [] Value.none Value.none Value.none (Value.str "clausemill.registers" 187) (Option.none) (Value.ref 60) Value.none 0)) (List.toArray []))),
  (62, (Obj.mk (Value.type "tuple") (Option.none) (Data.seq (List.toArray []) 0) (List.toArray []))),
  (64, (Obj.mk (Value.type "tuple") (Option.none) (Data.seq (List.toArray [(Value.str "instrs" 263), (Value.str "table" 264), (Value.str "instruction" 265), (Value.str "name" 266), (Value.str "target" 267), (Value.str "source" 268)]) 0) (List.toArray []))),
  (65, (Obj.mk (Value.type "tuple") (Option.none) (Data.seq (List.toArray []) 0) (List.toArray []))),
  (67, (Obj.mk (Value.type "code") (Option.none) (Data.fields (List.toArray [(Value.str "wishes" 260), (Value.str "wishes" 261), (Value.str "/claim/cut.py" 262), (Value.int 78 0), (Value.int 1 0), (Value.int 0 0), (Value.int 0 0), (Value.int 3 0), (Value.ref 62), (Value.bool Bool.true), (Value.int 181 0), (Value.ref 63), Value.none, (Value.ref 64), (Value.ref 65), (Value.ref 66), (Value.int 269 0), (Value.int 78 0), (Value.str "/claim/cut.py" 270)])) (List.toArray []))),
  (68, (Obj.mk (Value.type "function") (Option.none) (Data.func (fdMk (hdS 8) "wishes" "wishes" 3 [] Value.none Value.none Value.none (Value.str "clausemill.registers" 187) (Option.none) (Value.ref 67) Value.none 0)) (List.toArray []))),
  (69, (Obj.mk (Value.type "tuple") (Option.none) (Data.seq (List.toArray []) 0) (List.toArray []))),
  (71, (Obj.mk (Value.type "tuple") (Option.none) (Data.seq (List.toArray [(Value.str "instruction" 275), (Value.str "name" 276)]) 0) (List.toArray []))),
  (72, (Obj.mk (Value.type "tuple") (Option.none) (Data.seq (List.toArray []) 0) (List.toArray []))),
  (74, (Obj.mk (Value.type "code") (Option.none) (Data.fields (List.toArray [(Value.str "is_idle" 272), (Value.str "is_idle" 273), (Value.str "/claim/cut.py" 274), (Value.int 95 0), (Value.int 1 0), (Value.int 0 0), (Value.int 0 0), (Value.int 3 0), (Value.ref 69), (Value.bool Bool.true), (Value.int 181 0), (Value.ref 70), Value.none, (Value.ref 71), (Value.ref 72), (Value.ref 73), (Value.int 277 0), (Value.int 95 0), (Value.str "/claim/cut.py" 278)])) (List.toArray []))),
  (75, (Obj.mk (Value.type "function") (Option.none) (Data.func (fdMk (hdS 9) "is_idle" "is_idle" 3 [] Value.none Value.none Value.none (Value.str "clausemill.registers" 187) (Option.none) (Value.ref 74) Value.none 0)) (List.toArray []))),
  (76, (Obj.mk (Value.type "tuple") (Option.none) (Data.seq (List.toArray []) 0) (List.toArray []))),
  (79, (Obj.mk (Value.type "code") (Option.none) (Data.fields (List.toArray [(Value.str "peephole" 280), (Value.str "peephole" 281), (Value.str "/claim/cut.py" 282), (Value.int 100 0), (Value.int 1 0), (Value.int 0 0), (Value.int 0 0), (Value.int 3 0), (Value.ref 76), (Value.bool Bool.true), (Value.int 181 0), (Value.ref 77), Value.none, Value.none, Value.none, (Value.ref 78), (Value.int 283 0), (Value.int 100 0), (Value.str "/claim/cut.py" 284)])) (List.toArray []))),
  (80, (Obj.mk (Value.type "function") (Option.none) (Data.func (fdMk (hdS 10) "peephole" "peephole" 3 [] Value.none Value.none Value.none (Value.str "clausemill.registers" 187) (Option.none) (Value.ref 79) Value.none 0)) (List.toArray []))),
  (81, (Obj.mk (Value.type "tuple") (Option.none) (Data.seq (List.toArray []) 0) (List.toArray []))),
  (83, (Obj.mk (Value.type "tuple") (Option.none) (Data.seq (List.toArray [(Value.str "instrs" 289), (Value.str "most" 290), (Value.str "instruction" 291), (Value.str "role" 292), (Value.str "operand" 293)]) 0) (List.toArray []))),
  (84, (Obj.mk (Value.type "tuple") (Option.none) (Data.seq (List.toArray []) 0) (List.toArray []))),
  (86, (Obj.mk (Value.type "code") (Option.none) (Data.fields (List.toArray [(Value.str "greatest" 286), (Value.str "greatest" 287), (Value.str "/claim/cut.py" 288), (Value.int 102 0), (Value.int 1 0), (Value.int 0 0), (Value.int 0 0), (Value.int 3 0), (Value.ref 81), (Value.bool Bool.true), (Value.int 181 0), (Value.ref 82), Value.none, (Value.ref 83), (Value.ref 84), (Value.ref 85), (Value.int 294 0), (Value.int 102 0), (Value.str "/claim/cut.py" 295)])) (List.toArray []))),
  (87, (Obj.mk (Value.type "function") (Option.none) (Data.func (fdMk (hdS 11) "greatest" "greatest" 3 [] Value.none Value.none Value.none (Value.str "clausemill.registers" 187) (Option.none) (Value.ref 86) Value.none 0)) (List.toArray []))),
  (88, (Obj.mk (Value.type "tuple") (Option.none) (Data.seq (List.toArray []) 0) (List.toArray []))),
  (90, (Obj.mk (Value.type "tuple") (Option.none) (Data.seq (List.toArray [(Value.str "tape" 302)]) 0) (List.toArray []))),
  (91, (Obj.mk (Value.type "tuple") (Option.none) (Data.seq (List.toArray []) 0) (List.toArray []))),
  (93, (Obj.mk (Value.type "code") (Option.none) (Data.fields (List.toArray [(Value.str "_law_next" 299), (Value.str "_law_next" 300), (Value.str "/claim/cut.py" 301), (Value.int 110 0), (Value.int 1 0), (Value.int 0 0), (Value.int 0 0), (Value.int 3 0), (Value.ref 88), (Value.bool Bool.true), (Value.int 181 0), (Value.ref 89), Value.none, (Value.ref 90), (Value.ref 91), (Value.ref 92), (Value.int 303 0), (Value.int 110 0), (Value.str "/claim/cut.py" 304)])) (List.toArray []))),
  (94, (Obj.mk (Value.type "function") (Option.none) (Data.func (fdMk (hdS 13) "_law_next" "_law_next" 3 [] Value.none Value.none Value.none (Value.str "law_ok0009_01" 297) (Option.none) (Value.ref 93) Value.none 0)) (List.toArray []))),
  (95, (Obj.mk (Value.type "tuple") (Option.none) (Data.seq (List.toArray []) 0) (List.toArray []))),
  (97, (Obj.mk (Value.type "tuple") (Option.none) (Data.seq (List.toArray [(Value.str "tape" 309), (Value.str "arity" 310), (Value.str "code" 311), (Value.str "number" 312), (Value.str "way" 313), (Value.str "own" 314), (Value.str "spot" 315)]) 0) (List.toArray []))),
  (98, (Obj.mk (Value.type "tuple") (Option.none) (Data.seq (List.toArray []) 0) (List.toArray []))),
  (100, (Obj.mk (Value.type "code") (Option.none) (Data.fields (List.toArray [(Value.str "_law_head" 306), (Value.str "_law_head" 307), (Value.str "/claim/cut.py" 308), (Value.int 115 0), (Value.int 3 0), (Value.int 0 0), (Value.int 0 0), (Value.int 3 0), (Value.ref 95), (Value.bool Bool.true), (Value.int 181 0), (Value.ref 96), Value.none, (Value.ref 97), (Value.ref 98), (Value.ref 99), (Value.int 316 0), (Value.int 115 0), (Value.str "/claim/cut.py" 317)])) (List.toArray []))),
  (101, (Obj.mk (Value.type "function") (Option.none) (Data.func (fdMk (hdS 14) "_law_head" "_law_head" 3 [] Value.none Value.none Value.none (Value.str "law_ok0009_01" 297) (Option.none) (Value.ref 100) Value.none 0)) (List.toArray []))),
  (102, (Obj.mk (Value.type "tuple") (Option.none) (Data.seq (List.toArray []) 0) (List.toArray []))),
  (104, (Obj.mk (Value.type "tuple") (Option.none) (Data.seq (List.toArray [(Value.str "tape" 322), (Value.str "code" 323), (Value.str "number" 324), (Value.str "way" 325), (Value.str "own" 326), (Value.str "spot" 327)]) 0) (List.toArray []))),
  (105, (Obj.mk (Value.type "tuple") (Option.none) (Data.seq (List.toArray []) 0) (List.toArray []))),
  (107, (Obj.mk (Value.type "code") (Option.none) (Data.fields (List.toArray [(Value.str "_law_puts" 319), (Value.str "_law_puts" 320), (Value.str "/claim/cut.py" 321), (Value.int 132 0), (Value.int 2 0), (Value.int 0 0), (Value.int 0 0), (Value.int 3 0), (Value.ref 102), (Value.bool Bool.true), (Value.int 181 0), (Value.ref 103), Value.none, (Value.ref 104), (Value.ref 105), (Value.ref 106), (Value.int 328 0), (Value.int 132 0), (Value.str "/claim/cut.py" 329)])) (List.toArray []))),
  (108, (Obj.mk (Value.type "function") (Option.none) (Data.func (fdMk (hdS 15) "_law_puts" "_law_puts" 3 [] Value.none Value.none Value.none (Value.str "law_ok0009_01" 297) (Option.none) (Value.ref 107) Value.none 0)) (List.toArray []))),
  (109, (Obj.mk (Value.type "tuple") (Option.none) (Data.seq (List.toArray []) 0) (List.toArray []))),
  (112, (Obj.mk (Value.type "code") (Option.none) (Data.fields (List.toArray [(Value.str "_law_places" 331), (Value.str "_law_places" 332), (Value.str "/claim/cut.py" 333), (Value.int 152 0), (Value.int 3 0), (Value.int 0 0), (Value.int 0 0), (Value.int 3 0), (Value.ref 109), (Value.bool Bool.true), (Value.int 181 0), (Value.ref 110), Value.none, Value.none, Value.none, (Value.ref 111), (Value.int 334 0), (Value.int 152 0), (Value.str "/claim/cut.py" 335)])) (List.toArray []))),
  (113, (Obj.mk (Value.type "function") (Option.none) (Data.func (fdMk (hdS 16) "_law_places" "_law_places" 3 [] Value.none Value.none Value.none (Value.str "law_ok0009_01" 297) (Option.none) (Value.ref 112) Value.none 0)) (List.toArray []))),
  (114, (Obj.mk (Value.type "tuple") (Option.none) (Data.seq (List.toArray []) 0) (List.toArray []))),
  (116, (Obj.mk (Value.type "tuple") (Option.none) (Data.seq (List.toArray [(Value.str "code" 340), (Value.str "arity" 341), (Value.str "found" 342), (Value.str "every" 343), (Value.str "number" 344), (Value.str "places" 345), (Value.str "at" 346), (Value.str "end" 347)]) 0) (List.toArray []))),
  (117, (Obj.mk (Value.type "tuple") (Option.none) (Data.seq (List.toArray []) 0) (List.toArray []))),
  (119, (Obj.mk (Value.type "code") (Option.none) (Data.fields (List.toArray [(Value.str "_law_due" 337), (Value.str "_law_due" 338), (Value.str "/claim/cut.py" 339), (Value.int 154 0), (Value.int 2 0), (Value.int 0 0), (Value.int 0 0), (Value.int 3 0), (Value.ref 114), (Value.bool Bool.true), (Value.int 181 0), (Value.ref 115), Value.none, (Value.ref 116), (Value.ref 117), (Value.ref 118), (Value.int 348 0), (Value.int 154 0), (Value.str "/claim/cut.py" 349)])) (List.toArray []))),
  (120, (Obj.mk (Value.type "function") (Option.none) (Data.func (fdMk (hdS 17) "_law_due" "_law_due" 3 [] Value.none Value.none Value.none (Value.str "law_ok0009_01" 297) (Option.none) (Value.ref 119) Value.none 0)) (List.toArray []))),
  (121, (Obj.mk (Value.type "tuple") (Option.none) (Data.seq (List.toArray []) 0) (List.toArray []))),
  (124, (Obj.mk (Value.type "code") (Option.none) (Data.fields (List.toArray [(Value.str "_law_lives_right" 351), (Value.str "_law_lives_right" 352), (Value.str "/claim/cut.py" 353), (Value.int 172 0), (Value.int 2 0), (Value.int 0 0), (Value.int 0 0), (Value.int 3 0), (Value.ref 121), (Value.bool Bool.true), (Value.int 181 0), (Value.ref 122), Value.none, Value.none, Value.none, (Value.ref 123), (Value.int 354 0), (Value.int 172 0), (Value.str "/claim/cut.py" 355)])) (List.toArray []))),
  (125, (Obj.mk (Value.type "function") (Option.none) (Data.func (fdMk (hdS 18) "_law_lives_right" "_law_lives_right" 3 [] Value.none Value.none Value.none (Value.str "law_ok0009_01" 297) (Option.none) (Value.ref 124) Value.none 0)) (List.toArray []))),
  (126, (Obj.mk (Value.type "tuple") (Option.none) (Data.seq (List.toArray []) 0) (List.toArray []))),
  (128, (Obj.mk (Value.type "tuple") (Option.none) (Data.seq (List.toArray [(Value.str "code" 360), (Value.str "told" 361), (Value.str "due" 362), (Value.str "parts" 363)]) 0) (List.toArray []))),
  (129, (Obj.mk (Value.type "tuple") (Option.none) (Data.seq (List.toArray []) 0) (List.toArray []))),
  (131, (Obj.mk (Value.type "code") (Option.none) (Data.fields (List.toArray [(Value.str "_law_wishes_right" 357), (Value.str "_law_wishes_right" 358), (Value.str "/claim/cut.py" 359), (Value.int 185 0), (Value.int 1 0), (Value.int 0 0), (Value.int 0 0), (Value.int 3 0), (Value.ref 126), (Value.bool Bool.true), (Value.int 181 0), (Value.ref 127), Value.none, (Value.ref 128), (Value.ref 129), (Value.ref 130), (Value.int 364 0), (Value.int 185 0), (Value.str "/claim/cut.py" 365)])) (List.toArray []))),
  (132, (Obj.mk (Value.type "function") (Option.none) (Data.func (fdMk (hdS 19) "_law_wishes_right" "_law_wishes_right" 3 [] Value.none Value.none Value.none (Value.str "law_ok0009_01" 297) (Option.none) (Value.ref 131) Value.none 0)) (List.toArray []))),
  (133, (Obj.mk (Value.type "tuple") (Option.none) (Data.seq (List.toArray []) 0) (List.toArray []))),
  (135, (Obj.mk (Value.type "tuple") (Option.none) (Data.seq (List.toArray [(Value.str "code" 370), (Value.str "shift" 371), (Value.str "made" 372), (Value.str "parts" 373), (Value.str "row" 374), (Value.str "part" 375)]) 0) (List.toArray []))),
  (136, (Obj.mk (Value.type "tuple") (Option.none) (Data.seq (List.toArray []) 0) (List.toArray []))),
  (138, (Obj.mk (Value.type "code") (Option.none) (Data.fields (List.toArray [(Value.str "_law_real" 367), (Value.str "_law_real" 368), (Value.str "/claim/cut.py" 369), (Value.int 192 0), (Value.int 2 0), (Value.int 0 0), (Value.int 0 0), (Value.int 3 0), (Value.ref 133), (Value.bool Bool.true), (Value.int 181 0), (Value.ref 134), Value.none, (Value.ref 135), (Value.ref 136), (Value.ref 137), (Value.int 376 0), (Value.int 192 0), (Value.str "/claim/cut.py" 377)])) (List.toArray []))),
  (139, (Obj.mk (Value.type "function") (Option.none) (Data.func (fdMk (hdS 20) "_law_real" "_law_real" 3 [] Value.none Value.none Value.none (Value.str "law_ok0009_01" 297) (Option.none) (Value.ref 138) Value.none 0)) (List.toArray []))),
  (140, (Obj.mk (Value.type "tuple") (Option.none) (Data.seq (List.toArray []) 0) (List.toArray []))),
  (142, (Obj.mk (Value.type "tuple") (Option.none) (Data.seq (List.toArray [(Value.str "real" 382), (Value.str "most" 383), (Value.str "kept" 384), (Value.str "parts" 385), (Value.str "part" 386)]) 0) (List.toArray []))),
  (143, (Obj.mk (Value.type "tuple") (Option.none) (Data.seq (List.toArray []) 0) (List.toArray []))),
  (145, (Obj.mk (Value.type "code") (Option.none) (Data.fields (List.toArray [(Value.str "_law_real_right" 379), (Value.str "_law_real_right" 380), (Value.str "/claim/cut.py" 381), (Value.int 204 0), (Value.int 1 0), (Value.int 0 0), (Value.int 0 0), (Value.int 3 0), (Value.ref 140), (Value.bool Bool.true), (Value.int 181 0), (Value.ref 141), Value.none, (Value.ref 142), (Value.ref 143), (Value.ref 144), (Value.int 387 0), (Value.int 204 0), (Value.str "/claim/cut.py" 388)])) (List.toArray []))),
  (146, (Obj.mk (Value.type "function") (Option.none) (Data.func (fdMk (hdS 21) "_law_real_right" "_law_real_right" 3 [] Value.none Value.none Value.none (Value.str "law_ok0009_01" 297) (Option.none) (Value.ref 145) Value.none 0)) (List.toArray []))),
  (147, (Obj.mk (Value.type "tuple") (Option.none) (Data.seq (List.toArray []) 0) (List.toArray []))),
  (149, (Obj.mk (Value.type "tuple") (Option.none) (Data.seq (List.toArray [(Value.str "script" 393), (Value.str "tape" 394), (Value.str "arity" 395), (Value.str "code" 396), (Value.str "lap" 397), (Value.str "shift" 398)]) 0) (List.toArray []))),
  (150, (Obj.mk (Value.type "tuple") (Option.none) (Data.seq (List.toArray []) 0) (List.toArray []))),
  (152, (Obj.mk (Value.type "code") (Option.none) (Data.fields (List.toArray [(Value.str "law" 390), (Value.str "law" 391), (Value.str "/claim/cut.py" 392), (Value.int 214 0), (Value.int 1 0), (Value.int 0 0), (Value.int 0 0), (Value.int 3 0), (Value.ref 147), (Value.bool Bool.true), (Value.int 181 0), (Value.ref 148), Value.none, (Value.ref 149), (Value.ref 150), (Value.ref 151), (Value.int 399 0), (Value.int 214 0), (Value.str "/claim/cut.py" 400)])) (List.toArray []))),
  (153, (Obj.mk (Value.type "function") (Option.none) (Data.func (fdMk (hdS 22) "law" "law" 3 [] Value.none Value.none Value.none (Value.str "law_ok0009_01" 297) (Option.none) (Value.ref 152) Value.none 0)) (List.toArray [])))]
noncomputable def hdA : List Addr := [2, 3, 15, 17, 18, 20, 21, 22, 24, 25, 27, 28, 36, 38, 39, 41, 42, 43, 45, 46, 48, 49, 50, 51, 52, 53, 54, 57, 60, 61, 62, 64, 65, 67, 68, 69, 71, 72, 74, 75, 76, 79, 80, 81, 83, 84, 86, 87, 88, 90, 91, 93, 94, 95, 97, 98, 100, 101, 102, 104, 105, 107, 108, 109, 112, 113, 114, 116, 117, 119, 120, 121, 124, 125, 126, 128, 129, 131, 132, 133, 135, 136, 138, 139, 140, 142, 143, 145, 146, 147, 149, 150, 152, 153]
theorem hdE : ∀ P, hdA = (hdK P).map (·.1) := fun _ => by kernel_rfl
noncomputable abbrev hdH : Hook := kHook hdK hdA hdE
theorem hd_left : LeftO rw_ok0009_01.row.prog hdV [] (fun s => xlAt hdV [] s && recOk rw_ok0009_01.row.records s) hdH.obs hdH.val 1792 := by
  intro w
  unfold openEnds topFrom
  rw [Fast.te14082659384304107361, Fast.te14364793385576792824, Fast.te4187177175401517315]
  kernel_rfl
theorem hd_looks : looksOpen pw_ok0009_01 = true := by
  unfold looksOpen
  rw [Fast.te8377067652309620493, Fast.te8326940854005059898, Fast.te17119622794617984870]
  refine look_both (look_both (look_both (look_both (look_both (?_) ?_) ?_) ?_) ?_) ?_ <;> decide +kernel
theorem hd_part : rw_ok0009_01.row.partSaid = true := by
  unfold OpenRow.partSaid
  refine look_both (look_both (look_both (look_both (look_both (look_both (look_both (look_both (look_both (look_both (look_both (look_both (look_both (hd_looks) ?_) ?_) ?_) ?_) ?_) ?_) ?_) ?_) ?_) ?_) ?_) ?_) ?_ <;> kernel_rfl
theorem hd_row : rw_ok0009_01.row.wellSaid = true := by
  unfold OpenRow.wellSaid
  refine look_both (look_both (hd_part) ?_) ?_ <;> kernel_rfl
theorem hd_said : rw_ok0009_01.wellSaid = true := by
  unfold OpenLaw.wellSaid
  rw [Fast.te8179353310426384613, Fast.te8326940854005059898, Fast.te17119622794617984870, Fast.named_eq]
  refine look_both (look_both (look_both (look_both (look_both (look_both (look_both (look_both (look_both (look_both (look_both (look_both (look_both (look_both (look_both (look_both (look_both (look_both (hd_row) ?_) ?_) ?_) ?_) ?_) ?_) ?_) ?_) ?_) ?_) ?_) ?_) ?_) ?_) ?_) ?_) ?_) ?_ <;> decide +kernel
theorem hd (walk : WalkO hdV [] (XL hdV []) hdH.says rw_ok0009_01.row.toRowW hdD [] (fun f vs => call f vs)) : rw_ok0009_01.Holds :=
  holds_law hd_said fun said => holds_open (q := hdV) (loose := []) (Xt := fun s => xlAt hdV [] s && recOk rw_ok0009_01.row.records s) (XP := XL hdV []) (Yf := hdH.obs) (Ya := hdH.val) (YP := hdH.says) (N := 1792)
    hd_left hdH.of hdH.keeps (fun s e => xl_of s (Bool.and_eq_true_iff.mp e).1) XL.keeps (by kernel_rfl) (by kernel_rfl) (by kernel_rfl) (fun s e => recFacts_of (Bool.and_eq_true_iff.mp e).2) (by kernel_rfl) said (by kernel_rfl) ⟨rfl, rfl, rfl, rfl, rfl, by decide +kernel⟩ ⟨[.list []], by decide +kernel, by decide +kernel⟩ walk
end

section
set_option maxHeartbeats 1000000
/-- a world to read the text by -/
noncomputable def dP : Params := { strHash := fun _ => 0, shareClass := fun _ => 0, mergeTok := fun t => t, idOf := fun _ => 0, idOfShared := fun _ _ => 0, followText := fun _ => false, idOfImm := fun _ => 0 }
noncomputable def fdOf (a : Addr) : FuncData := match (hdK dP).lookup a with
  | some ⟨_, _, .func fd, _⟩ => fd
  | _ => default
noncomputable def bodyOf (a : Addr) : List Stmt := match (fdOf a).body with
  | .stmts b => b
  | _ => []
noncomputable def fnK (a : Addr) (ck : List Str) : Fn := ⟨(fdOf a).qualname ++ ".<locals>.", (fdOf a).scope, ck, (fdOf a).code⟩
structure Tp (c : Cx) : Prop where
  hK : c.K = hdK c.w.params
  hC : c.C = 52
  inn : c.K.In c.h₀
  wd : Wd c
  ns : ∃ mg mb, c.h₀.Ns mainGlobals mg ∧ c.h₀.Ns builtinsNs mb ∧ ∀ x : Str, x ≠ "__name__" → mb x = bootBuiltins x
section
variable {c : Cx} (T : Tp c)
include T
theorem Tp.gl {x : Str} {v : Value} (e : nsIn (hdK c.w.params) mainGlobals x = some (some v)) : Gl c x v := by
  obtain ⟨mg, mb, h1, h2, h3⟩ := T.ns
  exact ⟨mg, h1, mg_of T.inn h1 (by rw [T.hK]; exact e)⟩
theorem Tp.bi {x : Str} {v : Value} (e : nsIn (hdK c.w.params) mainGlobals x = some none) (hv : bootBuiltins x = some v) (hn : x ≠ "__name__") : Bi c x v := by
  obtain ⟨mg, mb, h1, h2, h3⟩ := T.ns
  exact ⟨mg, mb, h1, mg_none_of T.inn h1 (by rw [T.hK]; exact e), h2, (h3 x hn).trans hv⟩
theorem Tp.at_ {a : Addr} {o : Obj} (e : (hdK c.w.params).lookup a = some o) : c.h₀.get? a = some o := T.inn _ _ (by rw [T.hK]; exact e)
theorem is21 : IsFn c (fnK 21 []) 21 ["instruction"] (bodyOf 21) where
  made := ⟨_, _, T.at_ rfl, rfl, rfl, rfl, rfl, rfl, rfl, rfl, rfl, codeRec_of T.inn (by rw [T.hK]; rfl), lenS fun _ => len0 rfl⟩
  kind := rfl
  nco := rfl
  ngen := rfl
  ncell := by decide
  nck := rfl
  loc := by decide
theorem is28 : IsFn c (fnK 28 []) 28 ["instruction"] (bodyOf 28) where
  made := ⟨_, _, T.at_ rfl, rfl, rfl, rfl, rfl, rfl, rfl, rfl, rfl, codeRec_of T.inn (by rw [T.hK]; rfl), lenS fun _ => len0 rfl⟩
  kind := rfl
  nco := rfl
  ngen := rfl
  ncell := by decide
  nck := rfl
  loc := by decide
theorem is42 : IsFn c (fnK 42 []) 42 ["self", "kind", "number", "start", "stop"] (bodyOf 42) where
  made := ⟨_, _, T.at_ rfl, rfl, rfl, rfl, rfl, rfl, rfl, rfl, rfl, codeRec_of T.inn (by rw [T.hK]; rfl), lenS fun _ => lenS fun _ => lenS fun _ => lenS fun _ => lenS fun _ => len0 rfl⟩
  kind := rfl
  nco := rfl
  ngen := rfl
  ncell := by decide
  nck := rfl
  loc := by decide
theorem is49 : IsFn c (fnK 49 []) 49 ["self", "other"] (bodyOf 49) where
  made := ⟨_, _, T.at_ rfl, rfl, rfl, rfl, rfl, rfl, rfl, rfl, rfl, codeRec_of T.inn (by rw [T.hK]; rfl), lenS fun _ => lenS fun _ => len0 rfl⟩
  kind := rfl
  nco := rfl
  ngen := rfl
  ncell := by decide
  nck := rfl
  loc := by decide
theorem is61 : IsFn c (fnK 61 []) 61 ["instrs", "arity"] (bodyOf 61) where
  made := ⟨_, _, T.at_ rfl, rfl, rfl, rfl, rfl, rfl, rfl, rfl, rfl, codeRec_of T.inn (by rw [T.hK]; rfl), lenS fun _ => lenS fun _ => len0 rfl⟩
  kind := rfl
  nco := rfl
  ngen := rfl
  ncell := by decide
  nck := rfl
  loc := by decide
theorem is68 : IsFn c (fnK 68 []) 68 ["instrs"] (bodyOf 68) where
  made := ⟨_, _, T.at_ rfl, rfl, rfl, rfl, rfl, rfl, rfl, rfl, rfl, codeRec_of T.inn (by rw [T.hK]; rfl), lenS fun _ => len0 rfl⟩
  kind := rfl
  nco := rfl
  ngen := rfl
  ncell := by decide
  nck := rfl
  loc := by decide
theorem is75 : IsFn c (fnK 75 []) 75 ["instruction"] (bodyOf 75) where
  made := ⟨_, _, T.at_ rfl, rfl, rfl, rfl, rfl, rfl, rfl, rfl, rfl, codeRec_of T.inn (by rw [T.hK]; rfl), lenS fun _ => len0 rfl⟩
  kind := rfl
  nco := rfl
  ngen := rfl
  ncell := by decide
  nck := rfl
  loc := by decide
theorem is80 : IsFn c (fnK 80 []) 80 ["instrs"] (bodyOf 80) where
  made := ⟨_, _, T.at_ rfl, rfl, rfl, rfl, rfl, rfl, rfl, rfl, rfl, codeRec_of T.inn (by rw [T.hK]; rfl), lenS fun _ => len0 rfl⟩
  kind := rfl
  nco := rfl
  ngen := rfl
  ncell := by decide
  nck := rfl
  loc := by decide
theorem is87 : IsFn c (fnK 87 []) 87 ["instrs"] (bodyOf 87) where
  made := ⟨_, _, T.at_ rfl, rfl, rfl, rfl, rfl, rfl, rfl, rfl, rfl, codeRec_of T.inn (by rw [T.hK]; rfl), lenS fun _ => len0 rfl⟩
  kind := rfl
  nco := rfl
  ngen := rfl
  ncell := by decide
  nck := rfl
  loc := by decide
theorem is94 : IsFn c (fnK 94 []) 94 ["tape"] (bodyOf 94) where
  made := ⟨_, _, T.at_ rfl, rfl, rfl, rfl, rfl, rfl, rfl, rfl, rfl, codeRec_of T.inn (by rw [T.hK]; rfl), lenS fun _ => len0 rfl⟩
  kind := rfl
  nco := rfl
  ngen := rfl
  ncell := by decide
  nck := rfl
  loc := by decide
theorem is101 : IsFn c (fnK 101 []) 101 ["tape", "arity", "code"] (bodyOf 101) where
  made := ⟨_, _, T.at_ rfl, rfl, rfl, rfl, rfl, rfl, rfl, rfl, rfl, codeRec_of T.inn (by rw [T.hK]; rfl), lenS fun _ => lenS fun _ => lenS fun _ => len0 rfl⟩
  kind := rfl
  nco := rfl
  ngen := rfl
  ncell := by decide
  nck := rfl
  loc := by decide
theorem is108 : IsFn c (fnK 108 []) 108 ["tape", "code"] (bodyOf 108) where
  made := ⟨_, _, T.at_ rfl, rfl, rfl, rfl, rfl, rfl, rfl, rfl, rfl, codeRec_of T.inn (by rw [T.hK]; rfl), lenS fun _ => lenS fun _ => len0 rfl⟩
  kind := rfl
  nco := rfl
  ngen := rfl
  ncell := by decide
  nck := rfl
  loc := by decide
theorem is120 : IsFn c (fnK 120 []) 120 ["code", "arity"] (bodyOf 120) where
  made := ⟨_, _, T.at_ rfl, rfl, rfl, rfl, rfl, rfl, rfl, rfl, rfl, codeRec_of T.inn (by rw [T.hK]; rfl), lenS fun _ => lenS fun _ => len0 rfl⟩
  kind := rfl
  nco := rfl
  ngen := rfl
  ncell := by decide
  nck := rfl
  loc := by decide
theorem is132 : IsFn c (fnK 132 []) 132 ["code"] (bodyOf 132) where
  made := ⟨_, _, T.at_ rfl, rfl, rfl, rfl, rfl, rfl, rfl, rfl, rfl, codeRec_of T.inn (by rw [T.hK]; rfl), lenS fun _ => len0 rfl⟩
  kind := rfl
  nco := rfl
  ngen := rfl
  ncell := by decide
  nck := rfl
  loc := by decide
theorem is139 : IsFn c (fnK 139 []) 139 ["code", "shift"] (bodyOf 139) where
  made := ⟨_, _, T.at_ rfl, rfl, rfl, rfl, rfl, rfl, rfl, rfl, rfl, codeRec_of T.inn (by rw [T.hK]; rfl), lenS fun _ => lenS fun _ => len0 rfl⟩
  kind := rfl
  nco := rfl
  ngen := rfl
  ncell := by decide
  nck := rfl
  loc := by decide
theorem is146 : IsFn c (fnK 146 []) 146 ["real"] (bodyOf 146) where
  made := ⟨_, _, T.at_ rfl, rfl, rfl, rfl, rfl, rfl, rfl, rfl, rfl, codeRec_of T.inn (by rw [T.hK]; rfl), lenS fun _ => len0 rfl⟩
  kind := rfl
  nco := rfl
  ngen := rfl
  ncell := by decide
  nck := rfl
  loc := by decide
theorem is113 : IsFnC c (fnK 113 ["heads", "operand", "code"]) 113 ["code", "operand", "heads"] (bodyOf 113) where
  made := ⟨_, _, T.at_ rfl, rfl, rfl, rfl, rfl, rfl, rfl, rfl, rfl, codeRec_of T.inn (by rw [T.hK]; rfl), lenS fun _ => lenS fun _ => lenS fun _ => len0 rfl⟩
  kind := rfl
  nco := rfl
  ngen := rfl
  cells := fun _ => rfl
  nodup := by decide
  loc := by decide
theorem is125 : IsFnC c (fnK 125 ["two"]) 125 ["code", "arity"] (bodyOf 125) where
  made := ⟨_, _, T.at_ rfl, rfl, rfl, rfl, rfl, rfl, rfl, rfl, rfl, codeRec_of T.inn (by rw [T.hK]; rfl), lenS fun _ => lenS fun _ => len0 rfl⟩
  kind := rfl
  nco := rfl
  ngen := rfl
  cells := fun _ => rfl
  nodup := by decide
  loc := by decide
theorem gl21 : Gl c "operand_roles" (.ref 21) := T.gl rfl
theorem kp21 : Callee c (.ref 21) := .inl ⟨T.inn, by rw [T.hK]; rfl⟩
theorem gl28 : Gl c "ends_arguments" (.ref 28) := T.gl rfl
theorem kp28 : Callee c (.ref 28) := .inl ⟨T.inn, by rw [T.hK]; rfl⟩
theorem gl52 : Gl c "Occupation" (.ref 52) := T.gl rfl
theorem kp52 : Callee c (.ref 52) := .inl ⟨T.inn, by rw [T.hK]; rfl⟩
theorem gl61 : Gl c "intervals" (.ref 61) := T.gl rfl
theorem kp61 : Callee c (.ref 61) := .inl ⟨T.inn, by rw [T.hK]; rfl⟩
theorem gl68 : Gl c "wishes" (.ref 68) := T.gl rfl
theorem kp68 : Callee c (.ref 68) := .inl ⟨T.inn, by rw [T.hK]; rfl⟩
theorem gl75 : Gl c "is_idle" (.ref 75) := T.gl rfl
theorem kp75 : Callee c (.ref 75) := .inl ⟨T.inn, by rw [T.hK]; rfl⟩
theorem gl80 : Gl c "peephole" (.ref 80) := T.gl rfl
theorem kp80 : Callee c (.ref 80) := .inl ⟨T.inn, by rw [T.hK]; rfl⟩
theorem gl87 : Gl c "greatest" (.ref 87) := T.gl rfl
theorem kp87 : Callee c (.ref 87) := .inl ⟨T.inn, by rw [T.hK]; rfl⟩
theorem gl94 : Gl c "_law_next" (.ref 94) := T.gl rfl
theorem kp94 : Callee c (.ref 94) := .inl ⟨T.inn, by rw [T.hK]; rfl⟩
theorem gl101 : Gl c "_law_head" (.ref 101) := T.gl rfl
theorem kp101 : Callee c (.ref 101) := .inl ⟨T.inn, by rw [T.hK]; rfl⟩
theorem gl108 : Gl c "_law_puts" (.ref 108) := T.gl rfl
theorem kp108 : Callee c (.ref 108) := .inl ⟨T.inn, by rw [T.hK]; rfl⟩
theorem gl113 : Gl c "_law_places" (.ref 113) := T.gl rfl
theorem kp113 : Callee c (.ref 113) := .inl ⟨T.inn, by rw [T.hK]; rfl⟩
theorem gl120 : Gl c "_law_due" (.ref 120) := T.gl rfl
theorem kp120 : Callee c (.ref 120) := .inl ⟨T.inn, by rw [T.hK]; rfl⟩
theorem gl125 : Gl c "_law_lives_right" (.ref 125) := T.gl rfl
theorem kp125 : Callee c (.ref 125) := .inl ⟨T.inn, by rw [T.hK]; rfl⟩
theorem gl132 : Gl c "_law_wishes_right" (.ref 132) := T.gl rfl
theorem kp132 : Callee c (.ref 132) := .inl ⟨T.inn, by rw [T.hK]; rfl⟩
theorem gl139 : Gl c "_law_real" (.ref 139) := T.gl rfl
theorem kp139 : Callee c (.ref 139) := .inl ⟨T.inn, by rw [T.hK]; rfl⟩
theorem gl146 : Gl c "_law_real_right" (.ref 146) := T.gl rfl
theorem kp146 : Callee c (.ref 146) := .inl ⟨T.inn, by rw [T.hK]; rfl⟩
theorem glREADS : Gl c "READS" (.int 1 189) := T.gl rfl
theorem glWRITES : Gl c "WRITES" (.int 2 191) := T.gl rfl
theorem glUPDATES : Gl c "UPDATES" (.int 3 193) := T.gl rfl
theorem bi_len : Bi c "len" (.builtin "len") := T.bi rfl (by rfl) (by decide)
theorem bi_abs : Bi c "abs" (.builtin "abs") := T.bi rfl (by rfl) (by decide)
theorem bi_max : Bi c "max" (.builtin "max") := T.bi rfl (by rfl) (by decide)
theorem bi_range : Bi c "range" (.type "range") := T.bi rfl (by rfl) (by decide)
theorem bi_isinstance : Bi c "isinstance" (.builtin "isinstance") := T.bi rfl (by rfl) (by decide)
theorem bi_tuple : Bi c "tuple" (.type "tuple") := T.bi rfl (by rfl) (by decide)
theorem bi_sorted : Bi c "sorted" (.builtin "sorted") := T.bi rfl (by rfl) (by decide)
theorem kf : Kf c where
  inn := T.inn
  get := by rw [T.hK, T.hC]; rfl
  dict := by rw [T.hK, T.hC]; rfl
  attr := by
    rw [T.hK, T.hC]; intro x hx
    simp only [fieldNames, List.mem_cons, List.not_mem_nil, or_false] at hx
    rcases hx with rfl | rfl | rfl | rfl <;> rfl
  setattr := by rw [T.hK, T.hC]; rfl
  over := by rw [T.hK, T.hC]; rfl
  taker := by
    rw [T.hK, T.hC]; intro x hx
    simp only [fieldNames, List.mem_cons, List.not_mem_nil, or_false] at hx
    rcases hx with rfl | rfl | rfl | rfl <;> rfl
  makes := by rw [T.hK, T.hC]; rfl
theorem kInit : findIn c.K (.ref c.C) "__init__" = some (some (.ref 42)) := by rw [T.hK, T.hC]; rfl
theorem kInitT : typeIn c.K (.ref 42) = some (.type "function") := by rw [T.hK]; rfl
theorem kOver : findIn c.K (.ref c.C) "overlaps" = some (some (.ref 49)) := by rw [T.hK, T.hC]; rfl
theorem kOverF : isFn c.K (.ref 49) = true := by rw [T.hK]; rfl
theorem kOverK : keepIn c.K (.ref 49) = true := by rw [T.hK]; rfl
end
end

section
inductive Ltr where
  | t | a | y | x
  deriving DecidableEq
structure Opd where
  l : Ltr
  n : Int
  deriving DecidableEq
noncomputable def Ltr.str : Ltr → Str
  | .t => "t"
  | .a => "a"
  | .y => "y"
  | .x => "x"
noncomputable def opD (o : Opd) : D := .tup [.str o.l.str, .int o.n]
inductive Ins where
  | getVar (o s : Opd)
  | getVal (o s : Opd)
  | getConst (s : Opd)
  | getList (s : Opd)
  | unifVar (o : Opd)
  | unifLoc (o : Opd)
  | putVal (o s : Opd)
  | putVar (o s : Opd)
  | putConst (s : Opd)
  | putUns (o s : Opd)
  | putStruct (s : Opd)
  | setVal (o : Opd)
  | setVar (o : Opd)
  | putVoid (s : Opd)
  | call
  deriving DecidableEq
noncomputable def insD : Ins → D
  | .getVar o s => .tup [.str "get_variable", opD o, opD s]
  | .getVal o s => .tup [.str "get_value", opD o, opD s]
  | .getConst s => .tup [.str "get_constant", .int 7, opD s]
  | .getList s => .tup [.str "get_list", opD s]
  | .unifVar o => .tup [.str "unify_variable", opD o]
  | .unifLoc o => .tup [.str "unify_local_value", opD o]
  | .putVal o s => .tup [.str "put_value", opD o, opD s]
  | .putVar o s => .tup [.str "put_variable", opD o, opD s]
  | .putConst s => .tup [.str "put_constant", .int 9, opD s]
  | .putUns o s => .tup [.str "put_unsafe_value", opD o, opD s]
  | .putStruct s => .tup [.str "put_structure", .int 4, opD s]
  | .setVal o => .tup [.str "set_value", opD o]
  | .setVar o => .tup [.str "set_variable", opD o]
  | .putVoid s => .tup [.str "put_void", opD s]
  | .call => .tup [.str "call", .int 3, .int 0]
/-- what an instruction does to its operands: 1 reads, 2 writes, 3 both -/
noncomputable def roles : Ins → List (Int × Opd)
  | .getVar o s => [(1, s), (2, o)]
  | .getVal o s => [(1, o), (1, s)]
  | .getConst s => [(1, s)]
  | .getList s => [(1, s)]
  | .unifVar o => [(2, o)]
  | .unifLoc o => [(3, o)]
  | .putVal o s => [(1, o), (2, s)]
  | .putVar o s => [(2, o), (2, s)]
  | .putConst s => [(2, s)]
  | .putUns o s => [(1, o), (2, s)]
  | .putStruct s => [(2, s)]
  | .setVal o => [(1, o)]
  | .setVar o => [(2, o)]
  | .putVoid s => [(2, s)]
  | .call => []
noncomputable def roleD (r : Int × Opd) : D := .tup [.int r.1, opD r.2]
end

section
set_option maxHeartbeats 1000000
theorem iteF {p : Prop} [Decidable p] {a b : Prop} (h : ¬ p) (hb : b) : if p then a else b := by rw [if_neg h]; exact hb
theorem iteT {p : Prop} [Decidable p] {a b : Prop} (h : p) (hb : a) : if p then a else b := by rw [if_pos h]; exact hb
theorem After.ret {c : Cx} {F : Fn} {k : Nat} {rest : List Stmt} {Q : Out → Rho → Sg → Prop} {d : D} {ρ : Rho} {σ : Sg} (h : Q (.ret d) ρ σ) : After c F k rest Q (.ret d) ρ σ := h
theorem After.cont {c : Cx} {F : Fn} {k : Nat} {rest : List Stmt} {Q : Out → Rho → Sg → Prop} {ρ : Rho} {σ : Sg} (h : Q .cont ρ σ) : After c F k rest Q .cont ρ σ := h
theorem TrOr.nil {c : Cx} {F : Fn} {k : Nat} {ρ : Rho} {Q : Bool → Sg → Prop} {σ : Sg} (h : Q false σ) : TrOr c F k ρ Q [] σ := h
theorem TrOr.cons {c : Cx} {F : Fn} {k : Nat} {ρ : Rho} {Q : Bool → Sg → Prop} {σ : Sg} {e : Expr} {r : List Expr} (h : Tr c F k ρ σ e (fun b σ' => if b = true then Q true σ' else TrOr c F k ρ Q r σ')) : TrOr c F k ρ Q (e :: r) σ := h
theorem TrAnd.nil {c : Cx} {F : Fn} {k : Nat} {ρ : Rho} {Q : Bool → Sg → Prop} {σ : Sg} (h : Q true σ) : TrAnd c F k ρ Q [] σ := h
theorem TrAnd.cons {c : Cx} {F : Fn} {k : Nat} {ρ : Rho} {Q : Bool → Sg → Prop} {σ : Sg} {e : Expr} {r : List Expr} (h : Tr c F k ρ σ e (fun b σ' => if b = true then TrAnd c F k ρ Q r σ' else Q false σ')) : TrAnd c F k ρ Q (e :: r) σ := h
theorem few {n : Nat} (h : Nat.ble n 1000 = true) : n ≤ sizeLine := by rw [sizeLine_eq]; exact Nat.le_trans (Nat.le_of_ble_eq_true h) (by decide)
end
-- MACRO
local macro_rules | `(tactic| walk_at "v") => `(tactic| first
  | ((with_reducible show Ev _ _ _ _ _ (PySem.Expr.Constant (PySem.Const.int _) _ _) _); refine Ev.cint ?_)
  | ((with_reducible show Ev _ _ _ _ _ (PySem.Expr.Constant (PySem.Const.str _) _ _) _); refine Ev.cstr ?_)
  | ((with_reducible show Ev _ _ _ _ _ (PySem.Expr.Constant (PySem.Const.bool _) _ _) _); refine Ev.cbool ?_)
  | ((with_reducible show Ev _ _ _ _ _ (PySem.Expr.Name _ _) _); first | refine Ev.loc rfl ?_ | refine Ev.loc (by assumption) ?_ | refine Ev.cell rfl ?_ | refine Ev.cell (by assumption) ?_ | refine Ev.glob (by assumption) (fun _ => .int _ _) ?_)
  | ((with_reducible show Ev _ _ _ _ _ (PySem.Expr.Subscript _ (PySem.Expr.Constant _ _ _) _) _); refine Ev.sub ?_)
  | ((with_reducible show Ev _ _ _ _ _ (PySem.Expr.Subscript _ (PySem.Expr.Name _ _) _) _); refine Ev.sub ?_)
  | ((with_reducible show Ev _ _ _ _ _ (PySem.Expr.Subscript _ (PySem.Expr.BinOp _ _ _ _) _) _); refine Ev.sub ?_)
  | ((with_reducible show Ev _ _ _ _ _ (PySem.Expr.Tuple _ _ _) _); refine Ev.tup ?_)
  | ((with_reducible show Ev _ _ _ _ _ (PySem.Expr.List _ _) _); refine Ev.list ?_)
  | ((with_reducible show Ev _ _ _ _ _ (PySem.Expr.BinOp _ _ _ _) _); refine Ev.binop ?_)
  | ((with_reducible show Ev _ _ _ _ _ (PySem.Expr.Compare _ _ _ _) _); refine Ev.cmp ?_)
  | ((with_reducible show Ev _ _ _ _ _ (PySem.Expr.UnaryOp _ _ _) _); refine Ev.unop ?_)
  | ((with_reducible show Tr _ _ _ _ _ (PySem.Expr.Compare _ _ _ _) _); refine Tr.cmp ?_)
  | ((with_reducible show Tr _ _ _ _ _ (PySem.Expr.BoolOp PySem.BoolOp.Or _ _) _); refine Tr.or ?_)
  | ((with_reducible show Tr _ _ _ _ _ (PySem.Expr.BoolOp PySem.BoolOp.And _ _) _); refine Tr.and ?_)
  | ((with_reducible show Tr _ _ _ _ _ (PySem.Expr.UnaryOp PySem.UnaryOp.Not _ _) _); refine Tr.not ?_)
  | ((with_reducible show TrOr _ _ _ _ _ [] _); refine TrOr.nil ?_)
  | ((with_reducible show TrOr _ _ _ _ _ (_ :: _) _); refine TrOr.cons ?_)
  | ((with_reducible show TrAnd _ _ _ _ _ [] _); refine TrAnd.nil ?_)
  | ((with_reducible show TrAnd _ _ _ _ _ (_ :: _) _); refine TrAnd.cons ?_)
  | ((with_reducible show Evs _ _ _ _ _ [] _); refine Evs.nil ?_)
  | ((with_reducible show Evs _ _ _ _ _ (_ :: _) _); refine Evs.cons ?_)
  | ((with_reducible show Ex _ _ _ _ _ (PySem.Stmt.If _ _ _ _) _); refine Ex.ite ?_)
  | ((with_reducible show Ex _ _ _ _ _ (PySem.Stmt.Return (some _) _) _); refine Ex.ret ?_)
  | ((with_reducible show Ex _ _ _ _ _ (PySem.Stmt.Continue _) _); refine Ex.cont ?_)
  | ((with_reducible show Ex _ _ _ _ _ (PySem.Stmt.Assign [PySem.Expr.Name _ _] _ _) _); refine Ex.assign ?_)
  | ((with_reducible show Ex _ _ _ _ _ (PySem.Stmt.Assign [PySem.Expr.Subscript _ _ _] _ _) _); refine Ex.setSub ?_)
  | ((with_reducible show Ex _ _ _ _ _ (PySem.Stmt.AugAssign (PySem.Expr.Name _ _) _ _ _) _); first | refine Ex.aug rfl ?_ | refine Ex.aug (by assumption) ?_)
  | ((with_reducible show Ex _ _ _ _ _ (PySem.Stmt.AugAssign (PySem.Expr.Subscript _ _ _) _ _ _) _); refine Ex.augSub ?_)
  | ((with_reducible show Exs _ _ _ _ _ (_ :: _) _); refine Exs.cons ?_)
  | ((with_reducible show Exs _ _ _ _ _ [] _); refine Exs.nil ?_)
  | ((with_reducible show After _ _ _ (_ :: _) _ Out.next _ _); refine Exs.cons ?_)
  | ((with_reducible show After _ _ _ [] _ Out.next _ _); refine Exs.nil ?_)
  | ((with_reducible show After _ _ _ _ _ (Out.ret _) _ _); refine After.ret ?_)
  | ((with_reducible show After _ _ _ _ _ Out.cont _ _); refine After.cont ?_)
  | ((with_reducible show Op2 _ _ _ (subscriptTail _ _) _ (D.int _) _); refine sub_tup rfl rfl ?_)
  | ((with_reducible show Op2 _ _ _ (compareOp PySem.CmpOp.Eq) _ (D.str _) _); refine eqs_ok ⟨_, rfl, ?_⟩; first | refine iteF (by decide) ?_ | refine iteT (by decide) ?_)
  | ((with_reducible show Op2 _ _ _ (binaryOp PySem.Operator.Add) (D.int _) (D.int _) _); refine add_ok ?_)
  | ((with_reducible show Op2 _ _ _ (binaryOp PySem.Operator.Sub) (D.int _) (D.int _) _); refine sub_ok ?_)
  | ((with_reducible show Op2 _ _ _ (inplaceOp PySem.Operator.Add) (D.int _) (D.int _) _); refine iadd_ok ?_)
  | ((with_reducible show Op2 _ _ _ (binaryOp PySem.Operator.Mod) (D.int _) (D.int _) _); refine mod_ok (by decide) ?_)
  | ((with_reducible show _ ∧ _); refine ⟨few rfl, ?_⟩)
  | refine iteT (rfl : true = true) ?_
  | refine iteF Bool.false_ne_true ?_
  )
-- END
section
set_option maxHeartbeats 1000000
variable {c : Cx} {k : Nat} {σ : Sg}
theorem ok_roles (T : Tp c) (i : Ins) {Q : D → Sg → Prop} (q : ∀ l, σ l = none → Q (.raw (.ref l)) (upd σ l (.lst ((roles i).map roleD)))) : Cd c (k + 1) σ (.ref 21) [insD i] Q := by
  refine Cd.fn T.wd (is21 T) rfl ?_
  have g1 := glREADS T
  conv => arg 6; whnf
  have g2 := glWRITES T
  have g3 := glUPDATES T
  cases i <;> (repeat walk_at "v") <;> exact q
end

section
set_option maxHeartbeats 1000000
variable {c : Cx} {k : Nat} {σ : Sg}
noncomputable def nameS : Ins → Str
  | .getVar _ _ => "get_variable"
  | .getVal _ _ => "get_value"
  | .getConst _ => "get_constant"
  | .getList _ => "get_list"
  | .unifVar _ => "unify_variable"
  | .unifLoc _ => "unify_local_value"
  | .putVal _ _ => "put_value"
  | .putVar _ _ => "put_variable"
  | .putConst _ => "put_constant"
  | .putUns _ _ => "put_unsafe_value"
  | .putStruct _ => "put_structure"
  | .setVal _ => "set_value"
  | .setVar _ => "set_variable"
  | .putVoid _ => "put_void"
  | .call => "call"
noncomputable def isCall : Ins → Bool
  | .call => true
  | _ => false
theorem sub_name {v sl : Expr} {i : Ins} {Q : D → Sg → Prop} (q : Q (.str (nameS i)) σ) (hs : IdxPlain sl := by intro _ _ _; with_unfolding_all rfl) : Op2 c k σ (subscriptTail v sl) (insD i) (.int 0) Q := by
  cases i <;> exact sub_tup rfl rfl q (hs := hs)
theorem EvOr.cons {F : Fn} {ρ : Rho} {e f : Expr} {r : List Expr} {Q : D → Sg → Prop} (h : Ev c F k ρ σ e (fun d σ' => IsB d σ' fun b σ' => if b = true then Q (.bool true) σ' else EvOr c F k ρ Q (f :: r) σ')) : EvOr c F k ρ Q (e :: f :: r) σ := h
theorem EvOr.one {F : Fn} {ρ : Rho} {e : Expr} {Q : D → Sg → Prop} (h : Ev c F k ρ σ e Q) : EvOr c F k ρ Q [e] σ := h
theorem EvAnd.cons {F : Fn} {ρ : Rho} {e f : Expr} {r : List Expr} {Q : D → Sg → Prop} (h : Ev c F k ρ σ e (fun d σ' => IsB d σ' fun b σ' => if b = true then EvAnd c F k ρ Q (f :: r) σ' else Q (.bool false) σ')) : EvAnd c F k ρ Q (e :: f :: r) σ := h
theorem EvAnd.one {F : Fn} {ρ : Rho} {e : Expr} {Q : D → Sg → Prop} (h : Ev c F k ρ σ e Q) : EvAnd c F k ρ Q [e] σ := h
theorem ok_ends (T : Tp c) (i : Ins) {Q : D → Sg → Prop} (q : Q (.bool (isCall i)) σ) : Cd c (k + 1) σ (.ref 28) [insD i] Q := by
  refine Cd.fn T.wd (is28 T) rfl ?_
  conv => arg 6; whnf
  refine Exs.cons (Ex.assign (Ev.sub (Ev.loc rfl (Ev.cint (sub_name ?_)))))
  refine Exs.cons (Ex.ret (Ev.or (EvOr.cons (Ev.cmp (Ev.loc rfl (Ev.cstr (eqs_ok ⟨_, rfl, ?_⟩)))))))
  have e : isCall i = (nameS i == "call") := by cases i <;> rfl
  have e2 : (nameS i == "execute") = false := by cases i <;> rfl
  have e3 : (nameS i == "builtin") = false := by cases i <;> rfl
  split
  · rename_i h
    rw [e] at q
    rw [show (nameS i == "call") = true from h] at q
    exact q
  · rename_i h
    have h' : (nameS i == "call") = false := by simpa using h
    rw [e, h'] at q
    refine EvOr.cons (Ev.cmp (Ev.loc rfl (Ev.cstr (eqs_ok ⟨_, rfl, ?_⟩))))
    rw [show (nameS i == _) = false from e2]
    refine iteF Bool.false_ne_true (EvOr.one (Ev.cmp (Ev.loc rfl (Ev.cstr (eqs_ok ?_)))))
    rw [show (nameS i == _) = false from e3]
    exact q
theorem upd_upd (σ : Sg) (a : Addr) (O O' : AObj) : upd (upd σ a O) a O' = upd σ a O' := by
  funext x
  unfold upd
  by_cases h : x = a <;> simp [h]
/-- an occupation's fields -/
noncomputable def occF (q : Qd) : List (Str × D) := [("kind", .str q.1), ("number", .int q.2.1), ("start", .int q.2.2.1), ("stop", .int q.2.2.2)]
theorem ok_init (T : Tp c) (dx : Addr) (q : Qd) {Q : D → Sg → Prop} (h : Q .none (upd σ dx (.fld (occF q)))) : Cd c (k + 1) (upd σ dx (.fld [])) (.ref 42) [.inst dx, .str q.1, .int q.2.1, .int q.2.2.1, .int q.2.2.2] Q := by
  refine Cd.fn T.wd (is42 T) rfl ?_
  conv => arg 6; whnf
  refine Exs.cons (Ex.setAttr (kf T) (by decide) (Ev.loc rfl (Ev.loc rfl ⟨dx, _, rfl, upd_same, Nat.le_of_ble_eq_true rfl, ?_⟩)))
  rw [upd_upd]
  refine Exs.cons (Ex.setAttr (kf T) (by decide) (Ev.loc rfl (Ev.loc rfl ⟨dx, _, rfl, upd_same, Nat.le_of_ble_eq_true rfl, ?_⟩)))
  rw [upd_upd]
  refine Exs.cons (Ex.setAttr (kf T) (by decide) (Ev.loc rfl (Ev.loc rfl ⟨dx, _, rfl, upd_same, Nat.le_of_ble_eq_true rfl, ?_⟩)))
  rw [upd_upd]
  refine Exs.cons (Ex.setAttr (kf T) (by decide) (Ev.loc rfl (Ev.loc rfl ⟨dx, _, rfl, upd_same, Nat.le_of_ble_eq_true rfl, ?_⟩)))
  rw [upd_upd]
  exact Exs.nil h
/-- Occupation(kind, number, start, stop) -/
theorem ok_new (T : Tp c) (q : Qd) {Q : D → Sg → Prop} (h : ∀ dx, σ dx = none → Q (.inst dx) (upd σ dx (.fld (occF q)))) : Cl c (k + 2) σ (.ref 52) [.str q.1, .int q.2.1, .int q.2.2.1, .int q.2.2.2] Q := by
  rw [← T.hC]
  exact Cl.new (kf T) (kInit T) (kInitT T) fun dx hdx => ok_init T dx q ⟨rfl, h dx hdx⟩
theorem ok_overlaps (T : Tp c) (a b : Addr) (q r : Qd) {Q : D → Sg → Prop} (ea : σ a = some (.fld (occF q))) (eb : σ b = some (.fld (occF r))) (h : Q (.bool (decide (q.2.2.1 < r.2.2.2) && decide (r.2.2.1 < q.2.2.2))) σ) :
    Cd c (k + 1) σ (.ref 49) [.inst a, .inst b] Q := by
  refine Cd.fn T.wd (is49 T) rfl ?_
  conv => arg 6; whnf
  have hi : ∀ (x : Int) P v, VR c P v (.int x) → handedIn v = true := by rintro x P v ⟨⟩; rfl
  refine Exs.cons (Ex.ret (Ev.and (EvAnd.cons (Ev.cmp (Ev.attr (kf T) (by decide) (Ev.loc rfl ⟨a, _, _, rfl, ea, rfl, hi _, Ev.attr (kf T) (by decide) (Ev.loc rfl ⟨b, _, _, rfl, eb, rfl, hi _, lt_ok ⟨_, rfl, ?_⟩⟩)⟩))))))
  by_cases h1 : q.2.2.1 < r.2.2.2
  · simp only [h1, decide_true, Bool.true_and] at h
    rw [decide_eq_true h1]
    exact iteT rfl (EvAnd.one (Ev.cmp (Ev.attr (kf T) (by decide) (Ev.loc rfl ⟨b, _, _, rfl, eb, rfl, hi _, Ev.attr (kf T) (by decide) (Ev.loc rfl ⟨a, _, _, rfl, ea, rfl, hi _, lt_ok h⟩)⟩))))
  · simp only [h1, decide_false, Bool.false_and] at h
    rw [decide_eq_false h1]
    exact iteF Bool.false_ne_true h
/-- the next number of the tape -/
noncomputable def nxt (ns : List Int) (n : Nat) : Int := if n < ns.length then ((ns.getD n 0).natAbs : Int) else 0
theorem nxt_nonneg (ns : List Int) (n : Nat) : 0 ≤ nxt ns n := by unfold nxt; split <;> omega
/-- the tape, read n times -/
structure Tape (σ : Sg) (tp sc : Addr) (ns : List Int) (n : Nat) : Prop where
  tape : σ tp = some (.lst [.raw (.ref sc), .int n])
  script : σ sc = some (.lst (ns.map .int))
  apart : tp ≠ sc
  few : ns.length ≤ 100
theorem ok_next (T : Tp c) {tp sc : Addr} {ns : List Int} {n : Nat} (t : Tape σ tp sc ns n) (hn : n ≤ 1000) {Q : D → Sg → Prop} (q : Q (.int (nxt ns n)) (upd σ tp (.lst [.raw (.ref sc), .int (n + 1 : Nat)]))) : Cd c (k + 1) σ (.ref 94) [.raw (.ref tp)] Q := by
  refine Cd.fn T.wd (is94 T) rfl ?_
  conv => arg 6; whnf
  refine Exs.cons (Ex.augSub (Ev.loc rfl (Ev.cint (gi_lst t.tape (by decide) (by decide) rfl (Ev.cint (iadd_ok (set_lst t.tape (by decide) (by decide) (by show (1 : Int) < 2; decide) ?_)))))))
  have e1 : (upd σ tp (.lst (List.set [.raw (.ref sc), .int n] (1 : Int).toNat (.int ((n : Int) + 1))))) = upd σ tp (.lst [.raw (.ref sc), .int (n + 1 : Nat)]) := rfl
  rw [e1]
  have t1 : upd σ tp (.lst [.raw (.ref sc), .int (n + 1 : Nat)]) tp = some (.lst [.raw (.ref sc), .int (n + 1 : Nat)]) := upd_same
  have t2 : upd σ tp (.lst [.raw (.ref sc), .int (n + 1 : Nat)]) sc = some (.lst (ns.map .int)) := by rw [upd_ne t.apart.symm]; exact t.script
  have hl : (ns.map D.int).length = ns.length := List.length_map _
  have hf := t.few
  refine Exs.cons (Ex.ite (Tr.cmp (Ev.sub (Ev.loc rfl (Ev.cint (sub_lst t1 (by decide) (by decide) rfl (Ev.fcall (Ev.blt (bi_len T) ⟨_, rfl, .inr (.inl ⟨_, rfl⟩), Evs.cons (Ev.sub (Ev.loc rfl (Ev.cint (sub_lst t1 (by decide) (by decide) rfl (Evs.nil (cl_len t2 (by rw [hl]; omega) (le_ok ⟨_, rfl, ?_⟩)))))))⟩))))))))
  rw [hl]
  by_cases h : n < ns.length
  · rw [decide_eq_true (by omega : ((n + 1 : Nat) : Int) ≤ (ns.length : Int))]
    have e : nxt ns n = ((ns.getD n 0).natAbs : Int) := if_pos h
    rw [e] at q
    refine iteT rfl (Exs.cons (Ex.ret (Ev.fcall (Ev.blt (bi_abs T) ⟨_, rfl, .inr (.inl ⟨_, rfl⟩), Evs.cons (Ev.sub (Ev.sub (Ev.loc rfl (Ev.cint (sub_lst t1 (by decide) (by decide) rfl ?_)))))⟩))))
    refine Ev.binop (Ev.sub (Ev.loc rfl (Ev.cint (sub_lst t1 (by decide) (by decide) rfl (Ev.cint (sub_ok ?_))))))
    refine sub_lst (x := .int (ns.getD n 0)) t2 ?_ ?_ ?_ (Evs.nil (cl_abs q))
    · omega
    · omega
    · have : (((n + 1 : Nat) : Int) - 1).toNat = n := by omega
      rw [this]
      simp [List.getD_eq_getElem?_getD, h]
  · rw [decide_eq_false (by omega : ¬ ((n + 1 : Nat) : Int) ≤ (ns.length : Int))]
    have e : nxt ns n = 0 := if_neg h
    rw [e] at q
    exact iteF Bool.false_ne_true (Exs.nil (Exs.cons (Ex.ret (Ev.cint q))))
end

section
set_option maxHeartbeats 1000000
variable {c : Cx} {F : Fn} {k : Nat} {ρ : Rho} {σ : Sg}
/-! loops by an invariant -/
noncomputable def LoopB (okS : Sg → Prop) (Q : Out → Rho → Sg → Prop) (J : Rho → Sg → Prop) (o : Out) (ρ : Rho) (σ : Sg) : Prop := match o with
  | .next => okS σ ∧ J ρ σ
  | .cont => okS σ ∧ J ρ σ
  | .brk => Q .next ρ σ
  | .ret d => Q (.ret d) ρ σ
theorem As.mono {t : Expr} {d : D} {Q Q' : Rho → Sg → Prop} (h : As c F k ρ σ t d Q) (hq : ∀ ρ σ, Q ρ σ → Q' ρ σ) : As c F k ρ σ t d Q' :=
  fun A L P s v g R hv => wpAny_mono (h A L P s v g R hv) (fun _ _ ⟨P', ρ', σ', p, q⟩ => ⟨P', ρ', σ', p, hq _ _ q⟩) fun _ _ x => x
theorem LoopW.inv {t : Expr} {body : List Stmt} {okS : Sg → Prop} {Q : Out → Rho → Sg → Prop} (ds : List D) (I : Nat → Rho → Sg → Prop)
    (step : ∀ i (h : i < ds.length) ρ σ, I i ρ σ → As c F k ρ σ t ds[i] (fun ρ1 σ1 => Exs c F k ρ1 σ1 body (LoopB okS Q (I (i + 1))))) (fin : ∀ ρ σ, I ds.length ρ σ → Q .next ρ σ) (hi : I 0 ρ σ) : LoopW c F k t body okS Q ds ρ σ := by
  have go : ∀ (ds' : List D) (j : Nat) (ρ : Rho) (σ : Sg), ds.drop j = ds' → j ≤ ds.length → I j ρ σ → LoopW c F k t body okS Q ds' ρ σ := by
    intro ds'
    induction ds' with
    | nil =>
      intro j ρ σ e hj hI
      have : j = ds.length := by have := congrArg List.length e; simp at this; omega
      subst this
      exact fin ρ σ hI
    | cons d r ih =>
      intro j ρ σ e hj hI
      have hlt : j < ds.length := by
        have := congrArg List.length e
        simp at this; omega
      rw [List.drop_eq_getElem_cons hlt] at e
      injection e with e1 e2
      refine As.mono (e1 ▸ step j hlt ρ σ hI) fun ρ1 σ1 h => Exs.mono h fun o ρ2 σ2 q => ?_
      cases o with
      | next => exact ⟨q.1, ih (j + 1) ρ2 σ2 e2 hlt q.2⟩
      | cont => exact ⟨q.1, ih (j + 1) ρ2 σ2 e2 hlt q.2⟩
      | brk => exact q
      | ret d => exact q
  exact go ds 0 ρ σ rfl (Nat.zero_le _) hi
theorem rngDs_get {a b : Int} {i : Nat} (h : i < (rngDs a b).length) : (rngDs a b)[i] = .int (a + i) := by simp [rngDs]
/-! the tape -/
theorem Tape.step {tp sc : Addr} {ns : List Int} {n : Nat} (t : Tape σ tp sc ns n) : Tape (upd σ tp (.lst [.raw (.ref sc), .int (n + 1 : Nat)])) tp sc ns (n + 1) :=
  ⟨upd_same, by rw [upd_ne t.apart.symm]; exact t.script, t.apart, t.few⟩
theorem Tape.keep {σ' : Sg} {tp sc : Addr} {ns : List Int} {n : Nat} (t : Tape σ tp sc ns n) (h1 : σ' tp = σ tp) (h2 : σ' sc = σ sc) : Tape σ' tp sc ns n := ⟨h1.trans t.tape, h2.trans t.script, t.apart, t.few⟩
theorem Ev.next (T : Tp c) {px py pos : Pos} {tp sc : Addr} {ns : List Int} {n : Nat} {Q : D → Sg → Prop} (t : Tape σ tp sc ns n) (hn : n ≤ 1000) (hρ : ρ "tape" = some (.raw (.ref tp))) (q : Q (.int (nxt ns n)) (upd σ tp (.lst [.raw (.ref sc), .int (n + 1 : Nat)])))
    (hk : F.scope.kind = .function := by rfl) (hl : F.scope.names.lookup ("_law_next" : Str) = some .globalImplicit := by rfl) (hl' : F.scope.names.lookup ("tape" : Str) = some .local := by rfl) (hc : F.ck.contains ("tape" : Str) = false := by rfl) :
    Ev c F (k + 1) ρ σ (.Call (.Name "_law_next" px) [.Name "tape" py] [] pos) Q :=
  Ev.fcall (Ev.glob (gl94 T) (fun _ => .raw _) ⟨_, rfl, kp94 T, Evs.cons (Ev.loc hρ (Evs.nil (Cl.of_code (ok_next T t hn q))) hk hl' (by decide) hc)⟩ hk hl (by decide))
/-! what a script may make -/
inductive HeadOf (i : Nat) : List Ins → Prop
  | getVar {j : Int} : 0 ≤ j → j < 5 → HeadOf i [.getVar ⟨.t, j⟩ ⟨.a, i⟩]
  | getVal {j : Int} : 0 ≤ j → j < 5 → HeadOf i [.getVal ⟨.t, j⟩ ⟨.a, i⟩]
  | getConst : HeadOf i [.getConst ⟨.a, i⟩]
  | slot : HeadOf i [.getVar ⟨.y, 1⟩ ⟨.a, i⟩]
  | getList {j j' : Int} : 0 ≤ j → j < 5 → 0 ≤ j' → j' < 5 → HeadOf i [.getList ⟨.a, i⟩, .unifVar ⟨.t, j⟩, .unifLoc ⟨.t, j'⟩]
  | none : HeadOf i []
inductive Heads : Nat → List Ins → Prop
  | nil : Heads 0 []
  | snoc {n : Nat} {is js : List Ins} : Heads n is → HeadOf (n + 1) js → Heads (n + 1) (is ++ js)
inductive PutOf (i : Nat) : List Ins → Prop
  | putVal {j : Int} : 0 ≤ j → j < 5 → PutOf i [.putVal ⟨.t, j⟩ ⟨.a, i⟩]
  | putVar {j : Int} : 0 ≤ j → j < 5 → PutOf i [.putVar ⟨.t, j⟩ ⟨.a, i⟩]
  | putConst : PutOf i [.putConst ⟨.a, i⟩]
  | slot : PutOf i [.putUns ⟨.y, 2⟩ ⟨.a, i⟩]
  | putStruct {j j' : Int} : 0 ≤ j → j < 5 → 0 ≤ j' → j' < 5 → PutOf i [.putStruct ⟨.a, i⟩, .setVal ⟨.t, j⟩, .setVar ⟨.t, j'⟩]
  | putVoid : PutOf i [.putVoid ⟨.a, i⟩]
inductive Puts : Nat → List Ins → Prop
  | nil : Puts 0 []
  | snoc {n : Nat} {is js : List Ins} : Puts n is → PutOf (n + 1) js → Puts (n + 1) (is ++ js)
theorem HeadOf.len {i : Nat} {l : List Ins} (h : HeadOf i l) : l.length ≤ 3 := by cases h <;> simp
theorem Heads.len {n : Nat} {l : List Ins} (h : Heads n l) : l.length ≤ 3 * n := by
  induction h with
  | nil => simp
  | snoc a b ih => have := b.len; simp; omega
theorem PutOf.len {i : Nat} {l : List Ins} (h : PutOf i l) : l.length ≤ 3 := by cases h <;> simp
theorem Puts.len {n : Nat} {l : List Ins} (h : Puts n l) : l.length ≤ 3 * n := by
  induction h with
  | nil => simp
  | snoc a b ih => have := b.len; simp; omega
/-- code.append(an instruction) -/
inductive EmI (l cd : Addr) (code : List Ins) (Q : Sg → Prop) (x : D) (σ2 : Sg) : Prop
  | mk (i : Ins) (hl : l = cd) (h : σ2 cd = some (.lst (code.map insD))) (z : code.length ≤ 1000) (e : x = insD i) (q : Q (upd σ2 cd (.lst ((code ++ [i]).map insD))))
inductive EmO (c : Cx) (F : Fn) (k : Nat) (ρ : Rho) (e : Expr) (cd : Addr) (code : List Ins) (Q : Sg → Prop) (d : D) (σ1 : Sg) : Prop
  | mk (l : Addr) (O : List D) (h : d = .raw (.ref l)) (g : σ1 l = some (.lst O)) (r : Ev c F k ρ σ1 e (EmI l cd code Q))
theorem Ex.emit {o e : Expr} {apos pos ipos : Pos} {cd : Addr} {code : List Ins} {Q : Out → Rho → Sg → Prop} (hρ : Ev c F k ρ σ o (EmO c F k ρ e cd code (Q .next ρ)))
    (hbase : ∀ L : Loc F.ck, attributeBase o "append" (F.env L) (eval o (F.env L)) = eval o (F.env L) := by intro _; rfl)
    (hfew : ∀ L : Loc F.ck, ((backTo pos (starEach [e] (F.env L))).all (fun x => !x.1) && (backToKw pos (keywordEach [] (F.env L))).all (fun x => x.1.isSome)
      && decide ([e].length + ([] : List Keyword).length + (if ([] : List Keyword).isEmpty then 0 else 1) < 30)) = true := by intro _; rfl)
    (hline : (apos.endLine == pos.line) = true := by rfl)
    (he : ∀ L : Loc F.ck, starEach [e] (F.env L) = (false, eval e (F.env L)) :: starEach [] (F.env L) := by intro _; rfl)
    (hi : ∀ L : Loc F.ck, interactive (F.env L) = false := by intro _; rfl) (hs : ∀ L : Loc F.ck, swapsWith (.Call (.Attribute o "append" apos) [e] [] pos) none ipos.line (F.env L) = pure false := by intro _; rfl) :
    Ex c F k ρ σ (.Expr (.Call (.Attribute o "append" apos) [e] [] pos) ipos) Q := by
  refine Ex.expr (Ev.append (hρ.mono fun d σ1 ⟨l, O, h1, h2, h3⟩ => ⟨l, O, h1, h2, h3.mono fun x σ2 ⟨i, hl, h4, h5, h6, h7⟩ => ?_⟩) hbase hfew hline he) hi hs
  subst hl
  subst h6
  refine ⟨_, h4, ?_, rfl, ?_⟩
  · rw [List.length_map, sizeLine_eq]; omega
  · rw [show (code.map insD ++ [insD i]) = (code ++ [i]).map insD by simp]
    exact h7
/-- what the makers of code keep -/
structure Made (σ₀ σ : Sg) (tp sc cd : Addr) (ns : List Int) (n : Nat) (code : List Ins) : Prop where
  tape : Tape σ tp sc ns n
  code : σ cd = some (.lst (code.map insD))
  rest : ∀ a, a ≠ tp → a ≠ cd → σ a = σ₀ a
  ne : tp ≠ cd
  ne' : sc ≠ cd
theorem Made.step {σ₀ : Sg} {tp sc cd : Addr} {ns : List Int} {n : Nat} {code : List Ins} (m : Made σ₀ σ tp sc cd ns n code) : Made σ₀ (upd σ tp (.lst [.raw (.ref sc), .int (n + 1 : Nat)])) tp sc cd ns (n + 1) code :=
  ⟨m.tape.step, by rw [upd_ne m.ne.symm]; exact m.code, fun a h1 h2 => by rw [upd_ne h1]; exact m.rest a h1 h2, m.ne, m.ne'⟩
theorem Made.emit {σ₀ : Sg} {tp sc cd : Addr} {ns : List Int} {n : Nat} {code code' : List Ins} (m : Made σ₀ σ tp sc cd ns n code) : Made σ₀ (upd σ cd (.lst (code'.map insD))) tp sc cd ns n code' :=
  ⟨m.tape.keep (upd_ne m.ne) (upd_ne m.ne'), upd_same, fun a h1 h2 => by rw [upd_ne h2]; exact m.rest a h1 h2, m.ne, m.ne'⟩
theorem mod_lt {a b : Int} (h : 0 < b) : 0 ≤ a % b ∧ a % b < b := ⟨Int.emod_nonneg _ (by omega), Int.emod_lt_of_pos _ h⟩
theorem six {w : Int} (h : 0 ≤ w ∧ w < 6) : w = 0 ∨ w = 1 ∨ w = 2 ∨ w = 3 ∨ w = 4 ∨ w = 5 := by omega
inductive HeadJ (σ : Sg) (tp sc cd : Addr) (ns : List Int) (n : Nat) (pre : List Ins) (i : Nat) (ρ : Rho) (σ' : Sg) : Prop
  | mk (h1 : ρ "tape" = some (.raw (.ref tp))) (h2 : ρ "code" = some (.raw (.ref cd))) (n' : Nat) (is : List Ins) (m : Made σ σ' tp sc cd ns n' (pre ++ is)) (hn : n' ≤ n + 3 * i) (hh : Heads i is)
theorem ok_head (T : Tp c) {tp sc cd : Addr} {ns : List Int} {n : Nat} {ar : Nat} {pre : List Ins} (m : Made σ σ tp sc cd ns n pre) (hn : n ≤ 500) (ha : ar ≤ 4) (hp : pre.length ≤ 100) {Q : D → Sg → Prop}
    (q : ∀ σ' n' is, Made σ σ' tp sc cd ns n' (pre ++ is) → n' ≤ n + 3 * ar → Heads ar is → Q .none σ') : Cd c (k + 2) σ (.ref 101) [.raw (.ref tp), .int ar, .raw (.ref cd)] Q := by
  refine Cd.fn T.wd (is101 T) rfl ?_
  conv => arg 6; whnf
  refine Exs.cons (Ex.forIn (Ev.fcall (Ev.blt (bi_range T) ⟨_, rfl, .inr (.inr ⟨_, rfl⟩), Evs.cons (Ev.cint (Evs.cons (Ev.binop (Ev.loc rfl (Ev.cint (add_ok (Evs.nil (cl_range2 ⟨_, _, itb_rng (by omega) (by omega) (by omega) (by omega), ?_⟩)))))))) ⟩)))
  refine LoopW.inv _ (HeadJ σ tp sc cd ns n pre) ?_ ?_ ⟨rfl, rfl, n, [], by simpa using m, by omega, .nil⟩
  · rintro i hi ρ σ1 ⟨h1, h2, n1, is, m1, hn1, hh⟩
    rw [rngDs_length] at hi
    rw [rngDs_get]
    have hlen := hh.len
    refine As.name ?_
    refine Exs.cons (Ex.assign (Ev.binop (Ev.next T m1.tape (by omega) h1 (Ev.cint (mod_ok (by decide) ?_)))))
    have m2 := m1.step
    refine Exs.cons (Ex.assign (Ev.tup (Evs.cons (Ev.cstr (Evs.cons (Ev.binop (Ev.next T m2.tape (by omega) h1 (Ev.cint (mod_ok (by decide) (Evs.nil ⟨few rfl, ?_⟩))))))))))
    have m3 := m2.step
    refine Exs.cons (Ex.assign (Ev.tup (Evs.cons (Ev.cstr (Evs.cons (Ev.loc rfl (Evs.nil ⟨few rfl, ?_⟩)))))))
    have fin : ∀ js σ2 n2 ρ2, Made σ σ2 tp sc cd ns n2 (pre ++ (is ++ js)) → n2 ≤ n + 3 * (i + 1) → HeadOf (i + 1) js → ρ2 "tape" = some (.raw (.ref tp)) → ρ2 "code" = some (.raw (.ref cd)) →
        LoopB (fun _ => True) (After c (fnK 101 []) (k + 1) [] fun o _ σ' => Q (outD o) σ') (HeadJ σ tp sc cd ns n pre (i + 1)) .next ρ2 σ2 :=
      fun js σ2 n2 ρ2 a b c d e => ⟨trivial, d, e, n2, _, a, b, .snoc hh c⟩
    have w6 := mod_lt (a := nxt ns n1) (b := 6) (by decide)
    have j5 := mod_lt (a := nxt ns (n1 + 1)) (b := 5) (by decide)
    generalize hw : nxt ns n1 % 6 = w at w6
    generalize nxt ns (n1 + 1) % 5 = j at j5
    have hn : (1 : Int) + (i : Int) = ((i + 1 : Nat) : Int) := by omega
    have hpre : (pre ++ is).length ≤ 1000 := by rw [List.length_append]; omega
    rcases six w6 with rfl | rfl | rfl | rfl | rfl | rfl
    · refine Exs.cons (Ex.ite (Tr.cmp (Ev.loc rfl (Ev.cint (eqi_ok ⟨_, rfl, iteT rfl ?_⟩)))))
      refine Exs.cons (Ex.emit (Ev.loc h2 ⟨cd, _, rfl, m3.code, Ev.tup (Evs.cons (Ev.cstr (Evs.cons (Ev.loc rfl (Evs.cons (Ev.loc rfl (Evs.nil ⟨few rfl, .getVar ⟨.t, j⟩ ⟨.a, (i + 1 : Nat)⟩, rfl, m3.code, hpre, ?_, ?_⟩)))))))⟩))
      · rw [← hn]; rfl
      repeat (refine Exs.nil ?_)
      exact fin _ _ (n1 + 2) _ (by rw [← List.append_assoc]; exact m3.emit) (by omega) (.getVar j5.1 j5.2) h1 h2
    · refine Exs.cons (Ex.ite (Tr.cmp (Ev.loc rfl (Ev.cint (eqi_ok ⟨_, rfl, iteF (by decide) ?_⟩)))))
      refine Exs.cons (Ex.ite (Tr.cmp (Ev.loc rfl (Ev.cint (eqi_ok ⟨_, rfl, iteT rfl ?_⟩)))))
      refine Exs.cons (Ex.emit (Ev.loc h2 ⟨cd, _, rfl, m3.code, Ev.tup (Evs.cons (Ev.cstr (Evs.cons (Ev.loc rfl (Evs.cons (Ev.loc rfl (Evs.nil ⟨few rfl, .getVal ⟨.t, j⟩ ⟨.a, (i + 1 : Nat)⟩, rfl, m3.code, hpre, ?_, ?_⟩)))))))⟩))
      · rw [← hn]; rfl
      repeat (refine Exs.nil ?_)
      exact fin _ _ (n1 + 2) _ (by rw [← List.append_assoc]; exact m3.emit) (by omega) (.getVal j5.1 j5.2) h1 h2
    · refine Exs.cons (Ex.ite (Tr.cmp (Ev.loc rfl (Ev.cint (eqi_ok ⟨_, rfl, iteF (by decide) ?_⟩)))))
      refine Exs.cons (Ex.ite (Tr.cmp (Ev.loc rfl (Ev.cint (eqi_ok ⟨_, rfl, iteF (by decide) ?_⟩)))))
      refine Exs.cons (Ex.ite (Tr.cmp (Ev.loc rfl (Ev.cint (eqi_ok ⟨_, rfl, iteT rfl ?_⟩)))))
      refine Exs.cons (Ex.emit (Ev.loc h2 ⟨cd, _, rfl, m3.code, Ev.tup (Evs.cons (Ev.cstr (Evs.cons (Ev.cint (Evs.cons (Ev.loc rfl (Evs.nil ⟨few rfl, .getConst ⟨.a, (i + 1 : Nat)⟩, rfl, m3.code, hpre, ?_, ?_⟩)))))))⟩))
      · rw [← hn]; rfl
      repeat (refine Exs.nil ?_)
      exact fin _ _ (n1 + 2) _ (by rw [← List.append_assoc]; exact m3.emit) (by omega) .getConst h1 h2
    · refine Exs.cons (Ex.ite (Tr.cmp (Ev.loc rfl (Ev.cint (eqi_ok ⟨_, rfl, iteF (by decide) ?_⟩)))))
      refine Exs.cons (Ex.ite (Tr.cmp (Ev.loc rfl (Ev.cint (eqi_ok ⟨_, rfl, iteF (by decide) ?_⟩)))))
      refine Exs.cons (Ex.ite (Tr.cmp (Ev.loc rfl (Ev.cint (eqi_ok ⟨_, rfl, iteF (by decide) ?_⟩)))))
      refine Exs.cons (Ex.ite (Tr.cmp (Ev.loc rfl (Ev.cint (eqi_ok ⟨_, rfl, iteT rfl ?_⟩)))))
      refine Exs.cons (Ex.emit (Ev.loc h2 ⟨cd, _, rfl, m3.code, Ev.tup (Evs.cons (Ev.cstr (Evs.cons (Ev.tup (Evs.cons (Ev.cstr (Evs.cons (Ev.cint (Evs.nil ⟨few rfl, (Evs.cons (Ev.loc rfl (Evs.nil ⟨few rfl, .getVar ⟨.y, 1⟩ ⟨.a, (i + 1 : Nat)⟩, rfl, m3.code, hpre, ?_, ?_⟩)))⟩)))))))))⟩))
      · rw [← hn]; rfl
      repeat (refine Exs.nil ?_)
      exact fin _ _ (n1 + 2) _ (by rw [← List.append_assoc]; exact m3.emit) (by omega) .slot h1 h2
    · refine Exs.cons (Ex.ite (Tr.cmp (Ev.loc rfl (Ev.cint (eqi_ok ⟨_, rfl, iteF (by decide) ?_⟩)))))
      refine Exs.cons (Ex.ite (Tr.cmp (Ev.loc rfl (Ev.cint (eqi_ok ⟨_, rfl, iteF (by decide) ?_⟩)))))
      refine Exs.cons (Ex.ite (Tr.cmp (Ev.loc rfl (Ev.cint (eqi_ok ⟨_, rfl, iteF (by decide) ?_⟩)))))
      refine Exs.cons (Ex.ite (Tr.cmp (Ev.loc rfl (Ev.cint (eqi_ok ⟨_, rfl, iteF (by decide) ?_⟩)))))
      refine Exs.cons (Ex.ite (Tr.cmp (Ev.loc rfl (Ev.cint (eqi_ok ⟨_, rfl, iteT rfl ?_⟩)))))
      refine Exs.cons (Ex.emit (Ev.loc h2 ⟨cd, _, rfl, m3.code, Ev.tup (Evs.cons (Ev.cstr (Evs.cons (Ev.loc rfl (Evs.nil ⟨few rfl, .getList ⟨.a, (i + 1 : Nat)⟩, rfl, m3.code, hpre, ?_, ?_⟩)))))⟩))
      · rw [← hn]; rfl
      have m4 := m3.emit (code' := pre ++ is ++ [.getList ⟨.a, (i + 1 : Nat)⟩])
      refine Exs.cons (Ex.emit (Ev.loc h2 ⟨cd, _, rfl, m4.code, Ev.tup (Evs.cons (Ev.cstr (Evs.cons (Ev.loc rfl (Evs.nil ⟨few rfl, .unifVar ⟨.t, j⟩, rfl, m4.code, by simp at hpre ⊢; omega, rfl, ?_⟩)))))⟩))
      have m5 := m4.emit (code' := pre ++ is ++ [.getList ⟨.a, (i + 1 : Nat)⟩] ++ [.unifVar ⟨.t, j⟩])
      have m6 := m5.step
      have j5' := mod_lt (a := nxt ns (n1 + 1 + 1)) (b := 5) (by decide)
      refine Exs.cons (Ex.emit (Ev.loc h2 ⟨cd, _, rfl, m5.code, Ev.tup (Evs.cons (Ev.cstr (Evs.cons (Ev.tup (Evs.cons (Ev.cstr (Evs.cons (Ev.binop (Ev.next T m5.tape (by omega) h1 (Ev.cint (mod_ok (by decide) (Evs.nil ⟨few rfl, Evs.nil ⟨few rfl, .unifLoc ⟨.t, nxt ns (n1 + 1 + 1) % 5⟩, rfl, m6.code, by simp at hpre ⊢; omega, rfl, ?_⟩⟩))))))))))))⟩))
      repeat (refine Exs.nil ?_)
      exact fin _ _ (n1 + 3) _ (by have := m6.emit (code' := pre ++ (is ++ [.getList ⟨.a, (i + 1 : Nat)⟩, .unifVar ⟨.t, j⟩, .unifLoc ⟨.t, nxt ns (n1 + 1 + 1) % 5⟩])); simpa using this) (by omega) (.getList j5.1 j5.2 j5'.1 j5'.2) h1 h2
    · refine Exs.cons (Ex.ite (Tr.cmp (Ev.loc rfl (Ev.cint (eqi_ok ⟨_, rfl, iteF (by decide) ?_⟩)))))
      refine Exs.cons (Ex.ite (Tr.cmp (Ev.loc rfl (Ev.cint (eqi_ok ⟨_, rfl, iteF (by decide) ?_⟩)))))
      refine Exs.cons (Ex.ite (Tr.cmp (Ev.loc rfl (Ev.cint (eqi_ok ⟨_, rfl, iteF (by decide) ?_⟩)))))
      refine Exs.cons (Ex.ite (Tr.cmp (Ev.loc rfl (Ev.cint (eqi_ok ⟨_, rfl, iteF (by decide) ?_⟩)))))
      refine Exs.cons (Ex.ite (Tr.cmp (Ev.loc rfl (Ev.cint (eqi_ok ⟨_, rfl, iteF (by decide) ?_⟩)))))
      repeat (refine Exs.nil ?_)
      exact fin [] _ (n1 + 2) _ (by simpa using m3) (by omega) .none h1 h2
  · rintro ρ σ' ⟨_, _, n', is, a, b, d⟩
    rw [rngDs_length] at b d
    have e : ((ar : Int) + 1 - 1).toNat = ar := by omega
    rw [e] at b d
    exact Exs.nil (q σ' n' is a b d)
end

section
set_option maxHeartbeats 1000000
variable {c : Cx} {F : Fn} {k : Nat} {ρ : Rho} {σ : Sg}
theorem ok_puts (T : Tp c) {tp sc cd : Addr} {ns : List Int} {n : Nat} {pre : List Ins} (m : Made σ σ tp sc cd ns n pre) (hn : n ≤ 500) (hp : pre.length ≤ 100) {Q : D → Sg → Prop}
    (q : ∀ σ' n' mm is, Made σ σ' tp sc cd ns n' (pre ++ is ++ [.call]) → n' ≤ n + 20 → mm ≤ 3 → Puts mm is → Q .none σ') : Cd c (k + 2) σ (.ref 108) [.raw (.ref tp), .raw (.ref cd)] Q := by
  refine Cd.fn T.wd (is108 T) rfl ?_
  conv => arg 6; whnf
  have m0 := m.step
  have v4 := mod_lt (a := nxt ns n) (b := 4) (by decide)
  refine Exs.cons (Ex.forIn (Ev.fcall (Ev.blt (bi_range T) ⟨_, rfl, .inr (.inr ⟨_, rfl⟩), Evs.cons (Ev.cint (Evs.cons (Ev.binop (Ev.cint (Ev.binop (Ev.next T m.tape (by omega) rfl (Ev.cint (mod_ok (by decide) (add_ok (Evs.nil (cl_range2 ⟨_, _, itb_rng (by omega) (by omega) (by omega) (by omega), ?_⟩)))))))))))⟩)))
  generalize nxt ns n % 4 = v at v4
  obtain ⟨mm, rfl⟩ : ∃ mm : Nat, v = mm := ⟨v.toNat, by omega⟩
  refine LoopW.inv _ (fun i ρ σ' => ρ "tape" = some (.raw (.ref tp)) ∧ ρ "code" = some (.raw (.ref cd)) ∧ ∃ n' is, Made σ σ' tp sc cd ns n' (pre ++ is) ∧ n' ≤ n + 1 + 3 * i ∧ Puts i is) ?_ ?_ ⟨rfl, rfl, n + 1, [], by simpa using m0, by omega, .nil⟩
  · rintro i hi ρ σ1 ⟨h1, h2, n1, is, m1, hn1, hh⟩
    rw [rngDs_length] at hi
    rw [rngDs_get]
    have hlen := hh.len
    refine As.name ?_
    refine Exs.cons (Ex.assign (Ev.binop (Ev.next T m1.tape (by omega) h1 (Ev.cint (mod_ok (by decide) ?_)))))
    have m2 := m1.step
    refine Exs.cons (Ex.assign (Ev.tup (Evs.cons (Ev.cstr (Evs.cons (Ev.binop (Ev.next T m2.tape (by omega) h1 (Ev.cint (mod_ok (by decide) (Evs.nil ⟨few rfl, ?_⟩))))))))))
    have m3 := m2.step
    refine Exs.cons (Ex.assign (Ev.tup (Evs.cons (Ev.cstr (Evs.cons (Ev.loc rfl (Evs.nil ⟨few rfl, ?_⟩)))))))
    have fin : ∀ js σ2 n2 ρ2 Q', Made σ σ2 tp sc cd ns n2 (pre ++ (is ++ js)) → n2 ≤ n + 1 + 3 * (i + 1) → PutOf (i + 1) js → ρ2 "tape" = some (.raw (.ref tp)) → ρ2 "code" = some (.raw (.ref cd)) →
        LoopB (fun _ => True) Q' (fun ρ σ' => ρ "tape" = some (.raw (.ref tp)) ∧ ρ "code" = some (.raw (.ref cd)) ∧ ∃ n' is, Made σ σ' tp sc cd ns n' (pre ++ is) ∧ n' ≤ n + 1 + 3 * (i + 1) ∧ Puts (i + 1) is) .next ρ2 σ2 :=
      fun js σ2 n2 ρ2 Q' a b c d e => ⟨trivial, d, e, n2, _, a, b, .snoc hh c⟩
    have w6 := mod_lt (a := nxt ns n1) (b := 6) (by decide)
    have j5 := mod_lt (a := nxt ns (n1 + 1)) (b := 5) (by decide)
    generalize hw : nxt ns n1 % 6 = w at w6
    generalize nxt ns (n1 + 1) % 5 = j at j5
    have hn : (1 : Int) + (i : Int) = ((i + 1 : Nat) : Int) := by omega
    have hpre : (pre ++ is).length ≤ 1000 := by rw [List.length_append]; omega
    rcases six w6 with rfl | rfl | rfl | rfl | rfl | rfl
    · refine Exs.cons (Ex.ite (Tr.cmp (Ev.loc rfl (Ev.cint (eqi_ok ⟨_, rfl, iteT rfl ?_⟩)))))
      refine Exs.cons (Ex.emit (Ev.loc h2 ⟨cd, _, rfl, m3.code, Ev.tup (Evs.cons (Ev.cstr (Evs.cons (Ev.loc rfl (Evs.cons (Ev.loc rfl (Evs.nil ⟨few rfl, .putVal ⟨.t, j⟩ ⟨.a, (i + 1 : Nat)⟩, rfl, m3.code, hpre, ?_, ?_⟩)))))))⟩))
      · rw [← hn]; rfl
      repeat (refine Exs.nil ?_)
      exact fin _ _ (n1 + 2) _ _ (by rw [← List.append_assoc]; exact m3.emit) (by omega) (.putVal j5.1 j5.2) h1 h2
    · refine Exs.cons (Ex.ite (Tr.cmp (Ev.loc rfl (Ev.cint (eqi_ok ⟨_, rfl, iteF (by decide) ?_⟩)))))
      refine Exs.cons (Ex.ite (Tr.cmp (Ev.loc rfl (Ev.cint (eqi_ok ⟨_, rfl, iteT rfl ?_⟩)))))
      refine Exs.cons (Ex.emit (Ev.loc h2 ⟨cd, _, rfl, m3.code, Ev.tup (Evs.cons (Ev.cstr (Evs.cons (Ev.loc rfl (Evs.cons (Ev.loc rfl (Evs.nil ⟨few rfl, .putVar ⟨.t, j⟩ ⟨.a, (i + 1 : Nat)⟩, rfl, m3.code, hpre, ?_, ?_⟩)))))))⟩))
      · rw [← hn]; rfl
      repeat (refine Exs.nil ?_)
      exact fin _ _ (n1 + 2) _ _ (by rw [← List.append_assoc]; exact m3.emit) (by omega) (.putVar j5.1 j5.2) h1 h2
    · refine Exs.cons (Ex.ite (Tr.cmp (Ev.loc rfl (Ev.cint (eqi_ok ⟨_, rfl, iteF (by decide) ?_⟩)))))
      refine Exs.cons (Ex.ite (Tr.cmp (Ev.loc rfl (Ev.cint (eqi_ok ⟨_, rfl, iteF (by decide) ?_⟩)))))
      refine Exs.cons (Ex.ite (Tr.cmp (Ev.loc rfl (Ev.cint (eqi_ok ⟨_, rfl, iteT rfl ?_⟩)))))
      refine Exs.cons (Ex.emit (Ev.loc h2 ⟨cd, _, rfl, m3.code, Ev.tup (Evs.cons (Ev.cstr (Evs.cons (Ev.cint (Evs.cons (Ev.loc rfl (Evs.nil ⟨few rfl, .putConst ⟨.a, (i + 1 : Nat)⟩, rfl, m3.code, hpre, ?_, ?_⟩)))))))⟩))
      · rw [← hn]; rfl
      repeat (refine Exs.nil ?_)
      exact fin _ _ (n1 + 2) _ _ (by rw [← List.append_assoc]; exact m3.emit) (by omega) .putConst h1 h2
    · refine Exs.cons (Ex.ite (Tr.cmp (Ev.loc rfl (Ev.cint (eqi_ok ⟨_, rfl, iteF (by decide) ?_⟩)))))
      refine Exs.cons (Ex.ite (Tr.cmp (Ev.loc rfl (Ev.cint (eqi_ok ⟨_, rfl, iteF (by decide) ?_⟩)))))
      refine Exs.cons (Ex.ite (Tr.cmp (Ev.loc rfl (Ev.cint (eqi_ok ⟨_, rfl, iteF (by decide) ?_⟩)))))
      refine Exs.cons (Ex.ite (Tr.cmp (Ev.loc rfl (Ev.cint (eqi_ok ⟨_, rfl, iteT rfl ?_⟩)))))
      refine Exs.cons (Ex.emit (Ev.loc h2 ⟨cd, _, rfl, m3.code, Ev.tup (Evs.cons (Ev.cstr (Evs.cons (Ev.tup (Evs.cons (Ev.cstr (Evs.cons (Ev.cint (Evs.nil ⟨few rfl, (Evs.cons (Ev.loc rfl (Evs.nil ⟨few rfl, .putUns ⟨.y, 2⟩ ⟨.a, (i + 1 : Nat)⟩, rfl, m3.code, hpre, ?_, ?_⟩)))⟩)))))))))⟩))
      · rw [← hn]; rfl
      repeat (refine Exs.nil ?_)
      exact fin _ _ (n1 + 2) _ _ (by rw [← List.append_assoc]; exact m3.emit) (by omega) .slot h1 h2
    · refine Exs.cons (Ex.ite (Tr.cmp (Ev.loc rfl (Ev.cint (eqi_ok ⟨_, rfl, iteF (by decide) ?_⟩)))))
      refine Exs.cons (Ex.ite (Tr.cmp (Ev.loc rfl (Ev.cint (eqi_ok ⟨_, rfl, iteF (by decide) ?_⟩)))))
      refine Exs.cons (Ex.ite (Tr.cmp (Ev.loc rfl (Ev.cint (eqi_ok ⟨_, rfl, iteF (by decide) ?_⟩)))))
      refine Exs.cons (Ex.ite (Tr.cmp (Ev.loc rfl (Ev.cint (eqi_ok ⟨_, rfl, iteF (by decide) ?_⟩)))))
      refine Exs.cons (Ex.ite (Tr.cmp (Ev.loc rfl (Ev.cint (eqi_ok ⟨_, rfl, iteT rfl ?_⟩)))))
      refine Exs.cons (Ex.emit (Ev.loc h2 ⟨cd, _, rfl, m3.code, Ev.tup (Evs.cons (Ev.cstr (Evs.cons (Ev.cint (Evs.cons (Ev.loc rfl (Evs.nil ⟨few rfl, .putStruct ⟨.a, (i + 1 : Nat)⟩, rfl, m3.code, hpre, ?_, ?_⟩)))))))⟩))
      · rw [← hn]; rfl
      have m4 := m3.emit (code' := pre ++ is ++ [.putStruct ⟨.a, (i + 1 : Nat)⟩])
      refine Exs.cons (Ex.emit (Ev.loc h2 ⟨cd, _, rfl, m4.code, Ev.tup (Evs.cons (Ev.cstr (Evs.cons (Ev.loc rfl (Evs.nil ⟨few rfl, .setVal ⟨.t, j⟩, rfl, m4.code, by simp at hpre ⊢; omega, rfl, ?_⟩)))))⟩))
      have m5 := m4.emit (code' := pre ++ is ++ [.putStruct ⟨.a, (i + 1 : Nat)⟩] ++ [.setVal ⟨.t, j⟩])
      have m6 := m5.step
      have j5' := mod_lt (a := nxt ns (n1 + 1 + 1)) (b := 5) (by decide)
      refine Exs.cons (Ex.emit (Ev.loc h2 ⟨cd, _, rfl, m5.code, Ev.tup (Evs.cons (Ev.cstr (Evs.cons (Ev.tup (Evs.cons (Ev.cstr (Evs.cons (Ev.binop (Ev.next T m5.tape (by omega) h1 (Ev.cint (mod_ok (by decide) (Evs.nil ⟨few rfl, Evs.nil ⟨few rfl, .setVar ⟨.t, nxt ns (n1 + 1 + 1) % 5⟩, rfl, m6.code, by simp at hpre ⊢; omega, rfl, ?_⟩⟩))))))))))))⟩))
      repeat (refine Exs.nil ?_)
      exact fin _ _ (n1 + 3) _ _ (by have := m6.emit (code' := pre ++ (is ++ [.putStruct ⟨.a, (i + 1 : Nat)⟩, .setVal ⟨.t, j⟩, .setVar ⟨.t, nxt ns (n1 + 1 + 1) % 5⟩])); simpa using this) (by omega) (.putStruct j5.1 j5.2 j5'.1 j5'.2) h1 h2
    · refine Exs.cons (Ex.ite (Tr.cmp (Ev.loc rfl (Ev.cint (eqi_ok ⟨_, rfl, iteF (by decide) ?_⟩)))))
      refine Exs.cons (Ex.ite (Tr.cmp (Ev.loc rfl (Ev.cint (eqi_ok ⟨_, rfl, iteF (by decide) ?_⟩)))))
      refine Exs.cons (Ex.ite (Tr.cmp (Ev.loc rfl (Ev.cint (eqi_ok ⟨_, rfl, iteF (by decide) ?_⟩)))))
      refine Exs.cons (Ex.ite (Tr.cmp (Ev.loc rfl (Ev.cint (eqi_ok ⟨_, rfl, iteF (by decide) ?_⟩)))))
      refine Exs.cons (Ex.ite (Tr.cmp (Ev.loc rfl (Ev.cint (eqi_ok ⟨_, rfl, iteF (by decide) ?_⟩)))))
      refine Exs.cons (Ex.emit (Ev.loc h2 ⟨cd, _, rfl, m3.code, Ev.tup (Evs.cons (Ev.cstr (Evs.cons (Ev.loc rfl (Evs.nil ⟨few rfl, .putVoid ⟨.a, (i + 1 : Nat)⟩, rfl, m3.code, hpre, ?_, ?_⟩)))))⟩))
      · rw [← hn]; rfl
      repeat (refine Exs.nil ?_)
      exact fin _ _ (n1 + 2) _ _ (by rw [← List.append_assoc]; exact m3.emit) (by omega) .putVoid h1 h2
  · rintro ρ σ' ⟨_, h2, n', is, a, b, d⟩
    rw [rngDs_length] at b d
    have e : (1 + (mm : Int) - 1).toNat = mm := by omega
    rw [e] at b d
    have hl := d.len
    refine Exs.cons (Ex.emit (Ev.loc h2 ⟨cd, _, rfl, a.code, Ev.tup (Evs.cons (Ev.cstr (Evs.cons (Ev.cint (Evs.cons (Ev.cint (Evs.nil ⟨few rfl, .call, rfl, a.code, by simp; omega, rfl, ?_⟩)))))))⟩))
    exact Exs.nil (q _ n' mm is a.emit (by omega) (by omega) d)
end

section
set_option maxHeartbeats 1000000
variable {c : Cx} {F : Fn} {k : Nat} {ρ : Rho} {σ : Sg}
/-! what a comprehension catches -/
noncomputable def pickCl (ns : List Str) (cs : List (Str × Addr)) : List (Str × Addr) := ns.filterMap fun n => (cs.lookup n).map (n, ·)
theorem pick_fst {cs : List (Str × Addr)} : ∀ {ns : List Str}, (∀ n ∈ ns, (cs.lookup n).isSome = true) → (pickCl ns cs).map (·.1) = ns
  | [], _ => rfl
  | n :: ns, h => by
    have h1 := h n (.head _)
    obtain ⟨a, ha⟩ := Option.isSome_iff_exists.mp h1
    have ih := pick_fst (cs := cs) (ns := ns) fun m hm => h m (.tail _ hm)
    unfold pickCl at ih ⊢
    rw [List.filterMap_cons, ha]
    show _ :: _ = _
    rw [ih]
theorem pick_mem {cs : List (Str × Addr)} {ns : List Str} {p : Str × Addr} (h : p ∈ pickCl ns cs) : p.1 ∈ ns ∧ cs.lookup p.1 = some p.2 := by
  unfold pickCl at h
  obtain ⟨n, hn, e⟩ := List.mem_filterMap.mp h
  cases ha : cs.lookup n with
  | none => rw [ha] at e; cases e
  | some a => rw [ha] at e; cases e; exact ⟨hn, ha⟩
theorem Caught.of {scope : Scope} {ns : List Str} (hcl : ∀ L : Loc F.ck, closureFor scope (F.env L) = pure (pickCl ns L.cs)) (hsub : ∀ n ∈ ns, F.ck.contains n = true) (hnd : ns.Nodup) (kind : scope.kind = .function)
    (names : ∀ x ∈ scope.names, x.2 = .local → scope.names.lookup x.1 = some .local) (ncell : ∀ y ∈ scope.names, y.2 ≠ .cell) : Caught F scope ns := by
  refine ⟨fun L => ⟨pickCl ns L.cs, hcl L, ?_, fun hca => ?_, fun x a h => ?_, fun p hp => ?_, fun hca x a h hm => ?_⟩, kind, names, ncell⟩
  · exact pick_fst fun n hn => by obtain ⟨a, ha, _⟩ := L.some (hsub n hn); rw [ha]; rfl
  · refine List.pairwise_map.mpr ?_
    have h1 : (pickCl ns L.cs).Pairwise fun p q => p.1 ≠ q.1 := by
      have e : (pickCl ns L.cs).map (·.1) = ns := pick_fst fun n hn => by obtain ⟨a, ha, _⟩ := L.some (hsub n hn); rw [ha]; rfl
      rw [← e] at hnd
      exact List.pairwise_map.mp hnd
    refine h1.imp_of_mem fun {p q} hp hq hne e => hne ?_
    have a1 := (pick_mem hp).2
    have a2 := (pick_mem hq).2
    rw [e] at a1
    exact lookup_inj hca a1 a2
  · exact (pick_mem (mem_of_lookup h)).2
  · exact lookup_mem (pick_mem hp).2
  · obtain ⟨p, hp, rfl⟩ := List.mem_map.mp hm
    have a1 := (pick_mem hp).2
    have e : x = p.1 := lookup_inj hca h a1
    subst e
    have e2 : (pickCl ns L.cs).map (·.1) = ns := pick_fst fun n hn => by obtain ⟨a, ha, _⟩ := L.some (hsub n hn); rw [ha]; rfl
    exact lookup_of_mem (by rw [e2]; exact hnd) hp
/-! comprehensions that change nothing -/
theorem Tr.mono {e : Expr} {Q Q' : Bool → Sg → Prop} (h : Tr c F k ρ σ e Q) (hq : ∀ d σ', Q d σ' → Q' d σ') : Tr c F k ρ σ e Q' :=
  fun A L P s g r => wpAny_mono (h A L P s g r) (fun _ _ ⟨P', σ', p, q⟩ => ⟨P', σ', p, hq _ _ q⟩) fun _ _ x => x
theorem CondW.mono {ifs : List Expr} {Q Q' : Bool → Sg → Prop} (h : CondW c F k ρ Q ifs σ) (hq : ∀ d σ', Q d σ' → Q' d σ') : CondW c F k ρ Q' ifs σ := by
  match ifs, h with
  | [], h => exact hq _ _ h
  | [e], h => exact Tr.mono h hq
theorem compW_pure {x : Str} {elt : Expr} {ifs : List Expr} {okS : Sg → Prop} {Q : List D → Sg → Prop} (f : D → Bool) (g : D → D) (hS : okS σ) : ∀ (ds acc : List D), acc.length + ds.length ≤ 1000 →
    (∀ d ∈ ds, CondW c F k (setR ρ x d) (fun b σ1 => σ1 = σ ∧ b = f d) ifs σ) → (∀ d ∈ ds, f d = true → Ev c F k (setR ρ x d) σ elt (fun e σ2 => e = g d ∧ σ2 = σ)) → Q (acc ++ (ds.filter f).map g) σ → CompW c F k ρ x elt ifs okS Q ds acc σ
  | [], acc, _, _, _, q => show Q acc σ by simpa using q
  | d :: ds, acc, hz, h1, h2, q => by
    refine CondW.mono (h1 d (.head _)) fun b σ1 ⟨e1, e2⟩ => ?_
    have e1' := e1.symm
    subst e1'
    subst e2
    simp only [List.length_cons] at hz
    cases hf : f d with
    | true =>
      rw [if_pos rfl]
      refine Ev.mono (h2 d (.head _) hf) fun e σ2 ⟨e1, e2⟩ => ?_
      have e2' := e2.symm
      subst e2'
      subst e1
      refine ⟨hS, by rw [sizeLine_eq]; omega, compW_pure f g hS ds _ (by simp; omega) (fun d' hd => h1 d' (.tail _ hd)) (fun d' hd => h2 d' (.tail _ hd)) ?_⟩
      rw [List.filter_cons_of_pos hf, List.map_cons] at q
      simpa using q
    | false =>
      rw [if_neg Bool.false_ne_true]
      refine ⟨hS, compW_pure f g hS ds _ (by omega) (fun d' hd => h1 d' (.tail _ hd)) (fun d' hd => h2 d' (.tail _ hd)) ?_⟩
      rw [List.filter_cons_of_neg (by rw [hf]; exact Bool.false_ne_true)] at q
      exact q
/-! instructions -/
inductive H4 where
  | get | unif | set | put | call
  deriving DecidableEq
noncomputable def H4.str : H4 → Str
  | .get => "get_"
  | .unif => "unif"
  | .set => "set_"
  | .put => "put_"
  | .call => "call"
noncomputable def Ins.h4 : Ins → H4
  | .getVar _ _ | .getVal _ _ | .getConst _ | .getList _ => .get
  | .unifVar _ | .unifLoc _ => .unif
  | .putVal _ _ | .putVar _ _ | .putConst _ | .putUns _ _ | .putStruct _ | .putVoid _ => .put
  | .setVal _ | .setVar _ => .set
  | .call => .call
noncomputable def Ins.ops : Ins → List Opd
  | .getVar o s | .getVal o s | .putVal o s | .putVar o s | .putUns o s => [o, s]
  | .getConst s | .getList s | .putConst s | .putStruct s | .putVoid s => [s]
  | .unifVar o | .unifLoc o | .setVal o | .setVar o => [o]
  | .call => []
theorem Ltr.str_inj {a b : Ltr} (h : a.str = b.str) : a = b := by revert h; cases a <;> cases b <;> decide
theorem H4.str_inj {a b : H4} (h : a.str = b.str) : a = b := by revert h; cases a <;> cases b <;> decide
theorem opD_inj {a b : Opd} (h : opD a = opD b) : a = b := by
  obtain ⟨l, n⟩ := a
  obtain ⟨l', n'⟩ := b
  unfold opD at h
  simp only [D.tup.injEq, List.cons.injEq, D.str.injEq, D.int.injEq, and_true] at h
  rw [Ltr.str_inj h.1, h.2]
theorem opD_iff {a b : Opd} : opD a = opD b ↔ a = b := ⟨opD_inj, fun h => by rw [h]⟩
theorem Ltr.ok (l : Ltr) : PyData.strOk l.str = true := by cases l <;> decide +kernel
theorem H4.ok (l : H4) : PyData.strOk l.str = true := by cases l <;> decide +kernel
theorem name_ok (i : Ins) : PyData.strOk (nameS i) = true := by cases i <;> simp only [nameS] <;> decide +kernel
theorem okD_str {n : Nat} {x : Str} (h : PyData.strOk x = true) : okD n (.str x) = true := by cases n <;> exact h
theorem okD_int {n : Nat} {x : Int} : okD n (.int x) = true := by cases n <;> rfl
theorem okD_tup {n : Nat} {ds : List D} (h : ∀ d ∈ ds, okD n d = true) : okD (n + 1) (.tup ds) = true := by simpa [okD] using h
theorem ok_opDn (n : Nat) (o : Opd) : okD (n + 1) (opD o) = true := okD_tup fun d hd => by
  simp only [List.mem_cons, List.not_mem_nil, or_false] at hd
  rcases hd with rfl | rfl
  · exact okD_str (Ltr.ok _)
  · exact okD_int
theorem ok_opD (o : Opd) : okD 8 (opD o) = true := ok_opDn 7 o
/-- an instruction's tuple -/
noncomputable def argsD : Ins → List D
  | .getVar o s | .getVal o s | .putVal o s | .putVar o s | .putUns o s => [opD o, opD s]
  | .getConst s => [.int 7, opD s]
  | .putConst s => [.int 9, opD s]
  | .putStruct s => [.int 4, opD s]
  | .getList s | .putVoid s => [opD s]
  | .unifVar o | .unifLoc o | .setVal o | .setVar o => [opD o]
  | .call => [.int 3, .int 0]
theorem insD_eq (i : Ins) : insD i = .tup (.str (nameS i) :: argsD i) := by cases i <;> rfl
theorem ok_argsD (n : Nat) (i : Ins) : ∀ d ∈ (D.str (nameS i) :: argsD i), okD (n + 1) d = true := fun d hd => by
  rcases List.mem_cons.mp hd with rfl | hd
  · exact okD_str (name_ok i)
  · cases i <;> simp only [argsD, List.mem_cons, List.not_mem_nil, or_false] at hd <;> (try rcases hd with rfl | rfl) <;> (try subst hd) <;> first | exact ok_opDn n _ | exact okD_int
theorem ok_insD (i : Ins) : okD 8 (insD i) = true := by rw [insD_eq]; exact okD_tup (ok_argsD 6 i)
theorem in_ins {o : Opd} {i : Ins} {Q : D → Sg → Prop} (q : Q (.bool (decide (o ∈ i.ops))) σ) : Op2 c k σ (compareOp .In) (opD o) (insD i) Q := by
  rw [insD_eq]
  have hk' := ok_argsD 7 i
  refine in_tup hk' (ok_opD o) ?_
  have e : memD (opD o) (D.str (nameS i) :: argsD i) = decide (o ∈ i.ops) := by
    refine bool_iff (memD_iff.trans (Iff.trans ?_ decide_eq_true_iff.symm))
    have h0 : ∀ x, opD o ≠ D.str x := fun x h => by unfold opD at h; cases h
    have h1 : ∀ n, opD o ≠ D.int n := fun x h => by unfold opD at h; cases h
    cases i <;> simp [argsD, Ins.ops, h0, h1, opD_iff]
  rw [e]
  exact q
theorem head4 (i : Ins) : Txt.slice (nameS i) none (some 4) = i.h4.str := by cases i <;> rfl
theorem name_few (i : Ins) : (nameS i).length ≤ sizeLine := by
  rw [sizeLine_eq]
  exact Nat.le_trans (show (nameS i).length ≤ 20 by cases i <;> simp only [nameS] <;> decide) (by decide)
theorem in_heads {h : H4} {hs : List H4} {l : Addr} {Q : D → Sg → Prop} (e : σ l = some (.lst (hs.map fun x => .str x.str))) (q : Q (.bool (decide (h ∈ hs))) σ) : Op2 c k σ (compareOp .In) (.str h.str) (.raw (.ref l)) Q := by
  have ok : ∀ x : H4, okD 8 (.str x.str) = true := fun x => okD_str x.ok
  refine in_lst e (fun d hd => ?_) (ok h) ?_
  · obtain ⟨x, _, rfl⟩ := List.mem_map.mp hd; exact ok x
  · have e : memD (.str h.str) (hs.map fun x => D.str x.str) = decide (h ∈ hs) := by
      refine bool_iff (memD_iff.trans (Iff.trans ?_ decide_eq_true_iff.symm))
      rw [List.mem_map]
      constructor
      · rintro ⟨x, hx, he⟩
        have := H4.str_inj (D.str.inj he)
        rw [← this]; exact hx
      · exact fun hx => ⟨h, hx, rfl⟩
    rw [e]; exact q
/-- the places of an operand in instructions of some heads -/
noncomputable def placeAt (code : List Ins) (o : Opd) (hs : List H4) (i : Nat) : Bool := match code[i]? with
  | some x => decide (o ∈ x.ops) && decide (x.h4 ∈ hs)
  | none => false
noncomputable def placesOf (code : List Ins) (o : Opd) (hs : List H4) : List Nat := (List.range code.length).filter (placeAt code o hs)
noncomputable def atD : D → Nat
  | .int i => i.toNat
  | _ => 0
theorem ok_places (T : Tp c) {cd hl : Addr} {code : List Ins} {o : Opd} {hs : List H4} {Q : D → Sg → Prop} (ec : σ cd = some (.lst (code.map insD))) (eh : σ hl = some (.lst (hs.map fun x => .str x.str))) (hz : code.length ≤ 1000)
    (q : ∀ n, σ n = none → Q (.raw (.ref n)) (upd σ n (.lst ((placesOf code o hs).map fun (i : Nat) => .int i)))) : Cd c (k + 1) σ (.ref 113) [.raw (.ref cd), opD o, .raw (.ref hl)] Q := by
  refine Cd.fnC T.wd (is113 T) rfl ?_
  conv => arg 6; whnf
  refine Exs.cons (Ex.ret (Ev.comp (ck := ["operand", "heads", "code"]) (Caught.of (fun L => ?_) (by decide) (by decide) rfl (by decide) (by decide)) rfl rfl ?_))
  · obtain ⟨l, ca, hlen, fn, frm⟩ := L
    match ca, hlen with
    | [_, _, _], _ => rfl
  · refine Ev.fcall (Ev.blt (bi_range T) ⟨_, rfl, .inr (.inr ⟨_, rfl⟩), Evs.cons (Ev.fcall (Ev.blt (bi_len T) ⟨_, rfl, .inr (.inl ⟨_, rfl⟩), Evs.cons (Ev.cell rfl (Evs.nil (cl_len ec (by rw [List.length_map]; omega) (Evs.nil (cl_range1 ⟨_, _, itb_rng (by omega) (by omega) (by omega) (by rw [List.length_map]; omega), ?_⟩)))))⟩))⟩)
    refine compW_pure (fun d => placeAt code o hs (atD d)) (fun d => d) trivial _ [] (by rw [rngDs_length, List.length_map]; simp; omega) (fun d hd => ?_) (fun d hd hf => Ev.loc rfl ⟨rfl, rfl⟩) ?_
    · obtain ⟨i, hi, rfl⟩ := List.mem_map.mp hd
      rw [List.mem_range, List.length_map] at hi
      have hi' : i < code.length := by omega
      have hx : code[i]? = some code[i] := List.getElem?_eq_getElem hi'
      have hd' : (code.map insD)[(0 + (i : Int)).toNat]? = some (insD code[i]) := by
        rw [show (0 + (i : Int)).toNat = i by omega, List.getElem?_map, hx]; rfl
      have hp : placeAt code o hs (atD (D.int (0 + (i : Int)))) = (decide (o ∈ code[i].ops) && decide (code[i].h4 ∈ hs)) := by
        show placeAt code o hs (0 + (i : Int)).toNat = _
        rw [show (0 + (i : Int)).toNat = i by omega]
        unfold placeAt
        rw [hx]
      rw [hp]
      refine Tr.and (TrAnd.cons (Tr.cmp (Ev.cell rfl (Ev.sub (Ev.cell rfl (Ev.loc rfl (sub_lst ec (by omega) (by omega) hd' (in_ins ⟨_, rfl, ?_⟩))))))))
      by_cases h1 : o ∈ code[i].ops
      · rw [decide_eq_true h1, Bool.true_and]
        refine iteT rfl (TrAnd.cons (Tr.cmp (Ev.strTo (Ev.sub (Ev.sub (Ev.cell rfl (Ev.loc rfl (sub_lst ec (by omega) (by omega) hd' (Ev.cint (sub_name ⟨_, rfl, name_few _, ?_⟩))))))))))
        rw [head4]
        refine Ev.cell rfl (in_heads eh ⟨_, rfl, ?_⟩)
        by_cases h2 : code[i].h4 ∈ hs
        · rw [decide_eq_true h2]
          exact iteT rfl (TrAnd.nil ⟨rfl, rfl⟩)
        · rw [decide_eq_false h2]
          exact iteF Bool.false_ne_true ⟨rfl, rfl⟩
      · rw [decide_eq_false h1, Bool.false_and]
        exact iteF Bool.false_ne_true ⟨rfl, rfl⟩
    · intro n hn
      have e : (List.filter (fun d => placeAt code o hs (atD d)) (rngDs 0 ((code.map insD).length : Int))).map (fun d => d) = (placesOf code o hs).map fun i => D.int (i : Nat) := by
        unfold placesOf rngDs
        rw [List.map_id', List.length_map, List.filter_map, show ((code.length : Int) - 0).toNat = code.length by omega]
        have : ((fun d => placeAt code o hs (atD d)) ∘ fun (i : Nat) => D.int (0 + (i : Int))) = placeAt code o hs := by
          funext i
          show placeAt code o hs (0 + (i : Int)).toNat = _
          rw [show (0 + (i : Int)).toNat = i by omega]
        rw [this]
        exact List.map_congr_left fun i _ => by rw [Int.zero_add]
      rw [List.nil_append, e]
      exact q n hn
end

section
set_option maxHeartbeats 1000000
variable {c : Cx} {F : Fn} {k : Nat} {ρ : Rho} {σ : Sg}
/-! what the law's own count says -/
noncomputable def lastD (d : Nat) : List Nat → Nat
  | [] => d
  | a :: r => lastD a r
noncomputable def inOf (code : List Ins) (n : Nat) : List Qd := match placesOf code ⟨.a, n⟩ [.get] with
  | [] => []
  | a :: r => [("in", n, -1, (lastD a r : Nat))]
noncomputable def every : List H4 := [.get, .unif, .set, .put]
noncomputable def tempOf (code : List Ins) (n : Nat) : List Qd := match placesOf code ⟨.t, n⟩ every with
  | [] => []
  | a :: r => [("temp", n, (a : Nat), max (lastD a r : Int) (a + 1))]
noncomputable def endOf (code : List Ins) (p : Nat) : Nat := p + (code.drop p).findIdx isCall
noncomputable def outOf (code : List Ins) (n : Nat) : List Qd := (placesOf code ⟨.a, n⟩ [.put]).map fun (p : Nat) => ("out", n, p, (endOf code p : Nat))
noncomputable def dueIn (code : List Ins) (m : Nat) : List Qd := (List.range m).flatMap fun i => inOf code (i + 1)
noncomputable def dueTemp (code : List Ins) (m : Nat) : List Qd := (List.range m).flatMap fun i => tempOf code i
noncomputable def dueOut (code : List Ins) (m : Nat) : List Qd := (List.range m).flatMap fun i => outOf code (i + 1)
noncomputable def due (code : List Ins) (ar : Nat) : List Qd := dueIn code ar ++ dueTemp code 5 ++ dueOut code 3
theorem dueIn_succ (code : List Ins) (m : Nat) : dueIn code (m + 1) = dueIn code m ++ inOf code (m + 1) := by unfold dueIn; rw [List.range_succ, List.flatMap_append]; simp
theorem dueTemp_succ (code : List Ins) (m : Nat) : dueTemp code (m + 1) = dueTemp code m ++ tempOf code m := by unfold dueTemp; rw [List.range_succ, List.flatMap_append]; simp
theorem dueOut_succ (code : List Ins) (m : Nat) : dueOut code (m + 1) = dueOut code m ++ outOf code (m + 1) := by unfold dueOut; rw [List.range_succ, List.flatMap_append]; simp
theorem lastD_append (d : Nat) : ∀ (l : List Nat) (x : Nat), lastD d (l ++ [x]) = x
  | [], _ => rfl
  | a :: r, x => lastD_append a r x
theorem snoc_of_cons (a : Nat) : ∀ (r : List Nat), ∃ l, a :: r = l ++ [lastD a r]
  | [] => ⟨[], rfl⟩
  | b :: r => by
    obtain ⟨l, h⟩ := snoc_of_cons b r
    exact ⟨a :: l, by show a :: b :: r = a :: (l ++ [lastD b r]); rw [← h]⟩
/-- what stood before still stands -/
noncomputable def Ext (σ σ' : Sg) : Prop := ∀ a O, σ a = some O → σ' a = some O
theorem Ext.refl (σ : Sg) : Ext σ σ := fun _ _ h => h
theorem Ext.trans {σ σ' σ'' : Sg} (a : Ext σ σ') (b : Ext σ' σ'') : Ext σ σ'' := fun x O h => b x O (a x O h)
theorem Ext.new {σ σ' : Sg} (a : Ext σ σ') {n : Addr} {O : AObj} (h : σ' n = none) : Ext σ (upd σ' n O) := fun x O' e => upd_new h (a x O' e)
theorem Ext.set {σ σ' : Sg} (a : Ext σ σ') {n : Addr} {O : AObj} (h : σ n = none) : Ext σ (upd σ' n O) := fun x O' e => upd_new' h a e
where
  upd_new' {σ σ' : Sg} {n x : Addr} {O O' : AObj} (h : σ n = none) (a : Ext σ σ') (e : σ x = some O') : upd σ' n O x = some O' := by
    rw [upd_ne (fun e' => by rw [e', h] at e; cases e)]
    exact a _ _ e
theorem none_of {σ σ' : Sg} (a : Ext σ σ') {n : Addr} (h : σ' n = none) : σ n = none := by
  cases e : σ n with
  | none => rfl
  | some O => rw [a _ _ e] at h; cases h
/-- the code ends by a call -/
noncomputable def EndAt (code : List Ins) (p E : Nat) : Prop := p ≤ E ∧ (∀ j x, p ≤ j → j < E → code[j]? = some x → isCall x = false) ∧ ∃ x, code[E]? = some x ∧ isCall x = true
theorem endOf_ok {code : List Ins} (h : ∃ cs, code = cs ++ [Ins.call]) {p : Nat} (hp : p < code.length) : EndAt code p (endOf code p) := by
  obtain ⟨cs, rfl⟩ := h
  have hex : ∃ x ∈ (cs ++ [Ins.call]).drop p, isCall x = true := by
    refine ⟨.call, ?_, rfl⟩
    rw [List.drop_append_of_le_length (by simp at hp; omega)]
    simp
  have hlt : ((cs ++ [Ins.call]).drop p).findIdx isCall < ((cs ++ [Ins.call]).drop p).length := List.findIdx_lt_length_of_exists hex
  refine ⟨Nat.le_add_right _ _, fun j x h1 h2 h3 => ?_, ((cs ++ [Ins.call]).drop p)[((cs ++ [Ins.call]).drop p).findIdx isCall], ?_, List.findIdx_getElem⟩
  · have hj : j - p < ((cs ++ [Ins.call]).drop p).findIdx isCall := by unfold endOf at h2; omega
    have h4 := List.not_of_lt_findIdx hj
    have h5 : ((cs ++ [Ins.call]).drop p)[j - p]? = some x := by rw [List.getElem?_drop, show p + (j - p) = j by omega]; exact h3
    rw [List.getElem?_eq_getElem (by omega)] at h5
    injection h5 with h5
    rw [h5] at h4
    simpa using h4
  · unfold endOf
    rw [← List.getElem?_drop, List.getElem?_eq_getElem hlt]
theorem sub_codeEnd {v sl : Expr} {cd : Addr} {code : List Ins} {p : Nat} {x : Ins} {Q : D → Sg → Prop} (ec : σ cd = some (.lst (code.map insD))) (hz : code.length ≤ 1000) (hx : code[p]? = some x) (q : Q (insD x) σ)
    (hs : IdxPlain sl := by intro _ _ _; with_unfolding_all rfl) : Op2 c k σ (subscriptTail v sl) (.raw (.ref cd)) (.int p) Q := by
  have hp : p < code.length := (List.getElem?_eq_some_iff.mp hx).1
  refine sub_lst ec (by omega) (by omega) ?_ q hs
  rw [show ((p : Int)).toNat = p by omega, List.getElem?_map, hx]; rfl
theorem places_lt {code : List Ins} {o : Opd} {hs : List H4} {p : Nat} (h : p ∈ placesOf code o hs) : p < code.length := by
  unfold placesOf at h
  exact List.mem_range.mp (List.mem_filter.mp h).1
theorem places_len {code : List Ins} {o : Opd} {hs : List H4} : (placesOf code o hs).length ≤ code.length := by
  unfold placesOf
  exact Nat.le_trans (List.length_filter_le _ _) (by simp)
theorem placesD_ok {code : List Ins} {o : Opd} {hs : List H4} : ∀ d ∈ ((placesOf code o hs).map fun (i : Nat) => D.int i), okD 8 d = true := fun d hd => by
  obtain ⟨i, _, rfl⟩ := List.mem_map.mp hd; exact okD_int
theorem deql_nil {α : Type} {f : α → D} : ∀ (l : List α), deql (l.map f) [] = l.isEmpty
  | [] => deql_iff.mpr rfl
  | a :: r => by
    cases h : deql (List.map f (a :: r)) [] with
    | false => rfl
    | true => have := deql_iff.mp h; simp at this
/-- what stands while the law's own count runs -/
structure DueI (σ₀ σ : Sg) (fd ev : Addr) (qs : List Qd) : Prop where
  ext : Ext σ₀ σ
  new : σ₀ fd = none
  found : σ fd = some (.lst (qs.map qdD))
  heads : σ ev = some (.lst (every.map fun x => .str x.str))
  ne : fd ≠ ev
theorem DueI.grow {σ₀ σ' : Sg} {fd ev : Addr} {qs : List Qd} (d : DueI σ₀ σ fd ev qs) (h : Ext σ σ') : DueI σ₀ σ' fd ev qs := ⟨d.ext.trans h, d.new, h _ _ d.found, h _ _ d.heads, d.ne⟩
theorem DueI.push {σ₀ : Sg} {fd ev : Addr} {qs qs' : List Qd} (d : DueI σ₀ σ fd ev qs) : DueI σ₀ (upd σ fd (.lst (qs'.map qdD))) fd ev qs' := ⟨d.ext.set d.new, d.new, upd_same, by rw [upd_ne d.ne.symm]; exact d.heads, d.ne⟩
/-- found.append(a quadruple) -/
theorem Ex.found {o e : Expr} {apos pos ipos : Pos} {fd ev : Addr} {σ₀ : Sg} {qs : List Qd} {Q : Out → Rho → Sg → Prop} (hρ : Ev c F k ρ σ o (fun d σ1 => ∃ l O, d = .raw (.ref l) ∧ σ1 l = some (.lst O) ∧ Ev c F k ρ σ1 e (fun x σ2 => ∃ q : Qd, l = fd ∧ DueI σ₀ σ2 fd ev qs ∧ qs.length ≤ 1000 ∧ x = qdD q ∧ (DueI σ₀ (upd σ2 fd (.lst ((qs ++ [q]).map qdD))) fd ev (qs ++ [q]) → Q .next ρ (upd σ2 fd (.lst ((qs ++ [q]).map qdD)))))))
    (hbase : ∀ L : Loc F.ck, attributeBase o "append" (F.env L) (eval o (F.env L)) = eval o (F.env L) := by intro _; rfl)
    (hfew : ∀ L : Loc F.ck, ((backTo pos (starEach [e] (F.env L))).all (fun x => !x.1) && (backToKw pos (keywordEach [] (F.env L))).all (fun x => x.1.isSome)
      && decide ([e].length + ([] : List Keyword).length + (if ([] : List Keyword).isEmpty then 0 else 1) < 30)) = true := by intro _; rfl)
    (hline : (apos.endLine == pos.line) = true := by rfl)
    (he : ∀ L : Loc F.ck, starEach [e] (F.env L) = (false, eval e (F.env L)) :: starEach [] (F.env L) := by intro _; rfl)
    (hi : ∀ L : Loc F.ck, interactive (F.env L) = false := by intro _; rfl) (hs : ∀ L : Loc F.ck, swapsWith (.Call (.Attribute o "append" apos) [e] [] pos) none ipos.line (F.env L) = pure false := by intro _; rfl) :
    Ex c F k ρ σ (.Expr (.Call (.Attribute o "append" apos) [e] [] pos) ipos) Q := by
  refine Ex.expr (Ev.append (hρ.mono fun d σ1 ⟨l, O, h1, h2, h3⟩ => ⟨l, O, h1, h2, h3.mono fun x σ2 ⟨q, hl, h4, h5, h6, h7⟩ => ?_⟩) hbase hfew hline he) hi hs
  subst hl
  subst h6
  refine ⟨_, h4.found, ?_, rfl, ?_⟩
  · rw [List.length_map, sizeLine_eq]; omega
  · rw [show (qs.map qdD ++ [qdD q]) = (qs ++ [q]).map qdD by simp]
    exact h7 h4.push
theorem ok_due (T : Tp c) {cd : Addr} {code : List Ins} {ar : Nat} {Q : D → Sg → Prop} (ec : σ cd = some (.lst (code.map insD))) (hz : code.length ≤ 100) (hc : ∃ cs, code = cs ++ [Ins.call]) (ha : ar ≤ 4) (hd : (due code ar).length < 64)
    (q : ∀ (n : Addr) (qs' : List Qd) (σ' : Sg), Ext σ σ' → σ' n = some (.lst (qs'.map qdD)) → qs'.Perm (due code ar) → qs'.Pairwise qdLe → Q (.raw (.ref n)) σ') : Cd c (k + 2) σ (.ref 120) [.raw (.ref cd), .int ar] Q := by
  refine Cd.fn T.wd (is120 T) rfl ?_
  conv => arg 6; whnf
  refine Exs.cons (Ex.assign (Ev.list (Evs.nil ⟨few rfl, fun fd hfd => ?_⟩)))
  refine Exs.cons (Ex.assign ?_)
  repeat walk_at "v"
  intro ev hev
  have hne : fd ≠ ev := ne_new hev upd_same
  have I0 : DueI σ (upd (upd σ fd (.lst [])) ev (.lst [.str "get_", .str "unif", .str "set_", .str "put_"])) fd ev [] := ⟨((Ext.refl σ).new hfd).new hev, hfd, by rw [upd_ne hne]; exact upd_same, upd_same, hne⟩
  have hz' : code.length ≤ 1000 := by omega
  have hb1 : (dueIn code ar).length ≤ 64 := by unfold due at hd; simp only [List.length_append] at hd; omega
  refine Exs.cons (Ex.forIn (Ev.fcall (Ev.blt (bi_range T) ⟨_, rfl, .inr (.inr ⟨_, rfl⟩), Evs.cons (Ev.cint (Evs.cons (Ev.binop (Ev.loc rfl (Ev.cint (add_ok (Evs.nil (cl_range2 ⟨_, _, itb_rng (by omega) (by omega) (by omega) (by omega), ?_⟩)))))))) ⟩)))
  refine LoopW.inv _ (fun i ρ σ' => ρ "code" = some (.raw (.ref cd)) ∧ ρ "found" = some (.raw (.ref fd)) ∧ ρ "every" = some (.raw (.ref ev)) ∧ DueI σ σ' fd ev (dueIn code i)) ?_ ?_ ⟨rfl, rfl, rfl, I0⟩
  · rintro i hi ρ σ1 ⟨h1, h2, h3, I1⟩
    rw [rngDs_length] at hi
    rw [rngDs_get]
    refine As.name ?_
    refine Exs.cons (Ex.assign (Ev.fcall (Ev.glob (gl113 T) (fun _ => .raw _) ⟨_, rfl, kp113 T, ?_⟩)))
    repeat walk_at "v"
    intro hl hhl
    refine Evs.nil (Cl.of_code ?_)
    have J1 := I1.grow ((Ext.refl _).new (O := .lst [.str "get_"]) hhl)
    have hn : (1 : Int) + (i : Int) = ((i + 1 : Nat) : Int) := by omega
    rw [hn]
    refine ok_places T (o := ⟨.a, (i + 1 : Nat)⟩) (hs := [.get]) (J1.ext _ _ ec) upd_same hz' fun m hm => ?_
    have J2 := J1.grow ((Ext.refl _).new (O := .lst ((placesOf code ⟨.a, (i + 1 : Nat)⟩ [.get]).map fun (i : Nat) => .int i)) hm)
    refine Exs.cons (Ex.ite (Tr.cmp (Ev.loc rfl (Ev.list (Evs.nil ⟨few rfl, fun e he => nel_ok (upd_new he upd_same) upd_same placesD_ok (by simp) ⟨_, rfl, ?_⟩⟩)))))
    have J3 := J2.grow ((Ext.refl _).new (O := .lst []) he)
    have mm := upd_new (O := .lst []) he (upd_same (σ := upd σ1 hl (.lst [.str "get_"])) (a := m) (O := .lst ((placesOf code ⟨.a, (i + 1 : Nat)⟩ [.get]).map fun (i : Nat) => D.int i)))
    rw [deql_nil]
    cases hp : placesOf code ⟨.a, (i + 1 : Nat)⟩ [.get] with
    | nil =>
      rw [hp] at J3
      refine iteF (by decide) (Exs.nil (Exs.nil ⟨trivial, h1, h2, h3, ?_⟩))
      rw [dueIn_succ, inOf, hp, List.append_nil]
      exact J3
    | cons a r =>
      rw [hp] at J3 mm
      obtain ⟨l, hl'⟩ := snoc_of_cons a r
      have mm' := mm.trans (show _ = some (AObj.lst (l.map (fun (i : Nat) => D.int i) ++ [D.int (lastD a r : Nat)])) by rw [hl', List.map_append]; rfl)
      have hq : (dueIn code i).length ≤ 1000 := by
        have : (dueIn code i).length ≤ 4 * 1 := by
          have hi' : i ≤ 4 := by omega
          have : ∀ j, (dueIn code j).length ≤ j := fun j => by
            induction j with
            | zero => simp [dueIn]
            | succ j ih =>
              rw [dueIn_succ, List.length_append]
              have : (inOf code (j + 1)).length ≤ 1 := by unfold inOf; split <;> simp
              omega
          have := this i
          omega
        omega
      refine iteT rfl (Exs.cons (Ex.found (fd := fd) (qs := dueIn code i) (σ₀ := σ) (ev := ev) (Ev.loc h2 ⟨fd, _, rfl, J3.found, ?_⟩)))
      refine Ev.tup <| Evs.cons <| Ev.cstr <| Evs.cons <| Ev.loc rfl <| Evs.cons <| Ev.unop <| Ev.cint <| neg_ok <| Evs.cons <| Ev.sub <| Ev.loc rfl <| Ev.unop <| Ev.cint <| neg_ok <| sub_last mm' <| Evs.nil ⟨few rfl, ("in", (i + 1 : Nat), -1, (lastD a r : Nat)), rfl, J3, hq, rfl, fun J4 => ?_⟩
      refine Exs.nil (Exs.nil ⟨trivial, h1, h2, h3, ?_⟩)
      rw [dueIn_succ, inOf, hp]
      exact J4
  rintro ρ σ1 ⟨h1, h2, h3, I1⟩
  rw [rngDs_length, show ((ar : Int) + 1 - 1).toNat = ar by omega] at I1
  clear hb1
  refine Exs.cons (Ex.forIn (Ev.fcall (Ev.blt (bi_range T) ⟨_, rfl, .inr (.inr ⟨_, rfl⟩), Evs.cons (Ev.cint (Evs.nil (cl_range1 ⟨_, _, itb_rng (by decide) (by decide) (by decide) (by decide), ?_⟩)))⟩)))
  refine LoopW.inv _ (fun i ρ σ' => ρ "code" = some (.raw (.ref cd)) ∧ ρ "found" = some (.raw (.ref fd)) ∧ ρ "every" = some (.raw (.ref ev)) ∧ DueI σ σ' fd ev (dueIn code ar ++ dueTemp code i)) ?_ ?_ ⟨h1, h2, h3, by simpa [dueTemp] using I1⟩
  · clear I1
    rintro i hi ρ σ1 ⟨h1, h2, h3, I1⟩
    rw [rngDs_length] at hi
    rw [rngDs_get]
    refine As.name ?_
    refine Exs.cons (Ex.assign (Ev.fcall (Ev.glob (gl113 T) (fun _ => .raw _) ⟨_, rfl, kp113 T, ?_⟩)))
    repeat walk_at "v"
    refine Cl.of_code ?_
    have hn : (0 : Int) + (i : Int) = (i : Int) := by omega
    rw [hn]
    refine ok_places T (o := ⟨.t, (i : Nat)⟩) (hs := every) (I1.ext _ _ ec) I1.heads hz' fun m hm => ?_
    have J2 := I1.grow ((Ext.refl _).new (O := .lst ((placesOf code ⟨.t, (i : Nat)⟩ every).map fun (i : Nat) => .int i)) hm)
    refine Exs.cons (Ex.ite (Tr.cmp (Ev.loc rfl (Ev.list (Evs.nil ⟨few rfl, fun e he => nel_ok (upd_new he upd_same) upd_same placesD_ok (by simp) ⟨_, rfl, ?_⟩⟩)))))
    have J3 := J2.grow ((Ext.refl _).new (O := .lst []) he)
    have mm := upd_new (O := .lst []) he (upd_same (σ := σ1) (a := m) (O := .lst ((placesOf code ⟨.t, (i : Nat)⟩ every).map fun (i : Nat) => D.int i)))
    rw [deql_nil]
    cases hp : placesOf code ⟨.t, (i : Nat)⟩ every with
    | nil =>
      rw [hp] at J3
      refine iteF (by decide) (Exs.nil (Exs.nil ⟨trivial, h1, h2, h3, ?_⟩))
      rw [dueTemp_succ, tempOf, hp, List.append_nil]
      exact J3
    | cons a r =>
      rw [hp] at J3 mm
      obtain ⟨l, hl'⟩ := snoc_of_cons a r
      have mm' := mm.trans (show _ = some (AObj.lst (l.map (fun (i : Nat) => D.int i) ++ [D.int (lastD a r : Nat)])) by rw [hl', List.map_append]; rfl)
      have hq : (dueIn code ar ++ dueTemp code i).length ≤ 1000 := by
        have h5 : ∀ j, (dueTemp code j).length ≤ j := fun j => by
          induction j with
          | zero => simp [dueTemp]
          | succ j ih =>
            rw [dueTemp_succ, List.length_append]
            have : (tempOf code j).length ≤ 1 := by unfold tempOf; split <;> simp
            omega
        have := h5 i
        have h6 : (dueIn code ar).length ≤ 64 := by unfold due at hd; simp only [List.length_append] at hd; omega
        rw [List.length_append]
        omega
      refine iteT rfl (Exs.cons (Ex.found (fd := fd) (qs := dueIn code ar ++ dueTemp code i) (σ₀ := σ) (ev := ev) (Ev.loc h2 ⟨fd, _, rfl, J3.found, ?_⟩)))
      refine Ev.tup <| Evs.cons <| Ev.cstr <| Evs.cons <| Ev.loc rfl <| Evs.cons <| Ev.sub <| Ev.loc rfl <| Ev.cint <| sub_lst mm (by decide) (by decide) rfl <| Evs.cons <| Ev.fcall <| Ev.blt (bi_max T) ⟨_, rfl, .inr (.inl ⟨_, rfl⟩), ?_⟩
      refine Evs.cons <| Ev.sub <| Ev.loc rfl <| Ev.unop <| Ev.cint <| neg_ok <| sub_last mm' <| Evs.cons <| Ev.binop <| Ev.sub <| Ev.loc rfl <| Ev.cint <| sub_lst mm (by decide) (by decide) rfl <| Ev.cint <| add_ok <| Evs.nil <| cl_max ?_
      refine Evs.nil ⟨few rfl, ("temp", (i : Nat), (a : Nat), max (lastD a r : Int) (a + 1)), rfl, J3, hq, rfl, fun J4 => ?_⟩
      refine Exs.nil (Exs.nil ⟨trivial, h1, h2, h3, ?_⟩)
      rw [dueTemp_succ, tempOf, hp, ← List.append_assoc]
      exact J4
  clear h1 h2 h3 I1
  rintro ρ σ1 ⟨h1, h2, h3, I1⟩
  rw [rngDs_length, show ((5 : Int) - 0).toNat = 5 by omega] at I1
  refine Exs.cons (Ex.forIn (Ev.fcall (Ev.blt (bi_range T) ⟨_, rfl, .inr (.inr ⟨_, rfl⟩), Evs.cons (Ev.cint (Evs.cons (Ev.cint (Evs.nil (cl_range2 ⟨_, _, itb_rng (by decide) (by decide) (by decide) (by decide), ?_⟩)))))⟩)))
  refine LoopW.inv _ (fun i ρ σ' => ρ "code" = some (.raw (.ref cd)) ∧ ρ "found" = some (.raw (.ref fd)) ∧ DueI σ σ' fd ev (dueIn code ar ++ dueTemp code 5 ++ dueOut code i)) ?_ ?_ ⟨h1, h2, by simpa [dueOut] using I1⟩
  · clear I1 h1 h2 h3
    rintro i hi ρ σ1 ⟨h1, h2, I1⟩
    rw [rngDs_length] at hi
    rw [rngDs_get]
    refine As.name ?_
    refine Exs.cons (Ex.forIn (Ev.fcall (Ev.glob (gl113 T) (fun _ => .raw _) ⟨_, rfl, kp113 T, ?_⟩)))
    repeat walk_at "v"
    intro hl hhl
    refine Evs.nil (Cl.of_code ?_)
    have J1 := I1.grow ((Ext.refl _).new (O := .lst [.str "put_"]) hhl)
    have hn : (1 : Int) + (i : Int) = ((i + 1 : Nat) : Int) := by omega
    rw [hn]
    refine ok_places T (o := ⟨.a, (i + 1 : Nat)⟩) (hs := [.put]) (J1.ext _ _ ec) upd_same hz' fun m hm => ?_
    have J2 := J1.grow ((Ext.refl _).new (O := .lst ((placesOf code ⟨.a, (i + 1 : Nat)⟩ [.put]).map fun (i : Nat) => .int i)) hm)
    have hmf : m ≠ fd := (ne_new hm J1.found).symm
    refine ⟨_, _, itb_list upd_same, ?_⟩
    refine LoopW.inv _ (fun j ρ σ' => ρ "code" = some (.raw (.ref cd)) ∧ ρ "found" = some (.raw (.ref fd)) ∧ ρ "number" = some (.int (i + 1 : Nat)) ∧ σ' m = some (.lst ((placesOf code ⟨.a, (i + 1 : Nat)⟩ [.put]).map fun (i : Nat) => .int i)) ∧
      DueI σ σ' fd ev (dueIn code ar ++ dueTemp code 5 ++ dueOut code i ++ ((placesOf code ⟨.a, (i + 1 : Nat)⟩ [.put]).take j).map fun (p : Nat) => (("out", (i + 1 : Nat), p, (endOf code p : Nat)) : Qd))) ?_ ?_ ⟨h1, h2, rfl, upd_same, by simpa using J2⟩
    · clear I1 h1 h2
      rintro j hj ρ σ2 ⟨h1, h2, h3, h4, K⟩
      have hj' : j < (placesOf code ⟨.a, (i + 1 : Nat)⟩ [.put]).length := by simpa using hj
      rw [List.getElem_map]
      generalize hpp : (placesOf code ⟨.a, (i + 1 : Nat)⟩ [.put])[j] = p
      have hpm : p ∈ placesOf code ⟨.a, (i + 1 : Nat)⟩ [.put] := by rw [← hpp]; exact List.getElem_mem _
      have hE := endOf_ok hc (places_lt hpm)
      refine As.name ?_
      refine Exs.cons (Ex.assign (Ev.loc rfl ?_))
      refine Exs.cons (Ex.while (fun mm ρ' σ' => σ' = σ2 ∧ ρ' "code" = some (.raw (.ref cd)) ∧ ρ' "found" = some (.raw (.ref fd)) ∧ ρ' "number" = some (.int (i + 1 : Nat)) ∧ ρ' "at" = some (.int p) ∧ ∃ e : Nat, ρ' "end" = some (.int e) ∧ p ≤ e ∧ e ≤ endOf code p ∧ mm = endOf code p - e) (endOf code p - p)
        ⟨rfl, h1, h2, h3, rfl, p, rfl, Nat.le_refl _, hE.1, rfl⟩ ?_)
      rintro mm ρ' σ' ⟨rfl, g1, g2, g3, g4, e, g5, g6, g7, rfl⟩
      have hlt : e < code.length := by
        obtain ⟨x, hx, _⟩ := hE.2.2
        have := (List.getElem?_eq_some_iff.mp hx).1
        omega
      have hx : code[e]? = some code[e] := List.getElem?_eq_getElem hlt
      have hnc : ∀ x : Ins, (nameS x != "call") = !isCall x := fun x => by cases x <;> rfl
      refine Tr.cmp <| Ev.sub <| Ev.sub <| Ev.loc g1 <| Ev.loc g5 <| sub_codeEnd (K.ext _ _ ec) hz' hx <| Ev.cint <| sub_name <| Ev.cstr <| nes_ok ⟨_, rfl, ?_⟩
      rw [hnc]
      by_cases hlast : e = endOf code p
      · have hcall : isCall code[e] = true := by
          obtain ⟨x, hx', hcx⟩ := hE.2.2
          rw [← hlast, hx] at hx'
          injection hx' with hx'
          rw [hx']; exact hcx
        rw [hcall]
        refine iteF Bool.false_ne_true ?_
        have hq : (dueIn code ar ++ dueTemp code 5 ++ dueOut code i ++ ((placesOf code ⟨.a, (i + 1 : Nat)⟩ [.put]).take j).map fun (p : Nat) => (("out", (i + 1 : Nat), p, (endOf code p : Nat)) : Qd)).length ≤ 1000 := by
          have t1 : (dueIn code ar ++ dueTemp code 5).length ≤ 64 := by unfold due at hd; rw [List.length_append] at hd; omega
          have t2 : ∀ x, (dueOut code x).length ≤ 100 * x := fun x => by
            induction x with
            | zero => simp [dueOut]
            | succ x ih =>
              rw [dueOut_succ, List.length_append]
              have := places_len (code := code) (o := ⟨.a, (x + 1 : Nat)⟩) (hs := [.put])
              have e' : (outOf code (x + 1)).length = (placesOf code ⟨.a, (x + 1 : Nat)⟩ [.put]).length := by unfold outOf; rw [List.length_map]
              omega
          have t3 := t2 i
          have t4 := places_len (code := code) (o := ⟨.a, (i + 1 : Nat)⟩) (hs := [.put])
          rw [List.length_append, List.length_append, List.length_map, List.length_take]
          have : i < 3 := by omega
          omega
        refine Exs.cons (Ex.found (fd := fd) (σ₀ := σ) (ev := ev) (qs := dueIn code ar ++ dueTemp code 5 ++ dueOut code i ++ ((placesOf code ⟨.a, (i + 1 : Nat)⟩ [.put]).take j).map fun (p : Nat) => (("out", (i + 1 : Nat), p, (endOf code p : Nat)) : Qd)) (Ev.loc g2 ⟨fd, _, rfl, K.found, ?_⟩))
        refine Ev.tup <| Evs.cons <| Ev.cstr <| Evs.cons <| Ev.loc g3 <| Evs.cons <| Ev.loc g4 <| Evs.cons <| Ev.loc g5 <| Evs.nil ⟨few rfl, ("out", (i + 1 : Nat), (p : Nat), (e : Nat)), rfl, K, hq, rfl, fun K' => ?_⟩
        refine Exs.nil ⟨?_, g1, g2, g3, ?_, ?_⟩
        · show upd _ _ _ m = _
          rw [upd_ne hmf]; exact h4
        · rw [upd_ne hmf]; exact h4
        · have et : (placesOf code ⟨.a, (i + 1 : Nat)⟩ [.put]).take (j + 1) = (placesOf code ⟨.a, (i + 1 : Nat)⟩ [.put]).take j ++ [p] := by
            rw [List.take_add_one, List.getElem?_eq_getElem hj', hpp]; rfl
          have el : ∀ l : List Qd, l ++ ((placesOf code ⟨.a, (i + 1 : Nat)⟩ [.put]).take (j + 1)).map (fun (p : Nat) => (("out", (i + 1 : Nat), p, (endOf code p : Nat)) : Qd)) = l ++ ((placesOf code ⟨.a, (i + 1 : Nat)⟩ [.put]).take j).map (fun (p : Nat) => (("out", (i + 1 : Nat), p, (endOf code p : Nat)) : Qd)) ++ [(("out", ((i + 1 : Nat) : Int), (p : Int), ((endOf code p : Nat) : Int)) : Qd)] := fun l => by
            rw [et, List.map_append, ← List.append_assoc]; rfl
          rw [el]
          rw [hlast] at K' ⊢
          exact K'
      · have hcall : isCall code[e] = false := hE.2.1 e _ g6 (by omega) hx
        rw [hcall]
        refine iteT rfl (Exs.cons (Ex.aug g5 (Ev.cint (iadd_ok ?_))))
        refine Exs.nil ⟨endOf code p - (e + 1), by omega, rfl, g1, g2, g3, g4, e + 1, ?_, by omega, by omega, rfl⟩
        show some (D.int ((e : Int) + 1)) = _
        rfl
    · rintro ρ2 σ2 ⟨h1', h2', _, _, K⟩
      refine Exs.nil ⟨trivial, h1', h2', ?_⟩
      rw [List.length_map, List.take_length] at K
      rw [dueOut_succ, ← List.append_assoc]
      exact K
  · clear I1 h1 h2 h3
    rintro ρ σ1 ⟨h1, h2, I1⟩
    rw [rngDs_length, show ((4 : Int) - 1).toNat = 3 by omega] at I1
    refine Exs.cons (Ex.ret (Ev.fcall (Ev.blt (bi_sorted T) ⟨_, rfl, .inr (.inl ⟨_, rfl⟩), Evs.cons (Ev.loc h2 (Evs.nil (cl_sorted I1.found hd fun n qs' hn hp hs => ?_)))⟩)))
    exact q n qs' _ (I1.ext.new hn) upd_same hp hs
end

section
/-! the machine of «intervals» -/
noncomputable abbrev qd (k : Str) (a b c : Int) : Qd := (k, a, b, c)
structure IS where
  found : List Qd
  inc : List (Int × Nat)
  out : List (Int × Nat)
  tmp : List (Int × Nat)
noncomputable def mget (m : List (Int × Nat)) (n : Int) : Option Nat := (m.find? fun kv => kv.1 = n).map (·.2)
noncomputable def mset (m : List (Int × Nat)) (n : Int) (i : Nat) : List (Int × Nat) := if m.any (fun kv => kv.1 = n) then m.map (fun kv => if kv.1 = n then (kv.1, i) else kv) else m ++ [(n, i)]
noncomputable def stopAt (t : Int) (q : Qd) : Qd := (q.1, q.2.1, q.2.2.1, t)
noncomputable def setStop (f : List Qd) (i : Nat) (t : Int) : List Qd := f.modify i (stopAt t)
noncomputable def stopOf (f : List Qd) (i : Nat) : Int := match f[i]? with
  | some q => q.2.2.2
  | none => 0
noncomputable def istep (p : Int) (st : IS) (r : Int × Opd) : IS := match r.2.l with
  | .t => match mget st.tmp r.2.n with
    | none => { st with found := st.found ++ [qd "temp" r.2.n p (p + 1)], tmp := mset st.tmp r.2.n st.found.length }
    | some i => if stopOf st.found i < p then { st with found := setStop st.found i p } else st
  | .a => if r.1 = 2 then { st with found := st.found ++ [qd "out" r.2.n p (p + 1)], out := mset st.out r.2.n st.found.length } else match mget st.inc r.2.n with
    | some i => { st with found := setStop st.found i p }
    | none => st
  | _ => st
noncomputable def icloseF (out : List (Int × Nat)) (p : Int) (f : List Qd) (n : Int) : List Qd := match mget out n with
  | some i => setStop f i p
  | none => f
noncomputable def iclose (p : Int) (st : IS) : IS := { st with found := (st.out.map (·.1)).foldl (icloseF st.out p) st.found, out := [] }
noncomputable def iins (p : Int) (st : IS) (i : Ins) : IS := (roles i).foldl (istep p) (if isCall i then iclose p st else st)
noncomputable def irun : List Ins → Nat → IS → IS
  | [], _, st => st
  | i :: r, p, st => irun r (p + 1) (iins p st i)
noncomputable def iinit (ar : Nat) : IS := { found := (List.range ar).map fun (i : Nat) => qd "in" (i + 1 : Nat) (-1) (-1), inc := (List.range ar).map fun i => (((i + 1 : Nat) : Int), i), out := [], tmp := [] }
noncomputable def told (code : List Ins) (ar : Nat) : List Qd := (irun code 0 (iinit ar)).found.filter fun q => decide (q.2.2.1 < q.2.2.2)
/-! a dict of instances -/
noncomputable def dctD (as : List Addr) (m : List (Int × Nat)) : List (Int × D) := m.map fun p => (p.1, .inst (as.getD p.2 0))
theorem dget_dctD {as : List Addr} {n : Int} : ∀ (m : List (Int × Nat)), dget (dctD as m) n = (mget m n).map fun i => D.inst (as.getD i 0)
  | [] => rfl
  | p :: m => by
    have ih := dget_dctD (as := as) (n := n) m
    unfold dget dctD mget at ih ⊢
    rw [List.map_cons, List.find?_cons, List.find?_cons]
    by_cases h : p.1 = n
    · simp [h]
    · simp only [h, decide_false]
      exact ih
theorem dctD_append {as : List Addr} {a : Addr} {m : List (Int × Nat)} (h : ∀ p ∈ m, p.2 < as.length) : dctD (as ++ [a]) m = dctD as m := by
  unfold dctD
  refine List.map_congr_left fun p hp => ?_
  have := h p hp
  rw [List.getD_eq_getElem?_getD, List.getD_eq_getElem?_getD, List.getElem?_append_left this]
theorem dset_dctD {as : List Addr} {a : Addr} {m : List (Int × Nat)} {n : Int} (h : ∀ p ∈ m, p.2 < as.length) : dset (dctD as m) n (.inst a) = dctD (as ++ [a]) (mset m n as.length) := by
  have hl : (as ++ [a]).getD as.length 0 = a := by simp [List.getD_eq_getElem?_getD]
  have he := dctD_append (a := a) h
  unfold dset mset
  have hany : (dctD as m).any (fun kv => decide (kv.1 = n)) = m.any (fun kv => decide (kv.1 = n)) := by unfold dctD; rw [List.any_map]; rfl
  rw [hany]
  split
  · rw [← he]
    unfold dctD
    rw [List.map_map, List.map_map]
    refine List.map_congr_left fun p hp => ?_
    show (if p.1 = n then (p.1, D.inst a) else (p.1, D.inst ((as ++ [a]).getD p.2 0))) = _
    show _ = ((if p.1 = n then (p.1, as.length) else p).1, D.inst ((as ++ [a]).getD (if p.1 = n then (p.1, as.length) else p).2 0))
    by_cases hp : p.1 = n
    · rw [if_pos hp, if_pos hp, hl]
    · rw [if_neg hp, if_neg hp]
  · rw [← he]
    unfold dctD
    rw [List.map_append, List.map_singleton]
    show _ ++ [(n, D.inst a)] = _ ++ [(n, D.inst ((as ++ [a]).getD as.length 0))]
    rw [hl]
theorem mset_mem {m : List (Int × Nat)} {n : Int} {i : Nat} {p : Int × Nat} (h : p ∈ mset m n i) : p = (n, i) ∨ p ∈ m := by
  unfold mset at h
  split at h
  · obtain ⟨q, hq, rfl⟩ := List.mem_map.mp h
    by_cases hn : q.1 = n
    · rw [if_pos hn, hn]; exact .inl rfl
    · rw [if_neg hn]; exact .inr hq
  · rcases List.mem_append.mp h with h | h
    · exact .inr h
    · exact .inl (List.mem_singleton.mp h)
theorem mset_len (m : List (Int × Nat)) (n : Int) (i : Nat) : (mset m n i).length ≤ m.length + 1 := by
  unfold mset
  split
  · rw [List.length_map]; omega
  · simp
theorem mget_mem {m : List (Int × Nat)} {n : Int} {i : Nat} (h : mget m n = some i) : (n, i) ∈ m := by
  unfold mget at h
  cases e : m.find? (fun kv => decide (kv.1 = n)) with
  | none => rw [e] at h; cases h
  | some p =>
    rw [e] at h
    have h1 := List.find?_some e
    have h2 := List.mem_of_find?_eq_some e
    have h3 : p.1 = n := by simpa using h1
    have h4 : p.2 = i := by simpa using h
    rw [← h3, ← h4]; exact h2
theorem mget_mset {m : List (Int × Nat)} {n n' : Int} {i : Nat} : mget (mset m n i) n' = if n' = n then some i else mget m n' := by
  have hmap : ∀ (m : List (Int × Nat)), (m.map fun kv => if kv.1 = n then (kv.1, i) else kv).find? (fun kv => decide (kv.1 = n')) = (m.find? fun kv => decide (kv.1 = n')).map fun kv => if kv.1 = n then (kv.1, i) else kv := fun m => by
    rw [List.find?_map]
    congr 2
    funext kv
    show decide ((if kv.1 = n then (kv.1, i) else kv).1 = n') = _
    by_cases h : kv.1 = n <;> simp [h]
  unfold mset
  split
  · rename_i hany
    unfold mget
    rw [hmap]
    by_cases hn : n' = n
    · subst hn
      rw [if_pos rfl]
      obtain ⟨p, hp, hpn⟩ := List.any_eq_true.mp hany
      cases e : m.find? (fun kv => decide (kv.1 = n')) with
      | none => exact absurd hpn (by simpa using List.find?_eq_none.mp e p hp)
      | some q =>
        have : q.1 = n' := by simpa using List.find?_some e
        simp [this]
    · rw [if_neg hn]
      cases e : m.find? (fun kv => decide (kv.1 = n')) with
      | none => rfl
      | some q =>
        have : q.1 = n' := by simpa using List.find?_some e
        simp [this, hn]
  · rename_i hany
    unfold mget
    rw [List.find?_append]
    by_cases hn : n' = n
    · subst hn
      rw [if_pos rfl]
      have : m.find? (fun kv => decide (kv.1 = n')) = none := by
        rw [List.find?_eq_none]
        intro p hp h
        exact hany (List.any_eq_true.mpr ⟨p, hp, h⟩)
      rw [this]; simp
    · rw [if_neg hn]
      have : ¬ n = n' := fun e => hn e.symm
      cases e : m.find? (fun kv => decide (kv.1 = n')) with
      | none => simp [this]
      | some q => simp
end

section
set_option maxHeartbeats 1000000
variable {c : Cx} {F : Fn} {k : Nat} {ρ : Rho} {σ : Sg}
/-- the machine, as the heap holds it -/
structure Sim (σ₀ σ : Sg) (fd ia oa ta : Addr) (as : List Addr) (st : IS) (N : Nat) : Prop where
  ext : Ext σ₀ σ
  found : σ fd = some (.lst (as.map .inst))
  len : as.length = st.found.length
  occ : ∀ (i : Nat) (a : Addr) (q : Qd), as[i]? = some a → st.found[i]? = some q → σ a = some (.fld (occF q))
  nodup : as.Nodup
  inc : ∃ ep, σ ia = some (.dct (dctD as st.inc) ep)
  out : ∃ ep, σ oa = some (.dct (dctD as st.out) ep)
  tmp : ∃ ep, σ ta = some (.dct (dctD as st.tmp) ep)
  nfd : σ₀ fd = none
  nia : σ₀ ia = none
  noa : σ₀ oa = none
  nta : σ₀ ta = none
  nas : ∀ a ∈ as, σ₀ a = none
  io : ia ≠ oa
  it : ia ≠ ta
  ot : oa ≠ ta
  iinc : ∀ p ∈ st.inc, p.2 < as.length
  iout : ∀ p ∈ st.out, p.2 < as.length
  itmp : ∀ p ∈ st.tmp, p.2 < as.length
  few : as.length ≤ N ∧ st.inc.length ≤ N ∧ st.out.length ≤ N ∧ st.tmp.length ≤ N
/-- lists other than fd's stand as they stood -/
noncomputable def Lists (fd : Addr) (σ σ' : Sg) : Prop := ∀ x ds, x ≠ fd → σ x = some (.lst ds) → σ' x = some (.lst ds)
theorem Lists.refl (fd : Addr) (σ : Sg) : Lists fd σ σ := fun _ _ _ h => h
theorem Lists.trans {fd : Addr} {σ σ' σ'' : Sg} (a : Lists fd σ σ') (b : Lists fd σ' σ'') : Lists fd σ σ'' := fun x ds h e => b x ds h (a x ds h e)
theorem Sim.getA {σ₀ : Sg} {fd ia oa ta : Addr} {as : List Addr} {st : IS} {N : Nat} (S : Sim σ₀ σ fd ia oa ta as st N) {i : Nat} (hi : i < as.length) : ∃ a q, as[i]? = some a ∧ as.getD i 0 = a ∧ st.found[i]? = some q ∧ σ a = some (.fld (occF q)) := by
  have hq : i < st.found.length := by rw [← S.len]; exact hi
  refine ⟨as[i], st.found[i], List.getElem?_eq_getElem hi, ?_, List.getElem?_eq_getElem hq, S.occ _ _ _ (List.getElem?_eq_getElem hi) (List.getElem?_eq_getElem hq)⟩
  rw [List.getD_eq_getElem?_getD, List.getElem?_eq_getElem hi]; rfl
theorem Sim.inst_ne {σ₀ : Sg} {fd ia oa ta : Addr} {as : List Addr} {st : IS} {N : Nat} (S : Sim σ₀ σ fd ia oa ta as st N) {a : Addr} (ha : a ∈ as) : a ≠ fd ∧ a ≠ ia ∧ a ≠ oa ∧ a ≠ ta := by
  obtain ⟨i, hi, rfl⟩ := List.getElem_of_mem ha
  obtain ⟨a, q, e1, _, _, e4⟩ := S.getA hi
  rw [List.getElem?_eq_getElem hi] at e1
  injection e1 with e1
  rw [e1]
  obtain ⟨_, x1⟩ := S.inc
  obtain ⟨_, x2⟩ := S.out
  obtain ⟨_, x3⟩ := S.tmp
  refine ⟨fun e => ?_, fun e => ?_, fun e => ?_, fun e => ?_⟩ <;> rw [e] at e4
  · rw [S.found] at e4; cases e4
  · rw [x1] at e4; cases e4
  · rw [x2] at e4; cases e4
  · rw [x3] at e4; cases e4
theorem Sim.fd_ne {σ₀ : Sg} {fd ia oa ta : Addr} {as : List Addr} {st : IS} {N : Nat} (S : Sim σ₀ σ fd ia oa ta as st N) : fd ≠ ia ∧ fd ≠ oa ∧ fd ≠ ta := by
  obtain ⟨_, x1⟩ := S.inc
  obtain ⟨_, x2⟩ := S.out
  obtain ⟨_, x3⟩ := S.tmp
  have x0 := S.found
  refine ⟨fun e => ?_, fun e => ?_, fun e => ?_⟩ <;> rw [e] at x0
  · rw [x1] at x0; cases x0
  · rw [x2] at x0; cases x0
  · rw [x3] at x0; cases x0
theorem setStop_get {f : List Qd} {i j : Nat} {t : Int} : (setStop f i t)[j]? = if i = j then f[j]?.map (stopAt t) else f[j]? := by
  unfold setStop
  rw [List.getElem?_modify]
  by_cases h : i = j <;> simp [h]
theorem setStop_len {f : List Qd} {i : Nat} {t : Int} : (setStop f i t).length = f.length := by unfold setStop; simp
/-- a stop set -/
theorem Sim.stop {σ₀ : Sg} {fd ia oa ta : Addr} {as : List Addr} {st : IS} {N : Nat} (S : Sim σ₀ σ fd ia oa ta as st N) {i : Nat} {a : Addr} {q : Qd} {t : Int} (ha : as[i]? = some a) (hq : st.found[i]? = some q) :
    Sim σ₀ (upd σ a (.fld (occF (stopAt t q)))) fd ia oa ta as { st with found := setStop st.found i t } N ∧ Lists fd σ (upd σ a (.fld (occF (stopAt t q)))) := by
  have hm : a ∈ as := List.mem_of_getElem? ha
  obtain ⟨n1, n2, n3, n4⟩ := S.inst_ne hm
  have ea := S.occ _ _ _ ha hq
  refine ⟨⟨S.ext.set (S.nas a hm), by rw [upd_ne n1.symm]; exact S.found, by rw [setStop_len]; exact S.len, fun j b r hb hr => ?_, S.nodup, ?_, ?_, ?_, S.nfd, S.nia, S.noa, S.nta, S.nas, S.io, S.it, S.ot, S.iinc, S.iout, S.itmp, S.few⟩, fun x ds _ e => ?_⟩
  · rw [setStop_get] at hr
    by_cases hij : i = j
    · subst hij
      rw [if_pos rfl, hq] at hr
      rw [ha] at hb
      cases hb; cases hr
      exact upd_same
    · rw [if_neg hij] at hr
      have hne : b ≠ a := fun e => by
        subst e
        obtain ⟨h1, e1⟩ := List.getElem?_eq_some_iff.mp ha
        obtain ⟨h2, e2⟩ := List.getElem?_eq_some_iff.mp hb
        have pw := List.pairwise_iff_getElem.mp (List.nodup_iff_pairwise_ne.mp S.nodup)
        rcases Nat.lt_or_gt_of_ne hij with h | h
        · exact pw i j h1 h2 h (e1.trans e2.symm)
        · exact pw j i h2 h1 h (e2.trans e1.symm)
      rw [upd_ne hne]
      exact S.occ _ _ _ hb hr
  · obtain ⟨ep, x⟩ := S.inc; exact ⟨ep, by rw [upd_ne n2.symm]; exact x⟩
  · obtain ⟨ep, x⟩ := S.out; exact ⟨ep, by rw [upd_ne n3.symm]; exact x⟩
  · obtain ⟨ep, x⟩ := S.tmp; exact ⟨ep, by rw [upd_ne n4.symm]; exact x⟩
  · rw [upd_ne (fun e' => by rw [e', ea] at e; cases e)]; exact e
/-- what is so while a new one is being put into a dict and the list -/
structure Part (σ₀ σ : Sg) (fd ia oa ta dx : Addr) (as : List Addr) (st : IS) (q : Qd) (N : Nat) : Prop where
  S : Sim σ₀ σ fd ia oa ta as st N
  new : σ dx = none
theorem Sim.newTmp {σ₀ : Sg} {fd ia oa ta dx : Addr} {as : List Addr} {st : IS} {N : Nat} {q : Qd} {n : Int} {ep : Nat} (S : Sim σ₀ σ fd ia oa ta as st N) (hdx : σ dx = none) :
    Sim σ₀ (upd (upd (upd σ dx (.fld (occF q))) ta (.dct (dctD (as ++ [dx]) (mset st.tmp n as.length)) ep)) fd (.lst ((as ++ [dx]).map .inst))) fd ia oa ta (as ++ [dx]) { st with found := st.found ++ [q], tmp := mset st.tmp n as.length } (N + 1)
    ∧ Lists fd σ (upd (upd (upd σ dx (.fld (occF q))) ta (.dct (dctD (as ++ [dx]) (mset st.tmp n as.length)) ep)) fd (.lst ((as ++ [dx]).map .inst))) := by
  obtain ⟨ei, xi⟩ := S.inc
  obtain ⟨eo, xo⟩ := S.out
  obtain ⟨et, xt⟩ := S.tmp
  obtain ⟨f1, f2, f3⟩ := S.fd_ne
  have dfd := (ne_new hdx S.found).symm
  have dia := (ne_new hdx xi).symm
  have doa := (ne_new hdx xo).symm
  have dta := (ne_new hdx xt).symm
  have n0 : σ₀ dx = none := none_of S.ext hdx
  have hda : dx ∉ as := fun h => by
    obtain ⟨i, hi, e⟩ := List.getElem_of_mem h
    obtain ⟨a, r, e1, _, _, e4⟩ := S.getA hi
    rw [List.getElem?_eq_getElem hi, e] at e1
    injection e1 with e1
    rw [← e1, hdx] at e4; cases e4
  refine ⟨⟨((S.ext.set n0).set S.nta).set S.nfd, upd_same, by rw [List.length_append, List.length_append, S.len]; rfl, fun j b r hb hr => ?_, ?_, ⟨ei, ?_⟩, ⟨eo, ?_⟩, ⟨ep, ?_⟩, S.nfd, S.nia, S.noa, S.nta, fun a ha => ?_, S.io, S.it, S.ot, fun p hp => ?_, fun p hp => ?_, fun p hp => ?_, ?_⟩, fun x ds h e => ?_⟩
  · by_cases hj : j < as.length
    · rw [List.getElem?_append_left hj] at hb
      rw [List.getElem?_append_left (by rw [← S.len]; exact hj)] at hr
      obtain ⟨m1, _, _, m4⟩ := S.inst_ne (List.mem_of_getElem? hb)
      rw [upd_ne m1, upd_ne m4, upd_ne (fun (e : b = dx) => hda (by rw [← e]; exact List.mem_of_getElem? hb))]
      exact S.occ _ _ _ hb hr
    · have hj' : j = as.length := by
        have := (List.getElem?_eq_some_iff.mp hb).1
        rw [List.length_append, List.length_singleton] at this; omega
      subst hj'
      rw [List.getElem?_append_right (Nat.le_refl _), Nat.sub_self] at hb
      rw [S.len, List.getElem?_append_right (Nat.le_refl _), Nat.sub_self] at hr
      cases hb; cases hr
      rw [upd_ne dfd, upd_ne dta]; exact upd_same
  · exact List.nodup_append.mpr ⟨S.nodup, by simp, fun a ha b hb => by rw [List.mem_singleton.mp hb]; exact fun e => hda (e ▸ ha)⟩
  · rw [upd_ne f1.symm, upd_ne S.it, upd_ne dia.symm, dctD_append S.iinc]; exact xi
  · rw [upd_ne f2.symm, upd_ne S.ot, upd_ne doa.symm, dctD_append S.iout]; exact xo
  · rw [upd_ne f3.symm]; exact upd_same
  · rcases List.mem_append.mp ha with h | h
    · exact S.nas a h
    · rw [List.mem_singleton.mp h]; exact n0
  · rw [List.length_append]; exact Nat.lt_succ_of_lt (S.iinc p hp)
  · rw [List.length_append]; exact Nat.lt_succ_of_lt (S.iout p hp)
  · rw [List.length_append]
    rcases mset_mem hp with rfl | h
    · exact Nat.lt_succ_self _
    · exact Nat.lt_succ_of_lt (S.itmp p h)
  · obtain ⟨a1, a2, a3, a4⟩ := S.few
    have := mset_len st.tmp n as.length
    refine ⟨by rw [List.length_append]; exact Nat.succ_le_succ a1, Nat.le_succ_of_le a2, Nat.le_succ_of_le a3, by show (mset st.tmp n as.length).length ≤ N + 1; omega⟩
  · rw [upd_ne h, upd_ne (fun e' => by rw [e', xt] at e; cases e), upd_ne (fun e' => by rw [e', hdx] at e; cases e)]
    exact e
theorem Sim.newOut {σ₀ : Sg} {fd ia oa ta dx : Addr} {as : List Addr} {st : IS} {N : Nat} {q : Qd} {n : Int} {ep : Nat} (S : Sim σ₀ σ fd ia oa ta as st N) (hdx : σ dx = none) :
    Sim σ₀ (upd (upd (upd σ dx (.fld (occF q))) oa (.dct (dctD (as ++ [dx]) (mset st.out n as.length)) ep)) fd (.lst ((as ++ [dx]).map .inst))) fd ia oa ta (as ++ [dx]) { st with found := st.found ++ [q], out := mset st.out n as.length } (N + 1)
    ∧ Lists fd σ (upd (upd (upd σ dx (.fld (occF q))) oa (.dct (dctD (as ++ [dx]) (mset st.out n as.length)) ep)) fd (.lst ((as ++ [dx]).map .inst))) := by
  have S' : Sim σ₀ σ fd ia ta oa as { st with out := st.tmp, tmp := st.out } N := ⟨S.ext, S.found, S.len, S.occ, S.nodup, S.inc, S.tmp, S.out, S.nfd, S.nia, S.nta, S.noa, S.nas, S.it, S.io, S.ot.symm, S.iinc, S.itmp, S.iout, ⟨S.few.1, S.few.2.1, S.few.2.2.2, S.few.2.2.1⟩⟩
  obtain ⟨X, Y⟩ := S'.newTmp (q := q) (n := n) (ep := ep) hdx
  exact ⟨⟨X.ext, X.found, X.len, X.occ, X.nodup, X.inc, X.tmp, X.out, X.nfd, X.nia, X.nta, X.noa, X.nas, X.it, X.io, X.ot.symm, X.iinc, X.itmp, X.iout, ⟨X.few.1, X.few.2.1, X.few.2.2.2, X.few.2.2.1⟩⟩, Y⟩
theorem Sim.newInc {σ₀ : Sg} {fd ia oa ta dx : Addr} {as : List Addr} {st : IS} {N : Nat} {q : Qd} {n : Int} {ep : Nat} (S : Sim σ₀ σ fd ia oa ta as st N) (hdx : σ dx = none) :
    Sim σ₀ (upd (upd (upd σ dx (.fld (occF q))) ia (.dct (dctD (as ++ [dx]) (mset st.inc n as.length)) ep)) fd (.lst ((as ++ [dx]).map .inst))) fd ia oa ta (as ++ [dx]) { st with found := st.found ++ [q], inc := mset st.inc n as.length } (N + 1)
    ∧ Lists fd σ (upd (upd (upd σ dx (.fld (occF q))) ia (.dct (dctD (as ++ [dx]) (mset st.inc n as.length)) ep)) fd (.lst ((as ++ [dx]).map .inst))) := by
  have S' : Sim σ₀ σ fd ta oa ia as { st with inc := st.tmp, tmp := st.inc } N := ⟨S.ext, S.found, S.len, S.occ, S.nodup, S.tmp, S.out, S.inc, S.nfd, S.nta, S.noa, S.nia, S.nas, S.ot.symm, S.it.symm, S.io.symm, S.itmp, S.iout, S.iinc, ⟨S.few.1, S.few.2.2.2, S.few.2.2.1, S.few.2.1⟩⟩
  obtain ⟨X, Y⟩ := S'.newTmp (q := q) (n := n) (ep := ep) hdx
  exact ⟨⟨X.ext, X.found, X.len, X.occ, X.nodup, X.tmp, X.out, X.inc, X.nfd, X.nta, X.noa, X.nia, X.nas, X.ot.symm, X.it.symm, X.io.symm, X.itmp, X.iout, X.iinc, ⟨X.few.1, X.few.2.2.2, X.few.2.2.1, X.few.2.1⟩⟩, Y⟩
theorem Sim.grow {σ₀ σ' : Sg} {fd ia oa ta : Addr} {as : List Addr} {st : IS} {N : Nat} (S : Sim σ₀ σ fd ia oa ta as st N) (h : Ext σ σ') : Sim σ₀ σ' fd ia oa ta as st N :=
  ⟨S.ext.trans h, h _ _ S.found, S.len, fun i a q x y => h _ _ (S.occ i a q x y), S.nodup, let ⟨e, x⟩ := S.inc; ⟨e, h _ _ x⟩, let ⟨e, x⟩ := S.out; ⟨e, h _ _ x⟩, let ⟨e, x⟩ := S.tmp; ⟨e, h _ _ x⟩, S.nfd, S.nia, S.noa, S.nta, S.nas, S.io, S.it, S.ot, S.iinc, S.iout, S.itmp, S.few⟩
theorem Sim.more {σ₀ : Sg} {fd ia oa ta : Addr} {as : List Addr} {st : IS} {N M : Nat} (S : Sim σ₀ σ fd ia oa ta as st N) (h : N ≤ M) : Sim σ₀ σ fd ia oa ta as st M :=
  { S with few := ⟨Nat.le_trans S.few.1 h, Nat.le_trans S.few.2.1 h, Nat.le_trans S.few.2.2.1 h, Nat.le_trans S.few.2.2.2 h⟩ }
end

section
set_option maxHeartbeats 1000000
variable {c : Cx} {F : Fn} {k : Nat} {ρ : Rho} {σ : Sg}
/-- the first part of the machine alone -/
structure Sim0 (σ₀ σ : Sg) (fd ia : Addr) (as : List Addr) (found : List Qd) (inc : List (Int × Nat)) : Prop where
  ext : Ext σ₀ σ
  lst : σ fd = some (.lst (as.map .inst))
  len : as.length = found.length
  occ : ∀ (i : Nat) (a : Addr) (q : Qd), as[i]? = some a → found[i]? = some q → σ a = some (.fld (occF q))
  nodup : as.Nodup
  dict : ∃ ep, σ ia = some (.dct (dctD as inc) ep)
  nfd : σ₀ fd = none
  nia : σ₀ ia = none
  nas : ∀ a ∈ as, σ₀ a = none
  iinc : ∀ p ∈ inc, p.2 < as.length
  ne : fd ≠ ia
theorem Sim0.newInc {σ₀ : Sg} {fd ia dx : Addr} {as : List Addr} {found : List Qd} {inc : List (Int × Nat)} {q : Qd} {n : Int} {ep : Nat} (S : Sim0 σ₀ σ fd ia as found inc) (hdx : σ dx = none) :
    Sim0 σ₀ (upd (upd (upd σ dx (.fld (occF q))) ia (.dct (dctD (as ++ [dx]) (mset inc n as.length)) ep)) fd (.lst ((as ++ [dx]).map .inst))) fd ia (as ++ [dx]) (found ++ [q]) (mset inc n as.length) := by
  obtain ⟨ei, xi⟩ := S.dict
  have dfd := (ne_new hdx S.lst).symm
  have dia := (ne_new hdx xi).symm
  have n0 : σ₀ dx = none := none_of S.ext hdx
  have hocc : ∀ a ∈ as, ∃ q, σ a = some (.fld (occF q)) := fun a ha => by
    obtain ⟨i, hi, rfl⟩ := List.getElem_of_mem ha
    have hq : i < found.length := by rw [← S.len]; exact hi
    exact ⟨_, S.occ i _ _ (List.getElem?_eq_getElem hi) (List.getElem?_eq_getElem hq)⟩
  have hda : dx ∉ as := fun h => by
    obtain ⟨q, e⟩ := hocc dx h
    rw [hdx] at e; cases e
  refine ⟨((S.ext.set n0).set S.nia).set S.nfd, upd_same, by rw [List.length_append, List.length_append, S.len]; rfl, fun j b r hb hr => ?_, ?_, ⟨ep, ?_⟩, S.nfd, S.nia, fun a ha => ?_, fun p hp => ?_, S.ne⟩
  · by_cases hj : j < as.length
    · rw [List.getElem?_append_left hj] at hb
      rw [List.getElem?_append_left (by rw [← S.len]; exact hj)] at hr
      have e := S.occ _ _ _ hb hr
      rw [upd_ne (fun e' => by rw [e', S.lst] at e; cases e), upd_ne (fun e' => by rw [e', xi] at e; cases e), upd_ne (fun e' => by rw [e', hdx] at e; cases e)]
      exact e
    · have hj' : j = as.length := by
        have := (List.getElem?_eq_some_iff.mp hb).1
        rw [List.length_append, List.length_singleton] at this; omega
      subst hj'
      rw [List.getElem?_append_right (Nat.le_refl _), Nat.sub_self] at hb
      rw [S.len, List.getElem?_append_right (Nat.le_refl _), Nat.sub_self] at hr
      cases hb; cases hr
      rw [upd_ne dfd, upd_ne dia]; exact upd_same
  · exact List.nodup_append.mpr ⟨S.nodup, by simp, fun a ha b hb => by rw [List.mem_singleton.mp hb]; exact fun e => hda (e ▸ ha)⟩
  · rw [upd_ne S.ne.symm]; exact upd_same
  · rcases List.mem_append.mp ha with h | h
    · exact S.nas a h
    · rw [List.mem_singleton.mp h]; exact n0
  · rw [List.length_append]
    rcases mset_mem hp with rfl | h
    · exact Nat.lt_succ_self _
    · exact Nat.lt_succ_of_lt (S.iinc p h)
theorem dget_new {as : List Addr} {dx : Addr} {m : List (Int × Nat)} {n : Int} : dget (dctD (as ++ [dx]) (mset m n as.length)) n = some (.inst dx) := by
  rw [dget_dctD, mget_mset, if_pos rfl]
  simp [List.getD_eq_getElem?_getD]
theorem fput_stop (q : Qd) (t : Int) : fput "stop" (.int t) (occF q) = occF (stopAt t q) := by rfl
theorem iinit_snoc (i : Nat) : mset ((List.range i).map fun (j : Nat) => (((j + 1 : Nat) : Int), j)) ((i + 1 : Nat) : Int) i = (List.range (i + 1)).map fun (j : Nat) => (((j + 1 : Nat) : Int), j) := by
  unfold mset
  rw [if_neg, List.range_succ, List.map_append, List.map_singleton]
  intro h
  obtain ⟨p, hp, e⟩ := List.any_eq_true.mp h
  obtain ⟨j, hj, rfl⟩ := List.mem_map.mp hp
  rw [List.mem_range] at hj
  have e' : ((j + 1 : Nat) : Int) = ((i + 1 : Nat) : Int) := by simpa using e
  omega
theorem hi_int (x : Int) : ∀ P v, VR c P v (.int x) → handedIn v = true := by rintro P v ⟨⟩; rfl
theorem hi_str (x : Str) : ∀ P v, VR c P v (.str x) → handedIn v = true := by rintro P v ⟨⟩; rfl
theorem iteF' {x : Bool} {a b : Prop} (h : x = false) (hb : b) : if x = true then a else b := by rw [h]; exact iteF Bool.false_ne_true hb
theorem Ex.mono {st : Stmt} {Q Q' : Out → Rho → Sg → Prop} (h : Ex c F k ρ σ st Q) (hq : ∀ o ρ' σ', Q o ρ' σ' → Q' o ρ' σ') : Ex c F k ρ σ st Q' :=
  fun A L P s g r => wpAny_mono (h A L P s g r) (fun _ _ ⟨P', d, ρ', σ', p, v, q⟩ => ⟨P', d, ρ', σ', p, v, hq _ _ _ q⟩) fun _ _ x => x
theorem irun_append : ∀ (a b : List Ins) (p : Nat) (st : IS), irun (a ++ b) p st = irun b (p + a.length) (irun a p st)
  | [], _, _, _ => rfl
  | i :: a, b, p, st => by
    show irun (a ++ b) (p + 1) (iins p st i) = _
    rw [irun_append a b (p + 1), List.length_cons, show p + 1 + a.length = p + (a.length + 1) by omega]
    rfl
theorem istep_inc (p : Int) (st : IS) (r : Int × Opd) : (istep p st r).inc = st.inc := by
  unfold istep
  cases r.2.l with
  | t =>
    dsimp only
    cases mget st.tmp r.2.n with
    | none => rfl
    | some i => dsimp only; split <;> rfl
  | a =>
    dsimp only
    by_cases h : r.1 = 2
    · rw [if_pos h]
    · rw [if_neg h]; cases mget st.inc r.2.n <;> rfl
  | y => rfl
  | x => rfl
theorem isteps_inc (p : Int) : ∀ (l : List (Int × Opd)) (st : IS), (l.foldl (istep p) st).inc = st.inc
  | [], _ => rfl
  | r :: l, st => by rw [List.foldl_cons, isteps_inc p l, istep_inc]
theorem iins_inc (p : Int) (st : IS) (i : Ins) : (iins p st i).inc = st.inc := by
  unfold iins
  rw [isteps_inc]
  split <;> rfl
theorem irun_inc : ∀ (l : List Ins) (p : Nat) (st : IS), (irun l p st).inc = st.inc
  | [], _, _ => rfl
  | i :: l, p, st => by
    show (irun l (p + 1) (iins p st i)).inc = _
    rw [irun_inc l, iins_inc]
theorem Sim.clear {σ₀ : Sg} {fd ia oa ta ob : Addr} {as : List Addr} {st : IS} {N : Nat} (S : Sim σ₀ σ fd ia oa ta as st N) (h : σ ob = none) : Sim σ₀ (upd σ ob (.dct [] 0)) fd ia ob ta as { st with out := [] } N := by
  have S' := S.grow ((Ext.refl σ).new (O := .dct [] 0) h)
  obtain ⟨_, xi⟩ := S.inc
  obtain ⟨_, xt⟩ := S.tmp
  exact ⟨S'.ext, S'.found, S'.len, S'.occ, S'.nodup, S'.inc, ⟨0, upd_same⟩, S'.tmp, S'.nfd, S'.nia, none_of S.ext h, S'.nta, S'.nas, ne_new h xi, S'.it, (ne_new h xt).symm, S'.iinc, fun p hp => by simp at hp, S'.itmp, ⟨S'.few.1, S'.few.2.1, by simp, S'.few.2.2.2⟩⟩
theorem Lists.ext {fd : Addr} {σ' : Sg} (h : Ext σ σ') : Lists fd σ σ' := fun _ _ _ e => h _ _ e
theorem roles_len (i : Ins) : (roles i).length ≤ 2 := by cases i <;> simp [roles]
theorem iinit_get {ar j : Nat} (h : j < ar) : mget (iinit ar).inc ((j + 1 : Nat) : Int) = some j := by
  show mget ((List.range ar).map fun i => (((i + 1 : Nat) : Int), i)) _ = _
  have hm : (((j + 1 : Nat) : Int), j) ∈ (List.range ar).map fun i => (((i + 1 : Nat) : Int), i) := List.mem_map.mpr ⟨j, List.mem_range.mpr h, rfl⟩
  unfold mget
  cases e : ((List.range ar).map fun i => (((i + 1 : Nat) : Int), i)).find? (fun kv => decide (kv.1 = ((j + 1 : Nat) : Int))) with
  | none => exact absurd (List.find?_eq_none.mp e _ hm) (by simp)
  | some p =>
    have h1 := List.find?_some e
    have h2 := List.mem_of_find?_eq_some e
    obtain ⟨i, _, rfl⟩ := List.mem_map.mp h2
    have : ((i + 1 : Nat) : Int) = ((j + 1 : Nat) : Int) := by simpa using h1
    have : i = j := by omega
    rw [this]; rfl
/-- two lists side by side, sieved alike -/
theorem filt {R : Addr → Qd → Prop} (g1 : Addr → Bool) (g2 : Qd → Bool) (hg : ∀ a q, R a q → g1 a = g2 q) : ∀ (as : List Addr) (f : List Qd), as.length = f.length → (∀ (i : Nat) a q, as[i]? = some a → f[i]? = some q → R a q) →
    (as.filter g1).length = (f.filter g2).length ∧ ∀ (j : Nat) a q, (as.filter g1)[j]? = some a → (f.filter g2)[j]? = some q → R a q
  | [], [], _, _ => ⟨rfl, fun j a q h => by simp at h⟩
  | a :: as, q :: f, hl, h => by
    have h0 := h 0 a q rfl rfl
    obtain ⟨ih1, ih2⟩ := filt g1 g2 hg as f (by simpa using hl) fun i a q x y => h (i + 1) a q (by simpa using x) (by simpa using y)
    have e := hg a q h0
    cases hb : g2 q with
    | true =>
      rw [List.filter_cons_of_pos (by rw [e, hb]), List.filter_cons_of_pos hb]
      refine ⟨by simp [ih1], fun j b r x y => ?_⟩
      cases j with
      | zero => simp at x y; subst x; subst y; exact h0
      | succ j => exact ih2 j b r (by simpa using x) (by simpa using y)
    | false =>
      rw [List.filter_cons_of_neg (by rw [e, hb]; exact Bool.false_ne_true), List.filter_cons_of_neg (by rw [hb]; exact Bool.false_ne_true)]
      exact ⟨ih1, ih2⟩
  | [], _ :: _, hl, _ => by simp at hl
  | _ :: _, [], hl, _ => by simp at hl
/-- whether an occupation lasts -/
noncomputable def lasts (σ : Sg) (d : D) : Bool := match d with
  | .inst a => match σ a with
    | some (.fld es) => match fget es "start", fget es "stop" with
      | some (.int s), some (.int e) => decide (s < e)
      | _, _ => false
    | _ => false
  | _ => false
theorem lasts_occ {a : Addr} {q : Qd} (h : σ a = some (.fld (occF q))) : lasts σ (.inst a) = decide (q.2.2.1 < q.2.2.2) := by
  simp only [lasts, h]
  rfl
/-- a read of an argument finds what it reads -/
noncomputable def Reads1 (ar : Nat) (i : Ins) : Prop := ∀ r ∈ roles i, r.2.l = .a → r.1 ≠ 2 → ∃ j : Nat, j < ar ∧ r.2.n = (j + 1 : Nat)
theorem ok_intervals (T : Tp c) {cd : Addr} {code : List Ins} {ar : Nat} {Q : D → Sg → Prop} (ec : σ cd = some (.lst (code.map insD))) (hz : code.length ≤ 100) (ha : ar ≤ 4) (hr : ∀ i ∈ code, Reads1 ar i)
    (q : ∀ (n : Addr) (bs : List Addr) (σ' : Sg), Ext σ σ' → σ' n = some (.lst (bs.map .inst)) → bs.length = (told code ar).length → (∀ (j : Nat) (a : Addr) (x : Qd), bs[j]? = some a → (told code ar)[j]? = some x → σ' a = some (.fld (occF x))) → Q (.raw (.ref n)) σ') : Cd c (k + 3) σ (.ref 61) [.raw (.ref cd), .int ar] Q := by
  refine Cd.fn T.wd (is61 T) rfl ?_
  conv => arg 6; whnf
  refine Exs.cons (Ex.assign (Ev.list (Evs.nil ⟨few rfl, fun fd hfd => ?_⟩)))
  refine Exs.cons (Ex.assign (Ev.dict0 fun ia hia => ?_))
  refine Exs.cons (Ex.assign (Ev.cint ?_))
  have hne : fd ≠ ia := ne_new hia upd_same
  have S0 : Sim0 σ (upd (upd σ fd (.lst [])) ia (.dct [] 0)) fd ia [] [] [] := ⟨((Ext.refl σ).new hfd).new hia, by rw [upd_ne hne]; exact upd_same, rfl, fun i a q h => by simp at h, List.nodup_nil, ⟨0, upd_same⟩, hfd, none_of ((Ext.refl σ).new hfd) hia, fun a h => by simp at h, fun p h => by simp at h, hne⟩
  refine Exs.cons (Ex.while (fun mm ρ' σ' => ρ' "instrs" = some (.raw (.ref cd)) ∧ ρ' "arity" = some (.int ar) ∧ ρ' "found" = some (.raw (.ref fd)) ∧ ρ' "incoming" = some (.raw (.ref ia)) ∧ ∃ (i : Nat) (as : List Addr), mm = ar - i ∧ i ≤ ar ∧ ρ' "number" = some (.int (i + 1 : Nat)) ∧
    Sim0 σ σ' fd ia as ((List.range i).map fun (j : Nat) => qd "in" (j + 1 : Nat) (-1) (-1)) ((List.range i).map fun (j : Nat) => (((j + 1 : Nat) : Int), j))) ar ⟨rfl, rfl, rfl, rfl, 0, [], rfl, Nat.zero_le _, rfl, S0⟩ ?_)
  clear S0
  rintro mm ρ σ1 ⟨h1, h2, h3, h4, i, as, rfl, hi, h5, S⟩
  refine Tr.cmp <| Ev.loc h5 <| Ev.loc h2 <| le_ok ⟨_, rfl, ?_⟩
  by_cases hlt : i < ar
  · rw [decide_eq_true (by omega : ((i + 1 : Nat) : Int) ≤ (ar : Int))]
    have hal : as.length = i := by have := S.len; simpa using this
    refine iteT rfl <| Exs.cons <| Ex.setSub <| Ev.fcall <| Ev.glob (gl52 T) (fun _ => .raw _) ⟨_, rfl, kp52 T, ?_⟩
    refine Evs.cons <| Ev.cstr <| Evs.cons <| Ev.loc h5 <| Evs.cons <| Ev.unop <| Ev.cint <| neg_ok <| Evs.cons <| Ev.unop <| Ev.cint <| neg_ok <| Evs.nil <| ok_new T (qd "in" (i + 1 : Nat) (-1) (-1)) fun dx hdx => ?_
    obtain ⟨ei, xi⟩ := S.dict
    have dia := (ne_new hdx xi).symm
    have dfd := (ne_new hdx S.lst).symm
    refine Ev.loc h4 <| Ev.loc h5 <| set_dct (by rw [upd_ne dia.symm]; exact xi) (by rw [sizeLine_eq]; unfold dctD; rw [List.length_map, List.length_map, List.length_range]; omega) fun ep' => ?_
    have hset := dset_dctD (a := dx) (n := ((i + 1 : Nat) : Int)) S.iinc
    rw [hset]
    refine Exs.cons <| Ex.expr <| Ev.append <| Ev.loc h3 ⟨fd, as.map .inst, rfl, by rw [upd_ne S.ne, upd_ne dfd.symm]; exact S.lst, Ev.sub <| Ev.loc h4 <| Ev.loc h5 <| sub_dct upd_same dget_new ⟨_, by rw [upd_ne S.ne, upd_ne dfd.symm]; exact S.lst, ?_, rfl, ?_⟩⟩
    · rw [List.length_map, sizeLine_eq]; omega
    have S' := S.newInc (q := qd "in" (i + 1 : Nat) (-1) (-1)) (n := ((i + 1 : Nat) : Int)) (ep := ep') hdx
    rw [show List.map D.inst as ++ [D.inst dx] = (as ++ [dx]).map D.inst by simp]
    refine Exs.cons <| Ex.aug h5 <| Ev.cint <| iadd_ok <| Exs.nil ⟨ar - (i + 1), by omega, h1, h2, h3, h4, i + 1, as ++ [dx], rfl, hlt, rfl, ?_⟩
    have e1 : (List.range (i + 1)).map (fun (j : Nat) => qd "in" (j + 1 : Nat) (-1) (-1)) = (List.range i).map (fun (j : Nat) => qd "in" (j + 1 : Nat) (-1) (-1)) ++ [qd "in" (i + 1 : Nat) (-1) (-1)] := by rw [List.range_succ, List.map_append, List.map_singleton]
    have e2 := iinit_snoc i
    rw [← hal] at e2
    have e3 : Sim0 σ (upd (upd (upd σ1 dx (.fld (occF (qd "in" (i + 1 : Nat) (-1) (-1))))) ia (.dct (dctD (as ++ [dx]) (mset ((List.range i).map fun (j : Nat) => (((j + 1 : Nat) : Int), j)) ((i + 1 : Nat) : Int) as.length)) ep')) fd (.lst ((as ++ [dx]).map .inst))) fd ia (as ++ [dx]) ((List.range (i + 1)).map fun (j : Nat) => qd "in" (j + 1 : Nat) (-1) (-1)) ((List.range (i + 1)).map fun (j : Nat) => (((j + 1 : Nat) : Int), j)) := by
      rw [e1]
      rw [hal] at S' e2 ⊢
      rw [e2] at S' ⊢
      exact S'
    exact e3
  have hie : i = ar := by omega
  subst hie
  rw [decide_eq_false (by omega : ¬ ((i + 1 : Nat) : Int) ≤ (i : Int))]
  refine iteF Bool.false_ne_true ?_
  refine Exs.cons <| Ex.assign <| Ev.dict0 fun oa hoa => ?_
  refine Exs.cons <| Ex.assign <| Ev.dict0 fun ta hta => ?_
  refine Exs.cons <| Ex.assign <| Ev.cint ?_
  have hio : ia ≠ oa := by obtain ⟨_, x⟩ := S.dict; exact ne_new hoa x
  have hit : ia ≠ ta := by obtain ⟨_, x⟩ := S.dict; exact ne_new hta (upd_new hoa x)
  have hot : oa ≠ ta := ne_new hta upd_same
  have al : as.length = i := by have := S.len; simpa using this
  have E1 : Ext σ1 (upd (upd σ1 oa (.dct [] 0)) ta (.dct [] 0)) := ((Ext.refl σ1).new hoa).new hta
  have S1 : Sim σ (upd (upd σ1 oa (.dct [] 0)) ta (.dct [] 0)) fd ia oa ta as (iinit i) 4 :=
    ⟨S.ext.trans E1, E1 _ _ S.lst, S.len, fun j a q x y => E1 _ _ (S.occ j a q x y), S.nodup, let ⟨ep, x⟩ := S.dict; ⟨ep, E1 _ _ x⟩, ⟨0, by rw [upd_ne hot]; exact upd_same⟩, ⟨0, upd_same⟩, S.nfd, S.nia, none_of S.ext hoa, none_of (S.ext.trans ((Ext.refl σ1).new hoa)) hta, S.nas, hio, hit, hot, S.iinc, fun p h => by simp [iinit] at h, fun p h => by simp [iinit] at h,
      ⟨by omega, by simp [iinit]; omega, by simp [iinit], by simp [iinit]⟩⟩
  refine Exs.cons <| Ex.forIn <| Ev.loc h1 ⟨_, _, itb_list (S1.ext _ _ ec), ?_⟩
  refine LoopW.inv _ (fun p ρ σ' => ρ "found" = some (.raw (.ref fd)) ∧ ρ "incoming" = some (.raw (.ref ia)) ∧ ρ "temporaries" = some (.raw (.ref ta)) ∧ ρ "at" = some (.int p) ∧ ∃ oa as, ρ "outgoing" = some (.raw (.ref oa)) ∧ Sim σ σ' fd ia oa ta as (irun (code.take p) 0 (iinit i)) (4 + 2 * p)) ?_ ?_ ⟨h3, h4, rfl, rfl, oa, as, rfl, S1⟩
  · clear S1 E1 hio hit hot hoa hta al S
    clear h1 h2 h3 h4 h5
    rintro p hp ρ σ1 ⟨h1, h2, h3, h4, oa, as, h5, S⟩
    rw [List.length_map] at hp
    rw [List.getElem_map]
    have hx : code[p]? = some code[p] := List.getElem?_eq_getElem hp
    have hsnoc : code.take (p + 1) = code.take p ++ [code[p]] := by rw [List.take_add_one, hx]; rfl
    have hrun : irun (code.take (p + 1)) 0 (iinit i) = iins p (irun (code.take p) 0 (iinit i)) code[p] := by
      rw [hsnoc, irun_append, List.length_take, show 0 + min p code.length = p by omega]; rfl
    have hrd := hr code[p] (List.getElem_mem hp)
    have hinc : (irun (code.take p) 0 (iinit i)).inc = (iinit i).inc := irun_inc _ _ _
    generalize irun (code.take p) 0 (iinit i) = st at S hrun hinc
    generalize code[p] = ins at hrun hrd
    have hN : 4 + 2 * p ≤ 300 := by omega
    refine As.name ?_
    refine Exs.cons (Ex.mono (Q := fun o ρ' σ' => o = .next ∧ ρ' "found" = some (.raw (.ref fd)) ∧ ρ' "incoming" = some (.raw (.ref ia)) ∧ ρ' "temporaries" = some (.raw (.ref ta)) ∧ ρ' "at" = some (.int p) ∧ ρ' "instruction" = some (insD ins) ∧ ∃ oa as, ρ' "outgoing" = some (.raw (.ref oa)) ∧ Sim σ σ' fd ia oa ta as (if isCall ins then iclose p st else st) (4 + 2 * p)) ?_ ?_)
    · refine Ex.ite <| Tr.plain <| Ev.fcall <| Ev.glob (gl28 T) (fun _ => .raw _) ⟨_, rfl, kp28 T, Evs.cons <| Ev.loc rfl <| Evs.nil <| Cl.of_code <| ok_ends T ins ⟨_, rfl, ?_⟩⟩
      cases hc : isCall ins with
      | false => exact iteF Bool.false_ne_true (Exs.nil ⟨rfl, h1, h2, h3, h4, rfl, oa, as, h5, by simpa using S⟩)
      | true =>
        refine iteT rfl ?_
        obtain ⟨eo, xo⟩ := S.out
        refine Exs.cons <| Ex.forIn <| Ev.loc h5 ⟨_, _, itb_dct T.wd xo, ?_⟩
        refine LoopW.inv _ (fun j ρ σ' => ρ "found" = some (.raw (.ref fd)) ∧ ρ "incoming" = some (.raw (.ref ia)) ∧ ρ "temporaries" = some (.raw (.ref ta)) ∧ ρ "at" = some (.int p) ∧ ρ "instruction" = some (insD ins) ∧ ρ "outgoing" = some (.raw (.ref oa)) ∧ σ' oa = some (.dct (dctD as st.out) eo) ∧
          Sim σ σ' fd ia oa ta as { st with found := ((st.out.map (·.1)).take j).foldl (icloseF st.out p) st.found } (4 + 2 * p)) ?_ ?_ ⟨h1, h2, h3, h4, rfl, h5, xo, by simpa using S⟩
        · clear h1 h2 h3 h4 h5 S xo
          rintro j hj ρ σ2 ⟨h1, h2, h3, h4, h4', h5, xo, S⟩
          have hj' : j < st.out.length := by simpa [dctD] using hj
          have ek : ((dctD as st.out).map fun kv => D.int kv.1)[j] = D.int (st.out[j]).1 := by simp [dctD]
          rw [ek]
          have hsn : (st.out.map (·.1)).take (j + 1) = (st.out.map (·.1)).take j ++ [(st.out[j]).1] := by
            rw [List.take_add_one, List.getElem?_map, List.getElem?_eq_getElem hj']; rfl
          obtain ⟨ix, hix⟩ : ∃ ix, mget st.out (st.out[j]).1 = some ix := by
            unfold mget
            cases e : st.out.find? (fun kv => decide (kv.1 = (st.out[j]).1)) with
            | none => exact absurd (List.find?_eq_none.mp e _ (List.getElem_mem hj')) (by simp)
            | some x => exact ⟨_, rfl⟩
          have hlt : ix < as.length := S.iout _ (mget_mem hix)
          obtain ⟨a, qq, e1, e2, e3, e4⟩ := S.getA hlt
          refine As.name ?_
          refine Exs.cons <| Ex.setAttr (kf T) (by decide) <| Ev.loc h4 <| Ev.sub <| Ev.loc h5 <| Ev.loc rfl <| sub_dct xo (x := .inst a) (by rw [dget_dctD, hix]; show some (D.inst (as.getD ix 0)) = _; rw [e2]) ⟨a, _, rfl, e4, Nat.le_of_ble_eq_true rfl, ?_⟩
          rw [fput_stop]
          obtain ⟨S2, _⟩ := S.stop (t := p) e1 e3
          have hne := (S.inst_ne (List.mem_of_getElem? e1)).2.2.1
          refine Exs.nil ⟨?_, h1, h2, h3, h4, h4', h5, ?_, ?_⟩
          · show upd _ _ _ oa = _
            rw [upd_ne hne.symm]; exact xo
          · rw [upd_ne hne.symm]; exact xo
          · rw [hsn, List.foldl_append]
            show Sim σ _ fd ia oa ta as { st with found := icloseF st.out p (((st.out.map (·.1)).take j).foldl (icloseF st.out p) st.found) (st.out[j]).1 } _
            rw [icloseF, hix]
            exact S2
        · clear h1 h2 h3 h4 h5 S xo
          rintro ρ σ2 ⟨h1, h2, h3, h4, h4', h5, xo, S⟩
          have hl : (dctD as st.out).length = st.out.length := by simp [dctD]
          rw [List.length_map, hl, List.take_of_length_le (by simp)] at S
          refine Exs.cons <| Ex.assign <| Ev.dict0 fun ob hob => Exs.nil ⟨rfl, h1, h2, h3, h4, h4', ob, as, rfl, ?_⟩
          exact S.clear hob
    · rintro o ρ2 σ2 ⟨rfl, h1, h2, h3, h4, h4', oa, as, h5, S⟩
      have hinc' : (if isCall ins then iclose p st else st).inc = (iinit i).inc := by
        split
        · exact hinc
        · exact hinc
      have hiw : iins p st ins = (roles ins).foldl (istep p) (if isCall ins then iclose p st else st) := rfl
      generalize (if isCall ins then iclose p st else st) = st1 at S hinc' hiw
      refine Exs.cons <| Ex.forIn <| Ev.fcall <| Ev.glob (gl21 T) (fun _ => .raw _) ⟨_, rfl, kp21 T, Evs.cons <| Ev.loc h4' <| Evs.nil <| Cl.of_code <| ok_roles T ins fun l hl => ⟨_, _, itb_list upd_same, ?_⟩⟩
      have S' := S.grow ((Ext.refl σ2).new (O := .lst ((roles ins).map roleD)) hl)
      have hlf : l ≠ fd := (ne_new hl S.found).symm
      refine LoopW.inv _ (fun j ρ σ' => ρ "found" = some (.raw (.ref fd)) ∧ ρ "incoming" = some (.raw (.ref ia)) ∧ ρ "temporaries" = some (.raw (.ref ta)) ∧ ρ "at" = some (.int p) ∧ ρ "outgoing" = some (.raw (.ref oa)) ∧ σ' l = some (.lst ((roles ins).map roleD)) ∧
        ∃ as, Sim σ σ' fd ia oa ta as (((roles ins).take j).foldl (istep p) st1) (4 + 2 * p + j)) ?_ ?_ ⟨h1, h2, h3, h4, h5, upd_same, as, by simpa using S'⟩
      · clear h1 h2 h3 h4 h5 h4' S S' hl
        rintro j hj ρ σ3 ⟨h1, h2, h3, h4, h5, hl, as, S⟩
        have hj' : j < (roles ins).length := by simpa using hj
        have h2l := roles_len ins
        rw [List.getElem_map]
        have hsn : (roles ins).take (j + 1) = (roles ins).take j ++ [(roles ins)[j]] := by rw [List.take_add_one, List.getElem?_eq_getElem hj']; rfl
        have hst : ((roles ins).take (j + 1)).foldl (istep p) st1 = istep p (((roles ins).take j).foldl (istep p) st1) (roles ins)[j] := by rw [hsn, List.foldl_append]; rfl
        have hrj := hrd _ (List.getElem_mem hj')
        have hinc2 : (((roles ins).take j).foldl (istep p) st1).inc = (iinit i).inc := by rw [isteps_inc]; exact hinc'
        generalize ((roles ins).take j).foldl (istep p) st1 = st2 at S hst hinc2
        generalize (roles ins)[j] = r at hst hrj
        obtain ⟨ro, lt, n⟩ := r
        -- what is so behind the body
        have fin : ∀ σ' as' ρ', ρ' "found" = some (.raw (.ref fd)) → ρ' "incoming" = some (.raw (.ref ia)) → ρ' "temporaries" = some (.raw (.ref ta)) → ρ' "at" = some (.int p) → ρ' "outgoing" = some (.raw (.ref oa)) → Lists fd σ3 σ' → Sim σ σ' fd ia oa ta as' (istep p st2 (ro, ⟨lt, n⟩)) (4 + 2 * p + (j + 1)) →
            LoopB (fun σ' => σ' l = some (.lst ((roles ins).map roleD))) (fun _ _ _ => True) (fun ρ σ' => ρ "found" = some (.raw (.ref fd)) ∧ ρ "incoming" = some (.raw (.ref ia)) ∧ ρ "temporaries" = some (.raw (.ref ta)) ∧ ρ "at" = some (.int p) ∧ ρ "outgoing" = some (.raw (.ref oa)) ∧ σ' l = some (.lst ((roles ins).map roleD)) ∧
              ∃ as, Sim σ σ' fd ia oa ta as (((roles ins).take (j + 1)).foldl (istep p) st1) (4 + 2 * p + (j + 1))) .next ρ' σ' :=
          fun σ' as' ρ' a1 a2 a3 a4 a5 a6 a7 => ⟨a6 _ _ hlf hl, a1, a2, a3, a4, a5, a6 _ _ hlf hl, as', by rw [hst]; exact a7⟩
        obtain ⟨ei, xi⟩ := S.inc
        obtain ⟨eo, xo⟩ := S.out
        obtain ⟨et, xt⟩ := S.tmp
        have hsz := S.few
        refine As.pair ?_
        refine Exs.cons <| Ex.assign <| Ev.sub <| Ev.loc rfl <| Ev.cint <| sub_tup rfl rfl ?_
        refine Exs.cons <| Ex.ite <| Tr.cmp <| Ev.sub <| Ev.loc rfl <| Ev.cint <| sub_tup rfl rfl <| Ev.cstr <| eqs_ok ⟨_, rfl, ?_⟩
        cases lt with
        | t =>
          refine iteT rfl ?_
          refine Exs.cons <| Ex.ite <| Tr.cmp <| Ev.loc rfl <| Ev.loc h3 <| notIn_dct T.wd xt ⟨_, rfl, ?_⟩
          rw [dget_dctD]
          cases hm : mget st2.tmp n with
          | none =>
            refine iteT rfl ?_
            refine Exs.cons <| Ex.setSub <| Ev.fcall <| Ev.glob (gl52 T) (fun _ => .raw _) ⟨_, rfl, kp52 T, ?_⟩
            refine Evs.cons <| Ev.cstr <| Evs.cons <| Ev.loc rfl <| Evs.cons <| Ev.loc h4 <| Evs.cons <| Ev.binop <| Ev.loc h4 <| Ev.cint <| add_ok <| Evs.nil <| ok_new T (qd "temp" n p (p + 1)) fun dx hdx => ?_
            have dta := (ne_new hdx xt).symm
            have dfd := (ne_new hdx S.found).symm
            refine Ev.loc h3 <| Ev.loc rfl <| set_dct (by rw [upd_ne dta.symm]; exact xt) (by rw [sizeLine_eq]; unfold dctD; rw [List.length_map]; omega) fun ep' => ?_
            have hset := dset_dctD (a := dx) (n := n) S.itmp
            rw [hset]
            have ff : fd ≠ ta := S.fd_ne.2.2
            refine Exs.cons <| Ex.expr <| Ev.append <| Ev.loc h1 ⟨fd, as.map .inst, rfl, by rw [upd_ne ff, upd_ne dfd.symm]; exact S.found, Ev.sub <| Ev.loc h3 <| Ev.loc rfl <| sub_dct upd_same dget_new ⟨_, by rw [upd_ne ff, upd_ne dfd.symm]; exact S.found, ?_, rfl, ?_⟩⟩
            · rw [List.length_map, sizeLine_eq]; omega
            rw [show List.map D.inst as ++ [D.inst dx] = (as ++ [dx]).map D.inst by simp]
            obtain ⟨X, Y⟩ := S.newTmp (q := qd "temp" n p (p + 1)) (n := n) (ep := ep') hdx
            repeat (refine Exs.nil ?_)
            refine fin _ (as ++ [dx]) _ h1 h2 h3 h4 h5 Y ?_
            have e : istep p st2 (ro, ⟨.t, n⟩) = { st2 with found := st2.found ++ [qd "temp" n p (p + 1)], tmp := mset st2.tmp n st2.found.length } := by unfold istep; simp only [hm]
            rw [e, ← S.len]
            exact X
          | some ix =>
            refine iteF Bool.false_ne_true ?_
            have hlt : ix < as.length := S.itmp _ (mget_mem hm)
            obtain ⟨a, qq, e1, e2, e3, e4⟩ := S.getA hlt
            have hd : dget (dctD as st2.tmp) n = some (.inst a) := by rw [dget_dctD, hm]; show some (D.inst (as.getD ix 0)) = _; rw [e2]
            have hso : stopOf st2.found ix = qq.2.2.2 := by unfold stopOf; rw [e3]
            refine Exs.cons <| Ex.ite <| Tr.cmp <| Ev.loc h4 <| Ev.attr (kf T) (by decide) <| Ev.sub <| Ev.loc h3 <| Ev.loc rfl <| sub_dct xt hd ⟨a, _, _, rfl, e4, rfl, hi_int _, gt_ok ⟨_, rfl, ?_⟩⟩
            have e : istep p st2 (ro, ⟨.t, n⟩) = if stopOf st2.found ix < p then { st2 with found := setStop st2.found ix p } else st2 := by unfold istep; simp only [hm]
            by_cases hlt2 : qq.2.2.2 < (p : Int)
            · rw [decide_eq_true hlt2]
              refine iteT rfl <| Exs.cons <| Ex.setAttr (kf T) (by decide) <| Ev.loc h4 <| Ev.sub <| Ev.loc h3 <| Ev.loc rfl <| sub_dct xt hd ⟨a, _, rfl, e4, Nat.le_of_ble_eq_true rfl, ?_⟩
              rw [fput_stop]
              obtain ⟨X, Y⟩ := S.stop (t := p) e1 e3
              repeat (refine Exs.nil ?_)
              refine fin _ as _ h1 h2 h3 h4 h5 Y ?_
              rw [e, if_pos (by rw [hso]; exact hlt2)]
              exact X.more (by omega)
            · rw [decide_eq_false hlt2]
              refine iteF Bool.false_ne_true ?_
              repeat (refine Exs.nil ?_)
              refine fin _ as _ h1 h2 h3 h4 h5 (Lists.refl _ _) ?_
              rw [e, if_neg (by rw [hso]; exact hlt2)]
              exact S.more (by omega)
        | a =>
          refine iteF' rfl ?_
          refine Exs.cons <| Ex.ite <| Tr.and <| TrAnd.cons <| Tr.cmp <| Ev.sub <| Ev.loc rfl <| Ev.cint <| sub_tup rfl rfl <| Ev.cstr <| eqs_ok ⟨_, rfl, iteT rfl <| TrAnd.cons <| Tr.cmp <| Ev.loc rfl <| Ev.glob (glWRITES T) (fun _ => .int _ _) <| eqi_ok ⟨_, rfl, ?_⟩⟩
          by_cases hro : ro = 2
          · subst hro
            refine iteT rfl <| TrAnd.nil <| iteT rfl ?_
            refine Exs.cons <| Ex.setSub <| Ev.fcall <| Ev.glob (gl52 T) (fun _ => .raw _) ⟨_, rfl, kp52 T, ?_⟩
            refine Evs.cons <| Ev.cstr <| Evs.cons <| Ev.loc rfl <| Evs.cons <| Ev.loc h4 <| Evs.cons <| Ev.binop <| Ev.loc h4 <| Ev.cint <| add_ok <| Evs.nil <| ok_new T (qd "out" n p (p + 1)) fun dx hdx => ?_
            have doa := (ne_new hdx xo).symm
            have dfd := (ne_new hdx S.found).symm
            refine Ev.loc h5 <| Ev.loc rfl <| set_dct (by rw [upd_ne doa.symm]; exact xo) (by rw [sizeLine_eq]; unfold dctD; rw [List.length_map]; omega) fun ep' => ?_
            have hset := dset_dctD (a := dx) (n := n) S.iout
            rw [hset]
            have ff : fd ≠ oa := S.fd_ne.2.1
            refine Exs.cons <| Ex.expr <| Ev.append <| Ev.loc h1 ⟨fd, as.map .inst, rfl, by rw [upd_ne ff, upd_ne dfd.symm]; exact S.found, Ev.sub <| Ev.loc h5 <| Ev.loc rfl <| sub_dct upd_same dget_new ⟨_, by rw [upd_ne ff, upd_ne dfd.symm]; exact S.found, ?_, rfl, ?_⟩⟩
            · rw [List.length_map, sizeLine_eq]; omega
            rw [show List.map D.inst as ++ [D.inst dx] = (as ++ [dx]).map D.inst by simp]
            obtain ⟨X, Y⟩ := S.newOut (q := qd "out" n p (p + 1)) (n := n) (ep := ep') hdx
            repeat (refine Exs.nil ?_)
            refine fin _ (as ++ [dx]) _ h1 h2 h3 h4 h5 Y ?_
            have e : istep p st2 (2, ⟨.a, n⟩) = { st2 with found := st2.found ++ [qd "out" n p (p + 1)], out := mset st2.out n st2.found.length } := by unfold istep; simp
            rw [e, ← S.len]
            exact X
          · have hb : (ro == 2) = false := by simpa using hro
            rw [hb]
            refine iteF Bool.false_ne_true <| iteF Bool.false_ne_true ?_
            refine Exs.cons <| Ex.ite <| Tr.cmp <| Ev.sub <| Ev.loc rfl <| Ev.cint <| sub_tup rfl rfl <| Ev.cstr <| eqs_ok ⟨_, rfl, iteT rfl ?_⟩
            obtain ⟨jx, hjx, hn⟩ := hrj rfl hro
            have hn' : n = ((jx + 1 : Nat) : Int) := hn
            have hm : mget st2.inc n = some jx := by rw [hinc2, hn']; exact iinit_get hjx
            have hlt : jx < as.length := S.iinc _ (mget_mem hm)
            obtain ⟨a, qq, e1, e2, e3, e4⟩ := S.getA hlt
            have hd : dget (dctD as st2.inc) n = some (.inst a) := by rw [dget_dctD, hm]; show some (D.inst (as.getD jx 0)) = _; rw [e2]
            refine Exs.cons <| Ex.setAttr (kf T) (by decide) <| Ev.loc h4 <| Ev.sub <| Ev.loc h2 <| Ev.loc rfl <| sub_dct xi hd ⟨a, _, rfl, e4, Nat.le_of_ble_eq_true rfl, ?_⟩
            rw [fput_stop]
            obtain ⟨X, Y⟩ := S.stop (t := p) e1 e3
            repeat (refine Exs.nil ?_)
            refine fin _ as _ h1 h2 h3 h4 h5 Y ?_
            have e : istep p st2 (ro, ⟨.a, n⟩) = { st2 with found := setStop st2.found jx p } := by unfold istep; simp only [hro, if_false, hm]
            rw [e]
            exact X.more (by omega)
        | y =>
          refine iteF' rfl ?_
          refine Exs.cons <| Ex.ite <| Tr.and <| TrAnd.cons <| Tr.cmp <| Ev.sub <| Ev.loc rfl <| Ev.cint <| sub_tup rfl rfl <| Ev.cstr <| eqs_ok ⟨_, rfl, iteF' rfl <| iteF Bool.false_ne_true ?_⟩
          refine Exs.cons <| Ex.ite <| Tr.cmp <| Ev.sub <| Ev.loc rfl <| Ev.cint <| sub_tup rfl rfl <| Ev.cstr <| eqs_ok ⟨_, rfl, iteF' rfl ?_⟩
          repeat (refine Exs.nil ?_)
          exact fin _ as _ h1 h2 h3 h4 h5 (Lists.refl _ _) (S.more (by omega))
        | x =>
          refine iteF' rfl ?_
          refine Exs.cons <| Ex.ite <| Tr.and <| TrAnd.cons <| Tr.cmp <| Ev.sub <| Ev.loc rfl <| Ev.cint <| sub_tup rfl rfl <| Ev.cstr <| eqs_ok ⟨_, rfl, iteF' rfl <| iteF Bool.false_ne_true ?_⟩
          refine Exs.cons <| Ex.ite <| Tr.cmp <| Ev.sub <| Ev.loc rfl <| Ev.cint <| sub_tup rfl rfl <| Ev.cstr <| eqs_ok ⟨_, rfl, iteF' rfl ?_⟩
          repeat (refine Exs.nil ?_)
          exact fin _ as _ h1 h2 h3 h4 h5 (Lists.refl _ _) (S.more (by omega))
      · clear h1 h2 h3 h4 h5 h4' S S' hl
        rintro ρ σ3 ⟨h1, h2, h3, h4, h5, hl, as, S⟩
        rw [List.length_map, List.take_length] at S
        have h2l := roles_len ins
        refine Exs.cons <| Ex.aug h4 <| Ev.cint <| iadd_ok <| Exs.nil ⟨S.ext _ _ ec, h1, h2, h3, rfl, oa, as, h5, ?_⟩
        rw [hrun, hiw]
        exact S.more (by omega)
  · clear S1 E1 hio hit hot hoa hta al S
    clear h1 h2 h3 h4 h5
    rintro ρ σ2 ⟨h1, _, _, _, oa, as, _, S⟩
    rw [List.length_map, List.take_length] at S
    refine Exs.cons <| Ex.ret <| Ev.comp (ck := []) (Caught.of (fun L => rfl) (by decide) (by decide) rfl (by decide) (by decide)) rfl rfl <| Ev.loc h1 ⟨_, _, itb_list S.found, ?_⟩
    have hf := S.few
    refine compW_pure (lasts σ2) (fun d => d) S.found _ [] (by simp; omega) (fun d hd => ?_) (fun d hd hf => Ev.loc rfl ⟨rfl, rfl⟩) ?_
    · obtain ⟨a, ha, rfl⟩ := List.mem_map.mp hd
      obtain ⟨ix, hix, rfl⟩ := List.getElem_of_mem ha
      obtain ⟨a, qq, e1, e2, e3, e4⟩ := S.getA hix
      rw [List.getElem?_eq_getElem hix] at e1
      injection e1 with e1
      rw [e1, lasts_occ e4]
      exact Tr.cmp <| Ev.attr (kf T) (by decide) <| Ev.loc rfl ⟨a, _, _, rfl, e4, rfl, hi_int _, Ev.attr (kf T) (by decide) <| Ev.loc rfl ⟨a, _, _, rfl, e4, rfl, hi_int _, gt_ok ⟨_, rfl, rfl, rfl⟩⟩⟩
    · intro n hn
      have e : (List.filter (lasts σ2) (as.map D.inst)).map (fun d => d) = (as.filter fun a => lasts σ2 (.inst a)).map D.inst := by rw [List.map_id', List.filter_map]; rfl
      rw [List.nil_append, e]
      obtain ⟨f1, f2⟩ := filt (R := fun a q => σ2 a = some (.fld (occF q))) (fun a => lasts σ2 (.inst a)) (fun q => decide (q.2.2.1 < q.2.2.2)) (fun a q h => lasts_occ h) as _ S.len S.occ
      exact q n _ _ (S.ext.new hn) upd_same f1 fun j a x hx hy => upd_new hn (f2 j a x hx hy)
end

section
set_option maxHeartbeats 1000000
variable {c : Cx} {F : Fn} {k : Nat} {ρ : Rho} {σ : Sg}
/-- a comprehension over a list of known things that changes nothing -/
theorem compW_map {α : Type} {enc : α → D} {x : Str} {elt : Expr} {ifs : List Expr} {okS : Sg → Prop} {Q : List D → Sg → Prop} (f : α → Bool) (g : α → D) (hS : okS σ) : ∀ (xs : List α) (acc : List D), acc.length + xs.length ≤ 1000 →
    (∀ a ∈ xs, CondW c F k (setR ρ x (enc a)) (fun b σ1 => σ1 = σ ∧ b = f a) ifs σ) → (∀ a ∈ xs, f a = true → Ev c F k (setR ρ x (enc a)) σ elt (fun e σ2 => e = g a ∧ σ2 = σ)) → Q (acc ++ (xs.filter f).map g) σ → CompW c F k ρ x elt ifs okS Q (xs.map enc) acc σ
  | [], acc, _, _, _, q => show Q acc σ by simpa using q
  | d :: ds, acc, hz, h1, h2, q => by
    refine CondW.mono (h1 d (.head _)) fun b σ1 ⟨e1, e2⟩ => ?_
    have e1' := e1.symm
    subst e1'
    subst e2
    simp only [List.length_cons] at hz
    cases hf : f d with
    | true =>
      rw [if_pos rfl]
      refine Ev.mono (h2 d (.head _) hf) fun e σ2 ⟨e1, e2⟩ => ?_
      have e2' := e2.symm
      subst e2'
      subst e1
      refine ⟨hS, by rw [sizeLine_eq]; omega, compW_map f g hS ds _ (by simp; omega) (fun d' hd => h1 d' (.tail _ hd)) (fun d' hd => h2 d' (.tail _ hd)) ?_⟩
      rw [List.filter_cons_of_pos hf, List.map_cons] at q
      simpa using q
    | false =>
      rw [if_neg Bool.false_ne_true]
      refine ⟨hS, compW_map f g hS ds _ (by omega) (fun d' hd => h1 d' (.tail _ hd)) (fun d' hd => h2 d' (.tail _ hd)) ?_⟩
      rw [List.filter_cons_of_neg (by rw [hf]; exact Bool.false_ne_true)] at q
      exact q
/-- whether an instruction copies a register to itself -/
noncomputable def idle : Ins → Bool
  | .getVar o s | .putVal o s => decide (o.l = .x) && decide (o = s)
  | _ => false
theorem deq_op {a b : Opd} : deq (opD a) (opD b) = decide (a = b) := bool_iff (deq_iff.trans (opD_iff.trans decide_eq_true_iff.symm))
theorem eq_x (l : Ltr) : (l.str == ("x" : Str)) = decide (l = .x) := by cases l <;> rfl
theorem ok_idle (T : Tp c) (i : Ins) {Q : D → Sg → Prop} (q : Q (.bool (idle i)) σ) : Cd c (k + 1) σ (.ref 75) [insD i] Q := by
  refine Cd.fn T.wd (is75 T) rfl ?_
  conv => arg 6; whnf
  refine Exs.cons <| Ex.assign <| Ev.sub <| Ev.loc rfl <| Ev.cint <| sub_name ?_
  cases i with
  | getVar o s =>
    refine Exs.cons <| Ex.ite <| Tr.and <| TrAnd.cons <| Tr.cmp <| Ev.loc rfl <| Ev.cstr <| nes_ok ⟨_, rfl, iteF' rfl <| iteF Bool.false_ne_true <| Exs.nil ?_⟩
    refine Exs.cons <| Ex.ret <| Ev.and <| EvAnd.cons <| Ev.cmp <| Ev.sub <| Ev.sub <| Ev.loc rfl <| Ev.cint <| sub_tup rfl rfl <| Ev.cint <| sub_tup rfl rfl <| Ev.cstr <| eqs_ok ⟨_, rfl, ?_⟩
    rw [eq_x]
    rw [show idle (Ins.getVar o s) = (decide (o.l = .x) && decide (o = s)) from rfl] at q
    by_cases h : o.l = .x
    · rw [decide_eq_true h] at q ⊢
      rw [Bool.true_and] at q
      refine iteT rfl <| EvAnd.one <| Ev.cmp <| Ev.sub <| Ev.loc rfl <| Ev.cint <| sub_tup rfl rfl <| Ev.sub <| Ev.loc rfl <| Ev.cint <| sub_tup rfl rfl <| eqt_ok (ok_opD o) (ok_opD s) ?_
      rw [deq_op]; exact q
    · rw [decide_eq_false h] at q ⊢
      exact iteF Bool.false_ne_true q
  | putVal o s =>
    refine Exs.cons <| Ex.ite <| Tr.and <| TrAnd.cons <| Tr.cmp <| Ev.loc rfl <| Ev.cstr <| nes_ok ⟨_, rfl, iteT rfl <| TrAnd.cons <| Tr.cmp <| Ev.loc rfl <| Ev.cstr <| nes_ok ⟨_, rfl, iteF' rfl <| iteF Bool.false_ne_true <| Exs.nil ?_⟩⟩
    refine Exs.cons <| Ex.ret <| Ev.and <| EvAnd.cons <| Ev.cmp <| Ev.sub <| Ev.sub <| Ev.loc rfl <| Ev.cint <| sub_tup rfl rfl <| Ev.cint <| sub_tup rfl rfl <| Ev.cstr <| eqs_ok ⟨_, rfl, ?_⟩
    rw [eq_x]
    rw [show idle (Ins.putVal o s) = (decide (o.l = .x) && decide (o = s)) from rfl] at q
    by_cases h : o.l = .x
    · rw [decide_eq_true h] at q ⊢
      rw [Bool.true_and] at q
      refine iteT rfl <| EvAnd.one <| Ev.cmp <| Ev.sub <| Ev.loc rfl <| Ev.cint <| sub_tup rfl rfl <| Ev.sub <| Ev.loc rfl <| Ev.cint <| sub_tup rfl rfl <| eqt_ok (ok_opD o) (ok_opD s) ?_
      rw [deq_op]; exact q
    · rw [decide_eq_false h] at q ⊢
      exact iteF Bool.false_ne_true q
  | _ =>
    exact Exs.cons <| Ex.ite <| Tr.and <| TrAnd.cons <| Tr.cmp <| Ev.loc rfl <| Ev.cstr <| nes_ok ⟨_, rfl, iteT rfl <| TrAnd.cons <| Tr.cmp <| Ev.loc rfl <| Ev.cstr <| nes_ok ⟨_, rfl, iteT rfl <| TrAnd.nil <| iteT rfl <| Exs.cons <| Ex.ret <| Ev.cbool q⟩⟩
theorem ok_peephole (T : Tp c) {cd : Addr} {code : List Ins} {Q : D → Sg → Prop} (ec : σ cd = some (.lst (code.map insD))) (hz : code.length ≤ 1000) (q : ∀ n, σ n = none → Q (.raw (.ref n)) (upd σ n (.lst ((code.filter fun i => !idle i).map insD)))) : Cd c (k + 2) σ (.ref 80) [.raw (.ref cd)] Q := by
  refine Cd.fn T.wd (is80 T) rfl ?_
  conv => arg 6; whnf
  refine Exs.cons <| Ex.ret <| Ev.comp (ck := []) (Caught.of (fun L => rfl) (by decide) (by decide) rfl (by decide) (by decide)) rfl rfl <| Ev.loc rfl ⟨_, _, itb_list ec, ?_⟩
  refine compW_map (fun i => !idle i) insD ec _ [] (by simpa using hz) (fun i hi => ?_) (fun i hi hf => Ev.loc rfl ⟨rfl, rfl⟩) (fun n hn => by rw [List.nil_append]; exact q n hn)
  exact Tr.not <| Tr.plain <| Ev.fcall <| Ev.glob (gl75 T) (fun _ => .raw _) ⟨_, rfl, kp75 T, Evs.cons <| Ev.loc rfl <| Evs.nil <| Cl.of_code <| ok_idle T i ⟨_, rfl, rfl, rfl⟩⟩
/-- the greatest register -/
noncomputable def gstep (m : Int) (o : Opd) : Int := if o.l = .x ∧ m < o.n then o.n else m
noncomputable def greatestP (code : List Ins) : Int := code.foldl (fun m i => ((roles i).map (·.2)).foldl gstep m) 0
theorem ok_greatest (T : Tp c) {cd : Addr} {code : List Ins} {Q : D → Sg → Prop} (ec : σ cd = some (.lst (code.map insD))) (q : ∀ σ', Ext σ σ' → Q (.int (greatestP code)) σ') : Cd c (k + 2) σ (.ref 87) [.raw (.ref cd)] Q := by
  refine Cd.fn T.wd (is87 T) rfl ?_
  conv => arg 6; whnf
  refine Exs.cons <| Ex.assign <| Ev.cint ?_
  refine Exs.cons <| Ex.forIn <| Ev.loc rfl ⟨_, _, itb_list ec, ?_⟩
  refine LoopW.inv _ (fun j ρ σ' => Ext σ σ' ∧ ρ "most" = some (.int ((code.take j).foldl (fun m i => ((roles i).map (·.2)).foldl gstep m) 0))) ?_ ?_ ⟨Ext.refl _, rfl⟩
  · rintro p hp ρ σ1 ⟨E, h1⟩
    rw [List.length_map] at hp
    rw [List.getElem_map]
    have hsn : code.take (p + 1) = code.take p ++ [code[p]] := by rw [List.take_add_one, List.getElem?_eq_getElem hp]; rfl
    rw [hsn, List.foldl_append]
    generalize (code.take p).foldl (fun m i => ((roles i).map (·.2)).foldl gstep m) 0 = m at h1
    generalize code[p] = ins
    refine As.name ?_
    refine Exs.cons <| Ex.forIn <| Ev.fcall <| Ev.glob (gl21 T) (fun _ => .raw _) ⟨_, rfl, kp21 T, Evs.cons <| Ev.loc rfl <| Evs.nil <| Cl.of_code <| ok_roles T ins fun l hl => ⟨_, _, itb_list upd_same, ?_⟩⟩
    refine LoopW.inv _ (fun j ρ σ' => Ext (upd σ1 l (.lst ((roles ins).map roleD))) σ' ∧ ρ "most" = some (.int ((((roles ins).take j).map (·.2)).foldl gstep m))) ?_ ?_ ⟨Ext.refl _, h1⟩
    · clear h1
      rintro j hj ρ σ2 ⟨E2, h1⟩
      have hj' : j < (roles ins).length := by simpa using hj
      rw [List.getElem_map]
      have hsn : (roles ins).take (j + 1) = (roles ins).take j ++ [(roles ins)[j]] := by rw [List.take_add_one, List.getElem?_eq_getElem hj']; rfl
      rw [hsn, List.map_append, List.foldl_append]
      generalize (((roles ins).take j).map (·.2)).foldl gstep m = m' at h1
      generalize (roles ins)[j] = r
      obtain ⟨ro, lt, n⟩ := r
      have fin : ∀ ρ', ρ' "most" = some (.int (gstep m' ⟨lt, n⟩)) → LoopB (fun σ' => σ' l = some (.lst ((roles ins).map roleD))) (fun _ _ _ => True) (fun ρ σ' => Ext (upd σ1 l (.lst ((roles ins).map roleD))) σ' ∧ ρ "most" = some (.int (gstep m' ⟨lt, n⟩))) .next ρ' σ2 :=
        fun ρ' h => ⟨E2 _ _ upd_same, E2, h⟩
      refine As.pair ?_
      refine Exs.cons <| Ex.ite <| Tr.and <| TrAnd.cons <| Tr.cmp <| Ev.sub <| Ev.loc rfl <| Ev.cint <| sub_tup rfl rfl <| Ev.cstr <| eqs_ok ⟨_, rfl, ?_⟩
      rw [eq_x]
      by_cases hx : lt = .x
      · rw [decide_eq_true hx]
        refine iteT rfl <| TrAnd.cons <| Tr.cmp <| Ev.sub <| Ev.loc rfl <| Ev.cint <| sub_tup rfl rfl <| Ev.loc h1 <| gt_ok ⟨_, rfl, ?_⟩
        by_cases hlt : m' < n
        · rw [decide_eq_true hlt]
          refine iteT rfl <| TrAnd.nil <| iteT rfl <| Exs.cons <| Ex.assign <| Ev.sub <| Ev.loc rfl <| Ev.cint <| sub_tup rfl rfl ?_
          repeat (refine Exs.nil ?_)
          refine fin _ ?_
          have : gstep m' ⟨lt, n⟩ = n := if_pos ⟨hx, hlt⟩
          rw [this]; rfl
        · rw [decide_eq_false hlt]
          refine iteF Bool.false_ne_true <| iteF Bool.false_ne_true ?_
          repeat (refine Exs.nil ?_)
          refine fin _ ?_
          have : gstep m' ⟨lt, n⟩ = m' := if_neg fun h => hlt h.2
          rw [this]; exact h1
      · rw [decide_eq_false hx]
        refine iteF Bool.false_ne_true <| iteF Bool.false_ne_true ?_
        repeat (refine Exs.nil ?_)
        refine fin _ ?_
        have : gstep m' ⟨lt, n⟩ = m' := if_neg fun h => hx h.1
        rw [this]; exact h1
    · rintro ρ σ2 ⟨E2, h2⟩
      rw [List.length_map, List.take_length] at h2
      exact Exs.nil ⟨E2 _ _ (upd_new hl (E _ _ ec)), (E.new hl).trans E2, h2⟩
  · rintro ρ σ1 ⟨E, h1⟩
    rw [List.length_map, List.take_length] at h1
    exact Exs.cons <| Ex.ret <| Ev.loc h1 <| q _ E
end

section
set_option maxHeartbeats 1000000
variable {c : Cx} {F : Fn} {k : Nat} {ρ : Rho} {σ : Sg}
/-! the parts of an instruction -/
inductive El where
  | str (x : Str)
  | int (n : Int)
  | op (o : Opd)
noncomputable def elD : El → D
  | .str x => .str x
  | .int n => .int n
  | .op o => opD o
noncomputable def els (i : Ins) : List El := .str (nameS i) :: match i with
  | .getVar o s | .getVal o s | .putVal o s | .putVar o s | .putUns o s => [.op o, .op s]
  | .getConst s => [.int 7, .op s]
  | .putConst s => [.int 9, .op s]
  | .putStruct s => [.int 4, .op s]
  | .getList s | .putVoid s => [.op s]
  | .unifVar o | .unifLoc o | .setVal o | .setVar o => [.op o]
  | .call => [.int 3, .int 0]
theorem insD_els (i : Ins) : insD i = .tup ((els i).map elD) := by cases i <;> rfl
theorem els_len (i : Ins) : (els i).length ≤ 3 := by cases i <;> simp [els]
/-- a register for an operand -/
noncomputable def realO (sh : Int) (o : Opd) : Opd := match o.l with
  | .t => ⟨.x, 1 + (o.n + sh) % 5⟩
  | .a => ⟨.x, o.n⟩
  | _ => o
noncomputable def realE (sh : Int) : El → El
  | .op o => .op (realO sh o)
  | e => e
noncomputable def realI (sh : Int) : Ins → Ins
  | .getVar o s => .getVar (realO sh o) (realO sh s)
  | .getVal o s => .getVal (realO sh o) (realO sh s)
  | .getConst s => .getConst (realO sh s)
  | .getList s => .getList (realO sh s)
  | .unifVar o => .unifVar (realO sh o)
  | .unifLoc o => .unifLoc (realO sh o)
  | .putVal o s => .putVal (realO sh o) (realO sh s)
  | .putVar o s => .putVar (realO sh o) (realO sh s)
  | .putConst s => .putConst (realO sh s)
  | .putUns o s => .putUns (realO sh o) (realO sh s)
  | .putStruct s => .putStruct (realO sh s)
  | .setVal o => .setVal (realO sh o)
  | .setVar o => .setVar (realO sh o)
  | .putVoid s => .putVoid (realO sh s)
  | .call => .call
theorem real_els (sh : Int) (i : Ins) : insD (realI sh i) = .tup (((els i).map (realE sh)).map elD) := by cases i <;> rfl
theorem isTup_el (e : El) : isTup (elD e) = some (match e with | .op _ => true | _ => false) := by cases e <;> rfl
theorem eq_t (l : Ltr) : (l.str == ("t" : Str)) = decide (l = .t) := by cases l <;> rfl
theorem eq_a (l : Ltr) : (l.str == ("a" : Str)) = decide (l = .a) := by cases l <;> rfl
theorem ok_real (T : Tp c) {cd : Addr} {code : List Ins} {sh : Int} {Q : D → Sg → Prop} (ec : σ cd = some (.lst (code.map insD))) (hz : code.length ≤ 1000) (q : ∀ (n : Addr) (σ' : Sg), Ext σ σ' → σ' n = some (.lst ((code.map (realI sh)).map insD)) → Q (.raw (.ref n)) σ') : Cd c (k + 1) σ (.ref 139) [.raw (.ref cd), .int sh] Q := by
  refine Cd.fn T.wd (is139 T) rfl ?_
  conv => arg 6; whnf
  refine Exs.cons <| Ex.assign <| Ev.list <| Evs.nil ⟨few rfl, fun md hmd => ?_⟩
  refine Exs.cons <| Ex.forIn <| Ev.loc rfl ⟨_, _, itb_list (((Ext.refl σ).new hmd) _ _ ec), ?_⟩
  refine LoopW.inv _ (fun j ρ σ' => Ext σ σ' ∧ ρ "made" = some (.raw (.ref md)) ∧ ρ "shift" = some (.int sh) ∧ σ' md = some (.lst (((code.take j).map (realI sh)).map insD))) ?_ ?_ ⟨(Ext.refl σ).new hmd, rfl, rfl, upd_same⟩
  · rintro p hp ρ σ1 ⟨E, h1, h2, hm⟩
    rw [List.length_map] at hp
    rw [List.getElem_map]
    have hsn : code.take (p + 1) = code.take p ++ [code[p]] := by rw [List.take_add_one, List.getElem?_eq_getElem hp]; rfl
    rw [hsn, List.map_append, List.map_append]
    have hlen : (((code.take p).map (realI sh)).map insD).length ≤ 1000 := by simp; omega
    generalize ((code.take p).map (realI sh)).map insD = done at hm hlen
    generalize code[p] = ins
    refine As.name ?_
    refine Exs.cons <| Ex.assign <| Ev.list <| Evs.nil ⟨few rfl, fun rw' hrw => ?_⟩
    have hne : rw' ≠ md := (ne_new hrw hm).symm
    have n0 : σ rw' = none := none_of E hrw
    refine Exs.cons <| Ex.forIn <| Ev.loc rfl ⟨(els ins).map elD, fun _ => True, by rw [insD_els]; exact itb_tup, ?_⟩
    have hel := els_len ins
    refine LoopW.inv _ (fun j ρ σ' => ρ "made" = some (.raw (.ref md)) ∧ ρ "shift" = some (.int sh) ∧ ρ "row" = some (.raw (.ref rw')) ∧ Ext σ σ' ∧ σ' md = some (.lst done) ∧ σ' cd = some (.lst (code.map insD)) ∧ σ' rw' = some (.lst ((((els ins).take j).map (realE sh)).map elD))) ?_ ?_
      ⟨h1, h2, rfl, E.new hrw, by rw [upd_ne hne.symm]; exact hm, upd_new hrw (E _ _ ec), upd_same⟩
    · clear h1 h2 hm E hrw
      rintro j hj ρ σ2 ⟨h1, h2, h3, E, hm, hcd, hr⟩
      have hj' : j < (els ins).length := by simpa using hj
      rw [List.getElem_map]
      have hsn : (els ins).take (j + 1) = (els ins).take j ++ [(els ins)[j]] := by rw [List.take_add_one, List.getElem?_eq_getElem hj']; rfl
      rw [hsn, List.map_append, List.map_append]
      have hl2 : ((((els ins).take j).map (realE sh)).map elD).length ≤ 3 := by simp; omega
      generalize (((els ins).take j).map (realE sh)).map elD = row at hr hl2
      generalize (els ins)[j] = e
      refine As.name ?_
      refine Exs.cons (Ex.mono (Q := fun o ρ' σ' => o = .next ∧ σ' = σ2 ∧ ρ' "made" = some (.raw (.ref md)) ∧ ρ' "shift" = some (.int sh) ∧ ρ' "row" = some (.raw (.ref rw')) ∧ ρ' "part" = some (elD (realE sh e))) ?_ ?_)
      · refine Ex.ite <| Tr.and <| TrAnd.cons <| Tr.plain <| Ev.fcall <| Ev.blt (bi_isinstance T) ⟨_, rfl, .inr (.inl ⟨_, rfl⟩), Evs.cons <| Ev.loc rfl <| Evs.cons <| Ev.blt (bi_tuple T) <| Evs.nil <| cl_isi (isTup_el e) ⟨_, rfl, ?_⟩⟩
        cases e with
        | op o =>
          refine iteT rfl <| TrAnd.cons <| Tr.cmp <| Ev.sub <| Ev.loc rfl <| Ev.cint <| sub_tup rfl rfl <| Ev.cstr <| eqs_ok ⟨_, rfl, ?_⟩
          rw [eq_t]
          by_cases ht : o.l = .t
          · rw [decide_eq_true ht]
            refine iteT rfl <| TrAnd.nil <| iteT rfl <| Exs.cons <| Ex.assign <| Ev.tup <| Evs.cons <| Ev.cstr <| Evs.cons <| Ev.binop <| Ev.cint <| Ev.binop <| Ev.binop <| Ev.sub <| Ev.loc rfl <| Ev.cint <| sub_tup rfl rfl <| Ev.loc h2 <| add_ok <| Ev.cint <| mod_ok (by decide) <| add_ok <| Evs.nil ⟨few rfl, ?_⟩
            refine Exs.nil ⟨rfl, rfl, h1, h2, h3, ?_⟩
            have : realE sh (.op o) = .op ⟨.x, 1 + (o.n + sh) % 5⟩ := by show El.op (realO sh o) = _; unfold realO; rw [ht]
            rw [this]; rfl
          · rw [decide_eq_false ht]
            refine iteF Bool.false_ne_true <| iteF Bool.false_ne_true ?_
            refine Exs.cons <| Ex.ite <| Tr.and <| TrAnd.cons <| Tr.plain <| Ev.fcall <| Ev.blt (bi_isinstance T) ⟨_, rfl, .inr (.inl ⟨_, rfl⟩), Evs.cons <| Ev.loc rfl <| Evs.cons <| Ev.blt (bi_tuple T) <| Evs.nil <| cl_isi (isTup_el (.op o)) ⟨_, rfl, iteT rfl ?_⟩⟩
            refine TrAnd.cons <| Tr.cmp <| Ev.sub <| Ev.loc rfl <| Ev.cint <| sub_tup rfl rfl <| Ev.cstr <| eqs_ok ⟨_, rfl, ?_⟩
            rw [eq_a]
            by_cases ha : o.l = .a
            · rw [decide_eq_true ha]
              refine iteT rfl <| TrAnd.nil <| iteT rfl <| Exs.cons <| Ex.assign <| Ev.tup <| Evs.cons <| Ev.cstr <| Evs.cons <| Ev.sub <| Ev.loc rfl <| Ev.cint <| sub_tup rfl rfl <| Evs.nil ⟨few rfl, ?_⟩
              refine Exs.nil <| Exs.nil ⟨rfl, rfl, h1, h2, h3, ?_⟩
              have : realE sh (.op o) = .op ⟨.x, o.n⟩ := by show El.op (realO sh o) = _; unfold realO; rw [ha]
              rw [this]; rfl
            · rw [decide_eq_false ha]
              refine iteF Bool.false_ne_true <| iteF Bool.false_ne_true <| Exs.nil <| Exs.nil ⟨rfl, rfl, h1, h2, h3, ?_⟩
              have : realE sh (.op o) = .op o := by
                show El.op (realO sh o) = _
                unfold realO
                cases hl : o.l with
                | t => exact absurd hl ht
                | a => exact absurd hl ha
                | y => rfl
                | x => rfl
              rw [this]; rfl
        | str x =>
          refine iteF Bool.false_ne_true <| iteF Bool.false_ne_true ?_
          exact Exs.cons <| Ex.ite <| Tr.and <| TrAnd.cons <| Tr.plain <| Ev.fcall <| Ev.blt (bi_isinstance T) ⟨_, rfl, .inr (.inl ⟨_, rfl⟩), Evs.cons <| Ev.loc rfl <| Evs.cons <| Ev.blt (bi_tuple T) <| Evs.nil <| cl_isi (isTup_el (.str x)) ⟨_, rfl, iteF Bool.false_ne_true <| iteF Bool.false_ne_true <| Exs.nil <| Exs.nil ⟨rfl, rfl, h1, h2, h3, rfl⟩⟩⟩
        | int x =>
          refine iteF Bool.false_ne_true <| iteF Bool.false_ne_true ?_
          exact Exs.cons <| Ex.ite <| Tr.and <| TrAnd.cons <| Tr.plain <| Ev.fcall <| Ev.blt (bi_isinstance T) ⟨_, rfl, .inr (.inl ⟨_, rfl⟩), Evs.cons <| Ev.loc rfl <| Evs.cons <| Ev.blt (bi_tuple T) <| Evs.nil <| cl_isi (isTup_el (.int x)) ⟨_, rfl, iteF Bool.false_ne_true <| iteF Bool.false_ne_true <| Exs.nil <| Exs.nil ⟨rfl, rfl, h1, h2, h3, rfl⟩⟩⟩
      · rintro o ρ2 σ3 ⟨rfl, rfl, g1, g2, g3, g4⟩
        refine Exs.cons <| Ex.expr <| Ev.append <| Ev.loc g3 ⟨rw', _, rfl, hr, Ev.loc g4 ⟨_, hr, Nat.le_trans hl2 (few rfl), rfl, ?_⟩⟩
        refine Exs.nil ⟨trivial, g1, g2, g3, E.set n0, by rw [upd_ne hne.symm]; exact hm, ?_, upd_same⟩
        rw [upd_ne (fun e' => by rw [← e', ec] at n0; cases n0)]; exact hcd
    · rintro ρ σ2 ⟨h1, h2, h3, E, hm, hcd, hr⟩
      rw [List.length_map, List.take_length] at hr
      refine Exs.cons <| Ex.expr <| Ev.append <| Ev.loc h1 ⟨md, _, rfl, hm, Ev.fcall <| Ev.blt (bi_tuple T) ⟨_, rfl, .inr (.inr ⟨_, rfl⟩), Evs.cons <| Ev.loc h3 <| Evs.nil <| cl_tuple hr (by simp; exact Nat.le_trans hel (few rfl)) ⟨_, hm, Nat.le_trans hlen (few rfl), rfl, ?_⟩⟩⟩
      have n1 : md ≠ cd := fun e' => by rw [e', ec] at hmd; cases hmd
      refine Exs.nil ⟨?_, E.set hmd, h1, h2, ?_⟩
      · show upd _ _ _ cd = _
        rw [upd_ne n1.symm]; exact hcd
      · rw [upd_same]
        show _ = some (AObj.lst (done ++ [insD (realI sh ins)]))
        rw [real_els]
  · rintro ρ σ1 ⟨E, h1, _, hm⟩
    rw [List.length_map, List.take_length] at hm
    exact Exs.cons <| Ex.ret <| Ev.loc h1 <| q md _ E hm
end

section
set_option maxHeartbeats 1000000
variable {c : Cx} {F : Fn} {k : Nat} {ρ : Rho} {σ : Sg}
noncomputable def estep (m : Int) : El → Int
  | .op o => if o.l = .x then max m o.n else m
  | _ => m
noncomputable def mostP (code : List Ins) : Int := code.foldl (fun m i => (els i).foldl estep m) 0
noncomputable def keeps : Ins → Bool
  | .getVar o s | .putVal o s => decide (o ≠ s)
  | _ => true
noncomputable def isPair : Ins → Bool
  | .getVar _ _ | .putVal _ _ => true
  | _ => false
theorem mem_pair (i : Ins) : memD (.str (nameS i)) [.str "get_variable", .str "put_value"] = isPair i := by
  refine bool_iff (memD_iff.trans ?_)
  have e : ∀ a b : Str, (D.str a = D.str b) ↔ a = b := fun a b => ⟨fun h => D.str.inj h, fun h => by rw [h]⟩
  simp only [List.mem_cons, List.not_mem_nil, or_false, e]
  cases i <;> simp only [nameS, isPair] <;> decide
theorem ok_pairs : ∀ d ∈ [D.str "get_variable", D.str "put_value"], okD 8 d = true := fun d hd => by
  simp only [List.mem_cons, List.not_mem_nil, or_false] at hd
  rcases hd with rfl | rfl <;> exact okD_str (by decide +kernel)
theorem ok_name8 (i : Ins) : okD 8 (.str (nameS i)) = true := okD_str (name_ok i)
theorem ok_realRight (T : Tp c) {cd : Addr} {code : List Ins} {Q : D → Sg → Prop} (ec : σ cd = some (.lst (code.map insD))) (hz : code.length ≤ 1000) (h1 : greatestP code = mostP code) (h2 : code.filter (fun i => !idle i) = code.filter keeps)
    (q : ∀ σ', Ext σ σ' → Q (.bool true) σ') : Cd c (k + 3) σ (.ref 146) [.raw (.ref cd)] Q := by
  refine Cd.fn T.wd (is146 T) rfl ?_
  conv => arg 6; whnf
  refine Exs.cons <| Ex.assign <| Ev.cint ?_
  refine Exs.cons <| Ex.assign <| Ev.list <| Evs.nil ⟨few rfl, fun kp hkp => ?_⟩
  have ncd : cd ≠ kp := fun e => by rw [e, hkp] at ec; cases ec
  refine Exs.cons <| Ex.forIn <| Ev.loc rfl ⟨_, _, itb_list (((Ext.refl σ).new hkp) _ _ ec), ?_⟩
  refine LoopW.inv _ (fun j ρ σ' => Ext σ σ' ∧ ρ "real" = some (.raw (.ref cd)) ∧ ρ "kept" = some (.raw (.ref kp)) ∧ ρ "most" = some (.int ((code.take j).foldl (fun m i => (els i).foldl estep m) 0)) ∧ σ' kp = some (.lst (((code.take j).filter keeps).map insD))) ?_ ?_ ⟨(Ext.refl σ).new hkp, rfl, rfl, rfl, upd_same⟩
  · rintro p hp ρ σ1 ⟨E, g1, g2, g3, hk⟩
    rw [List.length_map] at hp
    rw [List.getElem_map]
    have hsn : code.take (p + 1) = code.take p ++ [code[p]] := by rw [List.take_add_one, List.getElem?_eq_getElem hp]; rfl
    rw [hsn, List.foldl_append, List.filter_append, List.map_append]
    have hlen : (((code.take p).filter keeps).map insD).length ≤ 1000 := by
      rw [List.length_map]
      have := List.length_filter_le keeps (code.take p)
      rw [List.length_take] at this
      omega
    generalize ((code.take p).filter keeps).map insD = done at hk hlen
    generalize (code.take p).foldl (fun m i => (els i).foldl estep m) 0 = m at g3
    generalize code[p] = ins
    refine As.name ?_
    refine Exs.cons (Ex.mono (Q := fun o ρ' σ' => o = .next ∧ σ' = σ1 ∧ ρ' "real" = some (.raw (.ref cd)) ∧ ρ' "kept" = some (.raw (.ref kp)) ∧ ρ' "parts" = some (insD ins) ∧ ρ' "most" = some (.int ((els ins).foldl estep m))) ?_ ?_)
    · refine Ex.forIn <| Ev.loc rfl ⟨(els ins).map elD, fun _ => True, by rw [insD_els]; exact itb_tup, ?_⟩
      refine LoopW.inv _ (fun j ρ' σ' => σ' = σ1 ∧ ρ' "real" = some (.raw (.ref cd)) ∧ ρ' "kept" = some (.raw (.ref kp)) ∧ ρ' "parts" = some (insD ins) ∧ ρ' "most" = some (.int (((els ins).take j).foldl estep m))) ?_ ?_ ⟨rfl, g1, g2, rfl, g3⟩
      · clear g1 g2 g3
        rintro j hj ρ σ2 ⟨rfl, g1, g2, g4, g3⟩
        have hj' : j < (els ins).length := by simpa using hj
        rw [List.getElem_map]
        have hsn : (els ins).take (j + 1) = (els ins).take j ++ [(els ins)[j]] := by rw [List.take_add_one, List.getElem?_eq_getElem hj']; rfl
        rw [hsn, List.foldl_append]
        generalize ((els ins).take j).foldl estep m = m' at g3
        generalize (els ins)[j] = e
        refine As.name ?_
        refine Exs.cons <| Ex.ite <| Tr.and <| TrAnd.cons <| Tr.plain <| Ev.fcall <| Ev.blt (bi_isinstance T) ⟨_, rfl, .inr (.inl ⟨_, rfl⟩), Evs.cons <| Ev.loc rfl <| Evs.cons <| Ev.blt (bi_tuple T) <| Evs.nil <| cl_isi (isTup_el e) ⟨_, rfl, ?_⟩⟩
        cases e with
        | op o =>
          refine iteT rfl <| TrAnd.cons <| Tr.cmp <| Ev.sub <| Ev.loc rfl <| Ev.cint <| sub_tup rfl rfl <| Ev.cstr <| eqs_ok ⟨_, rfl, ?_⟩
          rw [eq_x]
          by_cases hx : o.l = .x
          · rw [decide_eq_true hx]
            refine iteT rfl <| TrAnd.nil <| iteT rfl <| Exs.cons <| Ex.assign <| Ev.fcall <| Ev.blt (bi_max T) ⟨_, rfl, .inr (.inl ⟨_, rfl⟩), Evs.cons <| Ev.loc g3 <| Evs.cons <| Ev.sub <| Ev.loc rfl <| Ev.cint <| sub_tup rfl rfl <| Evs.nil <| cl_max ?_⟩
            refine Exs.nil <| Exs.nil ⟨trivial, rfl, g1, g2, g4, ?_⟩
            have : estep m' (.op o) = max m' o.n := if_pos hx
            show _ = some (D.int (estep m' (.op o)))
            rw [this]; rfl
          · rw [decide_eq_false hx]
            refine iteF Bool.false_ne_true <| iteF Bool.false_ne_true <| Exs.nil <| Exs.nil ⟨trivial, rfl, g1, g2, g4, ?_⟩
            have : estep m' (.op o) = m' := if_neg hx
            show _ = some (D.int (estep m' (.op o)))
            rw [this]; exact g3
        | str x => exact iteF Bool.false_ne_true <| iteF Bool.false_ne_true <| Exs.nil <| Exs.nil ⟨trivial, rfl, g1, g2, g4, g3⟩
        | int x => exact iteF Bool.false_ne_true <| iteF Bool.false_ne_true <| Exs.nil <| Exs.nil ⟨trivial, rfl, g1, g2, g4, g3⟩
      · rintro ρ' σ2 ⟨rfl, g1, g2, g4, g3⟩
        rw [List.length_map, List.take_length] at g3
        exact ⟨rfl, rfl, g1, g2, g4, g3⟩
    · clear g1 g2 g3
      rintro o ρ2 σ2 ⟨rfl, rfl, g1, g2, g4, g3⟩
      refine Exs.cons <| Ex.ite <| Tr.or <| TrOr.cons <| Tr.cmp <| Ev.sub <| Ev.loc g4 <| Ev.cint <| sub_name <| Ev.list <| Evs.cons <| Ev.cstr <| Evs.cons <| Ev.cstr <| Evs.nil ⟨few rfl, fun ll hll => notIn_lst upd_same ok_pairs (ok_name8 ins) ⟨_, rfl, ?_⟩⟩
      rw [mem_pair]
      have E' : Ext σ (upd σ2 ll (.lst [.str "get_variable", .str "put_value"])) := E.new hll
      have hk' := upd_new (O := .lst [.str "get_variable", .str "put_value"]) hll hk
      have yes : keeps ins = true → LoopB (fun σ' => σ' cd = some (.lst (code.map insD))) (fun _ _ _ => True) (fun ρ σ' => Ext σ σ' ∧ ρ "real" = some (.raw (.ref cd)) ∧ ρ "kept" = some (.raw (.ref kp)) ∧ ρ "most" = some (.int ((els ins).foldl estep m)) ∧ σ' kp = some (.lst (done ++ ([ins].filter keeps).map insD))) .next ρ2 (upd (upd σ2 ll (.lst [.str "get_variable", .str "put_value"])) kp (.lst (done ++ [insD ins]))) := fun hy => by
        refine ⟨?_, E'.set hkp, g1, g2, g3, ?_⟩
        · show upd _ _ _ cd = _
          rw [upd_ne ncd]; exact E' _ _ ec
        · rw [upd_same, List.filter_cons_of_pos hy]; rfl
      have no : keeps ins = false → LoopB (fun σ' => σ' cd = some (.lst (code.map insD))) (fun _ _ _ => True) (fun ρ σ' => Ext σ σ' ∧ ρ "real" = some (.raw (.ref cd)) ∧ ρ "kept" = some (.raw (.ref kp)) ∧ ρ "most" = some (.int ((els ins).foldl estep m)) ∧ σ' kp = some (.lst (done ++ ([ins].filter keeps).map insD))) .next ρ2 (upd σ2 ll (.lst [.str "get_variable", .str "put_value"])) := fun hn => by
        refine ⟨E' _ _ ec, E', g1, g2, g3, ?_⟩
        rw [List.filter_cons_of_neg (by rw [hn]; exact Bool.false_ne_true), List.filter_nil, List.map_nil, List.append_nil]; exact hk'
      have push : ∀ {P' : Prop}, P' → P' := fun h => h
      cases ins with
      | getVar o s =>
        refine iteF Bool.false_ne_true <| TrOr.cons <| Tr.cmp <| Ev.sub <| Ev.loc g4 <| Ev.cint <| sub_tup rfl rfl <| Ev.sub <| Ev.loc g4 <| Ev.cint <| sub_tup rfl rfl <| net_ok (ok_opD o) (ok_opD s) ⟨_, rfl, ?_⟩
        rw [deq_op]
        by_cases he : o = s
        · rw [decide_eq_true he]
          exact iteF Bool.false_ne_true <| TrOr.nil <| iteF Bool.false_ne_true <| Exs.nil <| Exs.nil <| no (by show decide (o ≠ s) = false; simp [he])
        · rw [decide_eq_false he]
          refine iteT rfl <| iteT rfl <| Exs.cons <| Ex.expr <| Ev.append <| Ev.loc g2 ⟨kp, _, rfl, hk', Ev.loc g4 ⟨_, hk', Nat.le_trans hlen (few rfl), rfl, ?_⟩⟩
          exact Exs.nil <| Exs.nil <| yes (by show decide (o ≠ s) = true; simp [he])
      | putVal o s =>
        refine iteF Bool.false_ne_true <| TrOr.cons <| Tr.cmp <| Ev.sub <| Ev.loc g4 <| Ev.cint <| sub_tup rfl rfl <| Ev.sub <| Ev.loc g4 <| Ev.cint <| sub_tup rfl rfl <| net_ok (ok_opD o) (ok_opD s) ⟨_, rfl, ?_⟩
        rw [deq_op]
        by_cases he : o = s
        · rw [decide_eq_true he]
          exact iteF Bool.false_ne_true <| TrOr.nil <| iteF Bool.false_ne_true <| Exs.nil <| Exs.nil <| no (by show decide (o ≠ s) = false; simp [he])
        · rw [decide_eq_false he]
          refine iteT rfl <| iteT rfl <| Exs.cons <| Ex.expr <| Ev.append <| Ev.loc g2 ⟨kp, _, rfl, hk', Ev.loc g4 ⟨_, hk', Nat.le_trans hlen (few rfl), rfl, ?_⟩⟩
          exact Exs.nil <| Exs.nil <| yes (by show decide (o ≠ s) = true; simp [he])
      | _ =>
        refine iteT rfl <| iteT rfl <| Exs.cons <| Ex.expr <| Ev.append <| Ev.loc g2 ⟨kp, _, rfl, hk', Ev.loc g4 ⟨_, hk', Nat.le_trans hlen (few rfl), rfl, ?_⟩⟩
        exact Exs.nil <| Exs.nil <| yes rfl
  · rintro ρ σ1 ⟨E, g1, g2, g3, hk⟩
    rw [List.length_map, List.take_length] at g3 hk
    refine Exs.cons <| Ex.ret <| Ev.and <| EvAnd.cons <| Ev.cmp <| Ev.fcall <| Ev.glob (gl87 T) (fun _ => .raw _) ⟨_, rfl, kp87 T, Evs.cons <| Ev.loc g1 <| Evs.nil <| Cl.of_code <| ok_greatest T (E _ _ ec) fun σ2 E2 => Ev.loc g3 <| eqi_ok ⟨_, rfl, ?_⟩⟩
    rw [show (greatestP code == code.foldl (fun m i => (els i).foldl estep m) 0) = true from beq_iff_eq.mpr h1]
    refine iteT rfl <| EvAnd.one <| Ev.cmp <| Ev.fcall <| Ev.glob (gl80 T) (fun _ => .raw _) ⟨_, rfl, kp80 T, Evs.cons <| Ev.loc g1 <| Evs.nil <| Cl.of_code <| ok_peephole T (E2 _ _ (E _ _ ec)) hz fun n hn => Ev.loc g2 <| eql_ok upd_same (upd_new hn (E2 _ _ hk)) ?_ ?_ ?_⟩
    · intro d hd
      obtain ⟨i, _, rfl⟩ := List.mem_map.mp hd
      exact ok_insD i
    · intro d hd
      obtain ⟨i, _, rfl⟩ := List.mem_map.mp hd
      exact ok_insD i
    · rw [h2, deql_iff.mpr rfl]
      exact q _ ((E.trans E2).new hn)
end

section
set_option maxHeartbeats 1000000
variable {c : Cx} {F : Fn} {k : Nat} {ρ : Rho} {σ : Sg}
/-! a table of lists: number, operands, address -/
noncomputable abbrev Row3 := Int × List Opd × Addr
noncomputable def rowD (x : Row3) : Int × D := (x.1, .raw (.ref x.2.2))
noncomputable def rowW (x : Row3) : Int × List Opd := (x.1, x.2.1)
/-- an operand put at the end of a number's list -/
noncomputable def wadd (W : List (Int × List Opd)) (n : Int) (o : Opd) : List (Int × List Opd) := if W.any (fun w => w.1 = n) then W.map (fun w => if w.1 = n then (w.1, w.2 ++ [o]) else w) else W ++ [(n, [o])]
structure Tab (σ : Sg) (tb : Addr) (X : List Row3) : Prop where
  dict : ∃ ep, σ tb = some (.dct (X.map rowD) ep)
  lists : ∀ x ∈ X, σ x.2.2 = some (.lst (x.2.1.map opD))
  nodup : (X.map fun x => x.2.2).Nodup
  keys : (X.map fun x => x.1).Nodup
theorem Tab.grow {σ' : Sg} {tb : Addr} {X : List Row3} (t : Tab σ tb X) (h : Ext σ σ') : Tab σ' tb X := ⟨let ⟨e, x⟩ := t.dict; ⟨e, h _ _ x⟩, fun x hx => h _ _ (t.lists x hx), t.nodup, t.keys⟩
theorem dget_rows {n : Int} : ∀ {X : List Row3}, dget (X.map rowD) n = (X.find? fun x => x.1 = n).map fun x => .raw (.ref x.2.2)
  | [] => rfl
  | x :: X => by
    have ih := dget_rows (n := n) (X := X)
    unfold dget at ih ⊢
    rw [List.map_cons, List.find?_cons, List.find?_cons]
    by_cases h : x.1 = n
    · simp [rowD, h]
    · simp only [rowD, h, decide_false]; exact ih
theorem any_rows {n : Int} {X : List Row3} : (X.map rowW).any (fun w => decide (w.1 = n)) = X.any (fun x => decide (x.1 = n)) := by rw [List.any_map]; rfl
theorem any_rowsD {n : Int} {X : List Row3} : (X.map rowD).any (fun w => decide (w.1 = n)) = X.any (fun x => decide (x.1 = n)) := by rw [List.any_map]; rfl
theorem inj_of {α β : Type} {f : α → β} : ∀ {X : List α}, (X.map f).Nodup → ∀ {x y : α}, x ∈ X → y ∈ X → f x = f y → x = y
  | [], _, _, _, h, _, _ => by cases h
  | z :: X, hn, x, y, hx, hy, e => by
    obtain ⟨h1, h2⟩ := List.nodup_cons.mp hn
    rcases List.mem_cons.mp hx with e1 | hx'
    · rcases List.mem_cons.mp hy with e2 | hy'
      · rw [e1, e2]
      · exact absurd (show f z ∈ X.map f from List.mem_map.mpr ⟨y, hy', by rw [← e, e1]⟩) h1
    · rcases List.mem_cons.mp hy with e2 | hy'
      · exact absurd (show f z ∈ X.map f from List.mem_map.mpr ⟨x, hx', by rw [e, e2]⟩) h1
      · exact inj_of h2 hx' hy' e
/-- the list there is made longer -/
noncomputable def appRow (X : List Row3) (n : Int) (o : Opd) : List Row3 := X.map fun x => if x.1 = n then (x.1, x.2.1 ++ [o], x.2.2) else x
theorem Tab.app {tb : Addr} {X : List Row3} {n : Int} {o : Opd} {x : Row3} (t : Tab σ tb X) (hx : X.find? (fun x => x.1 = n) = some x) :
    Tab (upd σ x.2.2 (.lst ((x.2.1 ++ [o]).map opD))) tb (appRow X n o) ∧ (appRow X n o).map rowW = wadd (X.map rowW) n o := by
  have hm := List.mem_of_find?_eq_some hx
  have hn : x.1 = n := by simpa using List.find?_some hx
  have hl := t.lists x hm
  obtain ⟨ep, hd⟩ := t.dict
  have ne : tb ≠ x.2.2 := fun e => by rw [e, hl] at hd; cases hd
  have uniq : ∀ y ∈ X, y.1 = n → y = x := fun y hy e => inj_of t.keys hy hm (e.trans hn.symm)
  have uniqA : ∀ y ∈ X, y.2.2 = x.2.2 → y = x := fun y hy e => inj_of t.nodup hy hm e
  refine ⟨⟨⟨ep, ?_⟩, fun y hy => ?_, ?_, ?_⟩, ?_⟩
  · rw [upd_ne ne, hd]
    unfold appRow
    rw [List.map_map]
    congr 2
    refine List.map_congr_left fun y _ => ?_
    show rowD y = rowD (if y.1 = n then (y.1, y.2.1 ++ [o], y.2.2) else y)
    split <;> rfl
  · obtain ⟨z, hz, rfl⟩ := List.mem_map.mp hy
    by_cases h : z.1 = n
    · have := uniq z hz h
      subst this
      rw [if_pos h]
      exact upd_same
    · rw [if_neg h, upd_ne (fun e => h (by rw [uniqA z hz e]; exact hn))]
      exact t.lists z hz
  · have : (appRow X n o).map (fun x => x.2.2) = X.map fun x => x.2.2 := by
      unfold appRow
      rw [List.map_map]
      refine List.map_congr_left fun y _ => ?_
      show (if y.1 = n then (y.1, y.2.1 ++ [o], y.2.2) else y).2.2 = _
      split <;> rfl
    rw [this]; exact t.nodup
  · have : (appRow X n o).map (fun x => x.1) = X.map fun x => x.1 := by
      unfold appRow
      rw [List.map_map]
      refine List.map_congr_left fun y _ => ?_
      show (if y.1 = n then (y.1, y.2.1 ++ [o], y.2.2) else y).1 = _
      split <;> rfl
    rw [this]; exact t.keys
  · unfold wadd
    have hany : X.any (fun x => decide (x.1 = n)) = true := List.any_eq_true.mpr ⟨x, hm, by simpa using hn⟩
    rw [any_rows, if_pos hany]
    unfold appRow
    rw [List.map_map, List.map_map]
    refine List.map_congr_left fun y _ => ?_
    show rowW (if y.1 = n then (y.1, y.2.1 ++ [o], y.2.2) else y) = (if (rowW y).1 = n then ((rowW y).1, (rowW y).2 ++ [o]) else rowW y)
    by_cases h : y.1 = n
    · rw [if_pos h, if_pos (show (rowW y).1 = n from h)]; rfl
    · rw [if_neg h, if_neg (show ¬ (rowW y).1 = n from h)]
/-- the list there is another -/
noncomputable def repRow (X : List Row3) (n : Int) (o : Opd) (b : Addr) : List Row3 := X.map fun x => if x.1 = n then (x.1, x.2.1 ++ [o], b) else x
theorem Tab.rep {tb b : Addr} {X : List Row3} {n : Int} {o : Opd} {x : Row3} {ep : Nat} (t : Tab σ tb X) (hx : X.find? (fun x => x.1 = n) = some x) (hb : σ b = some (.lst ((x.2.1 ++ [o]).map opD))) (nb : ∀ y ∈ X, y.2.2 ≠ b) :
    Tab (upd σ tb (.dct (dset (X.map rowD) n (.raw (.ref b))) ep)) tb (repRow X n o b) ∧ (repRow X n o b).map rowW = wadd (X.map rowW) n o := by
  have hm := List.mem_of_find?_eq_some hx
  have hn : x.1 = n := by simpa using List.find?_some hx
  obtain ⟨ep', hd⟩ := t.dict
  have ne : ∀ y ∈ X, y.2.2 ≠ tb := fun y hy e => by have := t.lists y hy; rw [e, hd] at this; cases this
  have neb : b ≠ tb := fun e => by rw [e, hd] at hb; cases hb
  have hany : X.any (fun x => decide (x.1 = n)) = true := List.any_eq_true.mpr ⟨x, hm, by simpa using hn⟩
  have uniq : ∀ y ∈ X, y.1 = n → y = x := fun y hy e => inj_of t.keys hy hm (e.trans hn.symm)
  have keys : (repRow X n o b).map (fun x => x.1) = X.map fun x => x.1 := by
    unfold repRow
    rw [List.map_map]
    refine List.map_congr_left fun y _ => ?_
    show (if y.1 = n then (y.1, y.2.1 ++ [o], b) else y).1 = _
    split <;> rfl
  refine ⟨⟨⟨ep, ?_⟩, fun y hy => ?_, ?_, by rw [keys]; exact t.keys⟩, ?_⟩
  · rw [upd_same]
    unfold dset repRow
    rw [any_rowsD, if_pos hany, List.map_map, List.map_map]
    congr 2
    refine List.map_congr_left fun y _ => ?_
    show (if (rowD y).1 = n then ((rowD y).1, D.raw (.ref b)) else rowD y) = rowD (if y.1 = n then (y.1, y.2.1 ++ [o], b) else y)
    by_cases h : y.1 = n
    · rw [if_pos h, if_pos (show (rowD y).1 = n from h)]; rfl
    · rw [if_neg h, if_neg (show ¬ (rowD y).1 = n from h)]
  · obtain ⟨z, hz, rfl⟩ := List.mem_map.mp hy
    by_cases h : z.1 = n
    · have := uniq z hz h
      subst this
      rw [if_pos h]
      show upd _ _ _ b = _
      rw [upd_ne neb]; exact hb
    · rw [if_neg h, upd_ne (ne z hz)]; exact t.lists z hz
  · unfold repRow
    rw [List.map_map]
    refine List.pairwise_map.mpr ?_
    have pk : X.Pairwise fun y z => y.1 ≠ z.1 := List.pairwise_map.mp (List.nodup_iff_pairwise_ne.mp t.keys)
    have pa : X.Pairwise fun y z => y.2.2 ≠ z.2.2 := List.pairwise_map.mp (List.nodup_iff_pairwise_ne.mp t.nodup)
    refine (pk.and pa).imp_of_mem fun {y z} hy hz h => ?_
    show (if y.1 = n then (y.1, y.2.1 ++ [o], b) else y).2.2 ≠ (if z.1 = n then (z.1, z.2.1 ++ [o], b) else z).2.2
    by_cases h1 : y.1 = n <;> by_cases h2 : z.1 = n
    · exact absurd (h1.trans h2.symm) h.1
    · rw [if_pos h1, if_neg h2]; exact (nb z hz).symm
    · rw [if_neg h1, if_pos h2]; exact nb y hy
    · rw [if_neg h1, if_neg h2]; exact h.2
  · unfold wadd
    rw [any_rows, if_pos hany]
    unfold repRow
    rw [List.map_map, List.map_map]
    refine List.map_congr_left fun y _ => ?_
    show rowW (if y.1 = n then (y.1, y.2.1 ++ [o], b) else y) = (if (rowW y).1 = n then ((rowW y).1, (rowW y).2 ++ [o]) else rowW y)
    by_cases h : y.1 = n
    · rw [if_pos h, if_pos (show (rowW y).1 = n from h)]; rfl
    · rw [if_neg h, if_neg (show ¬ (rowW y).1 = n from h)]
/-- a number anew -/
theorem Tab.new {tb b : Addr} {X : List Row3} {n : Int} {o : Opd} {ep : Nat} (t : Tab σ tb X) (hx : X.find? (fun x => x.1 = n) = none) (nb : ∀ y ∈ X, y.2.2 ≠ b) (σ' : Sg) (hb : σ' b = some (.lst ([o].map opD))) (hk : ∀ a, a ≠ b → a ≠ tb → σ' a = σ a)
    (hd : σ' tb = some (.dct (dset (X.map rowD) n (.raw (.ref b))) ep)) : Tab σ' tb (X ++ [(n, [o], b)]) ∧ (X ++ [(n, [o], b)]).map rowW = wadd (X.map rowW) n o := by
  obtain ⟨ep', hd'⟩ := t.dict
  have ne : ∀ y ∈ X, y.2.2 ≠ tb := fun y hy e => by have := t.lists y hy; rw [e, hd'] at this; cases this
  have hany : ¬ X.any (fun x => decide (x.1 = n)) = true := fun h => by
    obtain ⟨x, hm, hn⟩ := List.any_eq_true.mp h
    exact absurd hn (by simpa using List.find?_eq_none.mp hx x hm)
  have hno : ∀ y ∈ X, y.1 ≠ n := fun y hy e => hany (List.any_eq_true.mpr ⟨y, hy, by simpa using e⟩)
  refine ⟨⟨⟨ep, ?_⟩, fun y hy => ?_, ?_, ?_⟩, ?_⟩
  · rw [hd]
    unfold dset
    rw [any_rowsD, if_neg hany, List.map_append]; rfl
  · rcases List.mem_append.mp hy with h | h
    · rw [hk _ (nb y h) (ne y h)]; exact t.lists y h
    · rw [List.mem_singleton.mp h]; exact hb
  · rw [List.map_append]
    exact List.nodup_append.mpr ⟨t.nodup, by simp, fun a ha b' hb' => by
      obtain ⟨y, hy, rfl⟩ := List.mem_map.mp ha
      have : b' = b := by simpa using hb'
      rw [this]; exact nb y hy⟩
  · rw [List.map_append]
    exact List.nodup_append.mpr ⟨t.keys, by simp, fun a ha b' hb' => by
      obtain ⟨y, hy, rfl⟩ := List.mem_map.mp ha
      have : b' = n := by simpa using hb'
      rw [this]; exact hno y hy⟩
  · unfold wadd
    rw [any_rows, if_neg hany, List.map_append]; rfl
/-- two tables that say the same -/
theorem Tab.dl {X : List Row3} (h : ∀ x ∈ X, σ x.2.2 = some (.lst (x.2.1.map opD))) : Dl σ (X.map rowD) (X.map fun x => (x.1, x.2.1.map opD)) := by
  induction X with
  | nil => exact .nil
  | cons x X ih =>
    refine .cons (h x (.head _)) (fun d hd => ?_) (ih fun y hy => h y (.tail _ hy))
    obtain ⟨o, _, rfl⟩ := List.mem_map.mp hd
    exact ok_opD o
theorem lget_self {X : List Row3} (hk : (X.map fun x => x.1).Nodup) {x : Row3} (hx : x ∈ X) : lget (X.map fun x => (x.1, x.2.1.map opD)) x.1 = some (x.2.1.map opD) := by
  induction X with
  | nil => cases hx
  | cons y X ih =>
    unfold lget at ih ⊢
    rw [List.map_cons, List.find?_cons]
    obtain ⟨h1, h2⟩ := List.nodup_cons.mp hk
    rcases List.mem_cons.mp hx with rfl | hx
    · simp
    · have hne : y.1 ≠ x.1 := fun e => h1 (List.mem_map.mpr ⟨x, hx, e.symm⟩)
      simp only [hne, decide_false]
      exact ih h2 hx
end

section
set_option maxHeartbeats 1000000
variable {c : Cx} {F : Fn} {k : Nat} {ρ : Rho} {σ : Sg}
/-- copies name a temporary or a slot, and an argument -/
noncomputable def Copies (i : Ins) : Prop := match i with
  | .getVar o s | .putVal o s => s.l = .a ∧ (o.l = .t ∨ o.l = .y)
  | _ => True
noncomputable def wstep (W : List (Int × List Opd)) (i : Ins) : List (Int × List Opd) := match i with
  | .getVar o s | .putVal o s => if o.l = .t then wadd W o.n s else W
  | _ => W
noncomputable def wishW (code : List Ins) : List (Int × List Opd) := code.foldl wstep []
theorem eq_y (l : Ltr) : (l.str == ("y" : Str)) = decide (l = .y) := by cases l <;> rfl
theorem find_dget {n : Int} {X : List Row3} {x : Row3} (h : X.find? (fun x => x.1 = n) = some x) : dget (X.map rowD) n = some (.raw (.ref x.2.2)) := by rw [dget_rows, h]; rfl
theorem find_dget0 {n : Int} {X : List Row3} (h : X.find? (fun x => x.1 = n) = none) : dget (X.map rowD) n = none := by rw [dget_rows, h]; rfl
theorem wstep_len (W : List (Int × List Opd)) (i : Ins) : (wstep W i).length ≤ W.length + 1 := by
  have h : ∀ n o, (wadd W n o).length ≤ W.length + 1 := fun n o => by unfold wadd; split <;> simp
  unfold wstep
  split
  · split
    · exact h _ _
    · omega
  · split
    · exact h _ _
    · omega
  · omega
theorem wsteps_len : ∀ (l : List Ins) (W : List (Int × List Opd)), (l.foldl wstep W).length ≤ W.length + l.length
  | [], W => by simp
  | i :: l, W => by
    rw [List.foldl_cons]
    have := wsteps_len l (wstep W i)
    have := wstep_len W i
    simp only [List.length_cons]; omega
/-- what is so while a table is being made -/
structure Wi (σ₀ σ : Sg) (tb : Addr) (X : List Row3) (W : List (Int × List Opd)) : Prop where
  ext : Ext σ₀ σ
  tab : Tab σ tb X
  says : X.map rowW = W
  ntb : σ₀ tb = none
  nas : ∀ x ∈ X, σ₀ x.2.2 = none
  few : ∀ x ∈ X, x.2.1.length ≤ 1000
theorem Tab.ntab {σ' : Sg} {tb e : Addr} {X : List Row3} (t : Tab σ tb X) (he : σ e = none) : tb ≠ e ∧ ∀ x ∈ X, x.2.2 ≠ e := ⟨fun h => (by obtain ⟨_, d⟩ := t.dict; rw [h, he] at d; cases d), fun x hx h => (by have := t.lists x hx; rw [h, he] at this; cases this)⟩
theorem wadd_few {W : List (Int × List Opd)} {n : Int} {o : Opd} {b : Nat} (h : ∀ w ∈ W, w.2.length ≤ b) : ∀ w ∈ wadd W n o, w.2.length ≤ b + 1 := fun w hw => by
  unfold wadd at hw
  split at hw
  · obtain ⟨v, hv, rfl⟩ := List.mem_map.mp hw
    have := h v hv
    by_cases hn : v.1 = n
    · rw [if_pos hn]; simp; omega
    · rw [if_neg hn]; omega
  · rcases List.mem_append.mp hw with h' | h'
    · have := h w h'; omega
    · rw [List.mem_singleton.mp h']; simp
theorem rows_few {X : List Row3} {b : Nat} (h : ∀ w ∈ X.map rowW, w.2.length ≤ b) : ∀ x ∈ X, x.2.1.length ≤ b := fun x hx => h _ (List.mem_map.mpr ⟨x, hx, rfl⟩)
theorem wstep_few {W : List (Int × List Opd)} {i : Ins} {b : Nat} (h : ∀ w ∈ W, w.2.length ≤ b) : ∀ w ∈ wstep W i, w.2.length ≤ b + 1 := by
  have h0 : ∀ w ∈ W, w.2.length ≤ b + 1 := fun w hw => Nat.le_succ_of_le (h w hw)
  unfold wstep
  split
  · split
    · exact wadd_few h
    · exact h0
  · split
    · exact wadd_few h
    · exact h0
  · exact h0
theorem ok_wishes (T : Tp c) {cd : Addr} {code : List Ins} {Q : D → Sg → Prop} (ec : σ cd = some (.lst (code.map insD))) (hz : code.length ≤ 900) (hc : ∀ i ∈ code, Copies i)
    (q : ∀ (tb : Addr) (X : List Row3) (σ' : Sg), Ext σ σ' → Tab σ' tb X → X.map rowW = wishW code → Q (.raw (.ref tb)) σ') : Cd c (k + 1) σ (.ref 68) [.raw (.ref cd)] Q := by
  refine Cd.fn T.wd (is68 T) rfl ?_
  conv => arg 6; whnf
  refine Exs.cons <| Ex.assign <| Ev.dict0 fun tb htb => ?_
  refine Exs.cons <| Ex.forIn <| Ev.loc rfl ⟨_, _, itb_list (((Ext.refl σ).new htb) _ _ ec), ?_⟩
  refine LoopW.inv _ (fun j ρ σ' => ρ "table" = some (.raw (.ref tb)) ∧ ∃ X, Ext σ σ' ∧ Tab σ' tb X ∧ X.map rowW = (code.take j).foldl wstep [] ∧ (∀ x ∈ X, σ x.2.2 = none) ∧ ∀ w ∈ X.map rowW, w.2.length ≤ j) ?_ ?_ ⟨rfl, [], (Ext.refl σ).new htb, ⟨⟨0, upd_same⟩, fun x h => (by cases h), List.nodup_nil, List.nodup_nil⟩, rfl, fun x h => (by cases h), fun x h => (by cases h)⟩
  · rintro p hp ρ σ1 ⟨h1, X, E, t, hX, hn, hf⟩
    rw [List.length_map] at hp
    rw [List.getElem_map]
    have hsn : code.take (p + 1) = code.take p ++ [code[p]] := by rw [List.take_add_one, List.getElem?_eq_getElem hp]; rfl
    have hstep : (code.take (p + 1)).foldl wstep [] = wstep ((code.take p).foldl wstep []) code[p] := by rw [hsn, List.foldl_append]; rfl
    have hlenX : X.length ≤ 1000 := by
      have e : (X.map rowW).length = X.length := List.length_map _
      have := wsteps_len (code.take p) []
      rw [hX] at e
      rw [List.length_take] at this
      simp at this
      omega
    have hcp := hc code[p] (List.getElem_mem hp)
    generalize code[p] = ins at hstep hcp
    rw [hstep, ← hX]
    refine As.name ?_
    refine Exs.cons <| Ex.assign <| Ev.sub <| Ev.loc rfl <| Ev.cint <| sub_name ?_
    have ncd : ∀ a, σ a = none → a ≠ cd := fun a h e => by rw [e, ec] at h; cases h
    -- what is so behind a turn
    have fin : ∀ (o : Out) ρ' σ' X', (o = .next ∨ o = .cont) → ρ' "table" = some (.raw (.ref tb)) → Ext σ σ' → Tab σ' tb X' → X'.map rowW = wstep (X.map rowW) ins → (∀ x ∈ X', σ x.2.2 = none) →
        LoopB (fun σ' => σ' cd = some (.lst (code.map insD))) (fun _ _ _ => True) (fun ρ σ' => ρ "table" = some (.raw (.ref tb)) ∧ ∃ X', Ext σ σ' ∧ Tab σ' tb X' ∧ X'.map rowW = wstep (X.map rowW) ins ∧ (∀ x ∈ X', σ x.2.2 = none) ∧ ∀ w ∈ X'.map rowW, w.2.length ≤ p + 1) o ρ' σ' :=
      fun o ρ' σ' X' ho a1 a2 a3 a4 a5 => by
        have : σ' cd = some (.lst (code.map insD)) := a2 _ _ ec
        have h6 : ∀ w ∈ X'.map rowW, w.2.length ≤ p + 1 := by rw [a4]; exact wstep_few hf
        rcases ho with rfl | rfl
        · exact ⟨this, a1, X', a2, a3, a4, a5, h6⟩
        · exact ⟨this, a1, X', a2, a3, a4, a5, h6⟩
    cases ins with
    | getVar o s =>
      have hs : s.l = .a := hcp.1
      refine Exs.cons <| Ex.ite <| Tr.cmp <| Ev.loc rfl <| Ev.cstr <| eqs_ok ⟨_, rfl, iteT rfl ?_⟩
      refine Exs.cons <| Ex.pair <| Ev.tup <| Evs.cons <| Ev.sub <| Ev.loc rfl <| Ev.cint <| sub_tup rfl rfl <| Evs.cons <| Ev.sub <| Ev.loc rfl <| Ev.cint <| sub_tup rfl rfl <| Evs.nil ⟨few rfl, _, _, rfl, Exs.nil ?_⟩
      refine Exs.cons <| Ex.ite <| Tr.or <| TrOr.cons <| Tr.cmp <| Ev.sub <| Ev.loc rfl <| Ev.cint <| sub_tup rfl rfl <| Ev.cstr <| eqs_ok ⟨_, rfl, ?_⟩
      rw [eq_y, hs]
      refine iteF' rfl <| TrOr.cons <| Tr.cmp <| Ev.sub <| Ev.loc rfl <| Ev.cint <| sub_tup rfl rfl <| Ev.cstr <| eqs_ok ⟨_, rfl, ?_⟩
      rw [eq_y]
      rcases hcp.2 with ht | hy
      · rw [ht]
        refine iteF' rfl <| TrOr.nil <| iteF Bool.false_ne_true <| Exs.nil ?_
        refine Exs.cons (Ex.mono (Q := fun o' ρ' σ' => o' = .next ∧ ρ' "source" = some (opD s) ∧ LoopB (fun σ' => σ' cd = some (.lst (code.map insD))) (fun _ _ _ => True) (fun ρ σ' => ρ "table" = some (.raw (.ref tb)) ∧ ∃ X', Ext σ σ' ∧ Tab σ' tb X' ∧ X'.map rowW = wstep (X.map rowW) (.getVar o s) ∧ (∀ x ∈ X', σ x.2.2 = none) ∧ ∀ w ∈ X'.map rowW, w.2.length ≤ p + 1) .next ρ' σ') ?_ ?_)
        · refine Ex.ite <| Tr.cmp <| Ev.sub <| Ev.loc rfl <| Ev.cint <| sub_tup rfl rfl <| Ev.cstr <| eqs_ok ⟨_, rfl, ?_⟩
          rw [eq_t, ht]
          refine iteT rfl ?_
          have hw : wstep (X.map rowW) (.getVar o s) = wadd (X.map rowW) o.n s := if_pos ht
          rw [hw] at fin
          obtain ⟨ep, hd⟩ := t.dict
          cases hfd : X.find? (fun x => decide (x.1 = o.n)) with
          | some x =>
            have hm := List.mem_of_find?_eq_some hfd
            refine Exs.cons <| Ex.expr <| Ev.append <| Ev.meth PySem.F.plainAttrs_dict PySem.F.slot_dict_setdefault PySem.F.type_dict_setdefault <| Ev.loc h1 ⟨tb, _, rfl, hd, ok_dct, Evs.cons <| Ev.sub <| Ev.loc rfl <| Ev.cint <| sub_tup rfl rfl <| Evs.cons <| Ev.list <| Evs.nil ⟨few rfl, fun e he => Evs.nil <| cl_setdefault T.wd (upd_new he hd) (by rw [List.length_map]; exact Nat.le_trans hlenX (few rfl)) (fun y hy => ?_) (fun hy => ?_)⟩⟩
            · rw [find_dget hfd] at hy
              injection hy with hy
              subst hy
              have t' := t.grow ((Ext.refl σ1).new (O := .lst []) he)
              have hl := t'.lists x hm
              refine ⟨x.2.2, _, rfl, hl, Ev.loc rfl ⟨_, hl, ?_, rfl, ?_⟩⟩
              · have := hf (rowW x) (List.mem_map.mpr ⟨x, hm, rfl⟩)
                rw [List.length_map, sizeLine_eq]
                have : x.2.1.length ≤ p := this
                omega
              · obtain ⟨A1, A2⟩ := t'.app (o := s) hfd
                rw [show x.2.1.map opD ++ [opD s] = (x.2.1 ++ [s]).map opD by simp]
                refine Exs.nil ⟨rfl, rfl, ?_⟩
                rw [hw]
                refine fin .next _ _ _ (.inl rfl) h1 ((E.new he).set (hn x hm)) A1 A2 fun y hy => ?_
                obtain ⟨z, hz, rfl⟩ := List.mem_map.mp hy
                by_cases hzn : z.1 = o.n
                · rw [if_pos hzn]; exact hn z hz
                · rw [if_neg hzn]; exact hn z hz
            · rw [find_dget hfd] at hy; cases hy
          | none =>
            refine Exs.cons <| Ex.expr <| Ev.append <| Ev.meth PySem.F.plainAttrs_dict PySem.F.slot_dict_setdefault PySem.F.type_dict_setdefault <| Ev.loc h1 ⟨tb, _, rfl, hd, ok_dct, Evs.cons <| Ev.sub <| Ev.loc rfl <| Ev.cint <| sub_tup rfl rfl <| Evs.cons <| Ev.list <| Evs.nil ⟨few rfl, fun e he => Evs.nil <| cl_setdefault T.wd (upd_new he hd) (by rw [List.length_map]; exact Nat.le_trans hlenX (few rfl)) (fun y hy => ?_) (fun hy ep' => ?_)⟩⟩
            · rw [find_dget0 hfd] at hy; cases hy
            · obtain ⟨nt, nx⟩ := t.ntab (σ' := σ1) he
              have e1 : upd (upd σ1 e (.lst [])) tb (.dct (dset (X.map rowD) o.n (.raw (.ref e))) ep') e = some (.lst []) := by rw [upd_ne nt.symm]; exact upd_same
              refine ⟨e, _, rfl, e1, Ev.loc rfl ⟨_, e1, few rfl, rfl, ?_⟩⟩
              obtain ⟨A1, A2⟩ := t.new (o := s) (ep := ep') hfd nx (upd (upd (upd σ1 e (.lst [])) tb (.dct (dset (X.map rowD) o.n (.raw (.ref e))) ep')) e (.lst ([] ++ [opD s]))) upd_same (fun a h1 h2 => by rw [upd_ne h1, upd_ne h2, upd_ne h1]) (by rw [upd_ne nt]; exact upd_same)
              refine Exs.nil ⟨rfl, rfl, ?_⟩
              rw [hw]
              refine fin .next _ _ _ (.inl rfl) h1 (((E.new he).set htb).set (none_of E he)) A1 A2 fun y hy => ?_
              rcases List.mem_append.mp hy with h | h
              · exact hn y h
              · rw [List.mem_singleton.mp h]; exact none_of E he
        · rintro o' ρ2 σ2 ⟨rfl, g1, g2⟩
          refine Exs.cons <| Ex.ite <| Tr.cmp <| Ev.sub <| Ev.loc g1 <| Ev.cint <| sub_tup rfl rfl <| Ev.cstr <| eqs_ok ⟨_, rfl, ?_⟩
          rw [eq_t, hs]
          exact iteF' rfl <| Exs.nil <| Exs.nil g2
      · have hw : wstep (X.map rowW) (.getVar o s) = X.map rowW := if_neg (by rw [hy]; decide)
        rw [hw] at fin ⊢
        rw [hy]
        exact iteT rfl <| iteT rfl <| Exs.cons <| Ex.cont <| fin .cont _ _ X (.inr rfl) h1 E t rfl hn
    | putVal o s =>
      have hs : s.l = .a := hcp.1
      refine Exs.cons <| Ex.ite <| Tr.cmp <| Ev.loc rfl <| Ev.cstr <| eqs_ok ⟨_, rfl, iteF' rfl ?_⟩
      refine Exs.cons <| Ex.ite <| Tr.cmp <| Ev.loc rfl <| Ev.cstr <| eqs_ok ⟨_, rfl, iteT rfl ?_⟩
      refine Exs.cons <| Ex.pair <| Ev.tup <| Evs.cons <| Ev.sub <| Ev.loc rfl <| Ev.cint <| sub_tup rfl rfl <| Evs.cons <| Ev.sub <| Ev.loc rfl <| Ev.cint <| sub_tup rfl rfl <| Evs.nil ⟨few rfl, _, _, rfl, Exs.nil <| Exs.nil ?_⟩
      refine Exs.cons <| Ex.ite <| Tr.or <| TrOr.cons <| Tr.cmp <| Ev.sub <| Ev.loc rfl <| Ev.cint <| sub_tup rfl rfl <| Ev.cstr <| eqs_ok ⟨_, rfl, ?_⟩
      rw [eq_y]
      rcases hcp.2 with ht | hy
      · rw [ht]
        refine iteF' rfl <| TrOr.cons <| Tr.cmp <| Ev.sub <| Ev.loc rfl <| Ev.cint <| sub_tup rfl rfl <| Ev.cstr <| eqs_ok ⟨_, rfl, ?_⟩
        rw [eq_y, hs]
        refine iteF' rfl <| TrOr.nil <| iteF Bool.false_ne_true <| Exs.nil ?_
        refine Exs.cons <| Ex.ite <| Tr.cmp <| Ev.sub <| Ev.loc rfl <| Ev.cint <| sub_tup rfl rfl <| Ev.cstr <| eqs_ok ⟨_, rfl, ?_⟩
        rw [eq_t, hs]
        refine iteF' rfl <| Exs.nil ?_
        refine Exs.cons (Ex.mono (Q := fun o' ρ' σ' => o' = .next ∧ LoopB (fun σ' => σ' cd = some (.lst (code.map insD))) (fun _ _ _ => True) (fun ρ σ' => ρ "table" = some (.raw (.ref tb)) ∧ ∃ X', Ext σ σ' ∧ Tab σ' tb X' ∧ X'.map rowW = wstep (X.map rowW) (.putVal o s) ∧ (∀ x ∈ X', σ x.2.2 = none) ∧ ∀ w ∈ X'.map rowW, w.2.length ≤ p + 1) .next ρ' σ') ?_ ?_)
        · refine Ex.ite <| Tr.cmp <| Ev.sub <| Ev.loc rfl <| Ev.cint <| sub_tup rfl rfl <| Ev.cstr <| eqs_ok ⟨_, rfl, ?_⟩
          rw [eq_t, ht]
          refine iteT rfl ?_
          have hw : wstep (X.map rowW) (.putVal o s) = wadd (X.map rowW) o.n s := if_pos ht
          rw [hw] at fin
          obtain ⟨ep, hd⟩ := t.dict
          cases hfd : X.find? (fun x => decide (x.1 = o.n)) with
          | some x =>
            have hm := List.mem_of_find?_eq_some hfd
            refine Exs.cons <| Ex.expr <| Ev.append <| Ev.meth PySem.F.plainAttrs_dict PySem.F.slot_dict_setdefault PySem.F.type_dict_setdefault <| Ev.loc h1 ⟨tb, _, rfl, hd, ok_dct, Evs.cons <| Ev.sub <| Ev.loc rfl <| Ev.cint <| sub_tup rfl rfl <| Evs.cons <| Ev.list <| Evs.nil ⟨few rfl, fun e he => Evs.nil <| cl_setdefault T.wd (upd_new he hd) (by rw [List.length_map]; exact Nat.le_trans hlenX (few rfl)) (fun y hy => ?_) (fun hy => ?_)⟩⟩
            · rw [find_dget hfd] at hy
              injection hy with hy
              subst hy
              have t' := t.grow ((Ext.refl σ1).new (O := .lst []) he)
              have hl := t'.lists x hm
              refine ⟨x.2.2, _, rfl, hl, Ev.loc rfl ⟨_, hl, ?_, rfl, ?_⟩⟩
              · have := hf (rowW x) (List.mem_map.mpr ⟨x, hm, rfl⟩)
                rw [List.length_map, sizeLine_eq]
                have : x.2.1.length ≤ p := this
                omega
              · obtain ⟨A1, A2⟩ := t'.app (o := s) hfd
                rw [show x.2.1.map opD ++ [opD s] = (x.2.1 ++ [s]).map opD by simp]
                refine Exs.nil ⟨rfl, ?_⟩
                rw [hw]
                refine fin .next _ _ _ (.inl rfl) h1 ((E.new he).set (hn x hm)) A1 A2 fun y hy => ?_
                obtain ⟨z, hz, rfl⟩ := List.mem_map.mp hy
                by_cases hzn : z.1 = o.n
                · rw [if_pos hzn]; exact hn z hz
                · rw [if_neg hzn]; exact hn z hz
            · rw [find_dget hfd] at hy; cases hy
          | none =>
            refine Exs.cons <| Ex.expr <| Ev.append <| Ev.meth PySem.F.plainAttrs_dict PySem.F.slot_dict_setdefault PySem.F.type_dict_setdefault <| Ev.loc h1 ⟨tb, _, rfl, hd, ok_dct, Evs.cons <| Ev.sub <| Ev.loc rfl <| Ev.cint <| sub_tup rfl rfl <| Evs.cons <| Ev.list <| Evs.nil ⟨few rfl, fun e he => Evs.nil <| cl_setdefault T.wd (upd_new he hd) (by rw [List.length_map]; exact Nat.le_trans hlenX (few rfl)) (fun y hy => ?_) (fun hy ep' => ?_)⟩⟩
            · rw [find_dget0 hfd] at hy; cases hy
            · obtain ⟨nt, nx⟩ := t.ntab (σ' := σ1) he
              have e1 : upd (upd σ1 e (.lst [])) tb (.dct (dset (X.map rowD) o.n (.raw (.ref e))) ep') e = some (.lst []) := by rw [upd_ne nt.symm]; exact upd_same
              refine ⟨e, _, rfl, e1, Ev.loc rfl ⟨_, e1, few rfl, rfl, ?_⟩⟩
              obtain ⟨A1, A2⟩ := t.new (o := s) (ep := ep') hfd nx (upd (upd (upd σ1 e (.lst [])) tb (.dct (dset (X.map rowD) o.n (.raw (.ref e))) ep')) e (.lst ([] ++ [opD s]))) upd_same (fun a h1 h2 => by rw [upd_ne h1, upd_ne h2, upd_ne h1]) (by rw [upd_ne nt]; exact upd_same)
              refine Exs.nil ⟨rfl, ?_⟩
              rw [hw]
              refine fin .next _ _ _ (.inl rfl) h1 (((E.new he).set htb).set (none_of E he)) A1 A2 fun y hy => ?_
              rcases List.mem_append.mp hy with h | h
              · exact hn y h
              · rw [List.mem_singleton.mp h]; exact none_of E he
        · rintro o' ρ2 σ2 ⟨rfl, g2⟩
          exact Exs.nil g2
      · have hw : wstep (X.map rowW) (.putVal o s) = X.map rowW := if_neg (by rw [hy]; decide)
        rw [hw] at fin ⊢
        rw [hy]
        exact iteT rfl <| iteT rfl <| Exs.cons <| Ex.cont <| fin .cont _ _ X (.inr rfl) h1 E t rfl hn
    | _ =>
      refine Exs.cons <| Ex.ite <| Tr.cmp <| Ev.loc rfl <| Ev.cstr <| eqs_ok ⟨_, rfl, iteF' rfl ?_⟩
      refine Exs.cons <| Ex.ite <| Tr.cmp <| Ev.loc rfl <| Ev.cstr <| eqs_ok ⟨_, rfl, iteF' rfl ?_⟩
      exact Exs.cons <| Ex.cont <| fin .cont _ _ X (.inr rfl) h1 E t rfl hn
  · rintro ρ σ1 ⟨h1, X, E, t, hX, _, _⟩
    rw [List.length_map, List.take_length] at hX
    exact Exs.cons <| Ex.ret <| Ev.loc h1 <| q tb X _ E t hX
end

section
set_option maxHeartbeats 1000000
variable {c : Cx} {F : Fn} {k : Nat} {ρ : Rho} {σ : Sg}
theorem ok_wishesRight (T : Tp c) {cd : Addr} {code : List Ins} {Q : D → Sg → Prop} (ec : σ cd = some (.lst (code.map insD))) (hz : code.length ≤ 900) (hc : ∀ i ∈ code, Copies i)
    (q : ∀ σ', Ext σ σ' → Q (.bool true) σ') : Cd c (k + 2) σ (.ref 132) [.raw (.ref cd)] Q := by
  refine Cd.fn T.wd (is132 T) rfl ?_
  conv => arg 6; whnf
  refine Exs.cons <| Ex.assign <| Ev.fcall <| Ev.glob (gl68 T) (fun _ => .raw _) ⟨_, rfl, kp68 T, Evs.cons <| Ev.loc rfl <| Evs.nil <| Cl.of_code <| ok_wishes T ec hz hc fun tt Y σ0 E0 tY hY => ?_⟩
  refine Exs.cons <| Ex.assign <| Ev.dict0 fun tb htb => ?_
  have htt : tt ≠ tb := (tY.ntab (σ' := σ0) htb).1
  have hYb := (tY.ntab (σ' := σ0) htb).2
  refine Exs.cons <| Ex.forIn <| Ev.loc rfl ⟨_, _, itb_list (((Ext.refl σ0).new htb) _ _ (E0 _ _ ec)), ?_⟩
  refine LoopW.inv _ (fun j ρ σ' => ρ "told" = some (.raw (.ref tt)) ∧ ρ "due" = some (.raw (.ref tb)) ∧ ∃ X, Ext σ0 σ' ∧ Tab σ' tb X ∧ X.map rowW = (code.take j).foldl wstep [] ∧ ∀ w ∈ X.map rowW, w.2.length ≤ j) ?_ ?_ ⟨rfl, rfl, [], (Ext.refl σ0).new htb, ⟨⟨0, upd_same⟩, fun x h => (by cases h), List.nodup_nil, List.nodup_nil⟩, rfl, fun x h => (by cases h)⟩
  · rintro p hp ρ σ1 ⟨h0, h1, X, E, t, hX, hf⟩
    rw [List.length_map] at hp
    rw [List.getElem_map]
    have hsn : code.take (p + 1) = code.take p ++ [code[p]] := by rw [List.take_add_one, List.getElem?_eq_getElem hp]; rfl
    have hstep : (code.take (p + 1)).foldl wstep [] = wstep ((code.take p).foldl wstep []) code[p] := by rw [hsn, List.foldl_append]; rfl
    have hlenX : X.length ≤ 1000 := by
      have e : (X.map rowW).length = X.length := List.length_map _
      have := wsteps_len (code.take p) []
      rw [hX] at e
      rw [List.length_take] at this
      simp at this
      omega
    generalize code[p] = ins at hstep
    rw [hstep, ← hX]
    refine As.name ?_
    have fin : ∀ ρ' σ' X', ρ' "told" = some (.raw (.ref tt)) → ρ' "due" = some (.raw (.ref tb)) → Ext σ0 σ' → Tab σ' tb X' → X'.map rowW = wstep (X.map rowW) ins →
        LoopB (fun σ' => σ' cd = some (.lst (code.map insD))) (fun _ _ _ => True) (fun ρ σ' => ρ "told" = some (.raw (.ref tt)) ∧ ρ "due" = some (.raw (.ref tb)) ∧ ∃ X', Ext σ0 σ' ∧ Tab σ' tb X' ∧ X'.map rowW = wstep (X.map rowW) ins ∧ ∀ w ∈ X'.map rowW, w.2.length ≤ p + 1) .next ρ' σ' :=
      fun ρ' σ' X' a0 a1 a2 a3 a4 => ⟨a2 _ _ (E0 _ _ ec), a0, a1, X', a2, a3, a4, by rw [a4]; exact wstep_few hf⟩
    refine Exs.cons <| Ex.ite <| Tr.and <| TrAnd.cons <| Tr.cmp <| Ev.sub <| Ev.loc rfl <| Ev.cint <| sub_name <| Ev.list <| Evs.cons <| Ev.cstr <| Evs.cons <| Ev.cstr <| Evs.nil ⟨few rfl, fun ll hll => in_lst upd_same ok_pairs (ok_name8 ins) ⟨_, rfl, ?_⟩⟩
    rw [mem_pair]
    have El := (Ext.refl σ1).new (O := .lst [.str "get_variable", .str "put_value"]) hll
    have t1 := t.grow El
    have E1 := E.trans El
    generalize upd σ1 ll (.lst [.str "get_variable", .str "put_value"]) = σ2 at El t1 E1
    obtain ⟨ep, hd⟩ := t1.dict
    cases ins with
    | getVar o s =>
      refine iteT rfl <| TrAnd.cons <| Tr.cmp <| Ev.sub <| Ev.sub <| Ev.loc rfl <| Ev.cint <| sub_tup rfl rfl <| Ev.cint <| sub_tup rfl rfl <| Ev.cstr <| eqs_ok ⟨_, rfl, ?_⟩
      rw [eq_t]
      by_cases ht : o.l = .t
      · rw [decide_eq_true ht]
        have hw : wstep (X.map rowW) (.getVar o s) = wadd (X.map rowW) o.n s := if_pos ht
        rw [hw] at fin ⊢
        refine iteT rfl <| TrAnd.nil <| iteT rfl ?_
        cases hfd : X.find? (fun x => decide (x.1 = o.n)) with
        | some x =>
          have hm := List.mem_of_find?_eq_some hfd
          refine Exs.cons <| Ex.setSub <| Ev.binop <| Ev.meth PySem.F.plainAttrs_dict PySem.F.slot_dict_get PySem.F.type_dict_get <| Ev.loc h1 ⟨tb, _, rfl, hd, ok_dct, Evs.cons <| Ev.sub <| Ev.sub <| Ev.loc rfl <| Ev.cint <| sub_tup rfl rfl <| Ev.cint <| sub_tup rfl rfl <| Evs.cons <| Ev.list <| Evs.nil ⟨few rfl, fun e he => Evs.nil <| cl_get2 T.wd (upd_new he hd) ?_⟩⟩
          rw [find_dget hfd]
          have t2 := t1.grow ((Ext.refl σ2).new (O := .lst []) he)
          refine Ev.list <| Evs.cons <| Ev.sub <| Ev.loc rfl <| Ev.cint <| sub_tup rfl rfl <| Evs.nil ⟨few rfl, fun b hb => ?_⟩
          have t3 := t2.grow ((Ext.refl _).new (O := .lst [opD s]) hb)
          refine add_lst (t3.lists x hm) upd_same ?_ fun n hn => ?_
          · have := hf (rowW x) (List.mem_map.mpr ⟨x, hm, rfl⟩)
            have : x.2.1.length ≤ p := this
            rw [List.length_map, List.length_singleton, sizeLine_eq]
            omega
          · rw [show x.2.1.map opD ++ [opD s] = (x.2.1 ++ [s]).map opD by simp]
            have t4 := t3.grow ((Ext.refl _).new (O := .lst ((x.2.1 ++ [s]).map opD)) hn)
            have nx := (t3.ntab (σ' := σ2) hn).2
            have E4 := ((E1.new (O := .lst []) he).new (O := .lst [opD s]) hb).new (O := .lst ((x.2.1 ++ [s]).map opD)) hn
            have hb4 := upd_same (σ := upd (upd σ2 e (.lst [])) b (.lst [opD s])) (a := n) (O := .lst ((x.2.1 ++ [s]).map opD))
            generalize upd (upd (upd σ2 e (.lst [])) b (.lst [opD s])) n (.lst ((x.2.1 ++ [s]).map opD)) = σ4 at t4 E4 hb4
            obtain ⟨ep4, hd4⟩ := t4.dict
            refine Ev.loc h1 <| Ev.sub <| Ev.sub <| Ev.loc rfl <| Ev.cint <| sub_tup rfl rfl <| Ev.cint <| sub_tup rfl rfl <| set_dct hd4 (by rw [List.length_map]; exact Nat.le_trans hlenX (few rfl)) fun ep' => ?_
            obtain ⟨A1, A2⟩ := t4.rep (o := s) (ep := ep') hfd hb4 nx
            exact Exs.nil <| Exs.nil <| fin _ _ _ h0 h1 (E4.set htb) A1 A2
        | none =>
          refine Exs.cons <| Ex.setSub <| Ev.binop <| Ev.meth PySem.F.plainAttrs_dict PySem.F.slot_dict_get PySem.F.type_dict_get <| Ev.loc h1 ⟨tb, _, rfl, hd, ok_dct, Evs.cons <| Ev.sub <| Ev.sub <| Ev.loc rfl <| Ev.cint <| sub_tup rfl rfl <| Ev.cint <| sub_tup rfl rfl <| Evs.cons <| Ev.list <| Evs.nil ⟨few rfl, fun e he => Evs.nil <| cl_get2 T.wd (upd_new he hd) ?_⟩⟩
          rw [find_dget0 hfd]
          have t2 := t1.grow ((Ext.refl σ2).new (O := .lst []) he)
          refine Ev.list <| Evs.cons <| Ev.sub <| Ev.loc rfl <| Ev.cint <| sub_tup rfl rfl <| Evs.nil ⟨few rfl, fun b hb => ?_⟩
          have t3 := t2.grow ((Ext.refl _).new (O := .lst [opD s]) hb)
          refine add_lst (upd_new hb upd_same) upd_same (few rfl) fun n hn => ?_
          rw [show ([] : List D) ++ [opD s] = [s].map opD by simp]
          have t4 := t3.grow ((Ext.refl _).new (O := .lst ([s].map opD)) hn)
          have nx := t3.ntab (σ' := σ2) hn
          have E4 := ((E1.new (O := .lst []) he).new (O := .lst [opD s]) hb).new (O := .lst ([s].map opD)) hn
          have hb4 := upd_same (σ := upd (upd σ2 e (.lst [])) b (.lst [opD s])) (a := n) (O := .lst ([s].map opD))
          generalize upd (upd (upd σ2 e (.lst [])) b (.lst [opD s])) n (.lst ([s].map opD)) = σ4 at t4 E4 hb4
          obtain ⟨ep4, hd4⟩ := t4.dict
          refine Ev.loc h1 <| Ev.sub <| Ev.sub <| Ev.loc rfl <| Ev.cint <| sub_tup rfl rfl <| Ev.cint <| sub_tup rfl rfl <| set_dct hd4 (by rw [List.length_map]; exact Nat.le_trans hlenX (few rfl)) fun ep' => ?_
          obtain ⟨A1, A2⟩ := t4.new (o := s) (ep := ep') hfd nx.2 (upd σ4 tb (.dct (dset (X.map rowD) o.n (.raw (.ref n))) ep')) (by rw [upd_ne nx.1.symm]; exact hb4) (fun a _ h2 => upd_ne h2) upd_same
          exact Exs.nil <| Exs.nil <| fin _ _ _ h0 h1 (E4.set htb) A1 A2
      · rw [decide_eq_false ht]
        have hw : wstep (X.map rowW) (.getVar o s) = X.map rowW := if_neg ht
        rw [hw] at fin ⊢
        exact iteF Bool.false_ne_true <| iteF Bool.false_ne_true <| Exs.nil <| Exs.nil <| fin _ _ X h0 h1 E1 t1 rfl
    | putVal o s =>
      refine iteT rfl <| TrAnd.cons <| Tr.cmp <| Ev.sub <| Ev.sub <| Ev.loc rfl <| Ev.cint <| sub_tup rfl rfl <| Ev.cint <| sub_tup rfl rfl <| Ev.cstr <| eqs_ok ⟨_, rfl, ?_⟩
      rw [eq_t]
      by_cases ht : o.l = .t
      · rw [decide_eq_true ht]
        have hw : wstep (X.map rowW) (.putVal o s) = wadd (X.map rowW) o.n s := if_pos ht
        rw [hw] at fin ⊢
        refine iteT rfl <| TrAnd.nil <| iteT rfl ?_
        cases hfd : X.find? (fun x => decide (x.1 = o.n)) with
        | some x =>
          have hm := List.mem_of_find?_eq_some hfd
          refine Exs.cons <| Ex.setSub <| Ev.binop <| Ev.meth PySem.F.plainAttrs_dict PySem.F.slot_dict_get PySem.F.type_dict_get <| Ev.loc h1 ⟨tb, _, rfl, hd, ok_dct, Evs.cons <| Ev.sub <| Ev.sub <| Ev.loc rfl <| Ev.cint <| sub_tup rfl rfl <| Ev.cint <| sub_tup rfl rfl <| Evs.cons <| Ev.list <| Evs.nil ⟨few rfl, fun e he => Evs.nil <| cl_get2 T.wd (upd_new he hd) ?_⟩⟩
          rw [find_dget hfd]
          have t2 := t1.grow ((Ext.refl σ2).new (O := .lst []) he)
          refine Ev.list <| Evs.cons <| Ev.sub <| Ev.loc rfl <| Ev.cint <| sub_tup rfl rfl <| Evs.nil ⟨few rfl, fun b hb => ?_⟩
          have t3 := t2.grow ((Ext.refl _).new (O := .lst [opD s]) hb)
          refine add_lst (t3.lists x hm) upd_same ?_ fun n hn => ?_
          · have := hf (rowW x) (List.mem_map.mpr ⟨x, hm, rfl⟩)
            have : x.2.1.length ≤ p := this
            rw [List.length_map, List.length_singleton, sizeLine_eq]
            omega
          · rw [show x.2.1.map opD ++ [opD s] = (x.2.1 ++ [s]).map opD by simp]
            have t4 := t3.grow ((Ext.refl _).new (O := .lst ((x.2.1 ++ [s]).map opD)) hn)
            have nx := (t3.ntab (σ' := σ2) hn).2
            have E4 := ((E1.new (O := .lst []) he).new (O := .lst [opD s]) hb).new (O := .lst ((x.2.1 ++ [s]).map opD)) hn
            have hb4 := upd_same (σ := upd (upd σ2 e (.lst [])) b (.lst [opD s])) (a := n) (O := .lst ((x.2.1 ++ [s]).map opD))
            generalize upd (upd (upd σ2 e (.lst [])) b (.lst [opD s])) n (.lst ((x.2.1 ++ [s]).map opD)) = σ4 at t4 E4 hb4
            obtain ⟨ep4, hd4⟩ := t4.dict
            refine Ev.loc h1 <| Ev.sub <| Ev.sub <| Ev.loc rfl <| Ev.cint <| sub_tup rfl rfl <| Ev.cint <| sub_tup rfl rfl <| set_dct hd4 (by rw [List.length_map]; exact Nat.le_trans hlenX (few rfl)) fun ep' => ?_
            obtain ⟨A1, A2⟩ := t4.rep (o := s) (ep := ep') hfd hb4 nx
            exact Exs.nil <| Exs.nil <| fin _ _ _ h0 h1 (E4.set htb) A1 A2
        | none =>
          refine Exs.cons <| Ex.setSub <| Ev.binop <| Ev.meth PySem.F.plainAttrs_dict PySem.F.slot_dict_get PySem.F.type_dict_get <| Ev.loc h1 ⟨tb, _, rfl, hd, ok_dct, Evs.cons <| Ev.sub <| Ev.sub <| Ev.loc rfl <| Ev.cint <| sub_tup rfl rfl <| Ev.cint <| sub_tup rfl rfl <| Evs.cons <| Ev.list <| Evs.nil ⟨few rfl, fun e he => Evs.nil <| cl_get2 T.wd (upd_new he hd) ?_⟩⟩
          rw [find_dget0 hfd]
          have t2 := t1.grow ((Ext.refl σ2).new (O := .lst []) he)
          refine Ev.list <| Evs.cons <| Ev.sub <| Ev.loc rfl <| Ev.cint <| sub_tup rfl rfl <| Evs.nil ⟨few rfl, fun b hb => ?_⟩
          have t3 := t2.grow ((Ext.refl _).new (O := .lst [opD s]) hb)
          refine add_lst (upd_new hb upd_same) upd_same (few rfl) fun n hn => ?_
          rw [show ([] : List D) ++ [opD s] = [s].map opD by simp]
          have t4 := t3.grow ((Ext.refl _).new (O := .lst ([s].map opD)) hn)
          have nx := t3.ntab (σ' := σ2) hn
          have E4 := ((E1.new (O := .lst []) he).new (O := .lst [opD s]) hb).new (O := .lst ([s].map opD)) hn
          have hb4 := upd_same (σ := upd (upd σ2 e (.lst [])) b (.lst [opD s])) (a := n) (O := .lst ([s].map opD))
          generalize upd (upd (upd σ2 e (.lst [])) b (.lst [opD s])) n (.lst ([s].map opD)) = σ4 at t4 E4 hb4
          obtain ⟨ep4, hd4⟩ := t4.dict
          refine Ev.loc h1 <| Ev.sub <| Ev.sub <| Ev.loc rfl <| Ev.cint <| sub_tup rfl rfl <| Ev.cint <| sub_tup rfl rfl <| set_dct hd4 (by rw [List.length_map]; exact Nat.le_trans hlenX (few rfl)) fun ep' => ?_
          obtain ⟨A1, A2⟩ := t4.new (o := s) (ep := ep') hfd nx.2 (upd σ4 tb (.dct (dset (X.map rowD) o.n (.raw (.ref n))) ep')) (by rw [upd_ne nx.1.symm]; exact hb4) (fun a _ h2 => upd_ne h2) upd_same
          exact Exs.nil <| Exs.nil <| fin _ _ _ h0 h1 (E4.set htb) A1 A2
      · rw [decide_eq_false ht]
        have hw : wstep (X.map rowW) (.putVal o s) = X.map rowW := if_neg ht
        rw [hw] at fin ⊢
        exact iteF Bool.false_ne_true <| iteF Bool.false_ne_true <| Exs.nil <| Exs.nil <| fin _ _ X h0 h1 E1 t1 rfl
    | _ => exact iteF Bool.false_ne_true <| iteF Bool.false_ne_true <| Exs.nil <| Exs.nil <| fin _ _ X h0 h1 E1 t1 rfl
  · rintro ρ σ1 ⟨h0, h1, X, E, t, hX, _⟩
    rw [List.length_map, List.take_length] at hX
    have hWW : X.map rowW = Y.map rowW := hX.trans hY.symm
    obtain ⟨ep, hd⟩ := t.dict
    obtain ⟨ep', hd'⟩ := tY.dict
    have e2 : (X.map fun x => (x.1, x.2.1.map opD)) = Y.map fun x => (x.1, x.2.1.map opD) := by
      have := congrArg (List.map fun w : Int × List Opd => (w.1, w.2.map opD)) hWW
      rw [List.map_map, List.map_map] at this
      exact this
    refine Exs.cons <| Ex.ret <| Ev.cmp <| Ev.loc h0 <| Ev.loc h1 <| eqd_ok T.wd (E _ _ hd') hd (Tab.dl fun x hx => E _ _ (tY.lists x hx)) (Tab.dl t.lists) ?_ ?_ (q _ (E0.trans E))
    · rw [e2]
    · intro w hw
      rw [← e2] at hw
      obtain ⟨x, hx, rfl⟩ := List.mem_map.mp hw
      exact lget_self t.keys hx
end

section
namespace Pl
/-! events: a temporary named, an argument read, an argument written, a call -/
inductive Evt where
  | T (n : Int)
  | R (n : Int)
  | W (n : Int)
  | C
  deriving DecidableEq
noncomputable abbrev Key := Str × Int × Int
noncomputable abbrev ky (k : Str) (a b : Int) : Key := (k, a, b)
noncomputable abbrev Es := List (Nat × Evt)
noncomputable def lastOf (ev : Evt) (E : Es) : Int := E.foldl (fun acc e => if e.2 = ev then (e.1 : Int) else acc) (-1)
noncomputable def firstC (p : Int) (E : Es) : Option Int := E.foldl (fun acc e => match acc with
  | some x => some x
  | none => if e.2 = .C ∧ p < e.1 then some (e.1 : Int) else none) none
noncomputable def newKeys (acc : List Key) (e : Nat × Evt) : List Key := match e.2 with
  | .T n => if acc.any (fun k => k.1 = ("temp" : Str) ∧ k.2.1 = n) then [] else [(ky "temp" n (e.1 : Int))]
  | .W n => [(ky "out" n (e.1 : Int))]
  | _ => []
noncomputable def keys (ar : Nat) (E : Es) : List Key := E.foldl (fun acc e => acc ++ newKeys acc e) ((List.range ar).map fun (i : Nat) => ((ky "in" ((i + 1 : Nat) : Int) (-1)) : Key))
noncomputable def stopF (E : Es) (k : Key) : Int :=
  if k.1 = ("in" : Str) then lastOf (.R k.2.1) E
  else if k.1 = ("temp" : Str) then max (k.2.2 + 1) (lastOf (.T k.2.1) E)
  else (firstC k.2.2 E).getD (k.2.2 + 1)
noncomputable def ent (E : Es) (k : Key) : Qd := (k.1, k.2.1, k.2.2, stopF E k)
theorem lastOf_snoc (ev : Evt) (E : Es) (e : Nat × Evt) : lastOf ev (E ++ [e]) = if e.2 = ev then (e.1 : Int) else lastOf ev E := by unfold lastOf; rw [List.foldl_append]; rfl
theorem firstC_snoc (p : Int) (E : Es) (e : Nat × Evt) : firstC p (E ++ [e]) = match firstC p E with
    | some x => some x
    | none => if e.2 = .C ∧ p < e.1 then some (e.1 : Int) else none := by unfold firstC; rw [List.foldl_append]; rfl
theorem keys_snoc (ar : Nat) (E : Es) (e : Nat × Evt) : keys ar (E ++ [e]) = keys ar E ++ newKeys (keys ar E) e := by unfold keys; rw [List.foldl_append]; rfl
/-- the machine says what the events say -/
structure Inv (ar : Nat) (st : IS) (E : Es) : Prop where
  found : st.found = (keys ar E).map (ent E)
  tmp1 : ∀ n ix, mget st.tmp n = some ix → ∃ p, (keys ar E)[ix]? = some (ky "temp" n p)
  tmp0 : ∀ n, mget st.tmp n = none → ∀ p, ((ky "temp" n p) : Key) ∉ keys ar E
  out1 : ∀ x ∈ st.out, ∃ p, (keys ar E)[x.2]? = some (ky "out" x.1 p) ∧ firstC p E = none
  out2 : ∀ (ix : Nat) n p, (keys ar E)[ix]? = some (ky "out" n p) → firstC p E = none → (n, ix) ∈ st.out
  outP : ∀ n p, ((ky "out" n p) : Key) ∈ keys ar E → ∃ e ∈ E, p = (e.1 : Int)
  outN : (st.out.map (·.1)).Nodup
  inc : st.inc = (iinit ar).inc
  inK : ∀ j, j < ar → (keys ar E)[j]? = some (ky "in" ((j + 1 : Nat) : Int) (-1))
  inU : ∀ (ix : Nat) n p, (keys ar E)[ix]? = some (ky "in" n p) → p = -1 ∧ ix < ar ∧ n = ((ix + 1 : Nat) : Int)
  tempU : ∀ (ix jx : Nat) n p p', (keys ar E)[ix]? = some (ky "temp" n p) → (keys ar E)[jx]? = some (ky "temp" n p') → ix = jx
  outU : ∀ (ix jx : Nat) n p, (keys ar E)[ix]? = some (ky "out" n p) → (keys ar E)[jx]? = some (ky "out" n p) → ix = jx
  kinds : ∀ k ∈ keys ar E, k.1 = "in" ∨ k.1 = "temp" ∨ k.1 = "out"
theorem s1 : ("in" : Str) ≠ "temp" := by decide
theorem s2 : ("in" : Str) ≠ "out" := by decide
theorem s3 : ("temp" : Str) ≠ "out" := by decide
theorem ent_key (E : Es) (k : Key) : (ent E k).1 = k.1 ∧ (ent E k).2.1 = k.2.1 ∧ (ent E k).2.2.1 = k.2.2 := ⟨rfl, rfl, rfl⟩
/-- one stop told anew -/
theorem map_setStop {K : List Key} {E E' : Es} {ix : Nat} {t : Int} {k : Key} (hk : K[ix]? = some k) (h1 : stopF E' k = t) (h2 : ∀ j k', K[j]? = some k' → j ≠ ix → stopF E' k' = stopF E k') : setStop (K.map (ent E)) ix t = K.map (ent E') := by
  apply List.ext_getElem?
  intro j
  rw [setStop_get, List.getElem?_map, List.getElem?_map]
  by_cases hj : ix = j
  · subst hj
    rw [if_pos rfl, hk]
    show some (stopAt t (ent E k)) = some (ent E' k)
    unfold stopAt ent
    rw [h1]
  · rw [if_neg hj]
    cases e : K[j]? with
    | none => rfl
    | some k' =>
      show some (ent E k') = some (ent E' k')
      unfold ent
      rw [h2 j k' e (Ne.symm hj)]
theorem map_same {K : List Key} {E E' : Es} (h : ∀ k ∈ K, stopF E' k = stopF E k) : K.map (ent E') = K.map (ent E) := List.map_congr_left fun k hk => by unfold ent; rw [h k hk]
theorem stopF_T {E : Es} {p : Nat} {n : Int} (k : Key) (h : ¬ (k.1 = "temp" ∧ k.2.1 = n)) : stopF (E ++ [(p, .T n)]) k = stopF E k := by
  unfold stopF
  by_cases h1 : k.1 = ("in" : Str)
  · rw [if_pos h1, if_pos h1, lastOf_snoc, if_neg (by simp)]
  · rw [if_neg h1, if_neg h1]
    by_cases h2 : k.1 = ("temp" : Str)
    · rw [if_pos h2, if_pos h2, lastOf_snoc, if_neg (fun e => h ⟨h2, (Evt.T.inj e).symm⟩)]
    · rw [if_neg h2, if_neg h2, firstC_snoc]
      cases firstC k.2.2 E with
      | some x => rfl
      | none => simp
theorem stopF_R {E : Es} {p : Nat} {n : Int} (k : Key) (h : ¬ (k.1 = "in" ∧ k.2.1 = n)) : stopF (E ++ [(p, .R n)]) k = stopF E k := by
  unfold stopF
  by_cases h1 : k.1 = ("in" : Str)
  · rw [if_pos h1, if_pos h1, lastOf_snoc, if_neg (fun e => h ⟨h1, (Evt.R.inj e).symm⟩)]
  · rw [if_neg h1, if_neg h1]
    by_cases h2 : k.1 = ("temp" : Str)
    · rw [if_pos h2, if_pos h2, lastOf_snoc, if_neg (by simp)]
    · rw [if_neg h2, if_neg h2, firstC_snoc]
      cases firstC k.2.2 E with
      | some x => rfl
      | none => simp
theorem stopF_W {E : Es} {p : Nat} {n : Int} (k : Key) : stopF (E ++ [(p, .W n)]) k = stopF E k := by
  unfold stopF
  by_cases h1 : k.1 = ("in" : Str)
  · rw [if_pos h1, if_pos h1, lastOf_snoc, if_neg (by simp)]
  · rw [if_neg h1, if_neg h1]
    by_cases h2 : k.1 = ("temp" : Str)
    · rw [if_pos h2, if_pos h2, lastOf_snoc, if_neg (by simp)]
    · rw [if_neg h2, if_neg h2, firstC_snoc]
      cases firstC k.2.2 E with
      | some x => rfl
      | none => simp
theorem firstC_not {E : Es} {p : Nat} {ev : Evt} (h : ev ≠ .C) (q : Int) : firstC q (E ++ [(p, ev)]) = firstC q E := by
  rw [firstC_snoc]
  cases firstC q E with
  | some x => rfl
  | none => simp [h]
theorem keys_R {ar : Nat} {E : Es} {p : Nat} {n : Int} : keys ar (E ++ [(p, .R n)]) = keys ar E := by rw [keys_snoc]; simp [newKeys]
theorem keys_C {ar : Nat} {E : Es} {p : Nat} : keys ar (E ++ [(p, .C)]) = keys ar E := by rw [keys_snoc]; simp [newKeys]
theorem keys_W {ar : Nat} {E : Es} {p : Nat} {n : Int} : keys ar (E ++ [(p, .W n)]) = keys ar E ++ [(ky "out" n (p : Int))] := by rw [keys_snoc]; rfl
theorem keys_T1 {ar : Nat} {E : Es} {p : Nat} {n : Int} (h : ∃ q, ((ky "temp" n q) : Key) ∈ keys ar E) : keys ar (E ++ [(p, .T n)]) = keys ar E := by
  obtain ⟨q, hq⟩ := h
  rw [keys_snoc]
  unfold newKeys
  dsimp only
  rw [if_pos (List.any_eq_true.mpr ⟨_, hq, by simp⟩), List.append_nil]
theorem keys_T0 {ar : Nat} {E : Es} {p : Nat} {n : Int} (h : ∀ q, ((ky "temp" n q) : Key) ∉ keys ar E) : keys ar (E ++ [(p, .T n)]) = keys ar E ++ [(ky "temp" n (p : Int))] := by
  rw [keys_snoc]
  unfold newKeys
  dsimp only
  rw [if_neg]
  intro ha
  obtain ⟨k, hk, e⟩ := List.any_eq_true.mp ha
  have e' : k.1 = ("temp" : Str) ∧ k.2.1 = n := by simpa using e
  obtain ⟨k1, k2, k3⟩ := k
  obtain ⟨rfl, rfl⟩ := e'
  exact h _ hk
theorem lastOf_le {ev : Evt} {p : Nat} : ∀ (E : Es), (∀ e ∈ E, e.1 ≤ p) → lastOf ev E ≤ p := by
  intro E
  have go : ∀ (E : Es) (acc : Int), acc ≤ p → (∀ e ∈ E, e.1 ≤ p) → E.foldl (fun acc e => if e.2 = ev then (e.1 : Int) else acc) acc ≤ p := by
    intro E
    induction E with
    | nil => intro acc h _; exact h
    | cons e E ih =>
      intro acc h hE
      rw [List.foldl_cons]
      refine ih _ ?_ fun x hx => hE x (.tail _ hx)
      have := hE e (.head _)
      split
      · omega
      · exact h
  exact go E (-1) (by omega)
theorem firstC_none {p : Nat} : ∀ (E : Es), (∀ e ∈ E, e.1 ≤ p) → firstC p E = none := by
  intro E
  unfold firstC
  induction E with
  | nil => intro _; rfl
  | cons e E ih =>
    intro hE
    rw [List.foldl_cons]
    have := hE e (.head _)
    have : ¬ (e.2 = .C ∧ (p : Int) < e.1) := fun h => by have := h.2; omega
    simp only [if_neg this]
    exact ih fun x hx => hE x (.tail _ hx)
section
variable {ar : Nat} {st : IS} {E : Es} {p : Nat} {n : Int}
theorem Inv.len (h : Inv ar st E) : st.found.length = (keys ar E).length := by rw [h.found, List.length_map]
theorem Inv.T (h : Inv ar st E) (hp : ∀ e ∈ E, e.1 ≤ p) (r : Int) : Inv ar (istep p st (r, ⟨.t, n⟩)) (E ++ [(p, .T n)]) := by
  cases hm : mget st.tmp n with
  | none =>
    have e : istep p st (r, ⟨.t, n⟩) = { st with found := st.found ++ [qd "temp" n p (p + 1)], tmp := mset st.tmp n st.found.length } := by unfold istep; simp only [hm]
    have hk : keys ar (E ++ [(p, .T n)]) = keys ar E ++ [(ky "temp" n (p : Int))] := keys_T0 (h.tmp0 n hm)
    have old : ∀ {ix : Nat} {k : Key}, (keys ar E)[ix]? = some k → (keys ar E ++ [((ky "temp" n (p : Int)) : Key)])[ix]? = some k := fun hx => by rw [List.getElem?_append_left (List.getElem?_eq_some_iff.mp hx).1]; exact hx
    have back : ∀ {ix : Nat} {k : Key}, (keys ar E ++ [((ky "temp" n (p : Int)) : Key)])[ix]? = some k → (keys ar E)[ix]? = some k ∨ (ix = (keys ar E).length ∧ k = (ky "temp" n (p : Int))) := fun {ix k} hx => by
      by_cases hl : ix < (keys ar E).length
      · rw [List.getElem?_append_left hl] at hx; exact .inl hx
      · rw [List.getElem?_append_right (by omega)] at hx
        have : ix - (keys ar E).length = 0 := by
          cases hd : ix - (keys ar E).length with
          | zero => rfl
          | succ m => rw [hd] at hx; simp at hx
        rw [this] at hx
        refine .inr ⟨by omega, ?_⟩
        simpa using hx.symm
    have hnew : ∀ q, ((ky "temp" n q) : Key) ∉ keys ar E := h.tmp0 n hm
    rw [e]
    refine ⟨?_, fun n' ix hx => ?_, fun n' hx q hq => ?_, fun x hx => ?_, fun ix n' q hx hc => ?_, fun n' q hq => ?_, h.outN, h.inc, fun j hj => ?_, fun ix n' q hx => ?_, fun ix jx n' q q' h1 h2 => ?_, fun ix jx n' q h1 h2 => ?_, fun k hk' => ?_⟩
    · rw [hk, List.map_append, h.found]
      show List.map (ent E) (keys ar E) ++ [qd "temp" n p (p + 1)] = _
      congr 1
      · refine (map_same fun k hkm => stopF_T k fun hh => ?_).symm
        obtain ⟨k1, k2, k3⟩ := k
        obtain ⟨rfl, rfl⟩ := hh
        exact hnew _ hkm
      · show [qd "temp" n p (p + 1)] = [ent (E ++ [(p, .T n)]) (ky "temp" n (p : Int))]
        unfold ent stopF
        rw [if_neg s1.symm, if_pos rfl, lastOf_snoc, if_pos rfl]
        show [qd "temp" n p (p + 1)] = [qd "temp" n (p : Int) (max ((p : Int) + 1) p)]
        rw [show max ((p : Int) + 1) p = p + 1 by omega]
    · rw [mget_mset] at hx
      by_cases hn : n' = n
      · rw [if_pos hn] at hx
        cases hx
        rw [hk, h.len, hn]
        exact ⟨p, by simp⟩
      · rw [if_neg hn] at hx
        obtain ⟨q, hq⟩ := h.tmp1 n' ix hx
        exact ⟨q, by rw [hk]; exact old hq⟩
    · rw [mget_mset] at hx
      by_cases hn : n' = n
      · rw [if_pos hn] at hx; cases hx
      · rw [if_neg hn] at hx
        rw [hk] at hq
        rcases List.mem_append.mp hq with hq | hq
        · exact h.tmp0 n' hx q hq
        · have := List.mem_singleton.mp hq
          simp only [Prod.mk.injEq] at this
          exact hn this.2.1
    · obtain ⟨q, h1, h2⟩ := h.out1 x hx
      exact ⟨q, by rw [hk]; exact old h1, by rw [firstC_not (by simp)]; exact h2⟩
    · rw [hk] at hx
      rw [firstC_not (by simp)] at hc
      rcases back hx with hx | ⟨_, hx⟩
      · exact h.out2 ix n' q hx hc
      · simp only [Prod.mk.injEq] at hx
        exact absurd hx.1.symm s3
    · rw [hk] at hq
      rcases List.mem_append.mp hq with hq | hq
      · obtain ⟨e, he, hh⟩ := h.outP n' q hq
        exact ⟨e, List.mem_append_left _ he, hh⟩
      · have := List.mem_singleton.mp hq
        simp only [Prod.mk.injEq] at this
        exact absurd this.1.symm s3
    · rw [hk]; exact old (h.inK j hj)
    · rw [hk] at hx
      rcases back hx with hx | ⟨_, hx⟩
      · exact h.inU ix n' q hx
      · simp only [Prod.mk.injEq] at hx
        exact absurd hx.1 s1
    · rw [hk] at h1 h2
      rcases back h1 with g1 | ⟨g1, e1⟩ <;> rcases back h2 with g2 | ⟨g2, e2⟩
      · exact h.tempU ix jx n' q q' g1 g2
      · simp only [Prod.mk.injEq] at e2
        exact absurd (List.mem_of_getElem? g1) (by rw [e2.2.1]; exact hnew q)
      · simp only [Prod.mk.injEq] at e1
        exact absurd (List.mem_of_getElem? g2) (by rw [e1.2.1]; exact hnew q')
      · rw [g1, g2]
    · rw [hk] at h1 h2
      rcases back h1 with g1 | ⟨_, e1⟩
      · rcases back h2 with g2 | ⟨_, e2⟩
        · exact h.outU ix jx n' q g1 g2
        · simp only [Prod.mk.injEq] at e2
          exact absurd e2.1.symm s3
      · simp only [Prod.mk.injEq] at e1
        exact absurd e1.1.symm s3
    · rw [hk] at hk'
      rcases List.mem_append.mp hk' with hk' | hk'
      · exact h.kinds k hk'
      · rw [List.mem_singleton.mp hk']; exact .inr (.inl rfl)
  | some ix =>
    obtain ⟨q, hq⟩ := h.tmp1 n ix hm
    have hmem : ((ky "temp" n q) : Key) ∈ keys ar E := List.mem_of_getElem? hq
    have hk : keys ar (E ++ [(p, .T n)]) = keys ar E := keys_T1 ⟨q, hmem⟩
    have hso : stopOf st.found ix = max (q + 1) (lastOf (.T n) E) := by
      unfold stopOf
      rw [h.found, List.getElem?_map, hq]
      show stopF E (ky "temp" n q) = _
      unfold stopF
      rw [if_neg s1.symm, if_pos rfl]
    have hnew : stopF (E ++ [(p, .T n)]) (ky "temp" n q) = max (q + 1) p := by
      unfold stopF
      rw [if_neg s1.symm, if_pos rfl, lastOf_snoc, if_pos rfl]
    have hl := lastOf_le (ev := .T n) E hp
    have e : istep p st (r, ⟨.t, n⟩) = if stopOf st.found ix < p then { st with found := setStop st.found ix p } else st := by unfold istep; simp only [hm]
    have base : ∀ st', st'.found = (keys ar (E ++ [(p, .T n)])).map (ent (E ++ [(p, .T n)])) → st'.tmp = st.tmp → st'.out = st.out → st'.inc = st.inc → Inv ar st' (E ++ [(p, .T n)]) := fun st' f1 f2 f3 f4 => by
      refine ⟨f1, fun n' ix hx => ?_, fun n' hx q hq => ?_, fun x hx => ?_, fun ix n' q hx hc => ?_, fun n' q hq => ?_, by rw [f3]; exact h.outN, by rw [f4]; exact h.inc, fun j hj => ?_, fun ix n' q hx => ?_, fun ix jx n' q q' h1 h2 => ?_, fun ix jx n' q h1 h2 => ?_, fun k hk' => ?_⟩
      · rw [f2] at hx; rw [hk]; exact h.tmp1 n' ix hx
      · rw [f2] at hx; rw [hk] at hq; exact h.tmp0 n' hx q hq
      · rw [f3] at hx
        obtain ⟨q, h1, h2⟩ := h.out1 x hx
        exact ⟨q, by rw [hk]; exact h1, by rw [firstC_not (by simp)]; exact h2⟩
      · rw [hk] at hx
        rw [firstC_not (by simp)] at hc
        rw [f3]; exact h.out2 ix n' q hx hc
      · rw [hk] at hq
        obtain ⟨e, he, hh⟩ := h.outP n' q hq
        exact ⟨e, List.mem_append_left _ he, hh⟩
      · rw [hk]; exact h.inK j hj
      · rw [hk] at hx; exact h.inU ix n' q hx
      · rw [hk] at h1 h2; exact h.tempU ix jx n' q q' h1 h2
      · rw [hk] at h1 h2; exact h.outU ix jx n' q h1 h2
      · rw [hk] at hk'; exact h.kinds k hk'
    rw [e]
    by_cases hlt : stopOf st.found ix < p
    · rw [if_pos hlt]
      refine base _ ?_ rfl rfl rfl
      rw [hk]
      show setStop st.found ix p = _
      rw [h.found]
      refine map_setStop hq ?_ fun j k' hj hne => stopF_T k' fun hh => ?_
      · rw [hnew]; rw [hso] at hlt; omega
      · obtain ⟨k1, k2, k3⟩ := k'
        obtain ⟨rfl, rfl⟩ := hh
        exact hne (h.tempU j ix _ _ _ hj hq)
    · rw [if_neg hlt]
      refine base _ ?_ rfl rfl rfl
      rw [hk, h.found]
      refine (map_same fun k' hk' => ?_).symm
      by_cases hh : k'.1 = ("temp" : Str) ∧ k'.2.1 = n
      · obtain ⟨j, hj⟩ := List.getElem?_of_mem hk'
        obtain ⟨k1, k2, k3⟩ := k'
        obtain ⟨rfl, rfl⟩ := hh
        have := h.tempU j ix _ _ _ hj hq
        rw [this, hq] at hj
        simp only [Option.some.injEq, Prod.mk.injEq] at hj
        rw [← hj.2.2, hnew]
        have : stopF E (ky "temp" k2 q) = max (q + 1) (lastOf (.T k2) E) := by unfold stopF; rw [if_neg s1.symm, if_pos rfl]
        rw [this]
        rw [hso] at hlt
        have hl' : lastOf (.T k2) E ≤ (p : Int) := hl
        have hlt' : ¬ max (q + 1) (lastOf (.T k2) E) < (p : Int) := hlt
        omega
      · exact stopF_T k' hh
theorem Inv.R (h : Inv ar st E) {j : Nat} (hj : j < ar) (hn : n = ((j + 1 : Nat) : Int)) {r : Int} (hr : r ≠ 2) : Inv ar (istep p st (r, ⟨.a, n⟩)) (E ++ [(p, .R n)]) := by
  have hm : mget st.inc n = some j := by rw [h.inc, hn]; exact iinit_get hj
  have hq := h.inK j hj
  rw [← hn] at hq
  have hk : keys ar (E ++ [(p, .R n)]) = keys ar E := keys_R
  have e : istep p st (r, ⟨.a, n⟩) = { st with found := setStop st.found j p } := by unfold istep; simp only [hr, if_false, hm]
  rw [e]
  refine ⟨?_, fun n' ix hx => ?_, fun n' hx q hq => ?_, fun x hx => ?_, fun ix n' q hx hc => ?_, fun n' q hq => ?_, h.outN, h.inc, fun j hj => ?_, fun ix n' q hx => ?_, fun ix jx n' q q' h1 h2 => ?_, fun ix jx n' q h1 h2 => ?_, fun k hk' => ?_⟩
  · rw [hk]
    show setStop st.found j p = _
    rw [h.found]
    refine map_setStop hq ?_ fun j' k' hj' hne => stopF_R k' fun hh => ?_
    · unfold stopF; rw [if_pos rfl, lastOf_snoc, if_pos rfl]
    · obtain ⟨k1, k2, k3⟩ := k'
      obtain ⟨rfl, rfl⟩ := hh
      have h1 : k2 = ((j' + 1 : Nat) : Int) := (h.inU j' _ _ hj').2.2
      have h2 : k2 = ((j + 1 : Nat) : Int) := hn
      omega
  · rw [hk]; exact h.tmp1 n' ix hx
  · rw [hk] at hq; exact h.tmp0 n' hx q hq
  · obtain ⟨q, h1, h2⟩ := h.out1 x hx
    exact ⟨q, by rw [hk]; exact h1, by rw [firstC_not (by simp)]; exact h2⟩
  · rw [hk] at hx
    rw [firstC_not (by simp)] at hc
    exact h.out2 ix n' q hx hc
  · rw [hk] at hq
    obtain ⟨e, he, hh⟩ := h.outP n' q hq
    exact ⟨e, List.mem_append_left _ he, hh⟩
  · rw [hk]; exact h.inK j hj
  · rw [hk] at hx; exact h.inU ix n' q hx
  · rw [hk] at h1 h2; exact h.tempU ix jx n' q q' h1 h2
  · rw [hk] at h1 h2; exact h.outU ix jx n' q h1 h2
  · rw [hk] at hk'; exact h.kinds k hk'
theorem mset_new {m : List (Int × Nat)} {n : Int} {i : Nat} (h : n ∉ m.map (·.1)) : mset m n i = m ++ [(n, i)] := by
  unfold mset
  rw [if_neg]
  intro ha
  obtain ⟨x, hx, e⟩ := List.any_eq_true.mp ha
  exact h (List.mem_map.mpr ⟨x, hx, by simpa using e⟩)
theorem Inv.W (h : Inv ar st E) (hp : ∀ e ∈ E, e.1 ≤ p) (ho : ∀ q, ((ky "out" n q) : Key) ∈ keys ar E → firstC q E ≠ none) : Inv ar (istep p st (2, ⟨.a, n⟩)) (E ++ [(p, .W n)]) := by
  have e : istep p st (2, ⟨.a, n⟩) = { st with found := st.found ++ [qd "out" n p (p + 1)], out := mset st.out n st.found.length } := by unfold istep; simp
  have hk : keys ar (E ++ [(p, .W n)]) = keys ar E ++ [(ky "out" n (p : Int))] := keys_W
  have hno : n ∉ st.out.map (·.1) := fun hn => by
    obtain ⟨x, hx, rfl⟩ := List.mem_map.mp hn
    obtain ⟨q, h1, h2⟩ := h.out1 x hx
    exact ho q (List.mem_of_getElem? h1) h2
  have old : ∀ {ix : Nat} {k : Key}, (keys ar E)[ix]? = some k → (keys ar E ++ [((ky "out" n (p : Int)) : Key)])[ix]? = some k := fun hx => by rw [List.getElem?_append_left (List.getElem?_eq_some_iff.mp hx).1]; exact hx
  have back : ∀ {ix : Nat} {k : Key}, (keys ar E ++ [((ky "out" n (p : Int)) : Key)])[ix]? = some k → (keys ar E)[ix]? = some k ∨ (ix = (keys ar E).length ∧ k = (ky "out" n (p : Int))) := fun {ix k} hx => by
    by_cases hl : ix < (keys ar E).length
    · rw [List.getElem?_append_left hl] at hx; exact .inl hx
    · rw [List.getElem?_append_right (by omega)] at hx
      have : ix - (keys ar E).length = 0 := by
        cases hd : ix - (keys ar E).length with
        | zero => rfl
        | succ m => rw [hd] at hx; simp at hx
      rw [this] at hx
      refine .inr ⟨by omega, ?_⟩
      simpa using hx.symm
  have hf : firstC p (E ++ [(p, .W n)]) = none := by rw [firstC_not (by simp)]; exact firstC_none E hp
  rw [e, mset_new hno]
  refine ⟨?_, fun n' ix hx => ?_, fun n' hx q hq => ?_, fun x hx => ?_, fun ix n' q hx hc => ?_, fun n' q hq => ?_, ?_, h.inc, fun j hj => ?_, fun ix n' q hx => ?_, fun ix jx n' q q' h1 h2 => ?_, fun ix jx n' q h1 h2 => ?_, fun k hk' => ?_⟩
  · rw [hk, List.map_append, h.found]
    show List.map (ent E) (keys ar E) ++ [qd "out" n p (p + 1)] = _
    congr 1
    · exact (map_same fun k _ => stopF_W k).symm
    · show [qd "out" n p (p + 1)] = [ent (E ++ [(p, .W n)]) (ky "out" n (p : Int))]
      unfold ent stopF
      rw [if_neg s2.symm, if_neg s3.symm, hf]
      rfl
  · obtain ⟨q, hq⟩ := h.tmp1 n' ix hx
    exact ⟨q, by rw [hk]; exact old hq⟩
  · rw [hk] at hq
    rcases List.mem_append.mp hq with hq | hq
    · exact h.tmp0 n' hx q hq
    · have := List.mem_singleton.mp hq
      simp only [Prod.mk.injEq] at this
      exact s3 this.1
  · rcases List.mem_append.mp hx with hx | hx
    · obtain ⟨q, h1, h2⟩ := h.out1 x hx
      exact ⟨q, by rw [hk]; exact old h1, by rw [firstC_not (by simp)]; exact h2⟩
    · rw [List.mem_singleton.mp hx, hk]
      refine ⟨p, ?_, hf⟩
      show (keys ar E ++ _)[st.found.length]? = _
      rw [h.len]; simp
  · rw [hk] at hx
    rcases back hx with hx | ⟨e1, hx⟩
    · rw [firstC_not (by simp)] at hc
      exact List.mem_append_left _ (h.out2 ix n' q hx hc)
    · simp only [Prod.mk.injEq] at hx
      rw [e1, hx.2.1, h.len]
      exact List.mem_append_right _ (.head _)
  · rw [hk] at hq
    rcases List.mem_append.mp hq with hq | hq
    · obtain ⟨e, he, hh⟩ := h.outP n' q hq
      exact ⟨e, List.mem_append_left _ he, hh⟩
    · have := List.mem_singleton.mp hq
      simp only [Prod.mk.injEq] at this
      exact ⟨_, List.mem_append_right _ (.head _), this.2.2⟩
  · rw [List.map_append]
    exact List.nodup_append.mpr ⟨h.outN, by simp, fun a ha b hb => by
      have : b = n := by simpa using hb
      rw [this]; exact fun e => hno (e ▸ ha)⟩
  · rw [hk]; exact old (h.inK j hj)
  · rw [hk] at hx
    rcases back hx with hx | ⟨_, hx⟩
    · exact h.inU ix n' q hx
    · simp only [Prod.mk.injEq] at hx
      exact absurd hx.1 s2
  · rw [hk] at h1 h2
    rcases back h1 with g1 | ⟨_, e1⟩
    · rcases back h2 with g2 | ⟨_, e2⟩
      · exact h.tempU ix jx n' q q' g1 g2
      · simp only [Prod.mk.injEq] at e2
        exact absurd e2.1 s3
    · simp only [Prod.mk.injEq] at e1
      exact absurd e1.1 s3
  · have hnot : ∀ ix, (keys ar E)[ix]? ≠ some (ky "out" n p) := fun ix hx => ho p (List.mem_of_getElem? hx) (firstC_none E hp)
    rw [hk] at h1 h2
    rcases back h1 with g1 | ⟨g1, e1⟩ <;> rcases back h2 with g2 | ⟨g2, e2⟩
    · exact h.outU ix jx n' q g1 g2
    · exact absurd (e2 ▸ g1) (hnot ix)
    · exact absurd (e1 ▸ g2) (hnot jx)
    · rw [g1, g2]
  · rw [hk] at hk'
    rcases List.mem_append.mp hk' with hk' | hk'
    · exact h.kinds k hk'
    · rw [List.mem_singleton.mp hk']; exact .inr (.inr rfl)
theorem closes {out : List (Int × Nat)} {t : Int} : ∀ (L : List Int) (f : List Qd) (j : Nat), (L.foldl (icloseF out t) f)[j]? = if ∃ n ∈ L, mget out n = some j then f[j]?.map (stopAt t) else f[j]?
  | [], f, j => by simp
  | n :: L, f, j => by
    rw [List.foldl_cons, closes L]
    have hf : (icloseF out t f n)[j]? = if mget out n = some j then f[j]?.map (stopAt t) else f[j]? := by
      unfold icloseF
      cases hm : mget out n with
      | none => simp
      | some i =>
        show (setStop f i t)[j]? = _
        rw [setStop_get]
        by_cases h : i = j
        · simp [h]
        · rw [if_neg h, if_neg (by simpa using h)]
    rw [hf]
    by_cases h1 : mget out n = some j
    · have hex : ∃ m ∈ n :: L, mget out m = some j := ⟨n, .head _, h1⟩
      rw [if_pos h1, if_pos hex]
      split
      · rw [Option.map_map]; rfl
      · rfl
    · rw [if_neg h1]
      by_cases h2 : ∃ m ∈ L, mget out m = some j
      · rw [if_pos h2, if_pos (by obtain ⟨m, a, b⟩ := h2; exact ⟨m, .tail _ a, b⟩)]
      · rw [if_neg h2, if_neg]
        rintro ⟨m, a, b⟩
        rcases List.mem_cons.mp a with rfl | a
        · exact h1 b
        · exact h2 ⟨m, a, b⟩
theorem mget_of_mem {m : List (Int × Nat)} (hn : (m.map (·.1)).Nodup) {x : Int × Nat} (hx : x ∈ m) : mget m x.1 = some x.2 := by
  unfold mget
  induction m with
  | nil => cases hx
  | cons y m ih =>
    obtain ⟨h1, h2⟩ := List.nodup_cons.mp hn
    rw [List.find?_cons]
    rcases List.mem_cons.mp hx with rfl | hx
    · simp
    · have : y.1 ≠ x.1 := fun e => h1 (List.mem_map.mpr ⟨x, hx, e.symm⟩)
      simp only [this, decide_false]
      exact ih h2 hx
theorem Inv.C (h : Inv ar st E) (hp : ∀ e ∈ E, e.1 < p) : Inv ar (iclose p st) (E ++ [(p, .C)]) := by
  have hk : keys ar (E ++ [(p, .C)]) = keys ar E := keys_C
  have hC : ∀ q, firstC q (E ++ [(p, .C)]) = match firstC q E with
      | some x => some x
      | none => if q < p then some (p : Int) else none := fun q => by
    rw [firstC_snoc]
    cases firstC q E with
    | some x => rfl
    | none => simp
  have hlt : ∀ n q, ((ky "out" n q) : Key) ∈ keys ar E → q < p := fun n q hq => by
    obtain ⟨e, he, rfl⟩ := h.outP n q hq
    have := hp e he
    omega
  refine ⟨?_, fun n' ix hx => ?_, fun n' hx q hq => ?_, fun x hx => (by cases hx), fun ix n' q hx hc => ?_, fun n' q hq => ?_, List.nodup_nil, h.inc, fun j hj => ?_, fun ix n' q hx => ?_, fun ix jx n' q q' h1 h2 => ?_, fun ix jx n' q h1 h2 => ?_, fun k hk' => ?_⟩
  · rw [hk]
    show (st.out.map (·.1)).foldl (icloseF st.out p) st.found = _
    apply List.ext_getElem?
    intro j
    rw [closes, h.found, List.getElem?_map, List.getElem?_map]
    cases hj : (keys ar E)[j]? with
    | none => simp
    | some k =>
      obtain ⟨k1, k2, k3⟩ := k
      have hmem := List.mem_of_getElem? hj
      by_cases hopen : ∃ m ∈ st.out.map (·.1), mget st.out m = some j
      · rw [if_pos hopen]
        obtain ⟨m, hm, hg⟩ := hopen
        obtain ⟨q, h1, h2⟩ := h.out1 (m, j) (mget_mem hg)
        rw [show (keys ar E)[(m, j).2]? = (keys ar E)[j]? from rfl, hj] at h1
        simp only [Option.some.injEq, Prod.mk.injEq] at h1
        obtain ⟨rfl, rfl, rfl⟩ := h1
        show some (stopAt p (ent E (ky "out" k2 k3))) = some (ent (E ++ [(p, .C)]) (ky "out" k2 k3))
        unfold stopAt ent stopF
        rw [if_neg s2.symm, if_neg s3.symm, if_neg s2.symm, if_neg s3.symm, hC, h2]
        show some _ = some (_, _, _, (if k3 < (p : Int) then some (p : Int) else none).getD (k3 + 1))
        rw [if_pos (hlt _ _ hmem)]; rfl
      · rw [if_neg hopen]
        show some (ent E (k1, k2, k3)) = some (ent (E ++ [(p, .C)]) (k1, k2, k3))
        have : stopF (E ++ [(p, .C)]) (k1, k2, k3) = stopF E (k1, k2, k3) := by
          unfold stopF
          by_cases e1 : k1 = ("in" : Str)
          · rw [if_pos e1, if_pos e1, lastOf_snoc, if_neg (by simp)]
          · rw [if_neg e1, if_neg e1]
            by_cases e2 : k1 = ("temp" : Str)
            · rw [if_pos e2, if_pos e2, lastOf_snoc, if_neg (by simp)]
            · rw [if_neg e2, if_neg e2, hC]
              cases hfc : firstC (k1, k2, k3).2.2 E with
              | some x => rfl
              | none =>
                have e3 : k1 = ("out" : Str) := by
                  rcases h.kinds _ hmem with e | e | e
                  · exact absurd e e1
                  · exact absurd e e2
                  · exact e
                subst e3
                have := h.out2 j k2 k3 hj hfc
                exact absurd ⟨k2, List.mem_map.mpr ⟨_, this, rfl⟩, mget_of_mem h.outN this⟩ hopen
        unfold ent
        rw [this]
  · rw [hk]; exact h.tmp1 n' ix hx
  · rw [hk] at hq; exact h.tmp0 n' hx q hq
  · rw [hk] at hx
    rw [hC] at hc
    have := hlt _ _ (List.mem_of_getElem? hx)
    cases hfc : firstC q E with
    | some x => rw [hfc] at hc; cases hc
    | none => rw [hfc] at hc; simp [this] at hc
  · rw [hk] at hq
    obtain ⟨e, he, hh⟩ := h.outP n' q hq
    exact ⟨e, List.mem_append_left _ he, hh⟩
  · rw [hk]; exact h.inK j hj
  · rw [hk] at hx; exact h.inU ix n' q hx
  · rw [hk] at h1 h2; exact h.tempU ix jx n' q q' h1 h2
  · rw [hk] at h1 h2; exact h.outU ix jx n' q h1 h2
  · rw [hk] at hk'; exact h.kinds k hk'
/-- no open one behind a call -/
theorem closedC (h : Inv ar st E) (hp : ∀ e ∈ E, e.1 < p) : ∀ n q, ((ky "out" n q) : Key) ∈ keys ar (E ++ [(p, .C)]) → firstC q (E ++ [(p, .C)]) ≠ none := fun n q hq hc => by
  rw [keys_C] at hq
  obtain ⟨e, he, rfl⟩ := h.outP n q hq
  have := hp e he
  rw [firstC_snoc] at hc
  cases hfc : firstC e.1 E with
  | some x => rw [hfc] at hc; cases hc
  | none =>
    rw [hfc] at hc
    have : (e.1 : Int) < (p : Int) := by omega
    simp [this] at hc
end
end Pl
end

section
namespace Pl
noncomputable def tev (o : Opd) : List Evt := if o.l = .t then [.T o.n] else []
noncomputable def evs : Ins → List Evt
  | .getVar o s => .R s.n :: tev o
  | .getVal o s => tev o ++ [.R s.n]
  | .getConst s => [.R s.n]
  | .getList s => [.R s.n]
  | .unifVar o | .unifLoc o | .setVal o | .setVar o => [.T o.n]
  | .putVal o s | .putVar o s | .putUns o s => tev o ++ [.W s.n]
  | .putConst s | .putStruct s | .putVoid s => [.W s.n]
  | .call => [.C]
noncomputable def Fam : Ins → Prop
  | .getVar o s | .getVal o s | .putVal o s | .putVar o s | .putUns o s => s.l = .a ∧ (o.l = .t ∨ o.l = .y)
  | .getConst s | .getList s | .putConst s | .putStruct s | .putVoid s => s.l = .a
  | .unifVar o | .unifLoc o | .setVal o | .setVar o => o.l = .t
  | .call => True
noncomputable def evsOf : Nat → List Ins → Es
  | _, [] => []
  | p, i :: r => (evs i).map (fun e => (p, e)) ++ evsOf (p + 1) r
theorem evsOf_append : ∀ (a b : List Ins) (p : Nat), evsOf p (a ++ b) = evsOf p a ++ evsOf (p + a.length) b
  | [], _, _ => rfl
  | i :: a, b, p => by
    show (evs i).map _ ++ evsOf (p + 1) (a ++ b) = ((evs i).map _ ++ evsOf (p + 1) a) ++ _
    rw [evsOf_append a b, List.append_assoc, List.length_cons, show p + 1 + a.length = p + (a.length + 1) by omega]
/-- the state of a run -/
structure RS (ar p : Nat) (st : IS) (E : Es) (b : Int) : Prop where
  inv : Inv ar st E
  pos : ∀ e ∈ E, e.1 < p
  opens : ∀ n q, ky "out" n q ∈ keys ar E → firstC q E = none → n ≤ b
/-- within an instruction -/
structure RM (ar p : Nat) (st : IS) (E : Es) (b : Int) : Prop where
  inv : Inv ar st E
  pos : ∀ e ∈ E, e.1 ≤ p
  opens : ∀ n q, ky "out" n q ∈ keys ar E → firstC q E = none → n ≤ b
section
variable {ar p : Nat} {st : IS} {E : Es} {b : Int}
theorem RS.mid (h : RS ar p st E b) : RM ar p st E b := ⟨h.inv, fun e he => Nat.le_of_lt (h.pos e he), h.opens⟩
theorem RM.done (h : RM ar p st E b) : RS ar (p + 1) st E b := ⟨h.inv, fun e he => Nat.lt_succ_of_le (h.pos e he), h.opens⟩
theorem pos_snoc {ev : Evt} (h : ∀ e ∈ E, e.1 ≤ p) : ∀ e ∈ E ++ [(p, ev)], e.1 ≤ p := fun e he => by
  rcases List.mem_append.mp he with he | he
  · exact h e he
  · rw [List.mem_singleton.mp he]; exact Nat.le_refl _
theorem RM.T (h : RM ar p st E b) (r n : Int) : RM ar p (istep p st (r, ⟨.t, n⟩)) (E ++ [(p, .T n)]) b :=
  ⟨h.inv.T h.pos r, pos_snoc h.pos, fun m q hq hc => by
    rw [firstC_not (by simp)] at hc
    refine h.opens m q ?_ hc
    rw [keys_snoc] at hq
    rcases List.mem_append.mp hq with hq | hq
    · exact hq
    · unfold newKeys at hq
      dsimp only at hq
      split at hq
      · cases hq
      · have := List.mem_singleton.mp hq
        simp only [Prod.mk.injEq] at this
        exact absurd this.1.symm s3⟩
theorem RM.R (h : RM ar p st E b) {r n : Int} {j : Nat} (hj : j < ar) (hn : n = ((j + 1 : Nat) : Int)) (hr : r ≠ 2) : RM ar p (istep p st (r, ⟨.a, n⟩)) (E ++ [(p, .R n)]) b :=
  ⟨h.inv.R hj hn hr, pos_snoc h.pos, fun m q hq hc => by
    rw [firstC_not (by simp)] at hc
    rw [keys_R] at hq
    exact h.opens m q hq hc⟩
theorem RM.W (h : RM ar p st E b) {n : Int} (hn : b < n) : RM ar p (istep p st (2, ⟨.a, n⟩)) (E ++ [(p, .W n)]) n :=
  ⟨h.inv.W h.pos fun q hq hc => (by have := h.opens n q hq hc; omega), pos_snoc h.pos, fun m q hq hc => by
    rw [firstC_not (by simp)] at hc
    rw [keys_W] at hq
    rcases List.mem_append.mp hq with hq | hq
    · have := h.opens m q hq hc; omega
    · have := List.mem_singleton.mp hq
      simp only [Prod.mk.injEq] at this
      omega⟩
theorem istep_y (st : IS) (r n : Int) : istep p st (r, ⟨.y, n⟩) = st := rfl
theorem RM.o (h : RM ar p st E b) {o : Opd} (ho : o.l = .t ∨ o.l = .y) (r : Int) : RM ar p (istep p st (r, o)) (E ++ (tev o).map fun e => (p, e)) b := by
  obtain ⟨l, n⟩ := o
  rcases ho with rfl | rfl
  · exact h.T r n
  · show RM ar p st (E ++ []) b
    rw [List.append_nil]; exact h
/-- one instruction without a call or a put -/
theorem RS.step (h : RS ar p st E b) {i : Ins} (hf : Fam i) (hc : isCall i = false) (hr : ∀ n, Evt.R n ∈ evs i → ∃ j, j < ar ∧ n = ((j + 1 : Nat) : Int)) {b' : Int} (hb : b ≤ b') (hw : ∀ n, Evt.W n ∈ evs i → b < n ∧ n ≤ b') :
    RS ar (p + 1) (iins p st i) (E ++ (evs i).map fun e => (p, e)) b' := by
  have up : ∀ {st E b''}, b'' ≤ b' → RM ar p st E b'' → RM ar p st E b' := fun hle h => ⟨h.inv, h.pos, fun n q a c => Int.le_trans (h.opens n q a c) hle⟩
  have M := h.mid
  have e0 : iins p st i = (roles i).foldl (istep p) st := by unfold iins; rw [hc]; rfl
  rw [e0]
  refine RM.done ?_
  have rd : ∀ {st E b''} {s : Opd} {r : Int}, s.l = .a → r ≠ 2 → Evt.R s.n ∈ evs i → RM ar p st E b'' → RM ar p (istep p st (r, s)) (E ++ [(p, .R s.n)]) b'' := fun {st E b'' s r} hs h2 hm hM => by
    obtain ⟨l, n⟩ := s
    obtain rfl : l = .a := hs
    obtain ⟨j, hj, hn⟩ := hr n hm
    exact hM.R hj hn h2
  have wr : ∀ {st E} {s : Opd}, s.l = .a → Evt.W s.n ∈ evs i → RM ar p st E b → RM ar p (istep p st (2, s)) (E ++ [(p, .W s.n)]) b' := fun {st E s} hs hm hM => by
    obtain ⟨l, n⟩ := s
    obtain rfl : l = .a := hs
    obtain ⟨h1, h2⟩ := hw n hm
    exact up h2 (hM.W h1)
  have two : ∀ (o : Opd) (ev : Evt), E ++ (tev o ++ [ev]).map (fun e => (p, e)) = (E ++ (tev o).map fun e => (p, e)) ++ [(p, ev)] := fun o ev => by simp
  have two' : ∀ (o : Opd) (ev : Evt), E ++ (ev :: tev o).map (fun e => (p, e)) = (E ++ [(p, ev)]) ++ (tev o).map fun e => (p, e) := fun o ev => by simp
  have tt : ∀ {st E b''} {o : Opd} (r : Int), o.l = .t → RM ar p st E b'' → RM ar p (istep p st (r, o)) (E ++ [(p, .T o.n)]) b'' := fun {st E b'' o} r ho hM => by
    obtain ⟨l, n⟩ := o
    obtain rfl : l = .t := ho
    exact hM.T r n
  cases i with
  | getVar o s => rw [show evs (.getVar o s) = .R s.n :: tev o from rfl, two']; exact up hb ((rd hf.1 (by decide) (.head _) M).o hf.2 2)
  | getVal o s => rw [show evs (.getVal o s) = tev o ++ [.R s.n] from rfl, two]; exact up hb (rd hf.1 (by decide) (List.mem_append_right _ (.head _)) (M.o hf.2 1))
  | getConst s => exact up hb (rd hf (by decide) (.head _) M)
  | getList s => exact up hb (rd hf (by decide) (.head _) M)
  | unifVar o => exact up hb (tt 2 hf M)
  | unifLoc o => exact up hb (tt 3 hf M)
  | setVal o => exact up hb (tt 1 hf M)
  | setVar o => exact up hb (tt 2 hf M)
  | putVal o s => rw [show evs (.putVal o s) = tev o ++ [.W s.n] from rfl, two]; exact wr hf.1 (List.mem_append_right _ (.head _)) (M.o hf.2 1)
  | putVar o s => rw [show evs (.putVar o s) = tev o ++ [.W s.n] from rfl, two]; exact wr hf.1 (List.mem_append_right _ (.head _)) (M.o hf.2 2)
  | putUns o s => rw [show evs (.putUns o s) = tev o ++ [.W s.n] from rfl, two]; exact wr hf.1 (List.mem_append_right _ (.head _)) (M.o hf.2 1)
  | putConst s => exact wr hf (.head _) M
  | putStruct s => exact wr hf (.head _) M
  | putVoid s => exact wr hf (.head _) M
  | call => cases hc
theorem RS.call (h : RS ar p st E b) : RS ar (p + 1) (iins p st .call) (E ++ [(p, .C)]) 0 := by
  have e : iins p st .call = iclose p st := rfl
  rw [e]
  refine ⟨h.inv.C h.pos, fun x hx => ?_, fun n q hq hc => absurd hc (closedC h.inv h.pos n q hq)⟩
  rcases List.mem_append.mp hx with hx | hx
  · exact Nat.lt_succ_of_lt (h.pos x hx)
  · rw [List.mem_singleton.mp hx]; exact Nat.lt_succ_self _
/-- many instructions that put nothing -/
theorem RS.run : ∀ (l : List Ins) {p : Nat} {st : IS} {E : Es}, RS ar p st E b → (∀ i ∈ l, Fam i ∧ isCall i = false ∧ (∀ n, Evt.R n ∈ evs i → ∃ j, j < ar ∧ n = ((j + 1 : Nat) : Int)) ∧ ∀ n, Evt.W n ∉ evs i) → RS ar (p + l.length) (irun l p st) (E ++ evsOf p l) b
  | [], p, st, E, h, _ => by show RS ar p st (E ++ []) b; rw [List.append_nil]; exact h
  | i :: l, p, st, E, h, hl => by
    obtain ⟨h1, h2, h3, h4⟩ := hl i (.head _)
    have := RS.run l (h.step h1 h2 h3 (Int.le_refl _) fun n hn => absurd hn (h4 n)) fun j hj => hl j (.tail _ hj)
    rw [List.length_cons, show p + (l.length + 1) = p + 1 + l.length by omega]
    show RS ar _ (irun l (p + 1) (iins p st i)) (E ++ ((evs i).map _ ++ evsOf (p + 1) l)) b
    rw [← List.append_assoc]
    exact this
end
theorem tev_noR (o : Opd) (n : Int) : Evt.R n ∉ tev o := by unfold tev; split <;> simp
theorem tev_noW (o : Opd) (n : Int) : Evt.W n ∉ tev o := by unfold tev; split <;> simp
theorem head_ok {i : Nat} {js : List Ins} (h : HeadOf i js) : ∀ x ∈ js, Fam x ∧ isCall x = false ∧ (∀ n, Evt.R n ∈ evs x → n = i) ∧ ∀ n, Evt.W n ∉ evs x := by
  intro x hx
  cases h with
  | getVar h1 h2 =>
    rw [List.mem_singleton.mp hx]
    refine ⟨⟨rfl, .inl rfl⟩, rfl, fun n hn => ?_, fun n hn => ?_⟩
    · simp [evs, tev] at hn; exact hn
    · simp [evs, tev] at hn
  | getVal h1 h2 =>
    rw [List.mem_singleton.mp hx]
    refine ⟨⟨rfl, .inl rfl⟩, rfl, fun n hn => ?_, fun n hn => ?_⟩
    · simp [evs, tev] at hn; exact hn
    · simp [evs, tev] at hn
  | getConst =>
    rw [List.mem_singleton.mp hx]
    refine ⟨rfl, rfl, fun n hn => ?_, fun n hn => ?_⟩
    · simp [evs] at hn; exact hn
    · simp [evs] at hn
  | slot =>
    rw [List.mem_singleton.mp hx]
    refine ⟨⟨rfl, .inr rfl⟩, rfl, fun n hn => ?_, fun n hn => ?_⟩
    · simp [evs, tev] at hn; exact hn
    · simp [evs, tev] at hn
  | getList h1 h2 h3 h4 =>
    simp only [List.mem_cons, List.not_mem_nil, or_false] at hx
    rcases hx with rfl | rfl | rfl
    · refine ⟨rfl, rfl, fun n hn => ?_, fun n hn => ?_⟩
      · simp [evs] at hn; exact hn
      · simp [evs] at hn
    · refine ⟨rfl, rfl, fun n hn => ?_, fun n hn => ?_⟩ <;> simp [evs] at hn
    · refine ⟨rfl, rfl, fun n hn => ?_, fun n hn => ?_⟩ <;> simp [evs] at hn
  | none => cases hx
theorem runHeads {ar m : Nat} {hs : List Ins} (h : Heads m hs) (hm : m ≤ ar) {p : Nat} {st : IS} {E : Es} {b : Int} (S : RS ar p st E b) : RS ar (p + hs.length) (irun hs p st) (E ++ evsOf p hs) b := by
  refine S.run hs fun x hx => ?_
  have : ∃ i, i < m ∧ ∀ n, Evt.R n ∈ evs x → n = ((i + 1 : Nat) : Int) := by
    clear S
    induction h with
    | nil => cases hx
    | @snoc n is js a b ih =>
      rcases List.mem_append.mp hx with hx | hx
      · obtain ⟨i, h1, h2⟩ := ih (by omega) hx
        exact ⟨i, by omega, h2⟩
      · exact ⟨n, by omega, (head_ok b x hx).2.2.1⟩
  have base : Fam x ∧ isCall x = false ∧ ∀ n, Evt.W n ∉ evs x := by
    clear S this
    induction h with
    | nil => cases hx
    | snoc a b ih =>
      rcases List.mem_append.mp hx with hx | hx
      · exact ih (by omega) hx
      · have := head_ok b x hx; exact ⟨this.1, this.2.1, this.2.2.2⟩
  obtain ⟨i, h1, h2⟩ := this
  exact ⟨base.1, base.2.1, fun n hn => ⟨i, by omega, h2 n hn⟩, base.2.2⟩
theorem runPut {ar i : Nat} {js : List Ins} (h : PutOf (i + 1) js) {p : Nat} {st : IS} {E : Es} (S : RS ar p st E i) : RS ar (p + js.length) (irun js p st) (E ++ evsOf p js) ((i + 1 : Nat) : Int) := by
  have one : ∀ {x : Ins} {l : List Ins}, Fam x → isCall x = false → (∀ n, Evt.R n ∉ evs x) → (∀ n, Evt.W n ∈ evs x → n = ((i + 1 : Nat) : Int)) → (∀ y ∈ l, Fam y ∧ isCall y = false ∧ (∀ n, Evt.R n ∈ evs y → ∃ j, j < ar ∧ n = ((j + 1 : Nat) : Int)) ∧ ∀ n, Evt.W n ∉ evs y) →
      RS ar (p + (x :: l).length) (irun (x :: l) p st) (E ++ evsOf p (x :: l)) ((i + 1 : Nat) : Int) := fun {x l} h1 h2 h3 h4 h5 => by
    have S1 := S.step h1 h2 (fun n hn => absurd hn (h3 n)) (b' := ((i + 1 : Nat) : Int)) (by omega) fun n hn => by have := h4 n hn; omega
    have := S1.run l h5
    rw [List.length_cons, show p + (l.length + 1) = p + 1 + l.length by omega]
    show RS ar _ (irun l (p + 1) (iins p st x)) (E ++ ((evs x).map _ ++ evsOf (p + 1) l)) _
    rw [← List.append_assoc]
    exact this
  have nil : ∀ y ∈ ([] : List Ins), Fam y ∧ isCall y = false ∧ (∀ n, Evt.R n ∈ evs y → ∃ j, j < ar ∧ n = ((j + 1 : Nat) : Int)) ∧ ∀ n, Evt.W n ∉ evs y := fun y hy => by cases hy
  cases h with
  | putVal h1 h2 => exact one ⟨rfl, .inl rfl⟩ rfl (fun n hn => by simp [evs, tev] at hn) (fun n hn => by simp [evs, tev] at hn; exact hn) nil
  | putVar h1 h2 => exact one ⟨rfl, .inl rfl⟩ rfl (fun n hn => by simp [evs, tev] at hn) (fun n hn => by simp [evs, tev] at hn; exact hn) nil
  | putConst => exact one rfl rfl (fun n hn => by simp [evs] at hn) (fun n hn => by simp [evs] at hn; exact hn) nil
  | slot => exact one ⟨rfl, .inr rfl⟩ rfl (fun n hn => by simp [evs, tev] at hn) (fun n hn => by simp [evs, tev] at hn; exact hn) nil
  | putStruct h1 h2 h3 h4 =>
    refine one rfl rfl (fun n hn => by simp [evs] at hn) (fun n hn => by simp [evs] at hn; exact hn) fun y hy => ?_
    simp only [List.mem_cons, List.not_mem_nil, or_false] at hy
    rcases hy with rfl | rfl
    · refine ⟨rfl, rfl, fun n hn => ?_, fun n hn => ?_⟩ <;> simp [evs] at hn
    · refine ⟨rfl, rfl, fun n hn => ?_, fun n hn => ?_⟩ <;> simp [evs] at hn
  | putVoid => exact one rfl rfl (fun n hn => by simp [evs] at hn) (fun n hn => by simp [evs] at hn; exact hn) nil
theorem runPuts {ar m : Nat} {ps : List Ins} (h : Puts m ps) : ∀ {p : Nat} {st : IS} {E : Es}, RS ar p st E 0 → RS ar (p + ps.length) (irun ps p st) (E ++ evsOf p ps) (m : Int) := by
  induction h with
  | nil => intro p st E S; show RS ar p st (E ++ []) 0; rw [List.append_nil]; exact S
  | @snoc n is js a b ih =>
    intro p st E S
    have S1 := runPut b (ih S)
    rw [irun_append, evsOf_append, ← List.append_assoc, List.length_append, show p + (is.length + js.length) = p + is.length + js.length by omega]
    exact S1
/-- puts and calls -/
inductive Segs : List Ins → Prop
  | nil : Segs []
  | snoc {l is : List Ins} {m : Nat} : Segs l → Puts m is → m ≤ 3 → Segs (l ++ is ++ [.call])
theorem runSegs {ar : Nat} {l : List Ins} (h : Segs l) : ∀ {p : Nat} {st : IS} {E : Es}, RS ar p st E 0 → RS ar (p + l.length) (irun l p st) (E ++ evsOf p l) 0 := by
  induction h with
  | nil => intro p st E S; show RS ar p st (E ++ []) 0; rw [List.append_nil]; exact S
  | @snoc l is m a b hm ih =>
    intro p st E S
    have S1 := runPuts b (ih S)
    have S2 := S1.call
    rw [irun_append, irun_append, evsOf_append, evsOf_append, ← List.append_assoc, ← List.append_assoc, List.length_append, List.length_append, List.length_singleton, show p + (l.length + is.length + 1) = p + l.length + is.length + 1 by omega, show p + (l.length + is.length) = p + l.length + is.length by omega]
    exact S2
structure Code (ar : Nat) (code : List Ins) : Prop where
  made : ∃ hs sg, code = hs ++ sg ∧ Heads ar hs ∧ Segs sg
  ends : ∃ cs, code = cs ++ [Ins.call]
theorem init_rs (ar : Nat) : RS ar 0 (iinit ar) [] 0 := by
  have hk : keys ar [] = (List.range ar).map fun (i : Nat) => ky "in" ((i + 1 : Nat) : Int) (-1) := rfl
  have hget : ∀ {ix : Nat} {k : Key}, (keys ar [])[ix]? = some k → ix < ar ∧ k = ky "in" ((ix + 1 : Nat) : Int) (-1) := fun {ix k} h => by
    rw [hk, List.getElem?_map] at h
    cases hr : (List.range ar)[ix]? with
    | none => rw [hr] at h; cases h
    | some j =>
      rw [hr] at h
      have hlt := (List.getElem?_eq_some_iff.mp hr).1
      rw [List.length_range] at hlt
      rw [List.getElem?_range hlt] at hr
      injection hr with hr
      subst hr
      exact ⟨hlt, by simpa using h.symm⟩
  have hmem : ∀ {k : Key}, k ∈ keys ar [] → k.1 = "in" := fun h => by
    rw [hk] at h
    obtain ⟨i, _, rfl⟩ := List.mem_map.mp h
    rfl
  refine ⟨⟨?_, fun n ix h => (by cases h), fun n _ q hq => s1 (hmem hq).symm, fun x hx => (by cases hx), fun ix n q hx _ => ?_, fun n q hq => absurd (hmem hq).symm s2, List.nodup_nil, rfl, fun j hj => ?_, fun ix n q hx => ?_, fun ix jx n q q' h1 _ => ?_, fun ix jx n q h1 _ => ?_, fun k hk' => .inl (hmem hk')⟩, fun e he => (by cases he), fun n q hq _ => absurd (hmem hq).symm s2⟩
  · rw [hk]
    show (List.range ar).map _ = ((List.range ar).map _).map _
    rw [List.map_map]
    exact List.map_congr_left fun i _ => rfl
  · have := (hget hx).2; simp only [Prod.mk.injEq] at this; exact absurd this.1.symm s2
  · rw [hk, List.getElem?_map, List.getElem?_range hj]; rfl
  · obtain ⟨h1, h2⟩ := hget hx
    simp only [Prod.mk.injEq] at h2
    exact ⟨h2.2.2, h1, h2.2.1⟩
  · have := (hget h1).2; simp only [Prod.mk.injEq] at this; exact absurd this.1.symm s1
  · have := (hget h1).2; simp only [Prod.mk.injEq] at this; exact absurd this.1.symm s2
theorem runCode {ar : Nat} {code : List Ins} (h : Code ar code) : RS ar code.length (irun code 0 (iinit ar)) (evsOf 0 code) 0 := by
  obtain ⟨hs, sg, rfl, h1, h2⟩ := h.made
  have S := runSegs h2 (runHeads h1 (Nat.le_refl _) (init_rs ar))
  rw [irun_append, evsOf_append, List.length_append]
  simpa using S
end Pl
end

section
set_option linter.unusedSimpArgs false
namespace Pl
/-! where an event lies -/
noncomputable def has (ev : Evt) (code : List Ins) (j : Nat) : Bool := match code[j]? with
  | some x => decide (ev ∈ evs x)
  | none => false
noncomputable def placesE (ev : Evt) (code : List Ins) : List Nat := (List.range code.length).filter (has ev code)
theorem placesE_snoc (ev : Evt) (cs : List Ins) (i : Ins) : placesE ev (cs ++ [i]) = placesE ev cs ++ if ev ∈ evs i then [cs.length] else [] := by
  unfold placesE
  rw [List.length_append, List.length_singleton, List.range_succ, List.filter_append]
  congr 1
  · refine List.filter_congr fun j hj => ?_
    rw [List.mem_range] at hj
    unfold has
    rw [List.getElem?_append_left hj]
  · have e : has ev (cs ++ [i]) cs.length = decide (ev ∈ evs i) := by unfold has; simp
    by_cases h : ev ∈ evs i
    · rw [if_pos h, List.filter_cons_of_pos (by rw [e]; simpa using h)]; rfl
    · rw [if_neg h, List.filter_cons_of_neg (by rw [e]; simpa using h)]; rfl
theorem evsOf_snoc (cs : List Ins) (i : Ins) : evsOf 0 (cs ++ [i]) = evsOf 0 cs ++ (evs i).map fun e => (cs.length, e) := by
  rw [evsOf_append]
  show _ ++ ((evs i).map (fun e => (0 + cs.length, e)) ++ []) = _
  rw [List.append_nil, Nat.zero_add]
theorem snoc_ind {P : List Ins → Prop} (h0 : P []) (h1 : ∀ cs i, P cs → P (cs ++ [i])) (l : List Ins) : P l := by
  have : ∀ (n : Nat) (l : List Ins), l.length = n → P l := fun n => by
    induction n with
    | zero => intro l hl; rw [List.eq_nil_of_length_eq_zero hl]; exact h0
    | succ n ih =>
      intro l hl
      have hne : l ≠ [] := fun e => by rw [e] at hl; cases hl
      rw [← List.dropLast_concat_getLast hne]
      exact h1 _ _ (ih _ (by rw [List.length_dropLast]; omega))
  exact this _ l rfl
noncomputable def lastN : List Nat → Int
  | [] => -1
  | a :: r => (lastD a r : Nat)
theorem lastN_snoc (l : List Nat) (x : Nat) : lastN (l ++ [x]) = x := by
  cases l with
  | nil => rfl
  | cons a r => show ((lastD a (r ++ [x]) : Nat) : Int) = x; rw [lastD_append]
theorem lastOf_block (ev : Evt) (p : Nat) : ∀ (l : List Evt) (E : Es), lastOf ev (E ++ l.map fun e => (p, e)) = if ev ∈ l then (p : Int) else lastOf ev E
  | [], E => by simp
  | e :: l, E => by
    rw [List.map_cons, show E ++ (p, e) :: l.map (fun e => (p, e)) = (E ++ [(p, e)]) ++ l.map (fun e => (p, e)) by simp, lastOf_block ev p l, lastOf_snoc]
    by_cases h1 : ev ∈ l
    · rw [if_pos h1, if_pos (.tail _ h1)]
    · rw [if_neg h1]
      by_cases h2 : e = ev
      · subst h2; rw [if_pos rfl, if_pos (.head _)]
      · rw [if_neg h2, if_neg fun h => (List.mem_cons.mp h).elim (fun e' => h2 e'.symm) h1]
theorem lastOf_places (ev : Evt) (code : List Ins) : lastOf ev (evsOf 0 code) = lastN (placesE ev code) := by
  induction code using snoc_ind with
  | h0 => rfl
  | h1 cs i ih =>
    rw [evsOf_snoc, lastOf_block, placesE_snoc]
    by_cases h : ev ∈ evs i
    · rw [if_pos h, if_pos h, lastN_snoc]
    · rw [if_neg h, if_neg h, List.append_nil, ih]
/-! the keys, told by places -/
theorem keys_out (ar : Nat) (n q : Int) : ∀ (E : Es), ky "out" n q ∈ keys ar E ↔ ∃ e ∈ E, e.2 = .W n ∧ q = e.1 := by
  intro E
  have : ∀ (k : Nat) (E : Es), E.length = k → (ky "out" n q ∈ keys ar E ↔ ∃ e ∈ E, e.2 = .W n ∧ q = e.1) := fun k => by
    induction k with
    | zero =>
      intro E hE
      rw [List.eq_nil_of_length_eq_zero hE]
      constructor
      · intro h
        obtain ⟨i, _, e⟩ := List.mem_map.mp (show ky "out" n q ∈ (List.range ar).map fun (i : Nat) => ky "in" ((i + 1 : Nat) : Int) (-1) from h)
        simp only [Prod.mk.injEq] at e
        exact absurd e.1 s2
      · rintro ⟨e, he, _⟩; cases he
    | succ k ih =>
      intro E hE
      have hne : E ≠ [] := fun e => by rw [e] at hE; cases hE
      have hE' := (List.dropLast_concat_getLast hne).symm
      generalize E.dropLast = E0 at hE'
      generalize E.getLast hne = e at hE'
      subst hE'
      have ih := ih E0 (by simpa using hE)
      rw [keys_snoc, List.mem_append, ih]
      obtain ⟨p, ev⟩ := e
      have hnew : ky "out" n q ∈ newKeys (keys ar E0) (p, ev) ↔ ev = .W n ∧ q = p := by
        unfold newKeys
        cases ev with
        | T m =>
          dsimp only
          split
          · simp
          · simp only [List.mem_singleton, Prod.mk.injEq]
            constructor
            · rintro ⟨h, _⟩; exact absurd h.symm s3
            · rintro ⟨h, _⟩; cases h
        | R m => simp
        | W m =>
          simp only [List.mem_singleton, Prod.mk.injEq, true_and, Evt.W.injEq]
          constructor
          · rintro ⟨a, b⟩; exact ⟨a.symm, b⟩
          · rintro ⟨a, b⟩; exact ⟨a.symm, b⟩
        | C => simp
      rw [hnew]
      constructor
      · rintro (⟨e, he, h⟩ | ⟨rfl, rfl⟩)
        · exact ⟨e, List.mem_append_left _ he, h⟩
        · exact ⟨_, List.mem_append_right _ (.head _), rfl, rfl⟩
      · rintro ⟨e, he, h1, h2⟩
        rcases List.mem_append.mp he with he | he
        · exact .inl ⟨e, he, h1, h2⟩
        · rw [List.mem_singleton.mp he] at h1 h2
          exact .inr ⟨h1, h2⟩
  exact this _ E rfl
theorem keys_temp (ar : Nat) (n q : Int) : ∀ (E : Es), ky "temp" n q ∈ keys ar E ↔ ∃ e, E.find? (fun e => e.2 = .T n) = some e ∧ q = e.1 := by
  intro E
  have : ∀ (k : Nat) (E : Es), E.length = k → ∀ q, (ky "temp" n q ∈ keys ar E ↔ ∃ e, E.find? (fun e => e.2 = .T n) = some e ∧ q = e.1) := fun k => by
    induction k with
    | zero =>
      intro E hE q
      rw [List.eq_nil_of_length_eq_zero hE]
      constructor
      · intro h
        obtain ⟨i, _, e⟩ := List.mem_map.mp (show ky "temp" n q ∈ (List.range ar).map fun (i : Nat) => ky "in" ((i + 1 : Nat) : Int) (-1) from h)
        simp only [Prod.mk.injEq] at e
        exact absurd e.1 s1
      · rintro ⟨e, he, _⟩; cases he
    | succ k ih =>
      intro E hE q
      have hne : E ≠ [] := fun e => by rw [e] at hE; cases hE
      have hE' := (List.dropLast_concat_getLast hne).symm
      generalize E.dropLast = E0 at hE'
      generalize E.getLast hne = e at hE'
      subst hE'
      have ih := ih E0 (by simpa using hE)
      rw [keys_snoc, List.mem_append, ih, List.find?_append]
      obtain ⟨p, ev⟩ := e
      have hold : (keys ar E0).any (fun k => decide (k.1 = ("temp" : Str) ∧ k.2.1 = n)) = true ↔ ∃ e, E0.find? (fun e => e.2 = .T n) = some e := by
        constructor
        · intro h
          obtain ⟨⟨k1, k2, k3⟩, hk, e⟩ := List.any_eq_true.mp h
          have e' : k1 = ("temp" : Str) ∧ k2 = n := by simpa using e
          obtain ⟨rfl, rfl⟩ := e'
          obtain ⟨e, h1, _⟩ := (ih k3).mp hk
          exact ⟨e, h1⟩
        · rintro ⟨e, he⟩
          exact List.any_eq_true.mpr ⟨_, (ih e.1).mpr ⟨e, he, rfl⟩, by simp⟩
      have hnew : ky "temp" n q ∈ newKeys (keys ar E0) (p, ev) ↔ ev = .T n ∧ q = p ∧ E0.find? (fun e => e.2 = .T n) = none := by
        unfold newKeys
        cases ev with
        | T m =>
          dsimp only
          by_cases hm : m = n
          · subst hm
            by_cases ha : (keys ar E0).any (fun k => decide (k.1 = ("temp" : Str) ∧ k.2.1 = m)) = true
            · rw [if_pos ha]
              obtain ⟨e, he⟩ := hold.mp ha
              rw [he]
              simp
            · rw [if_neg ha]
              have : E0.find? (fun e => decide (e.2 = .T m)) = none := by
                cases hf : E0.find? (fun e => decide (e.2 = .T m)) with
                | none => rfl
                | some e => exact absurd (hold.mpr ⟨e, hf⟩) ha
              rw [this]
              simp
          · split
            · simp [hm]
            · simp only [List.mem_singleton, Prod.mk.injEq, true_and, Evt.T.injEq]
              constructor
              · rintro ⟨a, _⟩; exact absurd a.symm hm
              · rintro ⟨a, _⟩; exact absurd a hm
        | R m => simp
        | W m =>
          simp only [List.mem_singleton, Prod.mk.injEq]
          constructor
          · rintro ⟨h, _⟩; exact absurd h s3
          · rintro ⟨h, _⟩; cases h
        | C => simp
      rw [hnew]
      cases hf : E0.find? (fun e => decide (e.2 = .T n)) with
      | some e => simp
      | none =>
        by_cases hev : ev = .T n
        · subst hev; simp
        · simp [hev]
  exact this _ E rfl q
theorem keys_in (ar : Nat) {E : Es} {st : IS} (h : Inv ar st E) (n q : Int) : ky "in" n q ∈ keys ar E ↔ q = -1 ∧ ∃ j, j < ar ∧ n = ((j + 1 : Nat) : Int) := by
  constructor
  · intro hk
    obtain ⟨ix, hix⟩ := List.getElem?_of_mem hk
    obtain ⟨h1, h2, h3⟩ := h.inU ix n q hix
    exact ⟨h1, ix, h2, h3⟩
  · rintro ⟨rfl, j, hj, rfl⟩
    exact List.mem_of_getElem? (h.inK j hj)
/-! events and places -/
theorem mem_evs {code : List Ins} {p : Nat} {ev : Evt} : (p, ev) ∈ evsOf 0 code ↔ p ∈ placesE ev code := by
  induction code using snoc_ind with
  | h0 => simp [evsOf, placesE]
  | h1 cs i ih =>
    rw [evsOf_snoc, placesE_snoc, List.mem_append, List.mem_append, ih]
    constructor
    · rintro (h | h)
      · exact .inl h
      · obtain ⟨e, he, h'⟩ := List.mem_map.mp h
        simp only [Prod.mk.injEq] at h'
        obtain ⟨rfl, rfl⟩ := h'
        rw [if_pos he]; exact .inr (.head _)
    · rintro (h | h)
      · exact .inl h
      · by_cases he : ev ∈ evs i
        · rw [if_pos he] at h
          rw [List.mem_singleton.mp h]
          exact .inr (List.mem_map.mpr ⟨ev, he, rfl⟩)
        · rw [if_neg he] at h; cases h
theorem find_block {n : Int} {p : Nat} : ∀ (l : List Evt), (l.map fun e => (p, e)).find? (fun e => e.2 = .T n) = if Evt.T n ∈ l then some (p, .T n) else none
  | [] => rfl
  | e :: l => by
    rw [List.map_cons, List.find?_cons]
    by_cases h : e = .T n
    · subst h; simp
    · simp only [h, decide_false]
      rw [find_block l]
      by_cases h2 : Evt.T n ∈ l
      · rw [if_pos h2, if_pos (.tail _ h2)]
      · rw [if_neg h2, if_neg fun hh => (List.mem_cons.mp hh).elim (fun e' => h e'.symm) h2]
theorem find_places {n : Int} {code : List Ins} : (evsOf 0 code).find? (fun e => e.2 = .T n) = (placesE (.T n) code).head?.map fun p => (p, .T n) := by
  induction code using snoc_ind with
  | h0 => rfl
  | h1 cs i ih =>
    rw [evsOf_snoc, placesE_snoc, List.find?_append, ih, find_block]
    cases hp : placesE (.T n) cs with
    | cons a r => rfl
    | nil =>
      by_cases h : Evt.T n ∈ evs i
      · rw [if_pos h, if_pos h]; rfl
      · rw [if_neg h, if_neg h]; rfl
/-! the same places, by the law's own count -/
theorem fam_heads {m : Nat} {hs : List Ins} (h : Heads m hs) : ∀ i ∈ hs, Fam i ∧ (∀ n, Evt.T n ∈ evs i → 0 ≤ n ∧ n < 5) ∧ ∀ n, Evt.W n ∉ evs i := by
  induction h with
  | nil => intro i hi; cases hi
  | snoc a b ih =>
    intro i hi
    rcases List.mem_append.mp hi with hi | hi
    · exact ih i hi
    · refine ⟨(head_ok b i hi).1, fun n hn => ?_, (head_ok b i hi).2.2.2⟩
      cases b with
      | getVar h1 h2 => rw [List.mem_singleton.mp hi] at hn; simp [evs, tev] at hn; omega
      | getVal h1 h2 => rw [List.mem_singleton.mp hi] at hn; simp [evs, tev] at hn; omega
      | getConst => rw [List.mem_singleton.mp hi] at hn; simp [evs] at hn
      | slot => rw [List.mem_singleton.mp hi] at hn; simp [evs, tev] at hn
      | getList h1 h2 h3 h4 =>
        simp only [List.mem_cons, List.not_mem_nil, or_false] at hi
        rcases hi with rfl | rfl | rfl <;> simp [evs] at hn <;> omega
      | none => cases hi
theorem fam_puts {m : Nat} {ps : List Ins} (h : Puts m ps) : ∀ i ∈ ps, Fam i ∧ (∀ n, Evt.T n ∈ evs i → 0 ≤ n ∧ n < 5) ∧ (∀ n, Evt.W n ∈ evs i → ∃ j, j < m ∧ n = ((j + 1 : Nat) : Int)) ∧ isCall i = false := by
  induction h with
  | nil => intro i hi; cases hi
  | @snoc k is js a b ih =>
    intro i hi
    rcases List.mem_append.mp hi with hi | hi
    · obtain ⟨h1, h2, h3, h4⟩ := ih i hi
      exact ⟨h1, h2, fun n hn => by obtain ⟨j, hj, e⟩ := h3 n hn; exact ⟨j, by omega, e⟩, h4⟩
    · have kk : ∀ n : Int, n = ((k + 1 : Nat) : Int) → ∃ j, j < k + 1 ∧ n = ((j + 1 : Nat) : Int) := fun n e => ⟨k, by omega, e⟩
      cases b with
      | putVal h1 h2 =>
        rw [List.mem_singleton.mp hi]
        exact ⟨⟨rfl, .inl rfl⟩, fun n hn => by simp [evs, tev] at hn; omega, fun n hn => kk n (by simp [evs, tev] at hn; exact hn), rfl⟩
      | putVar h1 h2 =>
        rw [List.mem_singleton.mp hi]
        exact ⟨⟨rfl, .inl rfl⟩, fun n hn => by simp [evs, tev] at hn; omega, fun n hn => kk n (by simp [evs, tev] at hn; exact hn), rfl⟩
      | putConst =>
        rw [List.mem_singleton.mp hi]
        exact ⟨rfl, fun n hn => by simp [evs] at hn, fun n hn => kk n (by simp [evs] at hn; exact hn), rfl⟩
      | slot =>
        rw [List.mem_singleton.mp hi]
        exact ⟨⟨rfl, .inr rfl⟩, fun n hn => by simp [evs, tev] at hn, fun n hn => kk n (by simp [evs, tev] at hn; exact hn), rfl⟩
      | putStruct h1 h2 h3 h4 =>
        simp only [List.mem_cons, List.not_mem_nil, or_false] at hi
        rcases hi with rfl | rfl | rfl
        · exact ⟨rfl, fun n hn => by simp [evs] at hn, fun n hn => kk n (by simp [evs] at hn; exact hn), rfl⟩
        · exact ⟨rfl, fun n hn => by simp [evs] at hn; omega, fun n hn => by simp [evs] at hn, rfl⟩
        · exact ⟨rfl, fun n hn => by simp [evs] at hn; omega, fun n hn => by simp [evs] at hn, rfl⟩
      | putVoid =>
        rw [List.mem_singleton.mp hi]
        exact ⟨rfl, fun n hn => by simp [evs] at hn, fun n hn => kk n (by simp [evs] at hn; exact hn), rfl⟩
structure Ok (i : Ins) : Prop where
  fam : Fam i
  t : ∀ n, Evt.T n ∈ evs i → 0 ≤ n ∧ n < 5
  w : ∀ n, Evt.W n ∈ evs i → ∃ j, j < 3 ∧ n = ((j + 1 : Nat) : Int)
theorem fam_segs {l : List Ins} (h : Segs l) : ∀ i ∈ l, Ok i := by
  induction h with
  | nil => intro i hi; cases hi
  | @snoc l is m a b hm ih =>
    intro i hi
    rcases List.mem_append.mp hi with hi | hi
    · rcases List.mem_append.mp hi with hi | hi
      · exact ih i hi
      · obtain ⟨h1, h2, h3, _⟩ := fam_puts b i hi
        exact ⟨h1, h2, fun n hn => by obtain ⟨j, hj, e⟩ := h3 n hn; exact ⟨j, by omega, e⟩⟩
    · rw [List.mem_singleton.mp hi]
      exact ⟨trivial, fun n hn => by simp [evs] at hn, fun n hn => by simp [evs] at hn⟩
theorem ok_of {ar : Nat} {code : List Ins} (h : Code ar code) : ∀ i ∈ code, Ok i := by
  obtain ⟨hs, sg, rfl, h1, h2⟩ := h.made
  intro i hi
  rcases List.mem_append.mp hi with hi | hi
  · obtain ⟨a, b, e⟩ := fam_heads h1 i hi
    exact ⟨a, b, fun n hn => absurd hn (e n)⟩
  · exact fam_segs h2 i hi
theorem mem_tev {o : Opd} {n : Int} : Evt.T n ∈ tev o ↔ o.l = .t ∧ o.n = n := by
  unfold tev
  by_cases h : o.l = .t
  · simp [h, eq_comm]
  · simp [h]
theorem opd_eq {o : Opd} {l : Ltr} {n : Int} : (⟨l, n⟩ : Opd) = o ↔ o.l = l ∧ o.n = n := by
  obtain ⟨l', n'⟩ := o
  simp [eq_comm]
theorem has_R {x : Ins} (h : Fam x) (n : Int) : decide (Evt.R n ∈ evs x) = (decide ((⟨.a, n⟩ : Opd) ∈ x.ops) && decide (x.h4 ∈ [H4.get])) := by
  refine bool_iff ?_
  have hn : ∀ {o : Opd}, o.l = .t ∨ o.l = .y → ¬ (o.l = .a ∧ o.n = n) := fun {o} h1 h2 => by rcases h1 with h1 | h1 <;> rw [h2.1] at h1 <;> cases h1
  simp only [decide_eq_true_eq, Bool.and_eq_true]
  cases x <;> simp only [evs, Ins.ops, Ins.h4, List.mem_cons, List.mem_append, List.not_mem_nil, or_false, opd_eq, reduceCtorEq, and_false, false_or, and_true, Evt.R.injEq, false_and, iff_self] <;> (try simp [tev_noR])
  all_goals first
    | (have h1 := h.1; have h2 := hn h.2; simp only [h1, h2, true_and, false_or, or_false]; exact eq_comm)
    | (have h1 : _ = Ltr.a := h; simp only [h1, true_and]; exact eq_comm)
    | skip
theorem has_W {x : Ins} (h : Fam x) (n : Int) : decide (Evt.W n ∈ evs x) = (decide ((⟨.a, n⟩ : Opd) ∈ x.ops) && decide (x.h4 ∈ [H4.put])) := by
  refine bool_iff ?_
  have hn : ∀ {o : Opd}, o.l = .t ∨ o.l = .y → ¬ (o.l = .a ∧ o.n = n) := fun {o} h1 h2 => by rcases h1 with h1 | h1 <;> rw [h2.1] at h1 <;> cases h1
  simp only [decide_eq_true_eq, Bool.and_eq_true]
  cases x <;> simp only [evs, Ins.ops, Ins.h4, List.mem_cons, List.mem_append, List.not_mem_nil, or_false, opd_eq, reduceCtorEq, and_false, false_or, and_true, Evt.W.injEq, false_and, iff_self] <;> (try simp [tev_noW])
  all_goals first
    | (have h1 := h.1; have h2 := hn h.2; simp only [h1, h2, true_and, false_or, or_false]; exact eq_comm)
    | (have h1 : _ = Ltr.a := h; simp only [h1, true_and]; exact eq_comm)
    | skip
theorem has_T {x : Ins} (h : Fam x) (n : Int) : decide (Evt.T n ∈ evs x) = (decide ((⟨.t, n⟩ : Opd) ∈ x.ops) && decide (x.h4 ∈ every)) := by
  refine bool_iff ?_
  have hn : ∀ {s : Opd}, s.l = .a → ¬ (s.l = .t ∧ s.n = n) := fun {o} h1 h2 => by rw [h2.1] at h1; cases h1
  simp only [decide_eq_true_eq, Bool.and_eq_true]
  cases x with
  | getVar o s => have h2 := hn h.1; simp [evs, Ins.ops, Ins.h4, every, opd_eq, mem_tev, h2]
  | getVal o s => have h2 := hn h.1; simp [evs, Ins.ops, Ins.h4, every, opd_eq, mem_tev, h2]
  | getConst s => have h2 := hn h; simp [evs, Ins.ops, Ins.h4, every, opd_eq, h2]
  | getList s => have h2 := hn h; simp [evs, Ins.ops, Ins.h4, every, opd_eq, h2]
  | unifVar o => have h2 : o.l = .t := h; simp [evs, Ins.ops, Ins.h4, every, opd_eq, h2]; exact eq_comm
  | unifLoc o => have h2 : o.l = .t := h; simp [evs, Ins.ops, Ins.h4, every, opd_eq, h2]; exact eq_comm
  | putVal o s => have h2 := hn h.1; simp [evs, Ins.ops, Ins.h4, every, opd_eq, mem_tev, h2]
  | putVar o s => have h2 := hn h.1; simp [evs, Ins.ops, Ins.h4, every, opd_eq, mem_tev, h2]
  | putConst s => have h2 := hn h; simp [evs, Ins.ops, Ins.h4, every, opd_eq, h2]
  | putUns o s => have h2 := hn h.1; simp [evs, Ins.ops, Ins.h4, every, opd_eq, mem_tev, h2]
  | putStruct s => have h2 := hn h; simp [evs, Ins.ops, Ins.h4, every, opd_eq, h2]
  | setVal o => have h2 : o.l = .t := h; simp [evs, Ins.ops, Ins.h4, every, opd_eq, h2]; exact eq_comm
  | setVar o => have h2 : o.l = .t := h; simp [evs, Ins.ops, Ins.h4, every, opd_eq, h2]; exact eq_comm
  | putVoid s => have h2 := hn h; simp [evs, Ins.ops, Ins.h4, every, opd_eq, h2]
  | call => simp [evs, Ins.ops]
theorem places_of {code : List Ins} (hF : ∀ i ∈ code, Fam i) {ev : Evt} {o : Opd} {hs : List H4} (h : ∀ x, Fam x → decide (ev ∈ evs x) = (decide (o ∈ x.ops) && decide (x.h4 ∈ hs))) : placesE ev code = placesOf code o hs := by
  unfold placesE placesOf
  refine List.filter_congr fun j hj => ?_
  rw [List.mem_range] at hj
  unfold has placeAt
  rw [List.getElem?_eq_getElem hj]
  exact h _ (hF _ (List.getElem_mem hj))
/-! the end of a put -/
theorem noC {i : Ins} (h : isCall i = false) : Evt.C ∉ evs i := by
  have ht : ∀ o, Evt.C ∉ tev o := fun o => by unfold tev; split <;> simp
  cases i <;> simp [evs, ht] <;> cases h
theorem firstC_block {q : Int} {p : Nat} : ∀ (l : List Evt) (E : Es), Evt.C ∉ l → firstC q (E ++ l.map fun e => (p, e)) = firstC q E
  | [], E, _ => by simp
  | e :: l, E, h => by
    rw [List.map_cons, show E ++ (p, e) :: l.map (fun e => (p, e)) = (E ++ [(p, e)]) ++ l.map (fun e => (p, e)) by simp, firstC_block l _ fun hh => h (.tail _ hh), firstC_not fun hh => h (hh ▸ .head _)]
noncomputable def FirstSpec (p : Nat) (code : List Ins) : Option Int → Prop
  | some x => ∃ e : Nat, x = e ∧ p < e ∧ (∃ i, code[e]? = some i ∧ isCall i = true) ∧ ∀ j i, p < j → j < e → code[j]? = some i → isCall i = false
  | none => ∀ j i, p < j → code[j]? = some i → isCall i = false
theorem firstC_spec (p : Nat) (code : List Ins) : FirstSpec p code (firstC p (evsOf 0 code)) := by
  induction code using snoc_ind with
  | h0 => intro j i _ h; simp at h
  | h1 cs i ih =>
    rw [evsOf_snoc]
    have look : ∀ j x, (cs ++ [i])[j]? = some x → cs[j]? = some x ∨ (j = cs.length ∧ x = i) := fun j x h => by
      by_cases hj : j < cs.length
      · rw [List.getElem?_append_left hj] at h; exact .inl h
      · rw [List.getElem?_append_right (by omega)] at h
        cases hd : j - cs.length with
        | zero => rw [hd] at h; exact .inr ⟨by omega, by simpa using h.symm⟩
        | succ m => rw [hd] at h; simp at h
    cases hc : isCall i with
    | false =>
      rw [firstC_block _ _ (noC hc)]
      cases hf : firstC p (evsOf 0 cs) with
      | none =>
        rw [hf] at ih
        intro j x hp hx
        rcases look j x hx with h | ⟨_, rfl⟩
        · exact ih j x hp h
        · exact hc
      | some e =>
        rw [hf] at ih
        obtain ⟨e, rfl, h1, ⟨x, hx, hcx⟩, h3⟩ := ih
        refine ⟨e, rfl, h1, ⟨x, ?_, hcx⟩, fun j y hp he hy => ?_⟩
        · rw [List.getElem?_append_left (List.getElem?_eq_some_iff.mp hx).1]; exact hx
        · rcases look j y hy with h | ⟨_, rfl⟩
          · exact h3 j y hp he h
          · exact hc
    | true =>
      have hi : evs i = [.C] := by cases i <;> first | rfl | cases hc
      rw [hi]
      show FirstSpec p _ (firstC p (evsOf 0 cs ++ [(cs.length, .C)]))
      rw [firstC_snoc]
      cases hf : firstC p (evsOf 0 cs) with
      | none =>
        rw [hf] at ih
        by_cases hp : p < cs.length
        · have : ((Evt.C = Evt.C) ∧ (p : Int) < ((cs.length : Nat) : Int)) := ⟨rfl, by omega⟩
          show FirstSpec p _ (if (Evt.C = Evt.C ∧ (p : Int) < ((cs.length : Nat) : Int)) then some ((cs.length : Nat) : Int) else none)
          rw [if_pos this]
          refine ⟨cs.length, rfl, hp, ⟨i, by simp, hc⟩, fun j y hp' he hy => ?_⟩
          rcases look j y hy with h | ⟨h, _⟩
          · exact ih j y hp' h
          · omega
        · have : ¬ ((Evt.C = Evt.C) ∧ (p : Int) < ((cs.length : Nat) : Int)) := fun h => by have := h.2; omega
          show FirstSpec p _ (if (Evt.C = Evt.C ∧ (p : Int) < ((cs.length : Nat) : Int)) then some ((cs.length : Nat) : Int) else none)
          rw [if_neg this]
          intro j y hp' hy
          rcases look j y hy with h | ⟨h, _⟩
          · exact ih j y hp' h
          · omega
      | some e =>
        rw [hf] at ih
        obtain ⟨e, rfl, h1, ⟨x, hx, hcx⟩, h3⟩ := ih
        have hlt := (List.getElem?_eq_some_iff.mp hx).1
        refine ⟨e, rfl, h1, ⟨x, by rw [List.getElem?_append_left hlt]; exact hx, hcx⟩, fun j y hp he hy => ?_⟩
        rcases look j y hy with h | ⟨h, _⟩
        · exact h3 j y hp he h
        · omega
theorem firstC_end {code : List Ins} {p : Nat} (hE : EndAt code p (endOf code p)) (hp : ∀ i, code[p]? = some i → isCall i = false) : firstC p (evsOf 0 code) = some (endOf code p : Nat) := by
  obtain ⟨h1, h2, x, hx, hcx⟩ := hE
  have hne : p ≠ endOf code p := fun e => by have := hp x (by rw [e]; exact hx); rw [this] at hcx; cases hcx
  have sp := firstC_spec p code
  cases hf : firstC p (evsOf 0 code) with
  | none =>
    rw [hf] at sp
    have := sp (endOf code p) x (by omega) hx
    rw [this] at hcx; cases hcx
  | some e =>
    rw [hf] at sp
    obtain ⟨e, rfl, g1, ⟨y, hy, hcy⟩, g3⟩ := sp
    congr 2
    rcases Nat.lt_trichotomy e (endOf code p) with h | h | h
    · have := h2 e y (by omega) h hy; rw [this] at hcy; cases hcy
    · exact h
    · have := g3 (endOf code p) x (by omega) h hx; rw [this] at hcx; cases hcx
end Pl
end

section
set_option linter.unusedSimpArgs false
namespace Pl
theorem every_mem {h : H4} (hc : h ≠ .call) : h ∈ every := by cases h <;> first | exact absurd rfl hc | decide
section
variable {ar : Nat} {code : List Ins}
theorem pR (h : Code ar code) (n : Int) : placesE (.R n) code = placesOf code ⟨.a, n⟩ [.get] := places_of (fun i hi => (ok_of h i hi).fam) fun _ hx => has_R hx n
theorem pW (h : Code ar code) (n : Int) : placesE (.W n) code = placesOf code ⟨.a, n⟩ [.put] := places_of (fun i hi => (ok_of h i hi).fam) fun _ hx => has_W hx n
theorem pT (h : Code ar code) (n : Int) : placesE (.T n) code = placesOf code ⟨.t, n⟩ every := places_of (fun i hi => (ok_of h i hi).fam) fun _ hx => has_T hx n
theorem at_place {ev : Evt} {p : Nat} (h : p ∈ placesE ev code) : ∃ i, code[p]? = some i ∧ ev ∈ evs i := by
  unfold placesE at h
  obtain ⟨h1, h2⟩ := List.mem_filter.mp h
  rw [List.mem_range] at h1
  unfold has at h2
  rw [List.getElem?_eq_getElem h1] at h2
  exact ⟨_, List.getElem?_eq_getElem h1, by simpa using h2⟩
theorem place_lt {ev : Evt} {p : Nat} (h : p ∈ placesE ev code) : p < code.length := by
  obtain ⟨i, hi, _⟩ := at_place h
  exact (List.getElem?_eq_some_iff.mp hi).1
theorem end_of (h : Code ar code) {n : Int} {p : Nat} (hp : p ∈ placesE (.W n) code) : firstC p (evsOf 0 code) = some (endOf code p : Nat) ∧ p < endOf code p ∧ endOf code p < code.length := by
  have hlt := place_lt hp
  obtain ⟨i, hi, hm⟩ := at_place hp
  have hE := endOf_ok h.ends hlt
  have hnc : ∀ x, code[p]? = some x → isCall x = false := fun x hx => by
    rw [hi] at hx
    injection hx with hx
    subst hx
    cases hc : isCall i with
    | false => rfl
    | true =>
      have : evs i = [.C] := by cases i <;> first | rfl | cases hc
      rw [this] at hm
      simp at hm
  refine ⟨firstC_end hE hnc, ?_, ?_⟩
  · obtain ⟨h1, _, x, hx, hcx⟩ := hE
    have : p ≠ endOf code p := fun e => by have := hnc x (by rw [e]; exact hx); rw [this] at hcx; cases hcx
    omega
  · obtain ⟨_, _, x, hx, _⟩ := hE
    exact (List.getElem?_eq_some_iff.mp hx).1
theorem stop_in (h : Code ar code) (n q : Int) : stopF (evsOf 0 code) (ky "in" n q) = lastN (placesOf code ⟨.a, n⟩ [.get]) := by
  unfold stopF
  rw [if_pos rfl, lastOf_places]
  show lastN (placesE (.R n) code) = _
  rw [pR h]
theorem stop_temp (h : Code ar code) (n q : Int) : stopF (evsOf 0 code) (ky "temp" n q) = max (q + 1) (lastN (placesOf code ⟨.t, n⟩ every)) := by
  unfold stopF
  rw [if_neg s1.symm, if_pos rfl, lastOf_places]
  show max (q + 1) (lastN (placesE (.T n) code)) = _
  rw [pT h]
theorem stop_out (n : Int) (q : Int) : stopF (evsOf 0 code) (ky "out" n q) = (firstC q (evsOf 0 code)).getD (q + 1) := by
  unfold stopF
  rw [if_neg s2.symm, if_neg s3.symm]
theorem told_eq (h : Code ar code) : told code ar = ((keys ar (evsOf 0 code)).map (ent (evsOf 0 code))).filter fun q => decide (q.2.2.1 < q.2.2.2) := by
  unfold told
  rw [(runCode h).inv.found]
theorem told_mem (h : Code ar code) (q : Qd) : q ∈ told code ar ↔ q ∈ due code ar := by
  have I := (runCode h).inv
  rw [told_eq h, List.mem_filter]
  unfold due
  constructor
  · rintro ⟨hq, hlt⟩
    obtain ⟨⟨k1, n, p⟩, hk, rfl⟩ := List.mem_map.mp hq
    have hlt' : p < stopF (evsOf 0 code) (k1, n, p) := of_decide_eq_true hlt
    rcases I.kinds _ hk with e | e | e
    · obtain rfl : k1 = "in" := e
      obtain ⟨rfl, j, hj, rfl⟩ := (keys_in ar I n p).mp hk
      rw [stop_in h] at hlt'
      refine List.mem_append_left _ (List.mem_append_left _ (List.mem_flatMap.mpr ⟨j, List.mem_range.mpr hj, ?_⟩))
      show (("in" : Str), ((j + 1 : Nat) : Int), (-1 : Int), stopF (evsOf 0 code) (ky "in" ((j + 1 : Nat) : Int) (-1))) ∈ inOf code (j + 1)
      rw [stop_in h]
      unfold inOf
      cases hp : placesOf code ⟨.a, ((j + 1 : Nat) : Int)⟩ [.get] with
      | nil => rw [hp] at hlt'; exact absurd hlt' (by decide)
      | cons a r => exact .head _
    · obtain rfl : k1 = "temp" := e
      obtain ⟨e, he, rfl⟩ := (keys_temp ar n p _).mp hk
      rw [find_places] at he
      cases hp : placesE (.T n) code with
      | nil => rw [hp] at he; cases he
      | cons a r =>
        rw [hp] at he
        simp at he
        subst he
        have ha : a ∈ placesE (.T n) code := by rw [hp]; exact .head _
        obtain ⟨i, hi, hm⟩ := at_place ha
        obtain ⟨h0, h5⟩ := (ok_of h i (List.mem_of_getElem? hi)).t n hm
        obtain ⟨m, rfl⟩ : ∃ m : Nat, n = m := ⟨n.toNat, by omega⟩
        refine List.mem_append_left _ (List.mem_append_right _ (List.mem_flatMap.mpr ⟨m, List.mem_range.mpr (by omega), ?_⟩))
        show (("temp" : Str), (m : Int), (a : Int), stopF (evsOf 0 code) (ky "temp" (m : Int) (a : Int))) ∈ tempOf code m
        rw [stop_temp h]
        unfold tempOf
        rw [← pT h, hp]
        show _ ∈ [(("temp" : Str), (m : Int), (a : Int), max ((lastD a r : Nat) : Int) ((a : Int) + 1))]
        rw [show lastN (a :: r) = ((lastD a r : Nat) : Int) from rfl, Int.max_comm]
        exact .head _
    · obtain rfl : k1 = "out" := e
      obtain ⟨⟨p', ev⟩, he, h1, rfl⟩ := (keys_out ar n p _).mp hk
      obtain rfl : ev = .W n := h1
      have hp := mem_evs.mp he
      obtain ⟨i, hi, hm⟩ := at_place hp
      obtain ⟨j, hj, rfl⟩ := (ok_of h i (List.mem_of_getElem? hi)).w n hm
      refine List.mem_append_right _ (List.mem_flatMap.mpr ⟨j, List.mem_range.mpr hj, ?_⟩)
      show (("out" : Str), ((j + 1 : Nat) : Int), (p' : Int), stopF (evsOf 0 code) (ky "out" ((j + 1 : Nat) : Int) (p' : Int))) ∈ outOf code (j + 1)
      rw [stop_out, (end_of h hp).1]
      unfold outOf
      rw [← pW h]
      exact List.mem_map.mpr ⟨p', hp, rfl⟩
  · intro hq
    rcases List.mem_append.mp hq with hq | hq
    · rcases List.mem_append.mp hq with hq | hq
      · obtain ⟨j, hj, hq⟩ := List.mem_flatMap.mp hq
        rw [List.mem_range] at hj
        unfold inOf at hq
        cases hp : placesOf code ⟨.a, ((j + 1 : Nat) : Int)⟩ [.get] with
        | nil => rw [hp] at hq; cases hq
        | cons a r =>
          rw [hp] at hq
          have hq := List.mem_singleton.mp hq
          have hs := stop_in h ((j + 1 : Nat) : Int) (-1)
          rw [hp] at hs
          subst hq
          refine ⟨List.mem_map.mpr ⟨ky "in" ((j + 1 : Nat) : Int) (-1), (keys_in ar I _ _).mpr ⟨rfl, j, hj, rfl⟩, ?_⟩, ?_⟩
          · unfold ent; rw [hs]; rfl
          · have : (-1 : Int) < ((lastD a r : Nat) : Int) := by omega
            simpa using this
      · obtain ⟨m, hm, hq⟩ := List.mem_flatMap.mp hq
        unfold tempOf at hq
        cases hp : placesOf code ⟨.t, (m : Int)⟩ every with
        | nil => rw [hp] at hq; cases hq
        | cons a r =>
          rw [hp] at hq
          have hq := List.mem_singleton.mp hq
          have hs := stop_temp h (m : Int) (a : Int)
          rw [hp] at hs
          subst hq
          refine ⟨List.mem_map.mpr ⟨ky "temp" (m : Int) (a : Int), (keys_temp ar _ _ _).mpr ⟨(a, .T m), ?_, rfl⟩, ?_⟩, ?_⟩
          · rw [find_places, pT h, hp]; rfl
          · unfold ent; rw [hs, Int.max_comm]; rfl
          · have : (a : Int) < max ((lastD a r : Nat) : Int) ((a : Int) + 1) := by omega
            simpa using this
    · obtain ⟨j, hj, hq⟩ := List.mem_flatMap.mp hq
      unfold outOf at hq
      obtain ⟨p, hp, rfl⟩ := List.mem_map.mp hq
      rw [← pW h] at hp
      obtain ⟨e1, e2, _⟩ := end_of h hp
      refine ⟨List.mem_map.mpr ⟨ky "out" ((j + 1 : Nat) : Int) (p : Int), (keys_out ar _ _ _).mpr ⟨(p, .W ((j + 1 : Nat) : Int)), mem_evs.mpr hp, rfl, rfl⟩, ?_⟩, ?_⟩
      · unfold ent; rw [stop_out, e1]; rfl
      · have : (p : Int) < ((endOf code p : Nat) : Int) := by omega
        simpa using this
/-! each but once -/
theorem keys_nodup {st : IS} {E : Es} (I : Inv ar st E) : (keys ar E).Nodup := by
  refine List.nodup_iff_pairwise_ne.mpr (List.pairwise_iff_getElem.mpr fun i j hi hj hij e => ?_)
  have gi := List.getElem?_eq_getElem hi
  have gj := List.getElem?_eq_getElem hj
  rw [← e] at gj
  rcases I.kinds _ (List.getElem_mem hi) with h | h | h
  · generalize (keys ar E)[i] = k at gi gj h
    obtain ⟨k1, k2, k3⟩ := k
    obtain rfl : k1 = "in" := h
    have a := (I.inU i k2 k3 gi).2.2
    have b := (I.inU j k2 k3 gj).2.2
    omega
  · generalize (keys ar E)[i] = k at gi gj h
    obtain ⟨k1, k2, k3⟩ := k
    obtain rfl : k1 = "temp" := h
    have := I.tempU i j k2 k3 k3 gi gj
    omega
  · generalize (keys ar E)[i] = k at gi gj h
    obtain ⟨k1, k2, k3⟩ := k
    obtain rfl : k1 = "out" := h
    have := I.outU i j k2 k3 gi gj
    omega
theorem told_nodup (h : Code ar code) : (told code ar).Nodup := by
  rw [told_eq h]
  refine List.Pairwise.filter _ (List.pairwise_map.mpr ?_)
  refine (List.nodup_iff_pairwise_ne.mp (keys_nodup (runCode h).inv)).imp fun {a b} hne e => hne ?_
  unfold ent at e
  simp only [Prod.mk.injEq] at e
  obtain ⟨e1, e2, e3, _⟩ := e
  exact Prod.ext e1 (Prod.ext e2 e3)
theorem places_nodup (o : Opd) (hs : List H4) : (placesOf code o hs).Nodup := List.Pairwise.filter _ List.nodup_range
theorem in_one {n : Nat} {q : Qd} (h : q ∈ inOf code n) : q.1 = "in" ∧ q.2.1 = n := by
  unfold inOf at h
  split at h
  · cases h
  · rw [List.mem_singleton.mp h]; exact ⟨rfl, rfl⟩
theorem temp_one {n : Nat} {q : Qd} (h : q ∈ tempOf code n) : q.1 = "temp" ∧ q.2.1 = n := by
  unfold tempOf at h
  split at h
  · cases h
  · rw [List.mem_singleton.mp h]; exact ⟨rfl, rfl⟩
theorem out_one {n : Nat} {q : Qd} (h : q ∈ outOf code n) : q.1 = "out" ∧ q.2.1 = n := by
  unfold outOf at h
  obtain ⟨p, _, rfl⟩ := List.mem_map.mp h
  exact ⟨rfl, rfl⟩
theorem flat_nodup {m : Nat} {f : Nat → List Qd} {g : Nat → Int} (hg : ∀ i j, i < j → g i ≠ g j) (h1 : ∀ i, (f i).Nodup) (h2 : ∀ i q, q ∈ f i → q.2.1 = g i) : ((List.range m).flatMap f).Nodup := by
  refine List.pairwise_flatMap.mpr ⟨fun i _ => h1 i, ?_⟩
  refine (List.pairwise_lt_range).imp fun {i j} hij x hx y hy e => hg i j hij ?_
  rw [← h2 i x hx, ← h2 j y hy, e]
theorem due_nodup : (due code ar).Nodup := by
  unfold due
  have n1 : (dueIn code ar).Nodup := flat_nodup (g := fun i => ((i + 1 : Nat) : Int)) (fun i j hij => by show ((i + 1 : Nat) : Int) ≠ ((j + 1 : Nat) : Int); omega) (fun i => by unfold inOf; split <;> simp) fun i q hq => (in_one hq).2
  have n2 : (dueTemp code 5).Nodup := flat_nodup (g := fun i => ((i : Nat) : Int)) (fun i j hij => by show ((i : Nat) : Int) ≠ ((j : Nat) : Int); omega) (fun i => by unfold tempOf; split <;> simp) fun i q hq => (temp_one hq).2
  have n3 : (dueOut code 3).Nodup := flat_nodup (g := fun i => ((i + 1 : Nat) : Int)) (fun i j hij => by show ((i + 1 : Nat) : Int) ≠ ((j + 1 : Nat) : Int); omega) (fun i => by
    unfold outOf
    refine List.pairwise_map.mpr ((List.nodup_iff_pairwise_ne.mp (places_nodup _ _)).imp fun {a b} hne e => hne ?_)
    simp only [Prod.mk.injEq] at e
    omega) fun i q hq => (out_one hq).2
  have k1 : ∀ q ∈ dueIn code ar, q.1 = "in" := fun q hq => by obtain ⟨i, _, h⟩ := List.mem_flatMap.mp hq; exact (in_one h).1
  have k2 : ∀ q ∈ dueTemp code 5, q.1 = "temp" := fun q hq => by obtain ⟨i, _, h⟩ := List.mem_flatMap.mp hq; exact (temp_one h).1
  have k3 : ∀ q ∈ dueOut code 3, q.1 = "out" := fun q hq => by obtain ⟨i, _, h⟩ := List.mem_flatMap.mp hq; exact (out_one h).1
  refine List.nodup_append.mpr ⟨List.nodup_append.mpr ⟨n1, n2, fun a ha b hb e => ?_⟩, n3, fun a ha b hb e => ?_⟩
  · have h1 := k1 a ha
    rw [e, k2 b hb] at h1
    exact s1 h1.symm
  · have h3 := k3 b hb
    rcases List.mem_append.mp ha with ha | ha
    · have h1 := k1 a ha
      rw [e, h3] at h1
      exact s2 h1.symm
    · have h2 := k2 a ha
      rw [e, h3] at h2
      exact s3 h2.symm
theorem told_perm (h : Code ar code) : (told code ar).Perm (due code ar) := (List.perm_ext_iff_of_nodup (told_nodup h) due_nodup).mpr (told_mem h)
end
end Pl
end

section
set_option linter.unusedSimpArgs false
namespace Pl
/-! the order of the starts -/
theorem evsOf_ge : ∀ (l : List Ins) (p : Nat), ∀ e ∈ evsOf p l, p ≤ e.1
  | [], _, e, h => by cases h
  | i :: l, p, e, h => by
    rcases List.mem_append.mp (show e ∈ (evs i).map (fun e => (p, e)) ++ evsOf (p + 1) l from h) with h | h
    · obtain ⟨x, _, rfl⟩ := List.mem_map.mp h; exact Nat.le_refl _
    · have := evsOf_ge l (p + 1) e h; omega
theorem evsOf_ord : ∀ (l : List Ins) (p : Nat), (evsOf p l).Pairwise fun a b => a.1 ≤ b.1
  | [], _ => .nil
  | i :: l, p => by
    refine List.pairwise_append.mpr ⟨List.pairwise_map.mpr ?_, evsOf_ord l (p + 1), fun a ha b hb => ?_⟩
    · exact List.pairwise_of_forall (fun _ _ => Nat.le_refl _)
    · obtain ⟨x, _, rfl⟩ := List.mem_map.mp ha
      have := evsOf_ge l (p + 1) b hb
      show p ≤ b.1
      omega
theorem newKeys_start {acc : List Key} {e : Nat × Evt} {k : Key} (h : k ∈ newKeys acc e) : k.2.2 = (e.1 : Int) := by
  unfold newKeys at h
  split at h
  · split at h
    · cases h
    · rw [List.mem_singleton.mp h]
  · rw [List.mem_singleton.mp h]
  · cases h
theorem newKeys_len {acc : List Key} {e : Nat × Evt} : (newKeys acc e).length ≤ 1 := by
  unfold newKeys
  split
  · split <;> simp
  · simp
  · simp
theorem keys_ord (ar : Nat) : ∀ (n : Nat) (E : Es), E.length = n → E.Pairwise (fun a b => a.1 ≤ b.1) → (keys ar E).Pairwise (fun a b => a.2.2 ≤ b.2.2) ∧ ∀ k ∈ keys ar E, k.2.2 = -1 ∨ ∃ e ∈ E, k.2.2 = (e.1 : Int) := fun n => by
  induction n with
  | zero =>
    intro E hE _
    rw [List.eq_nil_of_length_eq_zero hE]
    have hk : keys ar [] = (List.range ar).map fun (i : Nat) => ky "in" ((i + 1 : Nat) : Int) (-1) := rfl
    rw [hk]
    exact ⟨List.pairwise_map.mpr (List.pairwise_of_forall fun _ _ => Int.le_refl _), fun k h => by obtain ⟨i, _, rfl⟩ := List.mem_map.mp h; exact .inl rfl⟩
  | succ n ih =>
    intro E hE hp
    have hne : E ≠ [] := fun e => by rw [e] at hE; cases hE
    have hE' := (List.dropLast_concat_getLast hne).symm
    generalize E.dropLast = E0 at hE'
    generalize E.getLast hne = e at hE'
    subst hE'
    obtain ⟨p0, _, p1⟩ := List.pairwise_append.mp hp
    obtain ⟨h1, h2⟩ := ih E0 (by simpa using hE) p0
    rw [keys_snoc]
    refine ⟨List.pairwise_append.mpr ⟨h1, ?_, fun a ha b hb => ?_⟩, fun k hk => ?_⟩
    · have := newKeys_len (acc := keys ar E0) (e := e)
      match hh : newKeys (keys ar E0) e, this with
      | [], _ => exact .nil
      | [_], _ => exact List.pairwise_singleton _ _
      | _ :: _ :: _, h => simp at h
    · rw [newKeys_start hb]
      rcases h2 a ha with h | ⟨x, hx, h⟩
      · rw [h]; omega
      · rw [h]; have := p1 x hx e (.head _); omega
    · rcases List.mem_append.mp hk with hk | hk
      · rcases h2 k hk with h | ⟨x, hx, h⟩
        · exact .inl h
        · exact .inr ⟨x, List.mem_append_left _ hx, h⟩
      · exact .inr ⟨e, List.mem_append_right _ (.head _), newKeys_start hk⟩
section
variable {ar : Nat} {code : List Ins}
theorem told_ord (h : Code ar code) : (told code ar).Pairwise fun a b => a.2.2.1 ≤ b.2.2.1 := by
  rw [told_eq h]
  exact List.Pairwise.filter _ (List.pairwise_map.mpr (keys_ord ar _ _ rfl (evsOf_ord code 0)).1)
theorem told_lasts (code : List Ins) (ar : Nat) : ∀ q ∈ told code ar, q.2.2.1 < q.2.2.2 := fun q hq => by
  unfold told at hq
  exact of_decide_eq_true (List.mem_filter.mp hq).2
/-! how many -/
noncomputable def tw : Evt → Bool
  | .T _ => true
  | .W _ => true
  | _ => false
noncomputable def cnt (l : List Ins) : Nat := (l.map fun i => (evs i).countP tw).sum
theorem cnt_append (a b : List Ins) : cnt (a ++ b) = cnt a + cnt b := by unfold cnt; rw [List.map_append, List.sum_append]
theorem keys_len (ar : Nat) : ∀ (n : Nat) (E : Es), E.length = n → (keys ar E).length ≤ ar + E.countP fun e => tw e.2 := fun n => by
  induction n with
  | zero =>
    intro E hE
    rw [List.eq_nil_of_length_eq_zero hE]
    show ((List.range ar).map _).length ≤ _
    simp
  | succ n ih =>
    intro E hE
    have hne : E ≠ [] := fun e => by rw [e] at hE; cases hE
    have hE' := (List.dropLast_concat_getLast hne).symm
    generalize E.dropLast = E0 at hE'
    generalize E.getLast hne = e at hE'
    subst hE'
    have := ih E0 (by simpa using hE)
    rw [keys_snoc, List.length_append, List.countP_append]
    have : (newKeys (keys ar E0) e).length ≤ [e].countP fun e => tw e.2 := by
      obtain ⟨p, ev⟩ := e
      unfold newKeys
      cases ev with
      | T n => dsimp only; split <;> simp [tw]
      | R n => simp
      | W n => simp [tw]
      | C => simp
    omega
theorem evsOf_cnt : ∀ (l : List Ins) (p : Nat), (evsOf p l).countP (fun e => tw e.2) = cnt l
  | [], _ => rfl
  | i :: l, p => by
    show ((evs i).map (fun e => (p, e)) ++ evsOf (p + 1) l).countP _ = _
    rw [List.countP_append, evsOf_cnt l, List.countP_map]
    show _ = ((evs i).countP tw + (l.map fun i => (evs i).countP tw).sum)
    rfl
theorem told_len (h : Code ar code) : (told code ar).length ≤ ar + cnt code := by
  rw [told_eq h]
  refine Nat.le_trans (List.length_filter_le _ _) ?_
  rw [List.length_map, ← evsOf_cnt code 0]
  exact keys_len ar _ _ rfl
theorem cnt_head {i : Nat} {js : List Ins} (h : HeadOf i js) : cnt js ≤ 2 := by
  cases h <;> simp [cnt, evs, tev, tw] <;> exact Nat.le_of_ble_eq_true rfl
theorem cnt_heads {m : Nat} {hs : List Ins} (h : Heads m hs) : cnt hs ≤ 2 * m := by
  induction h with
  | nil => simp [cnt]
  | snoc a b ih => rw [cnt_append]; have := cnt_head b; omega
theorem cnt_put {i : Nat} {js : List Ins} (h : PutOf i js) : cnt js ≤ 3 := by
  cases h <;> simp [cnt, evs, tev, tw] <;> exact Nat.le_of_ble_eq_true rfl
theorem cnt_puts {m : Nat} {hs : List Ins} (h : Puts m hs) : cnt hs ≤ 3 * m := by
  induction h with
  | nil => simp [cnt]
  | snoc a b ih => rw [cnt_append]; have := cnt_put b; omega
theorem cnt_call : cnt [Ins.call] = 0 := rfl
/-! bounds -/
theorem lastD_mem : ∀ (a : Nat) (r : List Nat), lastD a r ∈ a :: r
  | a, [] => .head _
  | a, b :: r => .tail _ (lastD_mem b r)
theorem due_bounds (h : Code ar code) : ∀ q ∈ due code ar, -1 ≤ q.2.2.1 ∧ q.2.2.2 ≤ (code.length : Int) := fun q hq => by
  unfold due at hq
  rcases List.mem_append.mp hq with hq | hq
  · rcases List.mem_append.mp hq with hq | hq
    · obtain ⟨j, hj, hq⟩ := List.mem_flatMap.mp hq
      unfold inOf at hq
      split at hq
      · cases hq
      · rename_i a r hp
        rw [List.mem_singleton.mp hq]
        have := places_lt (code := code) (o := ⟨.a, ((j + 1 : Nat) : Int)⟩) (hs := [.get]) (p := lastD a r) (by rw [hp]; exact lastD_mem a r)
        exact ⟨by show (-1 : Int) ≤ -1; omega, by show ((lastD a r : Nat) : Int) ≤ _; omega⟩
    · obtain ⟨m, hm, hq⟩ := List.mem_flatMap.mp hq
      unfold tempOf at hq
      split at hq
      · cases hq
      · rename_i a r hp
        rw [List.mem_singleton.mp hq]
        have h1 := places_lt (code := code) (o := ⟨.t, (m : Int)⟩) (hs := every) (p := lastD a r) (by rw [hp]; exact lastD_mem a r)
        have h2 := places_lt (code := code) (o := ⟨.t, (m : Int)⟩) (hs := every) (p := a) (by rw [hp]; exact .head _)
        exact ⟨by show (-1 : Int) ≤ (a : Int); omega, by show max ((lastD a r : Nat) : Int) ((a : Int) + 1) ≤ _; omega⟩
  · obtain ⟨j, hj, hq⟩ := List.mem_flatMap.mp hq
    unfold outOf at hq
    obtain ⟨p, hp, rfl⟩ := List.mem_map.mp hq
    rw [← pW h] at hp
    have := (end_of h hp).2.2
    exact ⟨by show (-1 : Int) ≤ (p : Int); omega, by show ((endOf code p : Nat) : Int) ≤ _; omega⟩
/-! what the walks ask -/
theorem copies_of (h : Code ar code) : ∀ i ∈ code, Copies i := fun i hi => by
  have := (ok_of h i hi).fam
  cases i <;> first | exact this | exact trivial
theorem role_read {x : Ins} (h : Fam x) {r : Int × Opd} (hr : r ∈ roles x) (ha : r.2.l = .a) (h2 : r.1 ≠ 2) : Evt.R r.2.n ∈ evs x := by
  have hn : ∀ {o : Opd}, o.l = .t ∨ o.l = .y → o.l ≠ .a := fun {o} h1 e => by rcases h1 with h1 | h1 <;> rw [e] at h1 <;> cases h1
  cases x <;> simp only [roles, List.mem_cons, List.not_mem_nil, or_false] at hr <;> (try rcases hr with rfl | rfl) <;> (try subst hr)
  all_goals first
    | exact absurd rfl h2
    | exact absurd ha (hn h.2)
    | (exfalso; have h1 : _ = Ltr.t := h; rw [ha] at h1; cases h1)
    | simp [evs]
theorem reads_puts {m : Nat} {ps : List Ins} (h : Puts m ps) : ∀ i ∈ ps, ∀ n, Evt.R n ∉ evs i := by
  induction h with
  | nil => intro i hi; cases hi
  | snoc a b ih =>
    intro i hi n hn
    rcases List.mem_append.mp hi with hi | hi
    · exact ih i hi n hn
    · cases b with
      | putVal h1 h2 => rw [List.mem_singleton.mp hi] at hn; simp [evs, tev] at hn
      | putVar h1 h2 => rw [List.mem_singleton.mp hi] at hn; simp [evs, tev] at hn
      | putConst => rw [List.mem_singleton.mp hi] at hn; simp [evs] at hn
      | slot => rw [List.mem_singleton.mp hi] at hn; simp [evs, tev] at hn
      | putStruct h1 h2 h3 h4 =>
        simp only [List.mem_cons, List.not_mem_nil, or_false] at hi
        rcases hi with rfl | rfl | rfl <;> simp [evs] at hn
      | putVoid => rw [List.mem_singleton.mp hi] at hn; simp [evs] at hn
theorem reads_segs {l : List Ins} (h : Segs l) : ∀ i ∈ l, ∀ n, Evt.R n ∉ evs i := by
  induction h with
  | nil => intro i hi; cases hi
  | snoc a b hm ih =>
    intro i hi n hn
    rcases List.mem_append.mp hi with hi | hi
    · rcases List.mem_append.mp hi with hi | hi
      · exact ih i hi n hn
      · exact reads_puts b i hi n hn
    · rw [List.mem_singleton.mp hi] at hn; simp [evs] at hn
theorem reads_heads {m : Nat} {hs : List Ins} (h : Heads m hs) : ∀ i ∈ hs, ∀ n, Evt.R n ∈ evs i → ∃ j, j < m ∧ n = ((j + 1 : Nat) : Int) := by
  induction h with
  | nil => intro i hi; cases hi
  | @snoc k is js a b ih =>
    intro i hi n hn
    rcases List.mem_append.mp hi with hi | hi
    · obtain ⟨j, h1, h2⟩ := ih i hi n hn; exact ⟨j, by omega, h2⟩
    · exact ⟨k, by omega, (head_ok b i hi).2.2.1 n hn⟩
theorem reads_of (h : Code ar code) : ∀ i ∈ code, Reads1 ar i := fun i hi r hr ha h2 => by
  have hR := role_read (ok_of h i hi).fam hr ha h2
  obtain ⟨hs, sg, rfl, g1, g2⟩ := h.made
  rcases List.mem_append.mp hi with hi | hi
  · exact reads_heads g1 i hi _ hR
  · exact absurd hR (reads_segs g2 i hi _)
/-! two that overlap -/
noncomputable def meetF (q : Qd) (d : D) : Bool := match d with
  | .int p => decide (q.2.2.1 < p) && decide (p ≤ q.2.2.2)
  | _ => false
theorem meets_iff {q r : Qd} (h1 : q.2.2.1 < q.2.2.2) (h2 : r.2.2.1 < r.2.2.2) : ((rngDs (q.2.2.1 + 1) (q.2.2.2 + 1)).filter (meetF r)).isEmpty = !(decide (q.2.2.1 < r.2.2.2) && decide (r.2.2.1 < q.2.2.2)) := by
  generalize q.2.2.1 = s at *
  generalize q.2.2.2 = e at *
  generalize hs' : r.2.2.1 = s' at *
  generalize he' : r.2.2.2 = e' at *
  by_cases hov : s < e' ∧ s' < e
  · have : (decide (s < e') && decide (s' < e)) = true := by simp [hov]
    rw [this]
    have hm : D.int (max s s' + 1) ∈ (rngDs (s + 1) (e + 1)).filter (meetF r) := by
      refine List.mem_filter.mpr ⟨List.mem_map.mpr ⟨(max s s' - s).toNat, List.mem_range.mpr (by omega), ?_⟩, ?_⟩
      · congr 1; omega
      · show (decide (r.2.2.1 < max s s' + 1) && decide (max s s' + 1 ≤ r.2.2.2)) = true
        rw [hs', he']
        rw [decide_eq_true (by omega), decide_eq_true (by omega)]; rfl
    cases hl : (rngDs (s + 1) (e + 1)).filter (meetF r) with
    | nil => rw [hl] at hm; cases hm
    | cons a l => rfl
  · have : (decide (s < e') && decide (s' < e)) = false := by
      by_cases h : s < e'
      · have : ¬ s' < e := fun x => hov ⟨h, x⟩
        simp [this]
      · simp [h]
    rw [this]
    have : (rngDs (s + 1) (e + 1)).filter (meetF r) = [] := by
      refine List.filter_eq_nil_iff.mpr fun d hd => ?_
      obtain ⟨i, hi, rfl⟩ := List.mem_map.mp hd
      rw [List.mem_range] at hi
      show ¬ (decide (r.2.2.1 < s + 1 + (i : Int)) && decide (s + 1 + (i : Int) ≤ r.2.2.2)) = true
      rw [hs', he']
      intro hh
      simp only [Bool.and_eq_true, decide_eq_true_eq] at hh
      omega
    rw [this]; rfl
/-! registers -/
theorem gstep_max (m : Int) (o : Opd) : gstep m o = if o.l = .x then max m o.n else m := by
  unfold gstep
  by_cases h : o.l = .x
  · by_cases h2 : m < o.n
    · rw [if_pos ⟨h, h2⟩, if_pos h]; omega
    · rw [if_neg (fun x => h2 x.2), if_pos h]; omega
  · rw [if_neg (fun x => h x.1), if_neg h]
theorem roles_els (m : Int) (i : Ins) : ((roles i).map (·.2)).foldl gstep m = (els i).foldl estep m := by
  have comm : ∀ (o s : Opd), gstep (gstep m s) o = gstep (gstep m o) s := fun o s => by
    simp only [gstep_max]
    by_cases h1 : o.l = .x <;> by_cases h2 : s.l = .x <;> simp only [h1, h2, if_true, if_false, reduceCtorEq] <;> omega
  have e : ∀ (m : Int) (o : Opd), estep m (.op o) = gstep m o := fun m o => (gstep_max m o).symm
  cases i with
  | getVar o s => show gstep (gstep m s) o = estep (estep m (.op o)) (.op s); rw [e, e, comm]
  | getVal o s => show gstep (gstep m o) s = estep (estep m (.op o)) (.op s); rw [e, e]
  | putVal o s => show gstep (gstep m o) s = estep (estep m (.op o)) (.op s); rw [e, e]
  | putVar o s => show gstep (gstep m o) s = estep (estep m (.op o)) (.op s); rw [e, e]
  | putUns o s => show gstep (gstep m o) s = estep (estep m (.op o)) (.op s); rw [e, e]
  | getConst s => show gstep m s = estep m (.op s); rw [e]
  | getList s => show gstep m s = estep m (.op s); rw [e]
  | unifVar o => show gstep m o = estep m (.op o); rw [e]
  | unifLoc o => show gstep m o = estep m (.op o); rw [e]
  | putConst s => show gstep m s = estep m (.op s); rw [e]
  | putStruct s => show gstep m s = estep m (.op s); rw [e]
  | setVal o => show gstep m o = estep m (.op o); rw [e]
  | setVar o => show gstep m o = estep m (.op o); rw [e]
  | putVoid s => show gstep m s = estep m (.op s); rw [e]
  | call => rfl
theorem greatest_most (code : List Ins) : greatestP code = mostP code := by
  unfold greatestP mostP
  congr 1
  funext m i
  exact roles_els m i
theorem idle_keeps {sh : Int} (h : ∀ i ∈ code, Fam i) : (code.map (realI sh)).filter (fun i => !idle i) = (code.map (realI sh)).filter keeps := by
  refine List.filter_congr fun i hi => ?_
  obtain ⟨x, hx, rfl⟩ := List.mem_map.mp hi
  have hf := h x hx
  have hs : ∀ {s : Opd}, s.l = .a → (realO sh s).l = .x := fun {s} h => by unfold realO; rw [h]
  have two : ∀ (o s : Opd), s.l = .x → (!(decide (o.l = .x) && decide (o = s))) = decide (o ≠ s) := fun o s hs => by
    by_cases he : o = s
    · subst he; simp [hs]
    · simp [he]
  cases x with
  | getVar o s => exact two _ _ (hs hf.1)
  | putVal o s => exact two _ _ (hs hf.1)
  | _ => rfl
end
end Pl
end

section
set_option maxHeartbeats 1000000
variable {c : Cx} {F : Fn} {k : Nat} {ρ : Rho} {σ : Sg}
theorem due_ok {code : List Ins} {ar : Nat} : ∀ q ∈ due code ar, okD 8 (qdD q) = true := fun q hq => by
  have hk : q.1 = "in" ∨ q.1 = "temp" ∨ q.1 = "out" := by
    unfold due at hq
    rcases List.mem_append.mp hq with hq | hq
    · rcases List.mem_append.mp hq with hq | hq
      · obtain ⟨i, _, h⟩ := List.mem_flatMap.mp hq; exact .inl (Pl.in_one h).1
      · obtain ⟨i, _, h⟩ := List.mem_flatMap.mp hq; exact .inr (.inl (Pl.temp_one h).1)
    · obtain ⟨i, _, h⟩ := List.mem_flatMap.mp hq; exact .inr (.inr (Pl.out_one h).1)
  have hs : PyData.strOk q.1 = true := by rcases hk with h | h | h <;> rw [h] <;> decide +kernel
  refine okD_tup fun d hd => ?_
  simp only [List.mem_cons, List.not_mem_nil, or_false] at hd
  rcases hd with rfl | rfl | rfl | rfl
  · exact okD_str hs
  · exact okD_int
  · exact okD_int
  · exact okD_int
theorem sorted_eq {l1 l2 : List Qd} (h : l1.Perm l2) (h1 : l1.Pairwise qdLe) (h2 : l2.Pairwise qdLe) : l1 = l2 :=
  List.Perm.eq_of_pairwise (fun a b _ _ x y => qdK_inj (KeyOrd.kle_antisymm x y)) h1 h2 h
theorem deql_nil' (l : List D) : deql l [] = l.isEmpty := by
  have := deql_nil (f := fun d : D => d) l
  rwa [List.map_id'] at this
theorem ok_livesRight (T : Tp c) {cd : Addr} {code : List Ins} {ar : Nat} {Q : D → Sg → Prop} (ec : σ cd = some (.lst (code.map insD))) (hz : code.length ≤ 100) (ha : ar ≤ 4) (hC : Pl.Code ar code) (hcnt : Pl.cnt code ≤ 50)
    (q : ∀ σ', Ext σ σ' → Q (.bool true) σ') : Cd c (k + 4) σ (.ref 125) [.raw (.ref cd), .int ar] Q := by
  refine Cd.fnC T.wd (is125 T) rfl ?_
  conv => arg 6; whnf
  have hperm := Pl.told_perm hC
  have hord := Pl.told_ord hC
  have hlast := Pl.told_lasts code ar
  have htl : (told code ar).length < 64 := by have := Pl.told_len hC; omega
  have hdl : (due code ar).length < 64 := by rw [← hperm.length_eq]; exact htl
  have hbd : ∀ q ∈ told code ar, -1 ≤ q.2.2.1 ∧ q.2.2.2 ≤ 100 := fun q hq => by have := Pl.due_bounds hC q ((Pl.told_mem hC q).mp hq); omega
  refine Exs.cons <| Ex.assign <| Ev.fcall <| Ev.glob (gl61 T) (fun _ => .raw _) ⟨_, rfl, kp61 T, Evs.cons <| Ev.loc rfl <| Evs.cons <| Ev.loc rfl <| Evs.nil <| Cl.of_code <| ok_intervals T ec hz ha (Pl.reads_of hC) fun tl bs σ1 E1 etl hbl hbs => ?_⟩
  -- the occupations, with their addresses
  have hZ1 : (bs.zip (told code ar)).map (fun z => D.inst z.1) = bs.map D.inst := by
    rw [show (fun z : Addr × Qd => D.inst z.1) = D.inst ∘ Prod.fst from rfl, ← List.map_map, List.map_fst_zip (by omega)]
  have hZ2 : (bs.zip (told code ar)).map (fun z => z.2) = told code ar := List.map_snd_zip (by omega)
  have hZ3 : ∀ z ∈ bs.zip (told code ar), σ1 z.1 = some (.fld (occF z.2)) ∧ z.2 ∈ told code ar := fun z hz => by
    obtain ⟨i, hi, rfl⟩ := List.getElem_of_mem hz
    rw [List.length_zip] at hi
    rw [List.getElem_zip]
    exact ⟨hbs i _ _ (List.getElem?_eq_getElem (by omega)) (List.getElem?_eq_getElem (by omega)), List.getElem_mem _⟩
  rw [← hZ1] at etl
  have hZl : (bs.zip (told code ar)).length = (told code ar).length := by rw [List.length_zip]; omega
  generalize bs.zip (told code ar) = Z at etl hZ2 hZ3 hZl
  clear hZ1 hbs hbl
  refine Exs.cons <| Ex.ite <| Tr.cmp <| Ev.fcall <| Ev.blt (bi_sorted T) ⟨_, rfl, .inr (.inl ⟨_, rfl⟩), ?_⟩
  refine Evs.cons <| Ev.comp (ck := []) (Caught.of (fun L => rfl) (by decide) (by decide) rfl (by decide) (by decide)) rfl rfl <| Ev.loc rfl ⟨_, _, itb_list etl, ?_⟩
  refine compW_map (enc := fun z : Addr × Qd => D.inst z.1) (fun _ => true) (fun z => qdD z.2) etl Z [] (by simp; omega) (fun z hz => ⟨rfl, rfl⟩) (fun z hz _ => ?_) ?_
  · obtain ⟨e, _⟩ := hZ3 z hz
    exact Ev.tup <| Evs.cons <| Ev.attr (kf T) (by decide) <| Ev.loc rfl ⟨z.1, _, _, rfl, e, rfl, hi_str _, Evs.cons <| Ev.attr (kf T) (by decide) <| Ev.loc rfl ⟨z.1, _, _, rfl, e, rfl, hi_int _, Evs.cons <| Ev.attr (kf T) (by decide) <| Ev.loc rfl ⟨z.1, _, _, rfl, e, rfl, hi_int _,
      Evs.cons <| Ev.attr (kf T) (by decide) <| Ev.loc rfl ⟨z.1, _, _, rfl, e, rfl, hi_int _, Evs.nil ⟨few rfl, rfl, rfl⟩⟩⟩⟩⟩
  intro sl hsl
  have hlst : [] ++ (Z.filter fun _ => true).map (fun z => qdD z.2) = (told code ar).map qdD := by
    rw [List.nil_append, List.filter_eq_self.mpr (fun _ _ => rfl), ← hZ2, List.map_map]; rfl
  rw [hlst]
  refine Evs.nil <| cl_sorted upd_same htl fun n1 qs1 hn1 hp1 hs1 => ?_
  have E2 : Ext σ1 (upd (upd σ1 sl (.lst ((told code ar).map qdD))) n1 (.lst (qs1.map qdD))) := ((Ext.refl σ1).new hsl).new hn1
  have e1 := upd_same (σ := upd σ1 sl (.lst ((told code ar).map qdD))) (a := n1) (O := .lst (qs1.map qdD))
  generalize upd (upd σ1 sl (.lst ((told code ar).map qdD))) n1 (.lst (qs1.map qdD)) = σ2 at E2 e1
  refine Ev.fcall <| Ev.glob (gl120 T) (fun _ => .raw _) ⟨_, rfl, kp120 T, Evs.cons <| Ev.loc rfl <| Evs.cons <| Ev.loc rfl <| Evs.nil <| Cl.of_code <| ok_due T (E2 _ _ (E1 _ _ ec)) hz hC.ends ha hdl fun n2 qs2 σ3 E3 e2 hp2 hs2 => ?_⟩
  have hqq : qs1 = qs2 := sorted_eq ((hp1.trans hperm).trans hp2.symm) hs1 hs2
  have hok : ∀ d ∈ qs2.map qdD, okD 8 d = true := fun d hd => by
    obtain ⟨x, hx, rfl⟩ := List.mem_map.mp hd
    exact due_ok x (hp2.mem_iff.mp hx)
  subst hqq
  refine nel_ok (E3 _ _ e1) e2 hok hok ⟨_, rfl, ?_⟩
  rw [deql_iff.mpr rfl]
  refine iteF Bool.false_ne_true <| Exs.nil ?_
  -- from here on all that counts stands
  have E : Ext σ1 σ3 := E2.trans E3
  have etl3 := E _ _ etl
  have hZ : ∀ σ', Ext σ1 σ' → ∀ z ∈ Z, σ' z.1 = some (.fld (occF z.2)) := fun σ' h z hz => h _ _ (hZ3 z hz).1
  refine Exs.cons <| Ex.forIn <| Ev.fcall <| Ev.blt (bi_range T) ⟨_, rfl, .inr (.inr ⟨_, rfl⟩), Evs.cons <| Ev.cint <| Evs.cons <| Ev.fcall <| Ev.blt (bi_len T) ⟨_, rfl, .inr (.inl ⟨_, rfl⟩), Evs.cons <| Ev.loc rfl <| Evs.nil <| cl_len etl3 (by rw [List.length_map]; omega) <| Evs.nil <| cl_range2 ⟨_, _, itb_rng (by omega) (by omega) (by omega) (by rw [List.length_map]; omega), ?_⟩⟩⟩
  refine LoopW.inv _ (fun i ρ σ' => σ' = σ3 ∧ ρ "told" = some (.raw (.ref tl))) ?_ ?_ ⟨rfl, rfl⟩
  · rintro i hi ρ σ' ⟨rfl, h1⟩
    rw [rngDs_length, List.length_map] at hi
    rw [rngDs_get]
    have hi1 : i < Z.length := by omega
    have hi2 : i + 1 < Z.length := by omega
    have g1 : (Z.map fun z => D.inst z.1)[(1 + (i : Int) - 1).toNat]? = some (D.inst Z[i].1) := by rw [show (1 + (i : Int) - 1).toNat = i by omega, List.getElem?_map, List.getElem?_eq_getElem hi1]; rfl
    have g2 : (Z.map fun z => D.inst z.1)[(1 + (i : Int)).toNat]? = some (D.inst Z[i + 1].1) := by rw [show (1 + (i : Int)).toNat = i + 1 by omega, List.getElem?_map, List.getElem?_eq_getElem hi2]; rfl
    have e1 := hZ σ' E _ (List.getElem_mem hi1)
    have e2 := hZ σ' E _ (List.getElem_mem hi2)
    have hle : (Z[i]).2.2.2.1 ≤ (Z[i + 1]).2.2.2.1 := by
      have pw := List.pairwise_iff_getElem.mp hord i (i + 1) (by rw [← hZl]; exact hi1) (by rw [← hZl]; exact hi2) (Nat.lt_succ_self i)
      have f : ∀ j (hj : j < Z.length), (told code ar)[j]'(by rw [← hZl]; exact hj) = (Z[j]).2 := fun j hj => by
        have : (told code ar)[j]? = some (Z[j]).2 := by rw [← hZ2, List.getElem?_map, List.getElem?_eq_getElem hj]; rfl
        rw [List.getElem?_eq_getElem (by rw [← hZl]; exact hj)] at this
        exact Option.some.inj this
      rw [f i hi1, f (i + 1) hi2] at pw
      exact pw
    refine As.name ?_
    refine Exs.cons <| Ex.ite <| Tr.cmp <| Ev.attr (kf T) (by decide) <| Ev.sub <| Ev.loc h1 <| Ev.binop <| Ev.loc rfl <| Ev.cint <| sub_ok <| sub_lst etl3 (by omega) (by omega) g1 ⟨_, _, _, rfl, e1, rfl, hi_int _, ?_⟩
    refine Ev.attr (kf T) (by decide) <| Ev.sub <| Ev.loc h1 <| Ev.loc rfl <| sub_lst etl3 (by omega) (by omega) g2 ⟨_, _, _, rfl, e2, rfl, hi_int _, gt_ok ⟨_, rfl, ?_⟩⟩
    rw [decide_eq_false (by omega)]
    exact iteF Bool.false_ne_true <| Exs.nil <| Exs.nil ⟨trivial, rfl, h1⟩
  rintro ρ σ' ⟨rfl, h1⟩
  refine Exs.cons <| Ex.forIn <| Ev.loc h1 ⟨_, _, itb_list etl3, ?_⟩
  refine LoopW.inv _ (fun i ρ σ'' => Ext σ' σ'' ∧ ρ "told" = some (.raw (.ref tl))) ?_ ?_ ⟨Ext.refl _, h1⟩
  · clear h1
    rintro i hi ρ σ4 ⟨E4, h1⟩
    rw [List.length_map] at hi
    rw [List.getElem_map]
    have hm1 : Z[i] ∈ Z := List.getElem_mem hi
    generalize Z[i] = z at hm1
    obtain ⟨a, qa⟩ := z
    refine As.name ?_
    refine Exs.cons <| Ex.forIn <| Ev.loc h1 ⟨_, _, itb_list (E4 _ _ etl3), ?_⟩
    refine LoopW.inv _ (fun j ρ σ'' => Ext σ' σ'' ∧ ρ "told" = some (.raw (.ref tl)) ∧ ρ "one" = some (.inst a)) ?_ ?_ ⟨E4, h1, rfl⟩
    · clear h1 E4
      rintro j hj ρ σ5 ⟨E5, h1, h2⟩
      rw [List.length_map] at hj
      rw [List.getElem_map]
      have hm2 : Z[j] ∈ Z := List.getElem_mem hj
      generalize Z[j] = w at hm2
      obtain ⟨b, qb⟩ := w
      have ea : σ5 a = some (.fld (occF qa)) := hZ σ5 (E.trans E5) _ hm1
      have eb : σ5 b = some (.fld (occF qb)) := hZ σ5 (E.trans E5) _ hm2
      have ba := hbd qa (hZ3 _ hm1).2
      have la := hlast qa (hZ3 _ hm1).2
      have lb := hlast qb (hZ3 _ hm2).2
      refine As.name ?_
      refine Exs.cons <| Ex.assignComp (ck := ["two"]) (Caught.of (fun L => ?_) (by decide) (by decide) rfl (by decide) (by decide)) rfl rfl ?_
      · obtain ⟨l, ca, hlen, fn, frm⟩ := L
        match ca, hlen with
        | [_], _ => rfl
      refine Ev.fcall <| Ev.blt (bi_range T) ⟨_, rfl, .inr (.inr ⟨_, rfl⟩), Evs.cons <| Ev.binop <| Ev.attr (kf T) (by decide) <| Ev.loc h2 ⟨a, _, _, rfl, ea, rfl, hi_int _, Ev.cint <| add_ok <| Evs.cons <| Ev.binop <| Ev.attr (kf T) (by decide) <| Ev.loc h2 ⟨a, _, _, rfl, ea, rfl, hi_int _, Ev.cint <| add_ok <| Evs.nil <| cl_range2 ⟨_, _, itb_rng (by omega) (by omega) (by omega) (by omega), ?_⟩⟩⟩⟩
      refine compW_pure (Pl.meetF qb) (fun d => d) trivial _ [] (by rw [rngDs_length]; simp; omega) (fun d hd => ?_) (fun d hd hf => Ev.loc rfl ⟨rfl, rfl⟩) ?_
      · obtain ⟨x, _, rfl⟩ := List.mem_map.mp hd
        refine Tr.and <| TrAnd.cons <| Tr.cmp <| Ev.attr (kf T) (by decide) <| Ev.cell rfl ⟨b, _, _, rfl, eb, rfl, hi_int _, Ev.loc rfl <| lt_ok ⟨_, rfl, ?_⟩⟩
        show if decide (qb.2.2.1 < _) = true then _ else _
        by_cases hlt : qb.2.2.1 < qa.2.2.1 + 1 + (x : Int)
        · have : Pl.meetF qb (.int (qa.2.2.1 + 1 + (x : Int))) = decide (qa.2.2.1 + 1 + (x : Int) ≤ qb.2.2.2) := by
            show (decide (qb.2.2.1 < qa.2.2.1 + 1 + (x : Int)) && decide (qa.2.2.1 + 1 + (x : Int) ≤ qb.2.2.2)) = _
            rw [decide_eq_true hlt, Bool.true_and]
          rw [decide_eq_true hlt, this]
          refine iteT rfl <| TrAnd.cons <| Tr.cmp <| Ev.loc rfl <| Ev.attr (kf T) (by decide) <| Ev.cell rfl ⟨b, _, _, rfl, eb, rfl, hi_int _, le_ok ⟨_, rfl, ?_⟩⟩
          show if decide (_ ≤ qb.2.2.2) = true then _ else _
          by_cases hle : qa.2.2.1 + 1 + (x : Int) ≤ qb.2.2.2
          · rw [decide_eq_true hle]; exact iteT rfl <| TrAnd.nil ⟨rfl, rfl⟩
          · rw [decide_eq_false hle]; exact iteF Bool.false_ne_true ⟨rfl, rfl⟩
        · have : Pl.meetF qb (.int (qa.2.2.1 + 1 + (x : Int))) = false := by
            show (decide (qb.2.2.1 < qa.2.2.1 + 1 + (x : Int)) && _) = _
            rw [decide_eq_false hlt, Bool.false_and]
          rw [decide_eq_false hlt, this]
          exact iteF Bool.false_ne_true ⟨rfl, rfl⟩
      · intro ml hml
        rw [List.nil_append, List.map_id']
        have hiff := Pl.meets_iff la lb
        have hlen : ((rngDs (qa.2.2.1 + 1) (qa.2.2.2 + 1)).filter (Pl.meetF qb)).length ≤ 1000 := by
          have := List.length_filter_le (Pl.meetF qb) (rngDs (qa.2.2.1 + 1) (qa.2.2.2 + 1))
          rw [rngDs_length] at this
          omega
        have hokm : ∀ d ∈ (rngDs (qa.2.2.1 + 1) (qa.2.2.2 + 1)).filter (Pl.meetF qb), okD 8 d = true := fun d hd => by
          obtain ⟨x, _, rfl⟩ := List.mem_map.mp (List.mem_filter.mp hd).1
          exact okD_int
        have ea' := upd_new (O := .lst ((rngDs (qa.2.2.1 + 1) (qa.2.2.2 + 1)).filter (Pl.meetF qb))) hml ea
        have eb' := upd_new (O := .lst ((rngDs (qa.2.2.1 + 1) (qa.2.2.2 + 1)).filter (Pl.meetF qb))) hml eb
        have E6 := E5.new (O := .lst ((rngDs (qa.2.2.1 + 1) (qa.2.2.2 + 1)).filter (Pl.meetF qb))) hml
        have em := upd_same (σ := σ5) (a := ml) (O := .lst ((rngDs (qa.2.2.1 + 1) (qa.2.2.2 + 1)).filter (Pl.meetF qb)))
        generalize upd σ5 ml (.lst ((rngDs (qa.2.2.1 + 1) (qa.2.2.2 + 1)).filter (Pl.meetF qb))) = σ6 at ea' eb' E6 em
        refine Exs.cons <| Ex.ite <| Tr.cmp <| Ev.own (kf T) (kOver T) (kOverF T) (kOverK T) (Ev.loc h2 ⟨a, _, rfl, ea', rfl, Evs.cons <| Ev.cell rfl <| Evs.nil <| Cl.of_code <| ok_overlaps T a b qa qb ea' eb' <| Ev.cmp <| Ev.loc rfl <| Ev.list <| Evs.nil ⟨few rfl, fun el hel => nel_ok (upd_new hel em) upd_same hokm (by simp) <| neb_ok ⟨_, rfl, ?_⟩⟩⟩) (fun _ => _) (by intro _; rfl)
        rw [deql_nil', hiff, Bool.not_not, bne_self_eq_false]
        exact iteF Bool.false_ne_true <| Exs.nil <| Exs.nil ⟨(E6.new hel) _ _ etl3, E6.new hel, h1, h2⟩
    · clear h1 E4
      rintro ρ σ5 ⟨E5, h1, _⟩
      exact Exs.nil ⟨E5 _ _ etl3, E5, h1⟩
  · rintro ρ σ4 ⟨E4, h1⟩
    exact Exs.cons <| Ex.ret <| Ev.cbool <| q _ ((E1.trans E).trans E4)
end

section
set_option maxHeartbeats 1000000
variable {c : Cx} {F : Fn} {k : Nat} {ρ : Rho} {σ : Sg}
theorem lawBody (T : Tp c) {fq : Str} {cdv : Value} {as : Addr} {us : List Value} {ns : List Int} (hl : c.h₀.IsList as us.toArray) (hi : IntsAre us ns) (hz : ns.length ≤ 63) :
    Exs c ⟨fq, (fdOf 153).scope, [], cdv⟩ (k + 4) (argR ["script"] [.raw (.ref as)] fun _ => none) (fun _ => none) (bodyOf 153) (fun o _ _ => o = .ret (.bool true)) := by
  conv => arg 6; whnf
  refine Exs.cons <| Ex.assign <| Ev.list <| Evs.cons <| Ev.listTo hl hi (by decide) (Nat.le_trans hz (few rfl)) <| Ev.loc rfl ⟨rfl, fun sc hsc => Evs.cons <| Ev.cint <| Evs.nil ⟨few rfl, fun tp htp => ?_⟩⟩
  have h60 : ((60 : Int)).toNat = 60 := rfl
  rw [h60]
  have hts : tp ≠ sc := (ne_new htp upd_same).symm
  have t0 : Tape (upd (upd (fun _ => none) sc (.lst ((ns.take 60).map .int))) tp (.lst [.raw (.ref sc), .int 0])) tp sc (ns.take 60) 0 :=
    ⟨upd_same, by rw [upd_ne hts.symm]; exact upd_same, hts, by rw [List.length_take]; omega⟩
  generalize upd (upd (fun _ => none) sc (.lst ((ns.take 60).map .int))) tp (.lst [.raw (.ref sc), .int 0]) = σ0 at t0
  generalize ns.take 60 = ms at t0
  have v4 := mod_lt (a := nxt ms 0) (b := 4) (by decide)
  refine Exs.cons <| Ex.assign <| Ev.binop <| Ev.cint <| Ev.binop <| Ev.next T t0 (by omega) rfl <| Ev.cint <| mod_ok (by decide) <| add_ok ?_
  have t1 := t0.step
  generalize upd σ0 tp (.lst [.raw (.ref sc), .int (0 + 1 : Nat)]) = σ1 at t1
  generalize nxt ms 0 % 4 = v at v4
  obtain ⟨ar, har⟩ : ∃ ar : Nat, 1 + v = ar := ⟨(1 + v).toNat, by omega⟩
  rw [har]
  have ha4 : ar ≤ 4 := by omega
  refine Exs.cons <| Ex.assign <| Ev.list <| Evs.nil ⟨few rfl, fun cd hcd => ?_⟩
  have hc1 : tp ≠ cd := ne_new hcd t1.tape
  have hc2 : sc ≠ cd := ne_new hcd t1.script
  have m0 : Made (upd σ1 cd (.lst [])) (upd σ1 cd (.lst [])) tp sc cd ms (0 + 1) [] := ⟨t1.keep (upd_ne hc1) (upd_ne hc2), upd_same, fun _ _ _ => rfl, hc1, hc2⟩
  refine Exs.cons <| Ex.expr <| Ev.fcall <| Ev.glob (gl101 T) (fun _ => .raw _) ⟨_, rfl, kp101 T, Evs.cons <| Ev.loc rfl <| Evs.cons <| Ev.loc rfl <| Evs.cons <| Ev.loc rfl <| Evs.nil <| Cl.of_code <| ok_head T m0 (by omega) ha4 (by simp) fun σ2 n2 hs m2 hn2 hH => ⟨rfl, ?_⟩⟩
  rw [List.nil_append] at m2
  have l1 := hH.len
  have c1 := Pl.cnt_heads hH
  have v2 := mod_lt (a := nxt ms n2) (b := 2) (by decide)
  refine Exs.cons <| Ex.forIn <| Ev.fcall <| Ev.blt (bi_range T) ⟨_, rfl, .inr (.inr ⟨_, rfl⟩), Evs.cons <| Ev.binop <| Ev.cint <| Ev.binop <| Ev.next T m2.tape (by omega) rfl <| Ev.cint <| mod_ok (by decide) <| add_ok <| Evs.nil <| cl_range1 ⟨_, _, itb_rng (by omega) (by omega) (by omega) (by omega), ?_⟩⟩
  have m3 := m2.step
  generalize nxt ms n2 % 2 = v' at v2
  obtain ⟨lp, hlp⟩ : ∃ lp : Nat, 1 + v' = lp := ⟨(1 + v').toNat, by omega⟩
  rw [hlp]
  have hlp2 : 1 ≤ lp ∧ lp ≤ 2 := by omega
  refine LoopW.inv _ (fun i ρ σ' => ρ "tape" = some (.raw (.ref tp)) ∧ ρ "code" = some (.raw (.ref cd)) ∧ ρ "arity" = some (.int ar) ∧ ∃ n' sg, Made (upd σ1 cd (.lst [])) σ' tp sc cd ms n' (hs ++ sg) ∧ n' ≤ 20 + 20 * i ∧ Pl.Segs sg ∧ sg.length ≤ 10 * i ∧ Pl.cnt sg ≤ 9 * i ∧ (1 ≤ i → ∃ cs, hs ++ sg = cs ++ [Ins.call])) ?_ ?_
    ⟨rfl, rfl, rfl, n2 + 1, [], by simpa using m3, by omega, .nil, by simp, by simp [Pl.cnt], fun h => absurd h (by omega)⟩
  · rintro i hi ρ σ' ⟨h1, h2, h3, n', sg, m, hn, hS, hL, hN, _⟩
    rw [rngDs_length] at hi
    have m' : Made σ' σ' tp sc cd ms n' (hs ++ sg) := ⟨m.tape, m.code, fun _ _ _ => rfl, m.ne, m.ne'⟩
    refine As.name ?_
    refine Exs.cons <| Ex.expr <| Ev.fcall <| Ev.glob (gl108 T) (fun _ => .raw _) ⟨_, rfl, kp108 T, Evs.cons <| Ev.loc h1 <| Evs.cons <| Ev.loc h2 <| Evs.nil <| Cl.of_code <| ok_puts T m' (by omega) (by rw [List.length_append]; omega) fun σ2 n3 mm is mp hn3 hmm hP => ⟨rfl, ?_⟩⟩
    have l2 := hP.len
    have c2 := Pl.cnt_puts hP
    refine Exs.nil ⟨trivial, h1, h2, h3, n3, sg ++ is ++ [.call], ⟨mp.tape, by rw [mp.code]; simp, fun a g1 g2 => (mp.rest a g1 g2).trans (m.rest a g1 g2), mp.ne, mp.ne'⟩, by omega, hS.snoc hP hmm, by simp; omega, ?_, fun _ => ⟨hs ++ sg ++ is, by simp⟩⟩
    rw [Pl.cnt_append, Pl.cnt_append, Pl.cnt_call]; omega
  rintro ρ σ' ⟨h1, h2, h3, n', sg, m, hn, hS, hL, hN, hend⟩
  rw [rngDs_length, show ((lp : Int) - 0).toNat = lp by omega] at hn hL hN hend
  have hC : Pl.Code ar (hs ++ sg) := ⟨⟨hs, sg, rfl, hH, hS⟩, hend hlp2.1⟩
  have hcnt : Pl.cnt (hs ++ sg) ≤ 50 := by rw [Pl.cnt_append]; omega
  have hlen : (hs ++ sg).length ≤ 100 := by rw [List.length_append]; omega
  have ec := m.code
  generalize hs ++ sg = code at hC hcnt hlen ec
  refine Exs.cons <| Ex.ite <| Tr.or <| TrOr.cons <| Tr.not <| Tr.plain <| Ev.fcall <| Ev.glob (gl125 T) (fun _ => .raw _) ⟨_, rfl, kp125 T, Evs.cons <| Ev.loc h2 <| Evs.cons <| Ev.loc h3 <| Evs.nil <| Cl.of_code <| ok_livesRight (k := k) T ec hlen ha4 hC hcnt fun σ3 E3 => ⟨_, rfl, ?_⟩⟩
  refine iteF Bool.false_ne_true ?_
  refine TrOr.cons <| Tr.not <| Tr.plain <| Ev.fcall <| Ev.glob (gl132 T) (fun _ => .raw _) ⟨_, rfl, kp132 T, Evs.cons <| Ev.loc h2 <| Evs.nil <| Cl.of_code <| ok_wishesRight (k := k + 2) T (E3 _ _ ec) (by omega) (Pl.copies_of hC) fun σ4 E4 => ⟨_, rfl, ?_⟩⟩
  refine iteF Bool.false_ne_true <| TrOr.nil <| iteF Bool.false_ne_true <| Exs.nil ?_
  have ec4 := E4 _ _ (E3 _ _ ec)
  refine Exs.cons <| Ex.forIn <| Ev.fcall <| Ev.blt (bi_range T) ⟨_, rfl, .inr (.inr ⟨_, rfl⟩), Evs.cons <| Ev.cint <| Evs.nil <| cl_range1 ⟨_, _, itb_rng (by omega) (by omega) (by omega) (by omega), ?_⟩⟩
  refine LoopW.inv _ (fun i ρ σ' => Ext σ4 σ' ∧ ρ "code" = some (.raw (.ref cd))) ?_ ?_ ⟨Ext.refl _, h2⟩
  · clear h2
    rintro i hi ρ σ5 ⟨E5, h2⟩
    rw [rngDs_length] at hi
    rw [rngDs_get]
    refine As.name ?_
    refine Exs.cons <| Ex.ite <| Tr.not <| Tr.plain <| Ev.fcall <| Ev.glob (gl146 T) (fun _ => .raw _) ⟨_, rfl, kp146 T, Evs.cons <| Ev.fcall <| Ev.glob (gl139 T) (fun _ => .raw _) ⟨_, rfl, kp139 T, Evs.cons <| Ev.loc h2 <| Evs.cons <| Ev.loc rfl <| Evs.nil <| Cl.of_code <| ok_real (k := k + 3) T (E5 _ _ ec4) (by omega) fun n σ6 E6 e6 => ?_⟩⟩
    refine Evs.nil <| Cl.of_code <| ok_realRight (k := k + 1) T e6 (by simp; omega) (Pl.greatest_most _) (Pl.idle_keeps fun i hi => (Pl.ok_of hC i hi).fam) fun σ7 E7 => ⟨_, rfl, ?_⟩
    exact iteF Bool.false_ne_true <| Exs.nil <| Exs.nil ⟨trivial, E5.trans (E6.trans E7), h2⟩
  · rintro ρ σ' ⟨_, _⟩
    exact Exs.cons <| Ex.ret <| Ev.cbool rfl
end

section
set_option maxHeartbeats 1000000
theorem tp_of {c : Cx} (hK : c.K = hdK c.w.params) (hC : c.C = 52) (KX : (hdK c.w.params).In c.h₀) {mg mb : Str → Option Value} (h1 : c.h₀.Ns mainGlobals mg) (h2 : c.h₀.Ns builtinsNs mb) (h3 : ∀ x : Str, x ≠ "__name__" → mb x = bootBuiltins x) (hn : c.h₀.NoLimit) : Tp c where
  hK := hK
  hC := hC
  inn := by rw [hK]; exact KX
  wd := ⟨by
    have h : ∃ o, (hdK c.w.params).lookup 139 = some o := ⟨_, rfl⟩
    obtain ⟨o, e⟩ := h
    exact Nat.lt_trans (by decide : 3 < 139) (Heap.lt_size (KX _ _ e)), hn⟩
  ns := ⟨mg, mb, h1, h2, h3⟩
theorem law_top {c : Cx} (T : Tp c) {A : Around} {as fa : Addr} {us : List Value} {ns : List Int} {cd : Value} {m : Str → Option Value} {s : Shared} {nm : Str} {body : List Stmt} {scope : Scope}
    {Q : Flow → Shared → Prop} {E : Value → Shared → Prop} (hA : Good A 4) (hl : c.h₀.IsList as us.toArray) (hi : IntsAre us ns) (hz : ns.length ≤ 63)
    (F : Fr c.h₀ c.h₀.objs.size s.heap m) (hm : m "script" = some (.ref as)) (hb : body = bodyOf 153) (hs : scope = (fdOf 153).scope)
    (hQ : ∀ h' tk, (∀ b o, c.h₀.get? b = some o → h'.get? b = some o) → Q (.ret (.bool true)) { s with heap := h', toks := tk }) :
    wpAny (model c.prog c.w) A (execs body (envOf nm scope c.h₀.objs.size fa cd)) Q E s := by
  subst hb hs
  have R : Rl c (ck := []) ⟨c.h₀.objs.size, [], rfl, some fa, some c.h₀.objs.size⟩ (argR ["script"] [.raw (.ref as)] fun _ => none) (fun _ => none) (fun a o => c.h₀.get? a = some o) s.heap := {
    base := fun _ _ e => e
    froz := F.keep
    objs := fun _ _ e => nomatch e
    apart := fun _ _ e => nomatch e
    high := fun _ _ e => nomatch e
    above := Nat.le_refl _
    nodup := by simp [Loc.all]
    cells := fun a ha => by simp at ha
    frame := ⟨m, F.ns, fun x d e => ⟨fun a ha => by simp [Loc.cs] at ha, fun _ => by
      by_cases hx : x = "script"
      · subst hx
        have : d = .raw (.ref as) := by
          have e' : (some (D.raw (.ref as)) : Option D) = some d := by rw [← e]; rfl
          exact (Option.some.inj e').symm
        subst this
        exact ⟨_, hm, .raw _⟩
      · have e' : argR ["script"] [.raw (.ref as)] (fun _ => none) x = none := by
          show setR (fun _ => none) "script" _ x = none
          unfold setR
          rw [if_neg hx]
        rw [e'] at e
        cases e⟩⟩
    own := fun a ha => ⟨rfl, fun o e => by
      have h1 := Heap.lt_size e
      have h2 : a = c.h₀.objs.size := by simpa [Loc.all] using ha
      exact absurd h1 (by rw [h2]; exact Nat.lt_irrefl _)⟩ }
  have hh := lawBody (k := 0) (fq := nm ++ ".<locals>.") (cdv := cd) T hl hi hz A ⟨c.h₀.objs.size, [], rfl, some fa, some c.h₀.objs.size⟩ _ s hA R
  refine wpAny_mono hh ?_ fun _ _ x => x.elim
  rintro f s' ⟨P', o, ρ', σ', p, ov, rfl⟩
  cases ov with
  | ret v =>
    cases v
    obtain ⟨h', tk, e⟩ := p.same
    have hk : ∀ b o, c.h₀.get? b = some o → s'.heap.get? b = some o := fun b o hb => p.rl.froz _ _ (p.more _ _ hb)
    rw [e] at hk ⊢
    exact hQ h' tk hk
theorem good_caller (env : Env) : Good (callerA.deeper env) 4 := ⟨rfl, by show callerA.depth + 1 + _ < _; decide, by show callerA.units + 3 + _ + _ < _; decide⟩
theorem goodW_keep {c : ClaimW} {cl : Str → Option Addr} {mean : ExcName → Option Value} {args : List WData} {s₁ s' : Shared} {b : Bool} (hk : ∀ b o, s₁.heap.get? b = some o → s'.heap.get? b = some o) (hg : s'.gens = #[]) (hn : ∀ cls, c.raises args cls = false)
    (hp : c.post args (.bool b) args = true) (hos : s'.os = s₁.os) : GoodW c cl mean args s₁ (.ok (.ret (.bool b))) s' :=
  ⟨.inl ⟨_, .bool b, [], rfl, hn, .bool b, hp, unshared_nil⟩, hk, hos, hg⟩
theorem law_end {prog p : Program} {w : World} {h₀ : Heap} {loose : List Str} {mean : ExcName → Option Value} {mg mb : Str → Option Value} (KX : (hdK w.params).In h₀) (T : Top p loose mean mg mb h₀)
    {A : Around} {as fa : Addr} {us : List Value} {ns : List Int} {cd : Value} {m : Str → Option Value} {s : Shared} {nm : Str} {body : List Stmt} {scope : Scope}
    {Q : Flow → Shared → Prop} {E : Value → Shared → Prop} (hl : h₀.IsList as us.toArray) (hi : IntsAre us ns) (hz : ¬ ((63 : Nat) : Int) < ns.length)
    (F : Fr h₀ h₀.objs.size s.heap m) (hA : Good A 4) (hm : m "script" = some (.ref as)) (hb : body = bodyOf 153) (hs : scope = (fdOf 153).scope)
    (hQ : ∀ h' tk, (∀ b o, h₀.get? b = some o → h'.get? b = some o) → Q (.ret (.bool true)) { s with heap := h', toks := tk }) :
    wpAny (model prog w) A (execs body (envOf nm scope h₀.objs.size fa cd)) Q E s :=
  law_top (c := ⟨prog, w, h₀, hdK w.params, 52⟩) (tp_of rfl rfl KX T.g T.b T.builtins T.nolimit) hA hl hi (by omega) F hm hb hs hQ
end

end Mine
set_option maxHeartbeats 8000000 in
theorem PySem.Challenge.cw_ok0009_01_holds : PySem.Challenge.rw_ok0009_01.Holds := by
  refine Mine.hd ?_
  intro w s₀ s₁ mg mb G Y fa o pm cd doc dV kV ho hd hcd hD hmg hg args vals as hpre hlay hrd hwl hlo
  have KX := kIn_of Y
  have X := (Ground.X G).1
  refine Ground.open G ?_
  intro T B D TE TW
  clear D
  have TA := at_of_top T
  try (obtain ⟨_, _, he, B0⟩ := based_of_top T rfl hmg ho hd; have he' : cd = _ := he; subst he'; clear he)
  clear hmg
  wrow_args hpre hlay hrd hwl hlo
  all_goals (
    first | refine callC_kw (enter_call ?_) | refine enter_call ?_ | refine callC_kw (enter_callW ?_) | refine enter_callW ?_
    w_top on
    try refine codeAny_mono ?_ (fun _ _ g => GoodW.toG g)
    have K0 := below_caller (Top.heap T)
    w_call any ho hd hcd hD T F
    clear hd TA
    k_drop
    skip)
  refine Mine.law_end (by assumption) (by assumption) (by assumption) (by assumption) (by assumption) (by assumption) (Mine.good_caller _) rfl rfl rfl fun h' tk hk => ?_
  refine Mine.goodW_keep hk (by assumption) (raisesW_false ?_) ?_ rfl
  · wrow_none_raised
  · wrow_post
