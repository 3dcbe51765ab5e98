import PyProof.Rows.All
import Wide.All
import OpenK.AllK
import Wide.FinOn
import PySem.Challenge.RW_on0111_01
open PySem PySem.W PyProof.Rows PySem.Calls
set_option Elab.async false
set_option genSizeOf false
set_option genSizeOfSpec false
set_option genInjectivity false
noncomputable section
namespace Mine

/-- abstract values: immutable data by value, mutable objects by a number -/
inductive V where
  | none
  | bool (b : Bool)
  | int (i : Int)
  | str (s : Str)
  | tup (l : List V)
  | rng (a b : Int)
  | inp (ns : List Int)
  | ref (n : Nat)

/-- abstract objects -/
inductive O where
  | list (l : List V)
  | di (l : List (Int × V))
  | ds (l : List (Str × V))
  | ns (l : List (Str × V))
  | inst (d : Nat)

/-- a dict, to the program -/
def O.isD : O → Bool
  | .di _ => true
  | .ds _ => true
  | _ => false

def lk {α β : Type} [DecidableEq α] : List (α × β) → α → Option β
  | [], _ => Option.none
  | (k, v) :: r, x => if k = x then some v else lk r x
def put {α β : Type} [DecidableEq α] : List (α × β) → α → β → List (α × β)
  | [], x, v => [(x, v)]
  | (k, w) :: r, x, v => if k = x then (k, v) :: r else (k, w) :: put r x v
abbrev Loc := List (Str × V)

/-- the program's world -/
structure Cx where
  prog : Program
  w : World
  cls : ClsRec
  p : Program
  loose : List Str
  mean : ExcName → Option Value
  mg : Str → Option Value
  mb : Str → Option Value
  hb : Heap
  G : Array GenState
  os : OsState
  C : Addr

/-- two lists, item by item -/
inductive All2 {α β : Type} (R : α → β → Prop) : List α → List β → Prop
  | nil : All2 R [] []
  | cons {a : α} {b : β} {l : List α} {m : List β} : R a b → All2 R l m → All2 R (a :: l) (b :: m)

inductive VR (hb h : Heap) (ρ : List Addr) : V → Value → Prop
  | none : VR hb h ρ .none .none
  | bool (b : Bool) : VR hb h ρ (.bool b) (.bool b)
  | int (i : Int) (t : Tok) : VR hb h ρ (.int i) (.int i t)
  | str (s : Str) (t : Tok) : PyData.canLay0 (.str s) = true → VR hb h ρ (.str s) (.str s t)
  | tup {l : List V} {a : Addr} {vs : List Value} (n : Nat) : h.get? a = some { cls := .type "tuple", data := .seq vs.toArray n } → vs.length = l.length → l.length ≤ sizeLine →
      (∀ (i : Nat) (v : V) (x : Value), l[i]? = some v → vs[i]? = some x → VR hb h ρ v x) → VR hb h ρ (.tup l) (.ref a)
  | rng {x y : Int} {a : Addr} {t u v : Tok} : IsRange h a x y 1 t u v → VR hb h ρ (.rng x y) (.ref a)
  | inp {ns : List Int} {a : Addr} {vs : List Value} : hb.IsList a vs.toArray → IntsAre vs ns → VR hb h ρ (.inp ns) (.ref a)
  | ref {n : Nat} {a : Addr} : ρ[n]? = some a → VR hb h ρ (.ref n) (.ref a)

abbrev VRs (hb h : Heap) (ρ : List Addr) : List V → List Value → Prop := All2 (VR hb h ρ)
abbrev KVs {α : Type} (hb h : Heap) (ρ : List Addr) : List (α × V) → List (α × Value) → Prop := All2 fun a b => a.1 = b.1 ∧ VR hb h ρ a.2 b.2
def OR (cx : Cx) (h : Heap) (ρ : List Addr) : O → Obj → Prop
  | .list l, ob => ∃ vs n, ob = listOf vs.toArray n ∧ VRs cx.hb h ρ l vs ∧ l.length ≤ sizeLine
  | .di l, ob => ∃ kvs, ob.IsDictOf (intKind cx.prog cx.w) kvs ∧ KVs cx.hb h ρ l kvs ∧ (l = [] → ob.IsDictOf (strKind cx.prog cx.w) [])
  | .ds l, ob => ∃ kvs, ob.IsDictOf (strKind cx.prog cx.w) kvs ∧ KVs cx.hb h ρ l kvs
  | .ns l, ob => ∃ es ep, ob.data = .dict es ep ∧ StrKeys es ∧ UniqKeys es ∧ ∀ k, (∀ v, lk l k = some v → ∃ x, nsFind es k = some x ∧ VR cx.hb h ρ v x) ∧ (lk l k = none → nsFind es k = none)
  | .inst d, ob => ∃ dx, ρ[d]? = some dx ∧ ob.cls = .ref cx.C ∧ ob.dict = some dx ∧ ∀ c, ob.data ≠ .cls c

/-- a frame -/
structure Frm where
  A : Around
  h₀ : Heap
  L : Addr
  fenv : Env
  outer : List Env

structure FrOk (cx : Cx) (f : Frm) (n : Nat) : Prop where
  below : ∃ A₀, Below A₀ cx.hb f.outer f.h₀
  top : Top cx.p cx.loose cx.mean cx.mg cx.mb f.h₀
  cls : ∃ N mN, PlainAtD f.h₀ cx.cls cx.C N mN
  frames : f.A.frames = some (f.fenv :: f.outer)
  fframe : f.fenv.frame = some f.L
  fkind : f.fenv.scope.kind = .function
  handled : f.A.handled = .none
  depth : f.A.depth + 4 * n + 4 < recursionLimit
  units : f.A.units + 40 * n + 400 < cLine

structure EnvOk (env : Env) (sc : Scope) : Prop where
  scope : env.scope = sc
  kind : sc.kind = .function
  globals : env.globals = mainGlobals
  builtins : env.builtins = builtinsNs

def VarAt (h : Heap) (env : Env) (x : Str) (val : Value) : Prop :=
  match env.kindOf x with
  | some .local => ∃ m, h.Ns env.locals m ∧ m x = some val
  | some .cell => ∃ c, env.cells.lookup x = some c ∧ h.IsCell c (some val)
  | some .free => ∃ c, env.cells.lookup x = some c ∧ h.IsCell c (some val)
  | _ => False

structure St (cx : Cx) (f : Frm) (env : Env) (ρ : List Addr) (σ : List O) (loc : Loc) (s : Shared) : Prop where
  fr : ∃ m, Fr f.h₀ f.L s.heap m
  lns : ∃ m, s.heap.Ns env.locals m
  big : ∀ (i : Nat) (o : O) (a : Addr), σ[i]? = some o → ρ[i]? = some a → o.isD = true → a ≠ sysModules
  len : ρ.length = σ.length
  nodup : ρ.Nodup
  out : ∀ a ∈ ρ, f.h₀.get? a = none
  rep : ∀ (i : Nat) (o : O) (a : Addr), σ[i]? = some o → ρ[i]? = some a → ∃ ob, s.heap.get? a = some ob ∧ OR cx s.heap ρ o ob
  notL : f.L ∉ ρ
  notE : env.locals ∉ ρ
  vars : ∀ x v, lk loc x = some v → ∃ val, VarAt s.heap env x val ∧ VR cx.hb s.heap ρ v val
  cells : ∀ x c, env.cells.lookup x = some c → (∃ u, s.heap.IsCell c u) ∧ f.h₀.get? c = none
  ckind : ∀ x, env.kindOf x = some .cell → ∃ c, env.cells.lookup x = some c
  cnot : ∀ x c, env.cells.lookup x = some c → c ∉ ρ
  cinj : ∀ x y c, env.cells.lookup x = some c → env.cells.lookup y = some c → x = y
  lout : f.h₀.get? env.locals = none
  gens : s.gens = cx.G
  os : s.os = cx.os

/-- what an expression keeps -/
structure KE (f : Frm) (ρ ρ' : List Addr) (h h' : Heap) : Prop where
  pre : ρ <+: ρ'
  off : ∀ a ∈ ρ', a ∉ ρ → a ≠ f.L ∧ h.get? a = none
  all : ∀ a o, a ∉ ρ → h.get? a = some o → h'.get? a = some o
/-- what a statement keeps -/
structure KS (f : Frm) (env : Env) (ρ ρ' : List Addr) (h h' : Heap) : Prop where
  pre : ρ <+: ρ'
  off : ∀ a ∈ ρ', a ∉ ρ → a ≠ f.L ∧ a ≠ env.locals ∧ (∀ x, env.cells.lookup x ≠ some a) ∧ h.get? a = none
  all : ∀ a o, a ∉ ρ → a ≠ env.locals → (∀ x, env.cells.lookup x ≠ some a) → h.get? a = some o → h'.get? a = some o

abbrev NoE : Value → Shared → Prop := fun _ _ => False

/-- abstract ways out of a statement -/
inductive Fl where
  | next | brk | cont
  | ret (v : V)
def FlR (hb h : Heap) (ρ : List Addr) : Fl → Flow → Prop
  | .next, .next => True
  | .brk, .brk => True
  | .cont, .cont => True
  | .ret v, .ret x => VR hb h ρ v x
  | _, _ => False

def PostE (cx : Cx) (f : Frm) (env : Env) (loc : Loc) (ρ : List Addr) (s : Shared) (P : V → List O → Prop) (x : Value) (s' : Shared) : Prop :=
  ∃ v σ' ρ', P v σ' ∧ KE f ρ ρ' s.heap s'.heap ∧ St cx f env ρ' σ' loc s' ∧ VR cx.hb s'.heap ρ' v x
def PostB (cx : Cx) (f : Frm) (env : Env) (loc : Loc) (ρ : List Addr) (s : Shared) (P : Bool → List O → Prop) (b : Bool) (s' : Shared) : Prop :=
  ∃ σ' ρ', P b σ' ∧ KE f ρ ρ' s.heap s'.heap ∧ St cx f env ρ' σ' loc s'
def PostL (cx : Cx) (f : Frm) (env : Env) (loc : Loc) (ρ : List Addr) (s : Shared) (P : List V → List O → Prop) (xs : List Value) (s' : Shared) : Prop :=
  ∃ vs σ' ρ', P vs σ' ∧ KE f ρ ρ' s.heap s'.heap ∧ St cx f env ρ' σ' loc s' ∧ VRs cx.hb s'.heap ρ' vs xs
def PostS (cx : Cx) (f : Frm) (env : Env) (ρ : List Addr) (s : Shared) (P : Fl → Loc → List O → Prop) (x : Flow) (s' : Shared) : Prop :=
  ∃ fl loc' σ' ρ', P fl loc' σ' ∧ KS f env ρ ρ' s.heap s'.heap ∧ St cx f env ρ' σ' loc' s' ∧ FlR cx.hb s'.heap ρ' fl x

/-- from every concrete state that bears (loc, σ) the tree ends without an exception in P -/
def TV (cx : Cx) (n : Nat) (sc : Scope) (loc : Loc) (σ : List O) (t : Env → Sem Value) (P : V → List O → Prop) : Prop :=
  ∀ f env ρ s, FrOk cx f n → EnvOk env sc → St cx f env ρ σ loc s → wpAny (model cx.prog cx.w) f.A (t env) (PostE cx f env loc ρ s P) NoE s
def TE (cx : Cx) (n : Nat) (sc : Scope) (loc : Loc) (σ : List O) (e : Expr) (P : V → List O → Prop) : Prop := TV cx n sc loc σ (eval e) P
def TB (cx : Cx) (n : Nat) (sc : Scope) (loc : Loc) (σ : List O) (e : Expr) (P : Bool → List O → Prop) : Prop :=
  ∀ f env ρ s, FrOk cx f n → EnvOk env sc → St cx f env ρ σ loc s → wpAny (model cx.prog cx.w) f.A (isTrue e env (eval e env)) (PostB cx f env loc ρ s P) NoE s
def TEs (cx : Cx) (n : Nat) (sc : Scope) (loc : Loc) (σ : List O) (es : List Expr) (P : List V → List O → Prop) : Prop :=
  ∀ pos f env ρ s, FrOk cx f n → EnvOk env sc → St cx f env ρ σ loc s → wpAny (model cx.prog cx.w) f.A (spliced (backTo pos (starEach es env))) (PostL cx f env loc ρ s P) NoE s
def TS (cx : Cx) (n : Nat) (sc : Scope) (loc : Loc) (σ : List O) (st : Stmt) (P : Fl → Loc → List O → Prop) : Prop :=
  ∀ f env ρ s, FrOk cx f n → EnvOk env sc → St cx f env ρ σ loc s → wpAny (model cx.prog cx.w) f.A (exec st env) (PostS cx f env ρ s P) NoE s
def TSs (cx : Cx) (n : Nat) (sc : Scope) (loc : Loc) (σ : List O) (st : List Stmt) (P : Fl → Loc → List O → Prop) : Prop :=
  ∀ f env ρ s, FrOk cx f n → EnvOk env sc → St cx f env ρ σ loc s → wpAny (model cx.prog cx.w) f.A (execs st env) (PostS cx f env ρ s P) NoE s

/-! ## how the relations carry over -/
namespace All2
variable {α β : Type} {R R' : α → β → Prop} {l l' : List α} {m m' : List β}
theorem imp (h : ∀ a b, R a b → R' a b) (r : All2 R l m) : All2 R' l m := by
  induction r with
  | nil => exact .nil
  | cons a _ ih => exact .cons (h _ _ a) ih
theorem length (r : All2 R l m) : m.length = l.length := by
  induction r with
  | nil => rfl
  | cons _ _ ih => rw [List.length_cons, List.length_cons, ih]
theorem append (r : All2 R l m) (r' : All2 R l' m') : All2 R (l ++ l') (m ++ m') := by
  induction r with
  | nil => exact r'
  | cons a _ ih => exact .cons a ih
theorem get (r : All2 R l m) : ∀ {i : Nat} {a : α}, l[i]? = some a → ∃ b, m[i]? = some b ∧ R a b := by
  induction r with
  | nil => intro i a e; cases e
  | cons h _ ih =>
    intro i a e
    cases i with
    | zero => cases e; exact ⟨_, rfl, h⟩
    | succ i => exact ih e
theorem of_get : ∀ {l : List α} {m : List β}, m.length = l.length → (∀ (i : Nat) (a : α) (b : β), l[i]? = some a → m[i]? = some b → R a b) → All2 R l m
  | [], [], _, _ => .nil
  | [], _ :: _, h, _ => nomatch h
  | _ :: _, [], h, _ => nomatch h
  | _ :: _, _ :: _, h, k => .cons (k 0 _ _ rfl rfl) (of_get (Nat.succ.inj h) fun i => k (i + 1))
theorem take (r : All2 R l m) (n : Nat) : All2 R (l.take n) (m.take n) := by
  induction r generalizing n with
  | nil => simp only [List.take_nil]; exact .nil
  | cons a _ ih =>
    cases n with
    | zero => exact .nil
    | succ n => exact .cons a (ih n)
theorem reverse (r : All2 R l m) : All2 R l.reverse m.reverse := by
  induction r with
  | nil => exact .nil
  | cons a _ ih => rw [List.reverse_cons, List.reverse_cons]; exact ih.append (.cons a .nil)
end All2
section
variable {hb h h' : Heap} {ρ ρ' : List Addr}

/-- the data of an object that is never changed: a tuple's, a range's -/
def Im (o : Obj) : Prop := (o.cls = .type "tuple" ∧ ∃ i n, o.data = .seq i n) ∨ (o.cls = .type "range" ∧ ∃ vs, o.data = .fields vs)
def Imm (h h' : Heap) : Prop := ∀ a o, h.get? a = some o → Im o → h'.get? a = some o
theorem Imm.refl (h : Heap) : Imm h h := fun _ _ e _ => e
theorem Imm.trans {h h' h'' : Heap} (a : Imm h h') (b : Imm h' h'') : Imm h h'' := fun x o e c => b x o (a x o e c) c

theorem pre_get {ρ ρ' : List Addr} (p : ρ <+: ρ') {n : Nat} {a : Addr} (e : ρ[n]? = some a) : ρ'[n]? = some a := by
  obtain ⟨t, rfl⟩ := p
  rw [List.getElem?_append_left (List.getElem?_eq_some_iff.mp e).1]; exact e

theorem VR.mono (k : Imm h h') (p : ρ <+: ρ') {v : V} {x : Value} (r : VR hb h ρ v x) : VR hb h' ρ' v x := by
  induction r with
  | none => exact .none
  | bool b => exact .bool b
  | int i t => exact .int i t
  | str s t o => exact .str s t o
  | tup n e l z _ ih => exact .tup n (k _ _ e (.inl ⟨rfl, _, _, rfl⟩)) l z ih
  | rng e => exact .rng (k _ _ e (.inr ⟨rfl, _, rfl⟩))
  | inp e i => exact .inp e i
  | ref e => exact .ref (pre_get p e)
theorem VRs.mono (k : Imm h h') (p : ρ <+: ρ') {l : List V} {xs : List Value} (r : VRs hb h ρ l xs) : VRs hb h' ρ' l xs := All2.imp (fun _ _ r => r.mono k p) r
theorem OR.mono {cx : Cx} (k : Imm h h') (p : ρ <+: ρ') {o : O} {ob : Obj} (r : OR cx h ρ o ob) : OR cx h' ρ' o ob := by
  cases o with
  | list l => obtain ⟨vs, n, e, q, z⟩ := r; exact ⟨vs, n, e, VRs.mono k p q, z⟩
  | di l => obtain ⟨kvs, e, q, z⟩ := r; exact ⟨kvs, e, q.imp fun _ _ r => ⟨r.1, r.2.mono k p⟩, z⟩
  | ds l => obtain ⟨kvs, e, q⟩ := r; exact ⟨kvs, e, q.imp fun _ _ r => ⟨r.1, r.2.mono k p⟩⟩
  | ns l =>
    obtain ⟨es, ep, e1, e2, e3, q⟩ := r
    exact ⟨es, ep, e1, e2, e3, fun n => ⟨fun v e => by obtain ⟨x, a, b⟩ := (q n).1 v e; exact ⟨x, a, b.mono k p⟩, (q n).2⟩⟩
  | inst d => obtain ⟨dx, e, q⟩ := r; exact ⟨dx, pre_get p e, q⟩

theorem VR.tupI {l : List V} {a : Addr} {vs : List Value} (n : Nat) (e : h.get? a = some { cls := .type "tuple", data := .seq vs.toArray n }) (r : VRs hb h ρ l vs) (z : l.length ≤ sizeLine) : VR hb h ρ (.tup l) (.ref a) :=
  .tup n e r.length z fun i v x e1 e2 => by obtain ⟨y, e3, q⟩ := r.get e1; rw [e2] at e3; cases e3; exact q
theorem VR.tupE {l : List V} {x : Value} (r : VR hb h ρ (.tup l) x) : ∃ a vs n, x = .ref a ∧ h.get? a = some { cls := .type "tuple", data := .seq vs.toArray n } ∧ VRs hb h ρ l vs := by
  cases r with | tup n e l _ k => exact ⟨_, _, n, rfl, e, All2.of_get l k⟩
theorem VR.tupZ {l : List V} {x : Value} (r : VR hb h ρ (.tup l) x) : l.length ≤ sizeLine := by cases r; assumption
theorem VR.strZ {i : Str} {x : Value} (r : VR hb h ρ (.str i) x) : PyData.canLay0 (.str i) = true := by cases r; assumption

theorem OR.cls {cx : Cx} {o : O} {ob : Obj} (r : OR cx h ρ o ob) : ¬ Im ob ∧ ∀ c vs, ob.cls = .type c → ob.data = .fields vs → False := by
  cases o with
  | list l => obtain ⟨vs, n, rfl, _⟩ := r; exact ⟨by simp [Im], fun _ _ _ => by simp⟩
  | di l => obtain ⟨kvs, ⟨es, ep, ⟨c, _, _⟩, d, _⟩, _⟩ := r; exact ⟨by simp [Im, c], fun _ _ _ => by simp [d]⟩
  | ds l => obtain ⟨kvs, ⟨es, ep, ⟨c, _, _⟩, d, _⟩, _⟩ := r; exact ⟨by simp [Im, c], fun _ _ _ => by simp [d]⟩
  | ns l => obtain ⟨es, ep, d, _⟩ := r; exact ⟨by simp [Im, d], fun _ _ _ => by simp [d]⟩
  | inst d => obtain ⟨dx, _, c, _⟩ := r; exact ⟨by simp [Im, c], fun _ _ => by simp [c]⟩

end

theorem ns_unique {h : Heap} {a : Addr} {m m' : Str → Option Value} (x : h.Ns a m) (y : h.Ns a m') : m = m' := by
  obtain ⟨o, es, ep, e1, e2, _, e3⟩ := x
  obtain ⟨o', es', ep', f1, f2, _, f3⟩ := y
  rw [e1] at f1; obtain rfl := Option.some.inj f1
  rw [e2] at f2; injection f2 with f2 _; subst f2
  funext n; rw [← e3, ← f3]

end Mine
end
open PySem PySem.W PyProof.Rows PySem.Calls
set_option Elab.async false
namespace Mine
section
variable {cx : Cx} {f : Frm} {env : Env} {ρ ρ' : List Addr} {σ : List O} {loc : Loc} {s : Shared} {h h' : Heap}

theorem St.notIn (S : St cx f env ρ σ loc s) {a : Addr} (ha : a ∈ ρ) : ∃ o ob, s.heap.get? a = some ob ∧ OR cx s.heap ρ o ob := by
  obtain ⟨i, hi, e⟩ := List.mem_iff_getElem.mp ha
  have hi' : i < σ.length := S.len ▸ hi
  obtain ⟨ob, e1, e2⟩ := S.rep i σ[i] a (List.getElem?_eq_getElem hi') (by rw [List.getElem?_eq_getElem hi, e])
  exact ⟨_, ob, e1, e2⟩
/-- a thing that is no object of the call's own: data that never change, an iterator -/
def Far (o : Obj) : Prop := Im o ∨ ∃ c vs, o.cls = .type c ∧ o.data = .fields vs
theorem St.offρ (S : St cx f env ρ σ loc s) {a : Addr} {o : Obj} (e : s.heap.get? a = some o) (h : Far o) : a ∉ ρ := fun ha => by
  obtain ⟨_, ob, e1, r⟩ := S.notIn ha
  rw [e] at e1; obtain rfl := Option.some.inj e1
  rcases h with h | ⟨c, vs, h1, h2⟩
  · exact r.cls.1 h
  · exact r.cls.2 _ _ h1 h2
theorem ns_data {h : Heap} {a : Addr} {m : Str → Option Value} (x : h.Ns a m) {o : Obj} (e : h.get? a = some o) : ¬ Im o ∧ (∀ vs, o.data ≠ .fields vs) ∧ ∀ v, o.data ≠ .cell v := by
  obtain ⟨o', es, ep, e1, d, _⟩ := x
  rw [e] at e1; obtain rfl := Option.some.inj e1
  exact ⟨by simp [Im, d], by simp [d], by simp [d]⟩
theorem cell_data {h : Heap} {a : Addr} {u : Option Value} (x : h.IsCell a u) {o : Obj} (e : h.get? a = some o) : ¬ Im o ∧ (∀ vs, o.data ≠ .fields vs) ∧ o.data = .cell u := by
  obtain ⟨o', e1, d⟩ := x
  rw [e] at e1; obtain rfl := Option.some.inj e1
  exact ⟨by simp [Im, d], by simp [d], d⟩
theorem ns_far {h : Heap} {a : Addr} {m : Str → Option Value} (x : h.Ns a m) {o : Obj} (e : h.get? a = some o) (w : Far o) : False := by
  obtain ⟨c1, c2, _⟩ := ns_data x e
  rcases w with w | ⟨c, vs, _, w⟩
  · exact c1 w
  · exact c2 _ w
theorem St.offL (S : St cx f env ρ σ loc s) {a : Addr} {o : Obj} (e : s.heap.get? a = some o) (h : Far o) : a ≠ f.L ∧ a ≠ env.locals := by
  obtain ⟨m, F⟩ := S.fr
  obtain ⟨m', N⟩ := S.lns
  exact ⟨fun q => ns_far F.ns (q ▸ e) h, fun q => ns_far N (q ▸ e) h⟩
theorem St.imm (S : St cx f env ρ σ loc s) (k : KE f ρ ρ' s.heap h') : Imm s.heap h' := fun a o e i =>
  k.all a o (S.offρ e (.inl i)) e

theorem pre_refl (l : List Addr) : l <+: l := List.prefix_refl l
theorem KE.refl (f : Frm) (ρ : List Addr) (h : Heap) : KE f ρ ρ h h := ⟨pre_refl _, fun _ a n => (n a).elim, fun _ _ _ e => e⟩
theorem KE.trans {ρ'' : List Addr} {h'' : Heap} (a : KE f ρ ρ' h h') (b : KE f ρ' ρ'' h' h'') : KE f ρ ρ'' h h'' where
  pre := a.pre.trans b.pre
  off x m n := by
    by_cases q : x ∈ ρ'
    · exact a.off x q n
    · obtain ⟨l, e⟩ := b.off x m q
      refine ⟨l, ?_⟩
      cases e' : h.get? x with
      | none => rfl
      | some o => rw [a.all x o n e'] at e; cases e
  all x o n e := b.all x o (fun m => by have := (a.off x m n).2; rw [this] at e; cases e) (a.all x o n e)

theorem VarAt.keep {h h' : Heap} {env : Env} {x : Str} {val : Value} (v : VarAt h env x val) (hl : ∀ m, h.Ns env.locals m → h'.Ns env.locals m)
    (hc : ∀ c u, env.cells.lookup x = some c → h.IsCell c u → h'.IsCell c u) : VarAt h' env x val := by
  unfold VarAt at v ⊢
  split at v
  · obtain ⟨m, a, b⟩ := v; exact ⟨m, hl m a, b⟩
  · obtain ⟨c, a, b⟩ := v; exact ⟨c, a, hc c _ a b⟩
  · obtain ⟨c, a, b⟩ := v; exact ⟨c, a, hc c _ a b⟩
  · exact v

/-- nothing of what is borne is changed -/
theorem St.keep (S : St cx f env ρ σ loc s) {s' : Shared} (hg : s'.gens = s.gens) (ho : s'.os = s.os)
    (k : ∀ a o, s.heap.get? a = some o → (Im o ∨ a ∈ ρ ∨ a = f.L ∨ a = env.locals ∨ (∃ u, o.data = .cell u) ∨ f.h₀.get? a = some o) → s'.heap.get? a = some o) : St cx f env ρ σ loc s' := by
  obtain ⟨m, F⟩ := S.fr
  obtain ⟨m', N⟩ := S.lns
  have im : Imm s.heap s'.heap := fun a o e i => k a o e (.inl i)
  have nl : ∀ m, s.heap.Ns env.locals m → s'.heap.Ns env.locals m := fun m ⟨o, es, ep, e, r⟩ => ⟨o, es, ep, k _ _ e (.inr (.inr (.inr (.inl rfl)))), r⟩
  have cc : ∀ c u, s.heap.IsCell c u → s'.heap.IsCell c u := fun c u ⟨o, e, d⟩ => ⟨o, k _ _ e (.inr (.inr (.inr (.inr (.inl ⟨u, d⟩))))), d⟩
  exact
  { fr := ⟨m, let ⟨o, es, ep, e, r⟩ := F.ns; ⟨o, es, ep, k _ _ e (.inr (.inr (.inl rfl))), r⟩, fun b o e => k b o (F.keep b o e) (.inr (.inr (.inr (.inr (.inr e))))), F.above⟩
    lns := ⟨m', nl _ N⟩
    big := S.big
    len := S.len
    nodup := S.nodup
    out := S.out
    rep := fun i o a e1 e2 => let ⟨ob, q, r⟩ := S.rep i o a e1 e2; ⟨ob, k _ _ q (.inr (.inl (List.mem_iff_getElem?.mpr ⟨i, e2⟩))), r.mono im (List.prefix_refl _)⟩
    notL := S.notL
    notE := S.notE
    vars := fun x v e => let ⟨val, a, b⟩ := S.vars x v e; ⟨val, a.keep nl fun c u _ => cc c u, b.mono im (List.prefix_refl _)⟩
    cells := fun x c e => let ⟨⟨u, a⟩, b⟩ := S.cells x c e; ⟨⟨u, cc c u a⟩, b⟩
    ckind := S.ckind
    cnot := S.cnot
    cinj := S.cinj
    lout := S.lout
    gens := hg.trans S.gens
    os := ho.trans S.os }

theorem St.tk (S : St cx f env ρ σ loc s) {t : Nat} : St cx f env ρ σ loc { s with toks := t } := S.keep rfl rfl fun _ _ e _ => e
theorem St.grow (S : St cx f env ρ σ loc s) {t : Nat} {g : Drawn} (k : ∀ a o, s.heap.get? a = some o → h'.get? a = some o) : St cx f env ρ σ loc { s with heap := h', toks := t, drawn := g } := S.keep rfl rfl fun _ _ e _ => k _ _ e
theorem KE.grow (k : ∀ a o, h.get? a = some o → h'.get? a = some o) : KE f ρ ρ h h' := ⟨pre_refl _, fun _ a n => (n a).elim, fun a o _ e => k a o e⟩
theorem St.keNews (S : St cx f env ρ σ loc s) (k : ∀ a o, s.heap.get? a = some o → h'.get? a = some o) {as : List Addr} (ha : ∀ a ∈ as, s.heap.get? a = none) : KE f ρ (ρ ++ as) s.heap h' where
  pre := ⟨as, rfl⟩
  off b m n := by
    have e : s.heap.get? b = none := by
      rcases List.mem_append.mp m with q | q
      · exact (n q).elim
      · exact ha b q
    refine ⟨?_, e⟩
    rintro rfl
    obtain ⟨m, F⟩ := S.fr
    obtain ⟨o, es, ep, e', _⟩ := F.ns
    rw [e] at e'; cases e'
  all a o _ e := k a o e
theorem getApp {α : Type} {l m : List α} {i : Nat} {a : α} (e : (l ++ m)[i]? = some a) : (i < l.length ∧ l[i]? = some a) ∨ (l.length ≤ i ∧ m[i - l.length]? = some a) := by
  by_cases h : i < l.length
  · exact .inl ⟨h, by rwa [List.getElem?_append_left h] at e⟩
  · exact .inr ⟨by omega, by rwa [List.getElem?_append_right (by omega)] at e⟩

/-- new objects of the call's own -/
theorem St.adds (S : St cx f env ρ σ loc s) (k : ∀ a o, s.heap.get? a = some o → h'.get? a = some o) {as : List Addr} {os : List O} {t : Nat}
    (ha : ∀ a ∈ as, s.heap.get? a = none) (nd : as.Nodup) (hl : as.length = os.length)
    (r : ∀ (i : Nat) (a : Addr) (o : O), as[i]? = some a → os[i]? = some o → (∃ ob, h'.get? a = some ob ∧ OR cx h' (ρ ++ as) o ob) ∧ (o.isD = true → a ≠ sysModules)) : St cx f env (ρ ++ as) (σ ++ os) loc { s with heap := h', toks := t } := by
  obtain ⟨m, F⟩ := S.fr
  have im : Imm s.heap h' := fun a o e _ => k a o e
  have pr : ρ <+: ρ ++ as := ⟨as, rfl⟩
  have free : ∀ b o, s.heap.get? b = some o → b ∉ as := fun b o e q => by rw [ha b q] at e; cases e
  have S' : St cx f env ρ σ loc { s with heap := h', toks := t } := S.keep rfl rfl fun _ _ e _ => k _ _ e
  have na : ∀ a ∈ as, a ∉ ρ := fun a h q => by obtain ⟨_, ob, e, _⟩ := S.notIn q; exact free _ _ e h
  have app : ∀ {b o}, s.heap.get? b = some o → b ∉ ρ → b ∉ ρ ++ as := fun e n q => by
    rcases List.mem_append.mp q with q | q
    · exact n q
    · exact free _ _ e q
  obtain ⟨m'', N'⟩ := S.lns
  exact
  { fr := S'.fr
    lns := S'.lns
    big := fun i o b e1 e2 => by
      rcases getApp e1 with ⟨h1, e1⟩ | ⟨h1, e1⟩
      · rcases getApp e2 with ⟨h2, e2⟩ | ⟨h2, e2⟩
        · exact S.big i o b e1 e2
        · have := S.len; omega
      · rcases getApp e2 with ⟨h2, e2⟩ | ⟨h2, e2⟩
        · have := S.len; omega
        · rw [S.len] at e2; exact (r _ b o e2 e1).2
    len := by rw [List.length_append, List.length_append, S.len, hl]
    nodup := by rw [List.nodup_append]; exact ⟨S.nodup, nd, fun x hx y hy z => na y hy (z ▸ hx)⟩
    out := fun b hb' => by
      rcases List.mem_append.mp hb' with q | q
      · exact S.out b q
      · cases e : f.h₀.get? b with
        | none => rfl
        | some o => exact absurd q (free _ _ (F.keep _ _ e))
    rep := fun i o b e1 e2 => by
      rcases getApp e1 with ⟨h1, e1⟩ | ⟨h1, e1⟩
      · rcases getApp e2 with ⟨h2, e2⟩ | ⟨h2, e2⟩
        · obtain ⟨ob', q1, q2⟩ := S'.rep i o b e1 e2
          exact ⟨ob', q1, q2.mono (Imm.refl _) pr⟩
        · have := S.len; omega
      · rcases getApp e2 with ⟨h2, e2⟩ | ⟨h2, e2⟩
        · have := S.len; omega
        · rw [S.len] at e2; exact (r _ b o e2 e1).1
    notL := by obtain ⟨o, es, ep, e, _⟩ := F.ns; exact app e S.notL
    notE := by obtain ⟨o, es, ep, e, _⟩ := N'; exact app e S.notE
    vars := fun x v e => by obtain ⟨val, a, b⟩ := S'.vars x v e; exact ⟨val, a, b.mono (Imm.refl _) pr⟩
    cells := S'.cells
    ckind := S'.ckind
    cnot := fun x c e => by obtain ⟨⟨u, o, g, _⟩, _⟩ := S.cells x c e; exact app g (S.cnot x c e)
    cinj := S'.cinj
    lout := S'.lout
    gens := S'.gens
    os := S'.os }
theorem St.new (S : St cx f env ρ σ loc s) (k : ∀ a o, s.heap.get? a = some o → h'.get? a = some o) {a : Addr} {ob : Obj} {o : O} {t : Nat}
    (ha : s.heap.get? a = none) (e : h'.get? a = some ob) (r : OR cx h' (ρ ++ [a]) o ob) (hb : o.isD = true → a ≠ sysModules) : St cx f env (ρ ++ [a]) (σ ++ [o]) loc { s with heap := h', toks := t } :=
  S.adds k (fun b hb => by rw [List.mem_singleton.mp hb]; exact ha) (by simp) rfl fun i b p e1 e2 => by
    cases i with
    | zero => cases e1; cases e2; exact ⟨⟨ob, e, r⟩, hb⟩
    | succ i => cases e1

/-- objects of the call's own are changed -/
theorem St.upds (S : St cx f env ρ σ loc s) {σ' : List O} {t : Nat} (hl : σ'.length = σ.length) (k : ∀ b o, b ∉ ρ → s.heap.get? b = some o → h'.get? b = some o)
    (rep : ∀ (i : Nat) (o : O) (a : Addr), σ'[i]? = some o → ρ[i]? = some a → ∃ ob, h'.get? a = some ob ∧ OR cx h' ρ o ob)
    (bg : ∀ (i : Nat) (o : O), σ'[i]? = some o → o.isD = true → ∃ o₀, σ[i]? = some o₀ ∧ o₀.isD = true) : St cx f env ρ σ' loc { s with heap := h', toks := t } := by
  obtain ⟨m, F⟩ := S.fr
  have im : Imm s.heap h' := fun b o e i => k b o (S.offρ e (.inl i)) e
  have nl : ∀ m, s.heap.Ns env.locals m → h'.Ns env.locals m := fun _ ⟨o, es, ep, e, r⟩ => ⟨o, es, ep, k _ _ S.notE e, r⟩
  have cc : ∀ x c u, env.cells.lookup x = some c → s.heap.IsCell c u → h'.IsCell c u := fun x c u l ⟨o, e, d⟩ => ⟨o, k _ _ (S.cnot x c l) e, d⟩
  obtain ⟨m', N⟩ := S.lns
  exact
  { fr := ⟨m, let ⟨o, es, ep, e, r⟩ := F.ns; ⟨o, es, ep, k _ _ S.notL e, r⟩, fun b o e => k b o (fun q => by rw [S.out b q] at e; cases e) (F.keep b o e), F.above⟩
    lns := ⟨m', nl _ N⟩
    big := fun i o a e1 e2 h => by obtain ⟨o₀, e3, h3⟩ := bg i o e1 h; exact S.big i o₀ a e3 e2 h3
    len := S.len.trans hl.symm
    nodup := S.nodup
    out := S.out
    rep := rep
    notL := S.notL
    notE := S.notE
    vars := fun x v e => let ⟨val, a, b⟩ := S.vars x v e; ⟨val, a.keep nl fun c u q => cc x c u q, b.mono im (pre_refl _)⟩
    cells := fun x c e => let ⟨⟨u, a⟩, b⟩ := S.cells x c e; ⟨⟨u, cc x c u e a⟩, b⟩
    ckind := S.ckind
    cnot := S.cnot
    cinj := S.cinj
    lout := S.lout
    gens := S.gens
    os := S.os }
theorem St.same (S : St cx f env ρ σ loc s) {i j : Nat} {a : Addr} (hi : ρ[i]? = some a) (hj : ρ[j]? = some a) : i = j := by
  obtain ⟨l1, g1⟩ := List.getElem?_eq_some_iff.mp hi
  obtain ⟨l2, g2⟩ := List.getElem?_eq_some_iff.mp hj
  exact (List.getElem_inj S.nodup).mp (g1.trans g2.symm)
/-- an object of the call's own is changed -/
theorem St.upd (S : St cx f env ρ σ loc s) {i : Nat} {a : Addr} {o' : O} {ob' : Obj} {t : Nat} (hi : ρ[i]? = some a) (k : ∀ b o, b ≠ a → s.heap.get? b = some o → h'.get? b = some o)
    (e : h'.get? a = some ob') (r : OR cx s.heap ρ o' ob')
    (hd : o'.isD = true → ∃ o₀, σ[i]? = some o₀ ∧ o₀.isD = true := by intro h; cases h) : St cx f env ρ (σ.set i o') loc { s with heap := h', toks := t } := by
  have ha : a ∈ ρ := List.mem_iff_getElem?.mpr ⟨i, hi⟩
  have kk : ∀ b o, b ∉ ρ → s.heap.get? b = some o → h'.get? b = some o := fun b o n e => k b o (fun q => n (q ▸ ha)) e
  have im : Imm s.heap h' := fun b o e i => kk b o (S.offρ e (.inl i)) e
  refine S.upds (by rw [List.length_set]) kk (fun j o b e1 e2 => ?_) fun j o e1 h => ?_
  rotate_left
  · by_cases hj : j = i
    · subst hj
      have hl : j < σ.length := by rw [← S.len]; exact (List.getElem?_eq_some_iff.mp hi).1
      rw [List.getElem?_set_self hl] at e1
      obtain rfl := Option.some.inj e1
      exact hd h
    · rw [List.getElem?_set_ne (Ne.symm hj)] at e1; exact ⟨o, e1, h⟩
  by_cases hj : j = i
  · subst hj
    rw [hi] at e2; obtain rfl := Option.some.inj e2
    have hl : j < σ.length := by rw [← S.len]; exact (List.getElem?_eq_some_iff.mp hi).1
    rw [List.getElem?_set_self hl] at e1
    obtain rfl := Option.some.inj e1
    exact ⟨ob', e, r.mono im (pre_refl _)⟩
  · rw [List.getElem?_set_ne (Ne.symm hj)] at e1
    obtain ⟨ob, q1, q2⟩ := S.rep j o b e1 e2
    exact ⟨ob, k _ _ (fun q => hj (S.same e2 (q ▸ hi))) q1, q2.mono im (pre_refl _)⟩
theorem St.keUpd (S : St cx f env ρ σ loc s) {a : Addr} (ha : a ∈ ρ) (k : ∀ b o, b ≠ a → s.heap.get? b = some o → h'.get? b = some o) : KE f ρ ρ s.heap h' :=
  ⟨pre_refl _, fun _ a n => (n a).elim, fun b o n e => k b o (fun q => n (q ▸ ha)) e⟩
theorem St.ks (S : St cx f env ρ σ loc s) (k : KE f ρ ρ' s.heap h') : KS f env ρ ρ' s.heap h' where
  pre := k.pre
  off a m n := by
    obtain ⟨l, e⟩ := k.off a m n
    refine ⟨l, ?_, fun x c => ?_, e⟩
    · rintro rfl
      obtain ⟨m, o, es, ep, e', _⟩ := S.lns
      rw [e] at e'; cases e'
    · obtain ⟨⟨u, o, e', _⟩, _⟩ := S.cells x a c
      rw [e] at e'; cases e'
  all a o n _ _ e := k.all a o n e
theorem KS.refl (f : Frm) (env : Env) (ρ : List Addr) (h : Heap) : KS f env ρ ρ h h := ⟨pre_refl _, fun _ a n => (n a).elim, fun _ _ _ _ _ e => e⟩
theorem KS.trans {ρ'' : List Addr} {h'' : Heap} (a : KS f env ρ ρ' h h') (b : KS f env ρ' ρ'' h' h'') : KS f env ρ ρ'' h h'' where
  pre := a.pre.trans b.pre
  off x m n := by
    by_cases q : x ∈ ρ'
    · exact a.off x q n
    · obtain ⟨l1, l2, l3, e⟩ := b.off x m q
      refine ⟨l1, l2, l3, ?_⟩
      cases e' : h.get? x with
      | none => rfl
      | some o => rw [a.all x o n l2 l3 e'] at e; cases e
  all x o n l2 l3 e := b.all x o (fun m => by have := (a.off x m n).2.2.2; rw [this] at e; cases e) l2 l3 (a.all x o n l2 l3 e)
theorem St.immS (S : St cx f env ρ σ loc s) (k : KS f env ρ ρ' s.heap h') : Imm s.heap h' := fun a o e i =>
  k.all a o (S.offρ e (.inl i)) (S.offL e (.inl i)).2 (fun x c => by
    obtain ⟨⟨u, q⟩, _⟩ := S.cells x a c
    exact (cell_data q e).1 i) e
end
end Mine
open PySem PySem.W PyProof.Rows PySem.Calls
set_option Elab.async false
namespace Mine
section
variable {cx : Cx} {n : Nat} {sc : Scope} {loc : Loc} {σ : List O} {P : V → List O → Prop} {pos : Pos}
  {f : Frm} {env : Env} {ρ ρ' : List Addr} {s s' s₀ : Shared} {M : Model} {A : Around} {E : Value → Shared → Prop}

/-- an operation upon values -/
def TO (cx : Cx) (n : Nat) (sc : Scope) (loc : Loc) (σ : List O) (t : List Value → Sem Value) (vs : List V) (P : V → List O → Prop) : Prop :=
  ∀ f env ρ s xs, FrOk cx f n → EnvOk env sc → St cx f env ρ σ loc s → VRs cx.hb s.heap ρ vs xs → wpAny (model cx.prog cx.w) f.A (t xs) (PostE cx f env loc ρ s P) NoE s
abbrev op2 (t : Value → Value → Sem Value) (xs : List Value) : Sem Value := t (xs[0]?.getD .none) (xs[1]?.getD .none)
abbrev op1 (t : Value → Sem Value) (xs : List Value) : Sem Value := t (xs[0]?.getD .none)

theorem goE {t : Sem Value} {Q : Value → Shared → Prop} (h : wpAny M A t (PostE cx f env loc ρ s P) NoE s₀)
    (k : ∀ x s' v σ' ρ', P v σ' → KE f ρ ρ' s.heap s'.heap → St cx f env ρ' σ' loc s' → VR cx.hb s'.heap ρ' v x → Q x s') : wpAny M A t Q E s₀ :=
  wpAny_mono h (fun _ _ q => by obtain ⟨v, σ', ρ', a, b, c, d⟩ := q; exact k _ _ v σ' ρ' a b c d) fun _ _ x => x.elim
theorem goB {t : Sem Bool} {P : Bool → List O → Prop} {Q : Bool → Shared → Prop} (h : wpAny M A t (PostB cx f env loc ρ s P) NoE s₀)
    (k : ∀ x s' σ' ρ', P x σ' → KE f ρ ρ' s.heap s'.heap → St cx f env ρ' σ' loc s' → Q x s') : wpAny M A t Q E s₀ :=
  wpAny_mono h (fun _ _ q => by obtain ⟨σ', ρ', a, b, c⟩ := q; exact k _ _ σ' ρ' a b c) fun _ _ x => x.elim
theorem goL {t : Sem (List Value)} {P : List V → List O → Prop} {Q : List Value → Shared → Prop} (h : wpAny M A t (PostL cx f env loc ρ s P) NoE s₀)
    (k : ∀ x s' v σ' ρ', P v σ' → KE f ρ ρ' s.heap s'.heap → St cx f env ρ' σ' loc s' → VRs cx.hb s'.heap ρ' v x → Q x s') : wpAny M A t Q E s₀ :=
  wpAny_mono h (fun _ _ q => by obtain ⟨v, σ', ρ', a, b, c, d⟩ := q; exact k _ _ v σ' ρ' a b c d) fun _ _ x => x.elim
theorem preE {t : Sem Value} (k : KE f ρ ρ' s.heap s'.heap) (h : wpAny M A t (PostE cx f env loc ρ' s' P) NoE s₀) : wpAny M A t (PostE cx f env loc ρ s P) E s₀ :=
  goE h fun _ _ _ _ _ h k' S r => ⟨_, _, _, h, k.trans k', S, r⟩
theorem preB {t : Sem Bool} {P : Bool → List O → Prop} (k : KE f ρ ρ' s.heap s'.heap) (h : wpAny M A t (PostB cx f env loc ρ' s' P) NoE s₀) : wpAny M A t (PostB cx f env loc ρ s P) E s₀ :=
  goB h fun _ _ _ _ h k' S => ⟨_, _, h, k.trans k', S⟩
theorem preL {t : Sem (List Value)} {P : List V → List O → Prop} (k : KE f ρ ρ' s.heap s'.heap) (h : wpAny M A t (PostL cx f env loc ρ' s' P) NoE s₀) : wpAny M A t (PostL cx f env loc ρ s P) E s₀ :=
  goL h fun _ _ _ _ _ h k' S r => ⟨_, _, _, h, k.trans k', S, r⟩
/-- the same state, but for numbers that are drawn -/
theorem stay {v : V} {x : Value} {t : Nat} (S : St cx f env ρ σ loc s) (h : P v σ) (r : VR cx.hb s.heap ρ v x) : PostE cx f env loc ρ s P x { s with toks := t } := ⟨v, σ, ρ, h, KE.refl .., S.tk, r⟩

theorem VR.boolE {hb h : Heap} {b : Bool} {x : Value} (r : VR hb h ρ (.bool b) x) : x = .bool b := by cases r; rfl
theorem VR.intE {hb h : Heap} {i : Int} {x : Value} (r : VR hb h ρ (.int i) x) : ∃ t, x = .int i t := by cases r; exact ⟨_, rfl⟩
theorem VR.strE {hb h : Heap} {i : Str} {x : Value} (r : VR hb h ρ (.str i) x) : ∃ t, x = .str i t := by cases r; exact ⟨_, rfl⟩
theorem VR.refE {hb h : Heap} {i : Nat} {x : Value} (r : VR hb h ρ (.ref i) x) : ∃ a, x = .ref a ∧ ρ[i]? = some a := by cases r; exact ⟨_, rfl, by assumption⟩
theorem VRs.one {hb h : Heap} {a : V} {xs : List Value} (r : VRs hb h ρ [a] xs) : ∃ x, xs = [x] ∧ VR hb h ρ a x := by cases r with | cons r r' => cases r'; exact ⟨_, rfl, r⟩
theorem VRs.two {hb h : Heap} {a b : V} {xs : List Value} (r : VRs hb h ρ [a, b] xs) : ∃ x y, xs = [x, y] ∧ VR hb h ρ a x ∧ VR hb h ρ b y := by
  cases r with | cons r r' => obtain ⟨y, rfl, r''⟩ := VRs.one r'; exact ⟨_, _, rfl, r, r''⟩

theorem TE_none {k : Nat} (h : P .none σ) : TE cx n sc loc σ (.Constant .none k pos) P := fun _ _ _ _ _ _ S => wpAny_Constant_none (stay S h .none)
theorem TE_bool {b : Bool} {k : Nat} (h : P (.bool b) σ) : TE cx n sc loc σ (.Constant (.bool b) k pos) P := fun _ _ _ _ _ _ S => wpAny_Constant_bool (stay S h (.bool _))
theorem TE_int {i : Int} {k : Nat} (h : P (.int i) σ) : TE cx n sc loc σ (.Constant (.int i) k pos) P := fun _ _ _ _ _ _ S => wpAny_Constant_int (stay S h (.int _ _))
theorem TE_str {x : Str} {k : Nat} (h : P (.str x) σ) (o : PyData.canLay0 (.str x) = true := by decide +kernel) : TE cx n sc loc σ (.Constant (.str x) k pos) P := fun _ _ _ _ _ _ S => wpAny_Constant_str (stay S h (.str _ _ o))

def nameOk (x : Str) : Bool := !(x == ("__debug__" : Str)) && !(x == ("__classdict__" : Str))
theorem nameOk1 {x : Str} (h : nameOk x = true) : (x == ("__debug__" : Str)) = false := (Bool.not_eq_true' _).mp (Bool.and_eq_true_iff.mp h).1
theorem nameOk2 {x : Str} (h : nameOk x = true) : (x == ("__classdict__" : Str)) = false := (Bool.not_eq_true' _).mp (Bool.and_eq_true_iff.mp h).2

theorem load_var {x : Str} {val : Value} {Q : Value → Shared → Prop} (hk : env.scope.kind = .function) (hx : nameOk x = true) (v : VarAt s.heap env x val) (h : Q val s) : wpAny M A (loadName env x) Q E s := by
  unfold VarAt at v
  split at v
  · rename_i e; obtain ⟨m, a, b⟩ := v; exact wpAny_loadName_local hk e a b h
  · rename_i e; obtain ⟨c, a, b⟩ := v; exact wpAny_loadName_cell hk e a b h
  · rename_i e; obtain ⟨c, a, b⟩ := v; exact wpAny_loadName_free hk e a b h (nameOk2 hx)
  · exact v.elim
theorem EnvOk.fn (eo : EnvOk env sc) : env.scope.kind = .function := eo.scope ▸ eo.kind
theorem TE_var {x : Str} {v : V} (e : lk loc x = some v) (h : P v σ) (hx : nameOk x = true := by rfl) : TE cx n sc loc σ (.Name x pos) P := fun f env ρ s _ eo S => by
  obtain ⟨val, a, r⟩ := S.vars x v e
  exact wpAny_Name (load_var eo.fn hx a (stay S h r)) (nameOk1 hx)

theorem TE_bin {a b : Expr} {op : Operator} (h : TE cx n sc loc σ a fun va σ₁ => TE cx n sc loc σ₁ b fun vb σ₂ => TO cx n sc loc σ₂ (op2 (binaryOp op)) [va, vb] P) : TE cx n sc loc σ (.BinOp a op b pos) P :=
  fun f env ρ s ok eo S => wpAny_BinOp (goE (h f env ρ s ok eo S) fun _ _ _ _ _ h1 k1 S1 r1 =>
    goE (h1 f env _ _ ok eo S1) fun _ _ _ _ _ h2 k2 S2 r2 => preE (k1.trans k2) (h2 f env _ _ [_, _] ok eo S2 (.cons (r1.mono (S1.imm k2) k2.pre) (.cons r2 .nil))))
theorem TE_cmp {a b : Expr} {op : CmpOp} (h : TE cx n sc loc σ a fun va σ₁ => TE cx n sc loc σ₁ b fun vb σ₂ => TO cx n sc loc σ₂ (op2 (compareOp op)) [va, vb] P) (hm : behindInMarks op b = false := by with_unfolding_all rfl) :
    TE cx n sc loc σ (.Compare a [op] [b] pos) P :=
  fun f env ρ s ok eo S => wpAny_Compare1 (goE (h f env ρ s ok eo S) fun _ _ _ _ _ h1 k1 S1 r1 =>
    goE (h1 f env _ _ ok eo S1) fun _ _ _ _ _ h2 k2 S2 r2 => preE (k1.trans k2) (h2 f env _ _ [_, _] ok eo S2 (.cons (r1.mono (S1.imm k2) k2.pre) (.cons r2 .nil)))) hm
/-- a post that asks for a bool -/
def isB (P : Bool → List O → Prop) (v : V) (σ : List O) : Prop := ∃ b, v = .bool b ∧ P b σ
theorem isB.intro {P : Bool → List O → Prop} {b : Bool} (h : P b σ) : isB P (.bool b) σ := ⟨b, rfl, h⟩
theorem goT {t : Sem Value} {P : Bool → List O → Prop} {Q : Bool → Shared → Prop} (h : wpAny M A t (PostE cx f env loc ρ s (isB P)) NoE s₀)
    (k : ∀ b s' σ' ρ', P b σ' → KE f ρ ρ' s.heap s'.heap → St cx f env ρ' σ' loc s' → Q b s') : wpAny M A t (fun v s₁ => wpAny M A (truthy v) Q E s₁) E s₀ :=
  goE h fun _ _ _ _ _ h1 k1 S1 r1 => by obtain ⟨b, rfl, hp⟩ := h1; rw [r1.boolE]; exact wpAny_truthy_bool (k _ _ _ _ hp k1 S1)
theorem TB_cmp {a b : Expr} {op : CmpOp} {P : Bool → List O → Prop} (h : TE cx n sc loc σ a fun va σ₁ => TE cx n sc loc σ₁ b fun vb σ₂ => TO cx n sc loc σ₂ (op2 (compareOp op)) [va, vb] (isB P)) (hm : behindInMarks op b = false := by with_unfolding_all rfl) :
    TB cx n sc loc σ (.Compare a [op] [b] pos) P :=
  fun f env ρ s ok eo S => wpAny_isTrue_Compare1 (goE (h f env ρ s ok eo S) fun _ _ _ _ _ h1 k1 S1 r1 =>
    goE (h1 f env _ _ ok eo S1) fun _ _ _ _ _ h2 k2 S2 r2 => goT (h2 f env _ _ [_, _] ok eo S2 (.cons (r1.mono (S1.imm k2) k2.pre) (.cons r2 .nil))) fun _ _ _ _ h k S => ⟨_, _, h, (k1.trans k2).trans k, S⟩) hm
theorem TB_val {e : Expr} {P : Bool → List O → Prop} (h : TE cx n sc loc σ e (isB P))
    (he : ∀ env whole, isTrue e env whole = (do let v ← whole; standAt e.pos; holding [v] (truthy v)) := by intros; rfl) : TB cx n sc loc σ e P :=
  fun f env ρ s ok eo S => wpAny_isTrue_value (goT (h f env ρ s ok eo S) fun _ _ _ _ h k S => ⟨_, _, h, k, S⟩) (he _ _)
theorem TB_not {x : Expr} {P : Bool → List O → Prop} (h : TB cx n sc loc σ x fun b => P (!b)) : TB cx n sc loc σ (.UnaryOp .Not x pos) P :=
  fun f env ρ s ok eo S => wpAny_isTrue_Not (h f env ρ s ok eo S)
def TAll (cx : Cx) (n : Nat) (sc : Scope) (loc : Loc) (σ : List O) (op : BoolOp) (es : List Expr) (P : Bool → List O → Prop) : Prop :=
  ∀ f env ρ s, FrOk cx f n → EnvOk env sc → St cx f env ρ σ loc s → wpAny (model cx.prog cx.w) f.A (allTrue op es env) (PostB cx f env loc ρ s P) NoE s
theorem TB_op {op : BoolOp} {es : List Expr} {P : Bool → List O → Prop} (h : TAll cx n sc loc σ op es P) : TB cx n sc loc σ (.BoolOp op es pos) P :=
  fun f env ρ s ok eo S => wpAny_isTrue_BoolOp (h f env ρ s ok eo S)
theorem TAll_andN {P : Bool → List O → Prop} (h : P true σ) : TAll cx n sc loc σ .And [] P := fun _ _ _ _ _ _ S => wpAny_allTrue_And_nil ⟨_, _, h, KE.refl .., S⟩
theorem TAll_orN {P : Bool → List O → Prop} (h : P false σ) : TAll cx n sc loc σ .Or [] P := fun _ _ _ _ _ _ S => wpAny_allTrue_Or_nil ⟨_, _, h, KE.refl .., S⟩
theorem TAll_and {x : Expr} {es : List Expr} {P : Bool → List O → Prop} (h : TB cx n sc loc σ x fun b σ₁ => if b = true then TAll cx n sc loc σ₁ .And es P else P false σ₁) : TAll cx n sc loc σ .And (x :: es) P :=
  fun f env ρ s ok eo S => wpAny_allTrue_And_cons (goB (h f env ρ s ok eo S) fun b _ _ _ h1 k1 S1 => by
    cases b
    · exact ⟨_, _, h1, k1, S1⟩
    · exact preB k1 (h1 f env _ _ ok eo S1))
theorem TAll_or {x : Expr} {es : List Expr} {P : Bool → List O → Prop} (h : TB cx n sc loc σ x fun b σ₁ => if b = true then P true σ₁ else TAll cx n sc loc σ₁ .Or es P) : TAll cx n sc loc σ .Or (x :: es) P :=
  fun f env ρ s ok eo S => wpAny_allTrue_Or_cons (goB (h f env ρ s ok eo S) fun b _ _ _ h1 k1 S1 => by
    cases b
    · exact preB k1 (h1 f env _ _ ok eo S1)
    · exact ⟨_, _, h1, k1, S1⟩)
/-- and, or as a value; all parts but the last are bools -/
def TBo (cx : Cx) (n : Nat) (sc : Scope) (loc : Loc) (σ : List O) (op : BoolOp) (es : List Expr) (P : V → List O → Prop) : Prop :=
  ∀ pos, TV cx n sc loc σ (fun env => boolOp pos op (evalEach es env)) P
theorem TE_op {op : BoolOp} {es : List Expr} (h : TBo cx n sc loc σ op es P) : TE cx n sc loc σ (.BoolOp op es pos) P := h pos
theorem TBo_one {op : BoolOp} {x : Expr} (h : TE cx n sc loc σ x P) : TBo cx n sc loc σ op [x] P := fun _ f env ρ s ok eo S => h f env ρ s ok eo S
theorem TBo_and {x y : Expr} {es : List Expr} (h : TE cx n sc loc σ x (isB fun b σ₁ => if b = true then TBo cx n sc loc σ₁ .And (y :: es) P else P (.bool false) σ₁)) : TBo cx n sc loc σ .And (x :: y :: es) P := fun pos f env ρ s ok eo S => by
  refine wpAny_bind (goE (h f env ρ s ok eo S) fun v s₁ _ _ _ h1 k1 S1 r1 => wpAny_bind (wpAny_standAt (wpAny_bind (wpAny_holding ?_))))
  obtain ⟨b, rfl, h1⟩ := h1
  rw [r1.boolE]
  refine wpAny_truthy_bool ?_
  cases b
  · exact wpAny_pure ⟨_, _, _, h1, k1, S1, .bool _⟩
  · exact preE k1 (h1 pos f env _ _ ok eo S1)
theorem TBo_or {x y : Expr} {es : List Expr} (h : TE cx n sc loc σ x (isB fun b σ₁ => if b = true then P (.bool true) σ₁ else TBo cx n sc loc σ₁ .Or (y :: es) P)) : TBo cx n sc loc σ .Or (x :: y :: es) P := fun pos f env ρ s ok eo S => by
  refine wpAny_bind (goE (h f env ρ s ok eo S) fun v s₁ _ _ _ h1 k1 S1 r1 => wpAny_bind (wpAny_standAt (wpAny_bind (wpAny_holding ?_))))
  obtain ⟨b, rfl, h1⟩ := h1
  rw [r1.boolE]
  refine wpAny_truthy_bool ?_
  cases b
  · exact preE k1 (h1 pos f env _ _ ok eo S1)
  · exact wpAny_pure ⟨_, _, _, h1, k1, S1, .bool _⟩
theorem TE_ite {t b o : Expr} (h : TB cx n sc loc σ t fun c σ₁ => if c = true then TE cx n sc loc σ₁ b P else TE cx n sc loc σ₁ o P) : TE cx n sc loc σ (.IfExp t b o pos) P :=
  fun f env ρ s ok eo S => wpAny_IfExp (goB (h f env ρ s ok eo S) fun c _ _ _ h1 k1 S1 => by cases c <;> exact preE k1 (h1 f env _ _ ok eo S1))
theorem TE_not {x : Expr} (h : TE cx n sc loc σ x (isB fun b => P (.bool (!b)))) : TE cx n sc loc σ (.UnaryOp .Not x pos) P :=
  fun f env ρ s ok eo S => wpAny_UnaryOp (goE (h f env ρ s ok eo S) fun _ _ _ _ _ h1 k1 S1 r1 => by
    obtain ⟨b, rfl, hp⟩ := h1; rw [r1.boolE]; exact not_value (wpAny_truthy_bool ⟨_, _, _, hp, k1, S1, .bool _⟩))
theorem TE_neg {x : Expr} (h : TE cx n sc loc σ x fun v σ₁ => ∃ i, v = .int i ∧ P (.int (-i)) σ₁) : TE cx n sc loc σ (.UnaryOp .USub x pos) P :=
  fun f env ρ s ok eo S => wpAny_UnaryOp (goE (h f env ρ s ok eo S) fun _ _ _ _ _ h1 k1 S1 r1 => by
    obtain ⟨i, rfl, hp⟩ := h1; obtain ⟨t, rfl⟩ := r1.intE; exact neg_int ⟨_, _, _, hp, k1, S1.tk, .int _ _⟩)

/-! lists of expressions -/
theorem TEs_nil {P : List V → List O → Prop} (h : P [] σ) : TEs cx n sc loc σ [] P := fun _ _ _ _ _ _ _ S => wpAny_items_nil ⟨_, _, _, h, KE.refl .., S, .nil⟩
theorem TEs_cons {e : Expr} {es : List Expr} {P : List V → List O → Prop} (h : TE cx n sc loc σ e fun v σ₁ => TEs cx n sc loc σ₁ es fun vs => P (v :: vs))
    (he : ∀ env, starEach (e :: es) env = (false, eval e env) :: starEach es env := by intros; rfl) : TEs cx n sc loc σ (e :: es) P :=
  fun pos f env ρ s ok eo S => wpAny_items_cons (goE (h f env ρ s ok eo S) fun _ _ _ _ _ h1 k1 S1 r1 =>
    goL (h1 pos f env _ _ ok eo S1) fun _ _ _ _ _ h2 k2 S2 r2 => ⟨_, _, _, h2, k1.trans k2, S2, .cons (r1.mono (S1.imm k2) k2.pre) r2⟩) (he env)

theorem tupAt {vs : List V} {xs : List Value} {t : Nat} (S : St cx f env ρ σ loc s) (h : P (.tup vs) σ) (r : VRs cx.hb s.heap ρ vs xs) (z : vs.length ≤ sizeLine) : PostE cx f env loc ρ s P (.ref s.heap.objs.size) { s with heap := s.heap.push { cls := .type "tuple", data := .seq xs.toArray }, toks := t } :=
  have kp : ∀ a o, s.heap.get? a = some o → (s.heap.push { cls := .type "tuple", data := .seq xs.toArray }).get? a = some o := fun _ _ e => Heap.get?_push_of_some _ e
  ⟨_, _, _, h, KE.grow kp, S.grow kp, VR.tupI 0 (Heap.get?_push_size _ rfl) (VRs.mono (fun _ _ e _ => kp _ _ e) (pre_refl _) r) z⟩
theorem PostE.pre {x : Value} {s'' : Shared} (k : KE f ρ ρ' s.heap s'.heap) (h : PostE cx f env loc ρ' s' P x s'') : PostE cx f env loc ρ s P x s'' := by
  obtain ⟨v, σ', ρ'', h, k', S, r⟩ := h; exact ⟨v, σ', ρ'', h, k.trans k', S, r⟩
theorem TE_tup {es : List Expr} {k : Nat} (h : TEs cx n sc loc σ es fun vs σ₁ => vs.length ≤ sizeLine ∧ P (.tup vs) σ₁) : TE cx n sc loc σ (.Tuple es k pos) P :=
  fun f env ρ s ok eo S => wpAny_Tuple (goL (h pos f env ρ s ok eo S) fun _ _ _ _ _ h1 k1 S1 r1 => ⟨by rw [r1.length]; exact h1.1, (tupAt S1 h1.2 r1 h1.1).pre k1⟩)

theorem St.big2 (ok : FrOk cx f n) (S : St cx f env ρ σ loc s) {a : Addr} (h : s.heap.objs.size ≤ a) : a ≠ sysModules := by
  obtain ⟨m, F⟩ := S.fr
  obtain ⟨mc, q, _⟩ := ok.top.nolimit
  have := (q.keeps F.keep).lt
  exact fun z => absurd (Nat.lt_of_lt_of_le this (z ▸ h)) (by decide)
theorem fresh {h : Heap} : h.get? h.objs.size = none := by
  cases e : h.get? h.objs.size with
  | none => rfl
  | some o => exact absurd (Heap.lt_size e) (Nat.lt_irrefl _)
theorem newAt {ob : Obj} {o : O} {t : Nat} (ok : FrOk cx f n) (S : St cx f env ρ σ loc s) (h : P (.ref σ.length) (σ ++ [o])) (r : OR cx s.heap ρ o ob) (hf : ob.isFreed = false := by rfl) : PostE cx f env loc ρ s P (.ref s.heap.objs.size) { s with heap := s.heap.push ob, toks := t } := by
  have kp : ∀ a o, s.heap.get? a = some o → (s.heap.push ob).get? a = some o := fun _ _ e => Heap.get?_push_of_some _ e
  refine ⟨_, _, ρ ++ [s.heap.objs.size], h, S.keNews kp (by simp [fresh]), S.new kp fresh (Heap.get?_push_size _ hf) (r.mono (fun _ _ e _ => kp _ _ e) ⟨_, rfl⟩) (fun _ => S.big2 ok (Nat.le_refl _)), .ref ?_⟩
  rw [← S.len, List.getElem?_append_right (Nat.le_refl _), Nat.sub_self]; rfl
theorem TE_list {es : List Expr} (h : TEs cx n sc loc σ es fun vs σ₁ => vs.length ≤ sizeLine ∧ P (.ref σ₁.length) (σ₁ ++ [.list vs])) : TE cx n sc loc σ (.List es pos) P :=
  fun f env ρ s ok eo S => wpAny_List (goL (h pos f env ρ s ok eo S) fun xs _ _ _ _ h1 k1 S1 r1 => ⟨by rw [r1.length]; exact h1.1, (newAt ok S1 h1.2 ⟨xs, 0, rfl, r1, h1.1⟩).pre k1⟩)
end
end Mine
open PySem PySem.W PyProof.Rows PySem.Calls PySem.SeqAt PySem.MeetsSeq
set_option Elab.async false
namespace Mine

/-- plain data, four deep at most -/
def py : Nat → V → PyData
  | _, .none => .none
  | _, .bool b => .bool b
  | _, .int i => .int i
  | _, .str s => .str s
  | k + 1, .tup l => .tuple (l.map (py k))
  | _, _ => .none
def okV : Nat → V → Bool
  | _, .none => true
  | _, .bool _ => true
  | _, .int _ => true
  | _, .str _ => true
  | k + 1, .tup l => l.all (okV k)
  | _, _ => false
section
variable {hb h : Heap} {ρ : List Addr}
theorem lay_all {l : List V} {xs : List Value} {k : Nat} (r : VRs hb h ρ l xs) (ih : ∀ v x, okV k v = true → VR hb h ρ v x → (py k v).canLay0 = true ∧ (py k v).depth ≤ k + 1) (o : l.all (okV k) = true) : PyData.canLayAll0 (l.map (py k)) = true ∧ PyData.depthAll (l.map (py k)) ≤ k + 1 := by
  induction r with
  | nil => exact ⟨rfl, Nat.zero_le _⟩
  | cons q _ ihl =>
    rw [List.all_cons, Bool.and_eq_true] at o
    obtain ⟨a, b⟩ := ih _ _ o.1 q
    obtain ⟨c, d⟩ := ihl o.2
    simp only [List.map_cons, PyData.canLayAll0, PyData.depthAll, a, c, Bool.and_self, true_and]
    exact Nat.max_le.mpr ⟨b, d⟩
theorem lay_flat {k : Nat} {v : V} {x : Value} (o : okV 0 v = true) (r : VR hb h ρ v x) : (py k v).canLay0 = true ∧ (py k v).depth ≤ 1 := by
  cases k <;> cases r <;> first | exact (Bool.false_ne_true o).elim | exact ⟨by assumption, by simp [py, PyData.depth]⟩ | exact ⟨rfl, by simp [py, PyData.depth]⟩
theorem lay_py (k : Nat) : ∀ (v : V) (x : Value), okV k v = true → VR hb h ρ v x → (py k v).canLay0 = true ∧ (py k v).depth ≤ k + 1 := by
  induction k with
  | zero => exact fun v x o r => lay_flat o r
  | succ k ih =>
    intro v x o r
    by_cases t : ∃ l, v = .tup l
    · obtain ⟨l, rfl⟩ := t
      obtain ⟨_, _, _, _, _, q⟩ := r.tupE
      obtain ⟨a, b⟩ := lay_all q ih o
      exact ⟨a, by rw [py, PyData.depth]; exact Nat.add_le_add_right b 1⟩
    · obtain ⟨a, b⟩ := lay_flat (k := k + 1) (by cases v <;> first | exact o | exact absurd ⟨_, rfl⟩ t) r
      exact ⟨a, Nat.le_trans b (Nat.le_add_left _ _)⟩
theorem readsAll_py {k : Nat} {l : List V} {xs : List Value} (r : VRs hb h ρ l xs) (ih : ∀ v x, okV k v = true → VR hb h ρ v x → ∃ as, Reads h x (py k v) as) (o : l.all (okV k) = true) : ∃ as, ReadsAll h xs (l.map (py k)) as := by
  induction r with
  | nil => exact ⟨_, .nil⟩
  | cons a _ ihl =>
    rw [List.all_cons, Bool.and_eq_true] at o
    obtain ⟨_, p⟩ := ih _ _ o.1 a
    obtain ⟨_, q⟩ := ihl o.2
    exact ⟨_, .cons p q⟩
theorem reads_flat {k : Nat} {v : V} {x : Value} (o : okV 0 v = true) (r : VR hb h ρ v x) : ∃ as, Reads h x (py k v) as := by
  cases k <;> cases r <;> first | exact ⟨_, .none⟩ | exact ⟨_, .bool _⟩ | exact ⟨_, .int _ _⟩ | exact ⟨_, .str _ _⟩ | exact (Bool.false_ne_true o).elim
theorem reads_py (k : Nat) : ∀ (v : V) (x : Value), okV k v = true → VR hb h ρ v x → ∃ as, Reads h x (py k v) as := by
  induction k with
  | zero => exact fun v x o r => reads_flat o r
  | succ k ih =>
    intro v x o r
    by_cases t : ∃ l, v = .tup l
    · obtain ⟨l, rfl⟩ := t
      obtain ⟨a, vs, n, rfl, e, q⟩ := r.tupE
      obtain ⟨as, q'⟩ := readsAll_py q ih o
      exact ⟨as, .tuple e rfl rfl q'⟩
    · exact reads_flat (by cases v <;> first | exact o | exact absurd ⟨_, rfl⟩ t) r
end

section
variable {cx : Cx} {n : Nat} {sc : Scope} {loc : Loc} {σ : List O} {P : V → List O → Prop} {pos : Pos}
  {f : Frm} {env : Env} {ρ ρ' : List Addr} {s s' s₀ : Shared} {M : Model} {A : Around} {E : Value → Shared → Prop}

theorem TO2 {t : Value → Value → Sem Value} {va vb : V} (h : ∀ f env ρ s x y, FrOk cx f n → EnvOk env sc → St cx f env ρ σ loc s → VR cx.hb s.heap ρ va x → VR cx.hb s.heap ρ vb y → wpAny (model cx.prog cx.w) f.A (t x y) (PostE cx f env loc ρ s P) NoE s) :
    TO cx n sc loc σ (op2 t) [va, vb] P := fun f env ρ s xs ok eo S r => by obtain ⟨x, y, rfl, rx, ry⟩ := VRs.two r; exact h f env ρ s x y ok eo S rx ry
theorem TO1 {t : Value → Sem Value} {va : V} (h : ∀ f env ρ s x, FrOk cx f n → EnvOk env sc → St cx f env ρ σ loc s → VR cx.hb s.heap ρ va x → wpAny (model cx.prog cx.w) f.A (t x) (PostE cx f env loc ρ s P) NoE s) :
    TO cx n sc loc σ (op1 t) [va] P := fun f env ρ s xs ok eo S r => by obtain ⟨x, rfl, rx⟩ := VRs.one r; exact h f env ρ s x ok eo S rx
theorem TO_intI {t : Value → Value → Sem Value} {a b c : Int} (k : ∀ {A : Around} {E : Value → Shared → Prop} {s : Shared} {t1 t2 : Tok} {Q : Value → Shared → Prop}, Q (.int c s.toks) { s with toks := s.toks + 1 } → wpAny (model cx.prog cx.w) A (t (.int a t1) (.int b t2)) Q E s)
    (h : P (.int c) σ) : TO cx n sc loc σ (op2 t) [.int a, .int b] P :=
  TO2 fun _ _ _ _ _ _ _ _ S rx ry => by obtain ⟨_, rfl⟩ := rx.intE; obtain ⟨_, rfl⟩ := ry.intE; exact k (stay S h (.int _ _))
theorem TO_intB {t : Value → Value → Sem Value} {a b : Int} {c : Bool} (k : ∀ {A : Around} {E : Value → Shared → Prop} {s : Shared} {t1 t2 : Tok} {Q : Value → Shared → Prop}, Q (.bool c) s → wpAny (model cx.prog cx.w) A (t (.int a t1) (.int b t2)) Q E s)
    (h : P (.bool c) σ) : TO cx n sc loc σ (op2 t) [.int a, .int b] P :=
  TO2 fun _ _ _ _ _ _ _ _ S rx ry => by obtain ⟨_, rfl⟩ := rx.intE; obtain ⟨_, rfl⟩ := ry.intE; exact k (stay (t := _) S h (.bool _))
theorem TO_eqS {a b : Str} (h : P (.bool (a == b)) σ) : TO cx n sc loc σ (op2 (compareOp .Eq)) [.str a, .str b] P :=
  TO2 fun _ _ _ _ _ _ _ _ S rx ry => by obtain ⟨_, rfl⟩ := rx.strE; obtain ⟨_, rfl⟩ := ry.strE; exact PyProof.Rows.eq_str (stay (t := _) S h (.bool _))
theorem TO_div {a b : Int} (hb : b ≠ 0) (hp : b.natAbs < 1073741824) (h : P (.int (a.fdiv b)) σ) : TO cx n sc loc σ (op2 (binaryOp .FloorDiv)) [.int a, .int b] P :=
  TO2 fun _ _ _ _ _ _ _ _ S rx ry => by obtain ⟨_, rfl⟩ := rx.intE; obtain ⟨_, rfl⟩ := ry.intE; exact floordiv_int hb (stay S h (.int _ _)) (.inl (PyProof.noPylong_small hp))
theorem TO_mul {a b : Int} (hm : IntMulOk a b) (h : P (.int (a * b)) σ) : TO cx n sc loc σ (op2 (binaryOp .Mult)) [.int a, .int b] P :=
  TO2 fun _ _ _ _ _ _ _ _ S rx ry => by obtain ⟨_, rfl⟩ := rx.intE; obtain ⟨_, rfl⟩ := ry.intE; exact PyProof.Rows.mul_int (stay S h (.int _ _)) hm
def isNone : V → Bool
  | .none => true
  | _ => false
theorem VR.isNone {hb h : Heap} {v : V} {x : Value} (r : VR hb h ρ v x) : (x == .none) = Mine.isNone v := by cases r <;> rfl
theorem TO_is {a : V} (h : P (.bool (isNone a)) σ) : TO cx n sc loc σ (op2 (compareOp .Is)) [a, .none] P :=
  TO2 fun _ _ _ _ _ _ _ _ S rx ry => by cases ry; exact is_none (by rw [rx.isNone]; exact stay (t := _) S h (.bool _))
theorem TO_isNot {a : V} (h : P (.bool (!isNone a)) σ) : TO cx n sc loc σ (op2 (compareOp .IsNot)) [a, .none] P :=
  TO2 fun _ _ _ _ _ _ _ _ S rx ry => by cases ry; exact isNot_none (by rw [rx.isNone]; exact stay (t := _) S h (.bool _))

theorem St.list {i : Nat} {l : List V} {x : Value} (S : St cx f env ρ σ loc s) (e : σ[i]? = some (.list l)) (r : VR cx.hb s.heap ρ (.ref i) x) : ∃ a vs k, x = .ref a ∧ ρ[i]? = some a ∧ s.heap.get? a = some (listOf vs.toArray k) ∧ VRs cx.hb s.heap ρ l vs := by
  obtain ⟨a, rfl, ha⟩ := r.refE
  obtain ⟨ob, q, vs, k, rfl, r', _⟩ := S.rep i _ a e ha
  exact ⟨a, vs, k, rfl, ha, q, r'⟩
theorem isList_of {h : Heap} {a : Addr} {vs : List Value} {k : Nat} (e : h.get? a = some (listOf vs.toArray k)) : h.IsList a vs.toArray := ⟨_, e, rfl, k, rfl⟩
theorem room4 {k : Nat} {a b : Nat} (ok : FrOk cx f n) (h : a ≤ 6) (hk : k ≤ 1) : f.A.units + k + min a b < cLine := by have := ok.units; omega
/-- plain items -/
abbrev oks (l : List V) : Bool := l.all (okV 4)
abbrev pys (l : List V) : List PyData := l.map (py 4)
theorem St.rdL {i : Nat} {l : List V} {x : Value} (S : St cx f env ρ σ loc s) (e : σ[i]? = some (.list l)) (o : oks l = true) (r : VR cx.hb s.heap ρ (.ref i) x) : ∃ as, Reads s.heap x (.list (pys l)) as := by
  obtain ⟨a, vs, k, rfl, ha, q, r'⟩ := S.list e r
  obtain ⟨_, r2⟩ := readsAll_py r' (reads_py 4) o
  exact ⟨_, .list q rfl rfl r2⟩
theorem layL {l : List V} {xs : List Value} {hb h : Heap} (r : VRs hb h ρ l xs) (o : oks l = true) : PyData.canLayAll0 (pys l) = true ∧ PyData.depthAll (pys l) ≤ 5 := lay_all r (lay_py 4) o
theorem St.lyL {i : Nat} {l : List V} {x : Value} (S : St cx f env ρ σ loc s) (e : σ[i]? = some (.list l)) (o : oks l = true) (r : VR cx.hb s.heap ρ (.ref i) x) : PyData.canLayAll0 (pys l) = true ∧ PyData.depthAll (pys l) ≤ 5 := by
  obtain ⟨a, vs, k, rfl, ha, q, r'⟩ := S.list e r
  exact layL r' o
theorem St.listZ {i : Nat} {l : List V} (S : St cx f env ρ σ loc s) (e : σ[i]? = some (.list l)) : l.length ≤ sizeLine := by
  have h : i < ρ.length := S.len ▸ (List.getElem?_eq_some_iff.mp e).1
  obtain ⟨ob, q, vs, k, rfl, _, z⟩ := S.rep i _ _ e (List.getElem?_eq_getElem h)
  exact z
def hits (l : List V) (x : V) : Bool := (pys l).any fun y => PyData.eqv y (py 4 x)
/-- in, not in -/
theorem TO_inL {x : V} {i : Nat} {l : List V} (e : σ[i]? = some (.list l)) (ol : oks l = true) (ox : okV 4 x = true) (h : P (.bool (hits l x)) σ) : TO cx n sc loc σ (op2 (compareOp .In)) [x, .ref i] P :=
  TO2 fun _ _ _ _ _ _ ok _ S rx ry => by
    obtain ⟨_, r1⟩ := reads_py 4 _ _ ox rx
    obtain ⟨_, r2⟩ := S.rdL e ol ry
    have w := S.lyL e ol ry
    exact in_list_reads r2 r1 w.1 (lay_py 4 x _ ox rx).1 (room4 ok (Nat.le_succ_of_le w.2) (Nat.le_refl _)) (stay (t := _) S h (.bool _))
theorem TO_ninL {x : V} {i : Nat} {l : List V} (e : σ[i]? = some (.list l)) (ol : oks l = true) (ox : okV 4 x = true) (h : P (.bool (!hits l x)) σ) : TO cx n sc loc σ (op2 (compareOp .NotIn)) [x, .ref i] P :=
  TO2 fun _ _ _ _ _ _ ok _ S rx ry => by
    obtain ⟨_, r1⟩ := reads_py 4 _ _ ox rx
    obtain ⟨_, r2⟩ := S.rdL e ol ry
    have w := S.lyL e ol ry
    exact notIn_list_reads r2 r1 w.1 (lay_py 4 x _ ox rx).1 (room4 ok (Nat.le_succ_of_le w.2) (Nat.le_refl _)) (stay (t := _) S h (.bool _))
theorem TO_inT {x : V} {l : List V} (ol : oks l = true) (ox : okV 4 x = true) (h : P (.bool (hits l x)) σ) : TO cx n sc loc σ (op2 (compareOp .In)) [x, .tup l] P :=
  TO2 fun _ _ _ _ _ _ ok _ S rx ry => by
    obtain ⟨_, r1⟩ := reads_py 4 _ _ ox rx
    obtain ⟨_, r2⟩ := reads_py 5 (.tup l) _ ol ry
    obtain ⟨_, _, _, _, _, q⟩ := ry.tupE
    have w := layL q ol
    exact in_tuple_reads r2 r1 w.1 (lay_py 4 x _ ox rx).1 (room4 ok (Nat.le_succ_of_le w.2) (Nat.le_refl _)) (stay (t := _) S h (.bool _))
theorem TO_ninT {x : V} {l : List V} (ol : oks l = true) (ox : okV 4 x = true) (h : P (.bool (!hits l x)) σ) : TO cx n sc loc σ (op2 (compareOp .NotIn)) [x, .tup l] P :=
  TO2 fun _ _ _ _ _ _ ok _ S rx ry => by
    obtain ⟨_, r1⟩ := reads_py 4 _ _ ox rx
    obtain ⟨_, r2⟩ := reads_py 5 (.tup l) _ ol ry
    obtain ⟨_, _, _, _, _, q⟩ := ry.tupE
    have w := layL q ol
    exact notIn_tuple_reads r2 r1 w.1 (lay_py 4 x _ ox rx).1 (room4 ok (Nat.le_succ_of_le w.2) (Nat.le_refl _)) (stay (t := _) S h (.bool _))
/-- two lists compared -/
theorem layList {l : List V} (o : PyData.canLayAll0 (pys l) = true ∧ PyData.depthAll (pys l) ≤ 5) : (PyData.list (pys l)).canLay0 = true ∧ (PyData.list (pys l)).depth ≤ 6 :=
  ⟨by rw [PyData.canLay0]; exact o.1, by rw [PyData.depth]; exact Nat.add_le_add_right o.2 1⟩
theorem TO_eqL {i j : Nat} {l l' : List V} (e : σ[i]? = some (.list l)) (e' : σ[j]? = some (.list l')) (ol : oks l = true) (ol' : oks l' = true) (h : P (.bool (PyData.eqvAll (pys l) (pys l'))) σ) : TO cx n sc loc σ (op2 (compareOp .Eq)) [.ref i, .ref j] P :=
  TO2 fun _ _ _ _ _ _ ok _ S rx ry => by
    obtain ⟨_, r1⟩ := S.rdL e ol rx
    obtain ⟨_, r2⟩ := S.rdL e' ol' ry
    exact compareEq_reads r1 r2 (layList (S.lyL e ol rx)).1 (layList (S.lyL e' ol' ry)).1 (room4 (k := 0) ok (layList (S.lyL e ol rx)).2 (Nat.zero_le _)) (stay (t := _) S h (.bool _))
theorem TO_neL {i j : Nat} {l l' : List V} (e : σ[i]? = some (.list l)) (e' : σ[j]? = some (.list l')) (ol : oks l = true) (ol' : oks l' = true) (h : P (.bool (!PyData.eqvAll (pys l) (pys l'))) σ) : TO cx n sc loc σ (op2 (compareOp .NotEq)) [.ref i, .ref j] P :=
  TO2 fun _ _ _ _ _ _ ok _ S rx ry => by
    obtain ⟨_, r1⟩ := S.rdL e ol rx
    obtain ⟨_, r2⟩ := S.rdL e' ol' ry
    exact compareNe_reads r1 r2 (layList (S.lyL e ol rx)).1 (layList (S.lyL e' ol' ry)).1 (room4 (k := 0) ok (layList (S.lyL e ol rx)).2 (Nat.zero_le _)) (stay (t := _) S h (.bool _))
end
end Mine
open PySem PySem.W PyProof.Rows PySem.Calls
set_option Elab.async false
namespace Mine
section
variable {cx : Cx} {n : Nat} {sc : Scope} {loc : Loc} {σ : List O} {P : V → List O → Prop} {pos : Pos}
  {f : Frm} {env : Env} {ρ ρ' : List Addr} {s s' s₀ : Shared} {M : Model} {A : Around} {E : Value → Shared → Prop}

theorem TE_sub {a i : Expr} (h : TE cx n sc loc σ a fun va σ₁ => TE cx n sc loc σ₁ i fun vi σ₂ => TO cx n sc loc σ₂ (op2 (subscriptTail a i)) [va, vi] P) : TE cx n sc loc σ (.Subscript a i pos) P :=
  fun f env ρ s ok eo S => Subscript_ (goE (h f env ρ s ok eo S) fun _ _ _ _ _ h1 k1 S1 r1 =>
    goE (h1 f env _ _ ok eo S1) fun _ _ _ _ _ h2 k2 S2 r2 => preE (k1.trans k2) (h2 f env _ _ [_, _] ok eo S2 (.cons (r1.mono (S1.imm k2) k2.pre) (.cons r2 .nil))))
/-- a subscript that is no slice -/
abbrev NoSlice (i : Expr) : Prop := ∀ o k, subscripted i false o k = operate [o, k] (getItem o k)
theorem seqIndex_nn {k : Int} {m : Nat} (h0 : 0 ≤ k) (h : k.toNat < m) : seqIndex? k m = some k.toNat := by
  have e : ¬ k < 0 := by omega
  have e' : k < (m : Int) := by omega
  simp only [seqIndex?, e, if_false, h0, e', decide_true, Bool.and_self, if_true]
theorem lt63 {α : Type} {l : List α} {k : Int} {v : α} (hz : l.length ≤ sizeLine) (h0 : 0 ≤ k) (hx : l[k.toNat]? = some v) : k < 2 ^ 63 := by have := Nat.lt_of_lt_of_le (List.getElem?_eq_some_iff.mp hx).1 hz; unfold sizeLine at this; omega
theorem TO_itemL {a i : Expr} {j : Nat} {l : List V} {k : Int} {v : V} (e : σ[j]? = some (.list l)) (h0 : 0 ≤ k) (hx : l[k.toNat]? = some v) (h : P v σ) (hs : NoSlice i := by intros; with_unfolding_all rfl) : TO cx n sc loc σ (op2 (subscriptTail a i)) [.ref j, .int k] P :=
  TO2 fun _ _ _ _ _ _ _ _ S rx ry => by
    obtain ⟨b, vs, q, rfl, ha, g, r'⟩ := S.list e rx
    obtain ⟨_, rfl⟩ := ry.intE
    obtain ⟨x, e1, e2⟩ := r'.get hx
    exact item_litK (isList_of g) h0 (lt63 (S.listZ e) h0 hx) e1 (stay (t := _) S h e2) (hs _ _)
theorem TO_itemT {a i : Expr} {l : List V} {k : Int} {v : V} (h0 : 0 ≤ k) (hx : l[k.toNat]? = some v) (h : P v σ) (hs : NoSlice i := by intros; with_unfolding_all rfl) : TO cx n sc loc σ (op2 (subscriptTail a i)) [.tup l, .int k] P :=
  TO2 fun _ _ _ _ _ _ _ _ S rx ry => by
    obtain ⟨b, vs, q, rfl, g, r'⟩ := rx.tupE
    obtain ⟨_, rfl⟩ := ry.intE
    obtain ⟨x, e1, e2⟩ := r'.get hx
    exact item_tupleT ⟨_, g, rfl, q, rfl⟩ (by omega) (lt63 rx.tupZ h0 hx) (seqIndex_nn h0 (List.getElem?_eq_some_iff.mp e1).1) e1 (stay (t := _) S h e2) (hs _ _)

/-! dicts -/
/-- a kind of keys: ints or strs -/
structure DK (cx : Cx) (K : Type) [DecidableEq K] where
  knd : KeyKind cx.prog cx.w K
  obj : List (K × V) → O
  key : K → V
  is : ∀ {hb h ρ k x}, VR hb h ρ (key k) x → knd.is k x = true
  build : ∀ {h ρ l ob kvs}, l ≠ [] → ob.IsDictOf knd kvs → KVs cx.hb h ρ l kvs → OR cx h ρ (obj l) ob
@[reducible] def dI (cx : Cx) : DK cx Int := ⟨intKind cx.prog cx.w, .di, .int, fun r => by cases r; exact intKind_is .., fun n d k => ⟨_, d, k, fun e => (n e).elim⟩⟩
@[reducible] def dS (cx : Cx) : DK cx Str := ⟨strKind cx.prog cx.w, .ds, .str, fun r => by cases r; exact strKind_is .., fun _ d k => ⟨_, d, k⟩⟩
variable {K : Type} [DecidableEq K]
/-- the object is a dict of that kind with that content -/
def DR (D : DK cx K) (o : O) (l : List (K × V)) : Prop := o.isD = true ∧ ∀ h ρ ob, OR cx h ρ o ob → ∃ kvs, ob.IsDictOf D.knd kvs ∧ KVs cx.hb h ρ l kvs
theorem dI_r {l : List (Int × V)} : DR (dI cx) (.di l) l := ⟨rfl, fun _ _ _ r => by obtain ⟨kvs, a, b, _⟩ := r; exact ⟨kvs, a, b⟩⟩
theorem dS_r {l : List (Str × V)} : DR (dS cx) (.ds l) l := ⟨rfl, fun _ _ _ r => r⟩
theorem dS_n : DR (dS cx) (.di []) [] := ⟨rfl, fun _ _ _ r => by obtain ⟨kvs, a, b, c⟩ := r; exact ⟨[], c rfl, .nil⟩⟩

theorem KVs.at {hb h : Heap} {l : List (K × V)} {kvs : List (K × Value)} (r : KVs hb h ρ l kvs) (k : K) : (∀ v, lk l k = some v → ∃ x, valueAt kvs k = some x ∧ VR hb h ρ v x) ∧ (lk l k = none → valueAt kvs k = none) := by
  induction r with
  | nil => exact ⟨fun _ e => (nomatch e), fun _ => rfl⟩
  | @cons a b l m r _ ih =>
    obtain ⟨k1, v1⟩ := a
    obtain ⟨k2, v2⟩ := b
    obtain ⟨e, r⟩ := r
    dsimp only at e r
    subst e
    unfold valueAt at ih ⊢
    rw [List.find?_cons]
    by_cases hk : k1 = k
    · simp only [lk, hk, if_true, decide_true]
      exact ⟨fun v e => ⟨_, rfl, Option.some.inj e ▸ r⟩, fun e => (nomatch e)⟩
    · simp only [lk, hk, if_false, decide_false]; exact ih
theorem map_same {kvs : List (K × Value)} {k : K} {x : Value} (h : k ∉ kvs.map (·.1)) : (kvs.map fun kv => if kv.1 = k then (kv.1, x) else kv) = kvs := by
  induction kvs with
  | nil => rfl
  | cons a l ih =>
    simp only [List.map_cons, List.mem_cons, not_or] at h ⊢
    rw [if_neg (fun e => h.1 e.symm), ih h.2]
theorem KVs.put {hb h : Heap} {l : List (K × V)} {kvs : List (K × Value)} {k : K} {v : V} {x : Value} (r : KVs hb h ρ l kvs) (q : VR hb h ρ v x) (nd : (kvs.map (·.1)).Nodup) : KVs hb h ρ (Mine.put l k v) (stored kvs k x) := by
  induction r with
  | nil => exact .cons ⟨rfl, q⟩ .nil
  | @cons a b l m r r' ih =>
    obtain ⟨k1, v1⟩ := a
    obtain ⟨k2, v2⟩ := b
    obtain ⟨e, r⟩ := r
    dsimp only at e r
    subst e
    rw [List.map_cons, List.nodup_cons] at nd
    have ih := ih nd.2
    unfold stored at ih ⊢
    by_cases hk : k1 = k
    · subst hk
      simp only [Mine.put, if_true, List.any_cons, decide_true, Bool.true_or, List.map_cons]
      rw [map_same nd.1]
      exact .cons ⟨rfl, q⟩ r'
    · simp only [Mine.put, hk, if_false, List.any_cons, decide_false, Bool.false_or, List.map_cons]
      split at ih
      · rename_i h; rw [if_pos h]; exact .cons ⟨rfl, r⟩ ih
      · rename_i h; rw [if_neg h]; exact .cons ⟨rfl, r⟩ ih
theorem put_ne {l : List (K × V)} {k : K} {v : V} : Mine.put l k v ≠ [] := by
  cases l with
  | nil => simp [Mine.put]
  | cons a l => unfold Mine.put; split <;> simp

theorem St.dict {D : DK cx K} {i : Nat} {o : O} {l : List (K × V)} {x : Value} (S : St cx f env ρ σ loc s) (e : σ[i]? = some o) (d : DR D o l) (r : VR cx.hb s.heap ρ (.ref i) x) : ∃ a kvs, x = .ref a ∧ ρ[i]? = some a ∧ (a == sysModules) = false ∧ s.heap.DictOf D.knd a kvs ∧ KVs cx.hb s.heap ρ l kvs ∧ (kvs.map (·.1)).Nodup := by
  obtain ⟨a, rfl, ha⟩ := r.refE
  obtain ⟨ob, q, r'⟩ := S.rep i _ a e ha
  obtain ⟨kvs, z, k⟩ := d.2 _ _ _ r'
  refine ⟨a, kvs, rfl, ha, ?_, Heap.dictOf_iff.mpr ⟨ob, q, z⟩, k, ?_⟩
  · exact beq_eq_false_iff_ne.mpr (S.big i o a e ha d.1)
  · obtain ⟨_, _, _, _, _, _, n⟩ := z; exact n
theorem TO_inD (D : DK cx K) {k : K} {i : Nat} {o : O} {l : List (K × V)} (e : σ[i]? = some o) (d : DR D o l) (h : P (.bool (lk l k).isSome) σ) : TO cx n sc loc σ (op2 (compareOp .In)) [D.key k, .ref i] P :=
  TO2 fun _ _ _ _ _ _ _ _ S rx ry => by
    obtain ⟨a, kvs, rfl, ha, hd, dd, kk, _⟩ := S.dict e d ry
    refine wpAny_in_of (D.is rx) hd dd.mapOf ?_
    have : (valueAt kvs k).isSome = (lk l k).isSome := by
      cases q : lk l k with
      | none => rw [(kk.at k).2 q]; rfl
      | some v => obtain ⟨x, e, _⟩ := (kk.at k).1 v q; rw [e]; rfl
    rw [this]; exact stay S h (.bool _)
theorem TO_ninD (D : DK cx K) {k : K} {i : Nat} {o : O} {l : List (K × V)} (e : σ[i]? = some o) (d : DR D o l) (h : P (.bool (!(lk l k).isSome)) σ) : TO cx n sc loc σ (op2 (compareOp .NotIn)) [D.key k, .ref i] P :=
  TO2 fun _ _ _ _ _ _ _ _ S rx ry => by
    obtain ⟨a, kvs, rfl, ha, hd, dd, kk, _⟩ := S.dict e d ry
    refine wpAny_notIn_of (D.is rx) hd dd.mapOf ?_
    have : (valueAt kvs k).isSome = (lk l k).isSome := by
      cases q : lk l k with
      | none => rw [(kk.at k).2 q]; rfl
      | some v => obtain ⟨x, e, _⟩ := (kk.at k).1 v q; rw [e]; rfl
    rw [this]; exact stay S h (.bool _)
theorem TO_getD (D : DK cx K) {k : K} {i : Nat} {o : O} {l : List (K × V)} {v : V} (e : σ[i]? = some o) (d : DR D o l) (hv : lk l k = some v) (h : P v σ) : TO cx n sc loc σ (op2 getItem) [.ref i, D.key k] P :=
  TO2 fun _ _ _ _ _ _ _ _ S rx ry => by
    obtain ⟨a, kvs, rfl, ha, hd, dd, kk, _⟩ := S.dict e d rx
    obtain ⟨x, e1, e2⟩ := (kk.at k).1 v hv
    exact wpAny_getItem_of (D.is ry) dd.mapOf e1 (stay S h e2)
theorem TO_itemD (D : DK cx K) {a i : Expr} {k : K} {j : Nat} {o : O} {l : List (K × V)} {v : V} (e : σ[j]? = some o) (d : DR D o l) (hv : lk l k = some v) (h : P v σ) (hs : NoSlice i := by intros; with_unfolding_all rfl) : TO cx n sc loc σ (op2 (subscriptTail a i)) [.ref j, D.key k] P :=
  TO2 fun _ _ _ _ _ _ _ _ S rx ry => by
    obtain ⟨a, kvs, rfl, ha, hd, dd, kk, _⟩ := S.dict e d rx
    obtain ⟨x, e1, e2⟩ := (kk.at k).1 v hv
    exact tail_any dd.mapOf.typeIs PySem.slot_dict_getitem.lookup (wpAny_getItem_of (D.is ry) dd.mapOf e1 (stay S h e2)) (hs _ _)

/-- an operation upon values that gives nothing back -/
def PostU (cx : Cx) (f : Frm) (env : Env) (loc : Loc) (ρ : List Addr) (s : Shared) (P : List O → Prop) (s' : Shared) : Prop :=
  ∃ σ' ρ', P σ' ∧ KE f ρ ρ' s.heap s'.heap ∧ St cx f env ρ' σ' loc s'
def TU (cx : Cx) (n : Nat) (sc : Scope) (loc : Loc) (σ : List O) (t : List Value → Sem Unit) (vs : List V) (P : List O → Prop) : Prop :=
  ∀ f env ρ s xs, FrOk cx f n → EnvOk env sc → St cx f env ρ σ loc s → VRs cx.hb s.heap ρ vs xs → wpAny (model cx.prog cx.w) f.A (t xs) (fun _ => PostU cx f env loc ρ s P) NoE s
abbrev op3 (t : Value → Value → Value → Sem Unit) (xs : List Value) : Sem Unit := t (xs[0]?.getD .none) (xs[1]?.getD .none) (xs[2]?.getD .none)
theorem goU {t : Sem Unit} {P : List O → Prop} {Q : Unit → Shared → Prop} (h : wpAny M A t (fun _ => PostU cx f env loc ρ s P) NoE s₀)
    (k : ∀ s' σ' ρ', P σ' → KE f ρ ρ' s.heap s'.heap → St cx f env ρ' σ' loc s' → Q () s') : wpAny M A t Q E s₀ :=
  wpAny_mono h (fun _ _ q => by obtain ⟨σ', ρ', a, b, c⟩ := q; exact k _ σ' ρ' a b c) fun _ _ x => x.elim
theorem VRs.three {hb h : Heap} {a b c : V} {xs : List Value} (r : VRs hb h ρ [a, b, c] xs) : ∃ x y z, xs = [x, y, z] ∧ VR hb h ρ a x ∧ VR hb h ρ b y ∧ VR hb h ρ c z := by
  cases r with | cons r r' => obtain ⟨y, z, rfl, r1, r2⟩ := VRs.two r'; exact ⟨_, _, _, rfl, r, r1, r2⟩
theorem TU_set (D : DK cx K) {k : K} {i : Nat} {o : O} {l : List (K × V)} {v : V} {P : List O → Prop} (e : σ[i]? = some o) (d : DR D o l) (h : P (σ.set i (D.obj (Mine.put l k v)))) (hz : l.length ≤ sizeLine) : TU cx n sc loc σ (op3 setItem) [.ref i, D.key k, v] P :=
  fun f env ρ s xs ok eo S r => by
    obtain ⟨x, y, z, rfl, rx, ry, rz⟩ := VRs.three r
    obtain ⟨a, kvs, rfl, ha, hd, dd, kk, nd⟩ := S.dict e d rx
    refine wpAny_setItem_pairs (D.is ry) dd (fun h' dd' sb => ?_) (by rw [kk.length]; exact hz)
    obtain ⟨ob, q, z⟩ := Heap.dictOf_iff.mp dd'
    have k := fun b o (n : b ≠ a) (e : s.heap.get? b = some o) => (sb.2 b n).trans e
    exact ⟨_, ρ, h, S.keUpd (List.mem_iff_getElem?.mpr ⟨i, ha⟩) k, S.upd ha k q (D.build put_ne z (kk.put rz nd)) fun _ => ⟨o, e, d.1⟩⟩
end
end Mine
open PySem PySem.W PyProof.Rows PySem.Calls
set_option Elab.async false
namespace Mine
section
variable {cx : Cx} {n : Nat} {sc : Scope} {loc : Loc} {σ : List O} {P : Fl → Loc → List O → Prop} {pos : Pos}
  {f : Frm} {env : Env} {ρ ρ' : List Addr} {s s' s₀ : Shared} {M : Model} {A : Around} {E : Value → Shared → Prop}

theorem lk_self {x : Str} {v : V} : lk ((x, v) :: loc) x = some v := if_pos rfl
theorem lk_ne {x y : Str} {v : V} (h : x ≠ y) : lk ((x, v) :: loc) y = lk loc y := if_neg h
theorem cell_ns {h : Heap} {c a : Addr} {u : Option Value} {m : Str → Option Value} (x : h.IsCell c u) (y : h.Ns a m) : c ≠ a := by
  rintro rfl
  obtain ⟨o, e, d⟩ := x
  exact (ns_data y e).2.2 _ d

theorem St.setL (S : St cx f env ρ σ loc s) {h' : Heap} {x : Str} {v : V} {val : Value} {m : Str → Option Value} {t : Nat} (hx : env.kindOf x = some .local) (r : VR cx.hb s.heap ρ v val) (hn : s.heap.Ns env.locals m)
    (hn' : h'.Ns env.locals fun y => if y = x then some val else m y) (sb : Heap.SameBut env.locals s.heap h') : KS f env ρ ρ s.heap h' ∧ St cx f env ρ σ ((x, v) :: loc) { s with heap := h', toks := t } := by
  obtain ⟨mF, F⟩ := S.fr
  have kp : ∀ b o, b ≠ env.locals → s.heap.get? b = some o → h'.get? b = some o := fun b o n e => (sb.2 b n).trans e
  have im : Imm s.heap h' := fun a o e i => kp a o (S.offL e (.inl i)).2 e
  have cc : ∀ c u, s.heap.IsCell c u → h'.IsCell c u := fun c u q => q.sameBut sb (cell_ns q hn)
  have fr : ∃ m, Fr f.h₀ f.L h' m := by
    have keep : ∀ b o, f.h₀.get? b = some o → h'.get? b = some o := fun b o e => kp b o (fun q => by rw [q, S.lout] at e; cases e) (F.keep b o e)
    by_cases hL : f.L = env.locals
    · exact ⟨_, hL ▸ hn', keep, F.above⟩
    · exact ⟨mF, F.ns.sameBut sb hL, keep, F.above⟩
  refine ⟨⟨pre_refl _, fun _ a n => (n a).elim, fun a o _ n _ e => kp a o n e⟩, ?_⟩
  exact
  { fr := fr
    lns := ⟨_, hn'⟩
    big := S.big
    len := S.len
    nodup := S.nodup
    out := S.out
    rep := fun i o a e1 e2 => by
      obtain ⟨ob, q, r⟩ := S.rep i o a e1 e2
      exact ⟨ob, kp _ _ (fun z => S.notE (z ▸ List.mem_iff_getElem?.mpr ⟨i, e2⟩)) q, r.mono im (pre_refl _)⟩
    notL := S.notL
    notE := S.notE
    vars := fun y w e => by
      by_cases hy : x = y
      · subst hy
        rw [lk_self] at e; cases e
        exact ⟨val, by unfold VarAt; rw [hx]; exact ⟨_, hn', if_pos rfl⟩, r.mono im (pre_refl _)⟩
      · rw [lk_ne hy] at e
        obtain ⟨u, a, b⟩ := S.vars y w e
        refine ⟨u, ?_, b.mono im (pre_refl _)⟩
        unfold VarAt at a ⊢
        split at a
        · obtain ⟨m0, a1, a2⟩ := a
          rw [ns_unique a1 hn] at a2
          exact ⟨_, hn', by rw [if_neg (fun q => hy q.symm)]; exact a2⟩
        · obtain ⟨c, a1, a2⟩ := a; exact ⟨c, a1, cc _ _ a2⟩
        · obtain ⟨c, a1, a2⟩ := a; exact ⟨c, a1, cc _ _ a2⟩
        · exact a
    cells := fun y c e => by obtain ⟨⟨u, a⟩, b⟩ := S.cells y c e; exact ⟨⟨u, cc _ _ a⟩, b⟩
    ckind := S.ckind
    cnot := S.cnot
    cinj := S.cinj
    lout := S.lout
    gens := S.gens
    os := S.os }
theorem St.setC (S : St cx f env ρ σ loc s) {h' : Heap} {x : Str} {v : V} {val : Value} {c : Addr} (hx : env.kindOf x = some .cell) (r : VR cx.hb s.heap ρ v val) (hc : env.cells.lookup x = some c)
    (hn' : h'.IsCell c (some val)) (sb : Heap.SameBut c s.heap h') : KS f env ρ ρ s.heap h' ∧ St cx f env ρ σ ((x, v) :: loc) { s with heap := h' } := by
  obtain ⟨mF, F⟩ := S.fr
  obtain ⟨mE, N⟩ := S.lns
  obtain ⟨⟨u0, hu⟩, h0⟩ := S.cells x c hc
  have kp : ∀ b o, b ≠ c → s.heap.get? b = some o → h'.get? b = some o := fun b o n e => (sb.2 b n).trans e
  have im : Imm s.heap h' := fun a o e i => kp a o (fun q => by subst q; exact (cell_data hu e).1 i) e
  have cc : ∀ y c' w, env.cells.lookup y = some c' → y ≠ x → s.heap.IsCell c' w → h'.IsCell c' w := fun y c' w e n q => q.sameBut sb fun z => n (S.cinj y x c' e (z ▸ hc))
  refine ⟨⟨pre_refl _, fun _ a n => (n a).elim, fun a o _ _ n e => kp a o (fun q => n x (q ▸ hc)) e⟩, ?_⟩
  exact
  { fr := ⟨mF, F.ns.sameBut sb (Ne.symm (cell_ns hu F.ns)), fun b o e => kp b o (fun q => by rw [q, h0] at e; cases e) (F.keep b o e), F.above⟩
    lns := ⟨mE, N.sameBut sb (Ne.symm (cell_ns hu N))⟩
    big := S.big
    len := S.len
    nodup := S.nodup
    out := S.out
    rep := fun i o a e1 e2 => by
      obtain ⟨ob, q, r⟩ := S.rep i o a e1 e2
      exact ⟨ob, kp _ _ (fun z => S.cnot x c hc (z ▸ List.mem_iff_getElem?.mpr ⟨i, e2⟩)) q, r.mono im (pre_refl _)⟩
    notL := S.notL
    notE := S.notE
    vars := fun y w e => by
      by_cases hy : x = y
      · subst hy
        rw [lk_self] at e; cases e
        exact ⟨val, by unfold VarAt; rw [hx]; exact ⟨c, hc, hn'⟩, r.mono im (pre_refl _)⟩
      · rw [lk_ne hy] at e
        obtain ⟨u, a, b⟩ := S.vars y w e
        refine ⟨u, ?_, b.mono im (pre_refl _)⟩
        unfold VarAt at a ⊢
        split at a
        · obtain ⟨m0, a1, a2⟩ := a; exact ⟨m0, a1.sameBut sb (Ne.symm (cell_ns hu a1)), a2⟩
        · obtain ⟨c', a1, a2⟩ := a; exact ⟨c', a1, cc y c' _ a1 (Ne.symm hy) a2⟩
        · obtain ⟨c', a1, a2⟩ := a; exact ⟨c', a1, cc y c' _ a1 (Ne.symm hy) a2⟩
        · exact a
    cells := fun y c' e => by
      obtain ⟨⟨u, a⟩, b⟩ := S.cells y c' e
      by_cases hy : y = x
      · subst hy; rw [hc] at e; cases e; exact ⟨⟨_, hn'⟩, b⟩
      · exact ⟨⟨u, cc y c' u e hy a⟩, b⟩
    ckind := S.ckind
    cnot := S.cnot
    cinj := S.cinj
    lout := S.lout
    gens := S.gens
    os := S.os }

/-- a name that the block stores -/
def stores (sc : Scope) (x : Str) : Bool := sc.names.lookup x == some .local || sc.names.lookup x == some .cell
theorem store_var {x : Str} {v : V} {val : Value} {Q : Unit → Shared → Prop} (eo : EnvOk env sc) (S : St cx f env ρ σ loc s) (hx : stores sc x = true) (r : VR cx.hb s.heap ρ v val)
    (h : ∀ s', KS f env ρ ρ s.heap s'.heap → St cx f env ρ σ ((x, v) :: loc) s' → Q () s') : wpAny M A (storeName env x val) Q E s := by
  have ek : env.kindOf x = sc.names.lookup x := by unfold Env.kindOf; rw [eo.scope]
  rcases Bool.or_eq_true_iff.mp hx with q | q
  · have hl := ek.trans (beq_iff_eq.mp q)
    obtain ⟨m, hn⟩ := S.lns
    refine wpAny_storeName_local hl hn (fun h' hn' sb => ?_) (by rw [eo.fn]; rfl)
    obtain ⟨a, b⟩ := S.setL (t := s.toks + 1) hl r hn hn' sb
    exact h _ a b
  · have hl := ek.trans (beq_iff_eq.mp q)
    obtain ⟨c, hc⟩ := S.ckind x hl
    obtain ⟨⟨u, hu⟩, _⟩ := S.cells x c hc
    refine wpAny_storeName_cell eo.fn hl hc hu fun h' hn' sb => ?_
    obtain ⟨a, b⟩ := S.setC hl r hc hn' sb
    exact h _ a b

theorem goS {t : Sem Flow} {Q : Flow → Shared → Prop} (h : wpAny M A t (PostS cx f env ρ s P) NoE s₀)
    (k : ∀ x s' fl loc' σ' ρ', P fl loc' σ' → KS f env ρ ρ' s.heap s'.heap → St cx f env ρ' σ' loc' s' → FlR cx.hb s'.heap ρ' fl x → Q x s') : wpAny M A t Q E s₀ :=
  wpAny_mono h (fun _ _ q => by obtain ⟨fl, loc', σ', ρ', a, b, c, d⟩ := q; exact k _ _ fl loc' σ' ρ' a b c d) fun _ _ x => x.elim
theorem preS {t : Sem Flow} (k : KS f env ρ ρ' s.heap s'.heap) (h : wpAny M A t (PostS cx f env ρ' s' P) NoE s₀) : wpAny M A t (PostS cx f env ρ s P) E s₀ :=
  goS h fun _ _ _ _ _ _ h k' S r => ⟨_, _, _, _, h, k.trans k', S, r⟩

theorem TSs_nil (h : P .next loc σ) : TSs cx n sc loc σ [] P := fun _ _ _ _ _ _ S => wpAny_execs_nil ⟨.next, _, _, _, h, KS.refl .., S, trivial⟩
/-- what comes behind a statement -/
def Then (cx : Cx) (n : Nat) (sc : Scope) (r : List Stmt) (P : Fl → Loc → List O → Prop) (fl : Fl) (loc : Loc) (σ : List O) : Prop :=
  match fl with
  | .next => TSs cx n sc loc σ r P
  | fl => P fl loc σ
theorem TSs_cons {st : Stmt} {r : List Stmt} (h : TS cx n sc loc σ st (Then cx n sc r P)) : TSs cx n sc loc σ (st :: r) P := fun f env ρ s ok eo S =>
  wpAny_execs_cons (goS (h f env ρ s ok eo S) fun x s' fl loc' σ' ρ' h k S' fr => by
    cases fl <;> cases x <;> first | exact fr.elim | skip
    · exact preS k (h f env _ _ ok eo S')
    · exact ⟨_, _, _, _, h, k, S', fr⟩
    · exact ⟨_, _, _, _, h, k, S', fr⟩
    · exact ⟨_, _, _, _, h, k, S', fr⟩)

def notComp : Expr → Bool
  | .ListComp .. => false
  | .SetComp .. => false
  | .DictComp .. => false
  | _ => true
theorem noSwap {e : Expr} {t : Option Expr} {l : Nat} {env : Env} (h : notComp e = true) : swapsWith e t l env = pure false := by
  cases e <;> first | rfl | cases h
theorem TS_assign {x : Str} {px : Pos} {e : Expr} (h : TE cx n sc loc σ e fun v σ₁ => P .next ((x, v) :: loc) σ₁) (hx : stores sc x = true := by rfl)
    (hc : notComp e = true := by rfl) : TS cx n sc loc σ (.Assign [.Name x px] e pos) P := fun f env ρ s ok eo S =>
  wpAny_Assign_Name (goE (h f env ρ s ok eo S) fun _ _ _ _ _ h1 k1 S1 r1 => store_var eo S1 hx r1 fun _ k2 S2 => ⟨.next, _, _, _, h1, (S.ks k1).trans k2, S2, trivial⟩) (noSwap hc)
theorem TS_aug {x : Str} {px : Pos} {op : Operator} {e : Expr} {v₀ : V} (e₀ : lk loc x = some v₀) (h : TE cx n sc loc σ e fun v σ₁ => TO cx n sc loc σ₁ (op2 (inplaceOp op)) [v₀, v] fun v' σ₂ => P .next ((x, v') :: loc) σ₂)
    (hx : stores sc x = true := by rfl) (hn : nameOk x = true := by rfl) : TS cx n sc loc σ (.AugAssign (.Name x px) op e pos) P := fun f env ρ s ok eo S => by
  obtain ⟨val, a, r⟩ := S.vars x v₀ e₀
  refine wpAny_AugAssign_Name (load_var eo.fn hn a ?_)
  exact goE (h f env ρ s ok eo S) fun _ _ _ _ _ h1 k1 S1 r1 => goE (h1 f env _ _ [_, _] ok eo S1 (.cons (r.mono (S.imm k1) k1.pre) (.cons r1 .nil))) fun _ _ _ _ _ h2 k2 S2 r2 =>
    store_var eo S2 hx r2 fun _ k3 S3 => ⟨.next, _, _, _, h2, (S.ks (k1.trans k2)).trans k3, S3, trivial⟩
theorem TS_ret {e : Expr} (h : TE cx n sc loc σ e fun v σ₁ => P (.ret v) loc σ₁) : TS cx n sc loc σ (.Return (some e) pos) P := fun f env ρ s ok eo S =>
  wpAny_Return_some (goE (h f env ρ s ok eo S) fun _ _ _ _ _ h1 k1 S1 r1 => ⟨.ret _, _, _, _, h1, S.ks k1, S1, r1⟩)
theorem TS_brk (h : P .brk loc σ) : TS cx n sc loc σ (.Break pos) P := fun _ _ _ _ _ _ S => wpAny_Break ⟨.brk, _, _, _, h, KS.refl .., S, trivial⟩
theorem TS_cont (h : P .cont loc σ) : TS cx n sc loc σ (.Continue pos) P := fun _ _ _ _ _ _ S => wpAny_Continue ⟨.cont, _, _, _, h, KS.refl .., S, trivial⟩
theorem notMod {sc : Scope} {env : Env} (eo : EnvOk env sc) : interactive env = false := by unfold interactive; rw [eo.fn]; rfl
theorem TS_expr {e : Expr} (h : TE cx n sc loc σ e fun _ σ₁ => P .next loc σ₁) (hc : notComp e = true := by rfl) : TS cx n sc loc σ (.Expr e pos) P := fun f env ρ s ok eo S =>
  wpAny_Expr_any (goE (h f env ρ s ok eo S) fun _ _ _ _ _ h1 k1 S1 _ => ⟨.next, _, _, _, h1, S.ks k1, S1, trivial⟩) (notMod eo) (noSwap hc)
theorem TS_if {t : Expr} {b o : List Stmt} (h : TB cx n sc loc σ t fun c σ₁ => if c = true then TSs cx n sc loc σ₁ b P else TSs cx n sc loc σ₁ o P) : TS cx n sc loc σ (.If t b o pos) P := fun f env ρ s ok eo S =>
  wpAny_If (goB (h f env ρ s ok eo S) fun c _ _ _ h1 k1 S1 => by cases c <;> exact preS (S.ks k1) (h1 f env _ _ ok eo S1))

/-- stores through an object -/
theorem TS_setSub {o i e : Expr} {p' : Pos} (h : TE cx n sc loc σ e fun v σ₁ => TE cx n sc loc σ₁ o fun vo σ₂ => TE cx n sc loc σ₂ i fun vi σ₃ => TU cx n sc loc σ₃ (op3 setItem) [vo, vi, v] (P .next loc))
    (hc : notComp e = true := by rfl) : TS cx n sc loc σ (.Assign [.Subscript o i p'] e pos) P := fun f env ρ s ok eo S =>
  wpAny_Assign_Subscript (goE (h f env ρ s ok eo S) fun _ _ _ _ _ h1 k1 S1 r1 => goE (h1 f env _ _ ok eo S1) fun _ _ _ _ _ h2 k2 S2 r2 => goE (h2 f env _ _ ok eo S2) fun _ _ _ _ _ h3 k3 S3 r3 =>
    have r1' := r1.mono (S1.imm (k2.trans k3)) (k2.trans k3).pre
    goU (h3 f env _ _ [_, _, _] ok eo S3 (.cons (r2.mono (S2.imm k3) k3.pre) (.cons r3 (.cons r1' .nil)))) fun _ _ _ h4 k4 S4 => ⟨.next, _, _, _, h4, S.ks (((k1.trans k2).trans k3).trans k4), S4, trivial⟩) (noSwap hc)
theorem TS_augSub {o i e : Expr} {op : Operator} {p' : Pos} (h : TE cx n sc loc σ o fun vo σ₁ => TE cx n sc loc σ₁ i fun vi σ₂ => TO cx n sc loc σ₂ (op2 getItem) [vo, vi] fun v₀ σ₃ => TE cx n sc loc σ₃ e fun v σ₄ =>
      TO cx n sc loc σ₄ (op2 (inplaceOp op)) [v₀, v] fun v' σ₅ => TU cx n sc loc σ₅ (op3 setItem) [vo, vi, v'] (P .next loc))
    (hi : ∀ ov iv new, augStore i ov iv new = (do holding [new, ov, iv] (setItem ov iv new); release [new, ov, iv] []; pure .next) := by intros; rfl) : TS cx n sc loc σ (.AugAssign (.Subscript o i p') op e pos) P := fun f env ρ s ok eo S =>
  wpAny_AugAssign_SubscriptAny (goE (h f env ρ s ok eo S) fun _ _ _ _ _ h1 k1 S1 r1 => goE (h1 f env _ _ ok eo S1) fun _ _ _ _ _ h2 k2 S2 r2 =>
    goE (h2 f env _ _ [_, _] ok eo S2 (.cons (r1.mono (S1.imm k2) k2.pre) (.cons r2 .nil))) fun _ _ _ _ _ h3 k3 S3 r3 => goE (h3 f env _ _ ok eo S3) fun _ _ _ _ _ h4 k4 S4 r4 =>
    goE (h4 f env _ _ [_, _] ok eo S4 (.cons (r3.mono (S3.imm k4) k4.pre) (.cons r4 .nil))) fun _ _ _ _ _ h5 k5 S5 r5 =>
    have k25 := (k3.trans k4).trans k5
    goU (h5 f env _ _ [_, _, _] ok eo S5 (.cons (r1.mono (S1.imm (k2.trans k25)) (k2.trans k25).pre) (.cons (r2.mono (S2.imm k25) k25.pre) (.cons r5 .nil)))) fun _ _ _ h6 k6 S6 => ⟨.next, _, _, _, h6, S.ks (((k1.trans k2).trans k25).trans k6), S6, trivial⟩) hi
theorem TS_setAttr {o e : Expr} {a : Str} {p' : Pos} (h : TE cx n sc loc σ e fun v σ₁ => TE cx n sc loc σ₁ o fun vo σ₂ => TU cx n sc loc σ₂ (fun xs => setAttr (xs[0]?.getD .none) a (xs[1]?.getD .none)) [vo, v] (P .next loc))
    (hc : notComp e = true := by rfl) : TS cx n sc loc σ (.Assign [.Attribute o a p'] e pos) P := fun f env ρ s ok eo S =>
  plainObj_wpAny_Assign_Attribute (goE (h f env ρ s ok eo S) fun _ _ _ _ _ h1 k1 S1 r1 => goE (h1 f env _ _ ok eo S1) fun _ _ _ _ _ h2 k2 S2 r2 =>
    goU (h2 f env _ _ [_, _] ok eo S2 (.cons r2 (.cons (r1.mono (S1.imm k2) k2.pre) .nil))) fun _ _ _ h4 k4 S4 => ⟨.next, _, _, _, h4, S.ks ((k1.trans k2).trans k4), S4, trivial⟩) (noSwap hc)
theorem TS_augAttr {o e : Expr} {a : Str} {op : Operator} {p' : Pos} (h : TE cx n sc loc σ o fun vo σ₁ => TO cx n sc loc σ₁ (op1 fun x => getAttr x a true) [vo] fun v₀ σ₂ => TE cx n sc loc σ₂ e fun v σ₃ =>
      TO cx n sc loc σ₃ (op2 (inplaceOp op)) [v₀, v] fun v' σ₄ => TU cx n sc loc σ₄ (fun xs => setAttr (xs[0]?.getD .none) a (xs[1]?.getD .none)) [vo, v'] (P .next loc)) : TS cx n sc loc σ (.AugAssign (.Attribute o a p') op e pos) P := fun f env ρ s ok eo S =>
  wpAny_AugAssign_AttributeAny (goE (h f env ρ s ok eo S) fun _ _ _ _ _ h1 k1 S1 r1 => goE (h1 f env _ _ [_] ok eo S1 (.cons r1 .nil)) fun _ _ _ _ _ h2 k2 S2 r2 =>
    goE (h2 f env _ _ ok eo S2) fun _ _ _ _ _ h3 k3 S3 r3 => goE (h3 f env _ _ [_, _] ok eo S3 (.cons (r2.mono (S2.imm k3) k3.pre) (.cons r3 .nil))) fun _ _ _ _ _ h4 k4 S4 r4 =>
    have k24 := (k2.trans k3).trans k4
    goU (h4 f env _ _ [_, _] ok eo S4 (.cons (r1.mono (S1.imm k24) k24.pre) (.cons r4 .nil))) fun _ _ _ h5 k5 S5 => ⟨.next, _, _, _, h5, S.ks ((k1.trans k24).trans k5), S5, trivial⟩)
end
end Mine
open PySem PySem.W PyProof.Rows PySem.Calls
set_option Elab.async false
namespace Mine
section
variable {cx : Cx} {n : Nat} {sc : Scope} {loc : Loc} {σ : List O} {P : Fl → Loc → List O → Prop} {pos : Pos}
  {f : Frm} {env : Env} {ρ ρ' : List Addr} {s s' s₀ : Shared} {M : Model} {A : Around} {E : Value → Shared → Prop}

/-- a target is given a value -/
def PostA (cx : Cx) (f : Frm) (env : Env) (ρ : List Addr) (s : Shared) (P : Loc → List O → Prop) (s' : Shared) : Prop :=
  ∃ loc' σ' ρ', P loc' σ' ∧ KS f env ρ ρ' s.heap s'.heap ∧ St cx f env ρ' σ' loc' s'
theorem goA {t : Sem Unit} {P : Loc → List O → Prop} {Q : Unit → Shared → Prop} (h : wpAny M A t (fun _ => PostA cx f env ρ s P) NoE s₀)
    (k : ∀ s' loc' σ' ρ', P loc' σ' → KS f env ρ ρ' s.heap s'.heap → St cx f env ρ' σ' loc' s' → Q () s') : wpAny M A t Q E s₀ :=
  wpAny_mono h (fun _ _ q => by obtain ⟨loc', σ', ρ', a, b, c⟩ := q; exact k _ loc' σ' ρ' a b c) fun _ _ x => x.elim
def TA (cx : Cx) (n : Nat) (sc : Scope) (loc : Loc) (σ : List O) (t : Expr) (v : V) (P : Loc → List O → Prop) : Prop :=
  ∀ f env ρ s x, FrOk cx f n → EnvOk env sc → St cx f env ρ σ loc s → VR cx.hb s.heap ρ v x → wpAny (model cx.prog cx.w) f.A (assign t env x) (fun _ => PostA cx f env ρ s P) NoE s
def TAs (cx : Cx) (n : Nat) (sc : Scope) (loc : Loc) (σ : List O) (ts : List Expr) (vs : List V) (P : Loc → List O → Prop) : Prop :=
  ∀ f env ρ s xs, FrOk cx f n → EnvOk env sc → St cx f env ρ σ loc s → VRs cx.hb s.heap ρ vs xs → wpAny (model cx.prog cx.w) f.A (assignInOrder ((assignEach ts env).map (·.2)) xs) (fun _ => PostA cx f env ρ s P) NoE s
theorem TA_name {x : Str} {v : V} {P : Loc → List O → Prop} (h : P ((x, v) :: loc) σ) (hx : stores sc x = true := by rfl) : TA cx n sc loc σ (.Name x pos) v P := fun _ _ _ _ _ _ eo S r =>
  wpAny_assign_Name (store_var eo S hx r fun _ k S' => ⟨_, _, _, h, k, S'⟩)
theorem TAs_nil {P : Loc → List O → Prop} (h : P loc σ) : TAs cx n sc loc σ [] [] P := fun _ _ _ _ _ _ _ S _ => wpAny_pure ⟨_, _, _, h, KS.refl .., S⟩
theorem TAs_cons {t : Expr} {ts : List Expr} {v : V} {vs : List V} {P : Loc → List O → Prop} (h : TA cx n sc loc σ t v fun loc σ => TAs cx n sc loc σ ts vs P)
    (he : ∀ env, assignEach (t :: ts) env = (false, assign t env) :: assignEach ts env := by intros; rfl) : TAs cx n sc loc σ (t :: ts) (v :: vs) P := fun f env ρ s xs ok eo S r => by
  cases r with
  | cons r1 r2 =>
    rw [he]
    refine wpAny_bind (wpAny_holding (goA (h f env ρ s _ ok eo S r1) fun _ _ _ _ h1 k1 S1 => goA (h1 f env _ _ _ ok eo S1 (VRs.mono (S.immS k1) k1.pre r2)) fun _ _ _ _ h2 k2 S2 => ⟨_, _, _, h2, k1.trans k2, S2⟩))
theorem TA_tup {ts : List Expr} {k : Nat} {vs : List V} {P : Loc → List O → Prop} (h : TAs cx n sc loc σ ts vs P) (hl : ∀ env, (assignEach ts env).length = vs.length := by intros; rfl)
    (hs : ∀ env, (assignEach ts env).findIdx? (·.1) = none := by intros; rfl) : TA cx n sc loc σ (.Tuple ts k pos) (.tup vs) P := fun f env ρ s x ok eo S r => by
  obtain ⟨a, xs, q, rfl, e, r'⟩ := r.tupE
  refine wpAny_assign_Tuple ok.handled ⟨_, e, rfl, q, rfl⟩ (by rw [hl, List.size_toArray, r'.length]) (hs env) fun h' ex => ?_
  have kp : ∀ b o, s.heap.get? b = some o → h'.get? b = some o := fun b o e => ex b o (Nat.ne_of_lt (Heap.lt_size e)) e
  have S' : St cx f env ρ σ loc { s with heap := h' } := S.grow kp
  exact goA (h f env ρ _ _ ok eo S' (VRs.mono (fun _ _ e _ => kp _ _ e) (pre_refl _) r')) fun _ _ _ _ h2 k2 S2 => ⟨_, _, _, h2, (S.ks (KE.grow kp)).trans k2, S2⟩
theorem TS_assignTup {ts : List Expr} {k : Nat} {p' : Pos} {e : Expr} (h : TE cx n sc loc σ e fun v σ₁ => TA cx n sc loc σ₁ (.Tuple ts k p') v (P .next)) (hc : notComp e = true := by rfl)
    (ht : ∀ env, swappedStores [.Tuple ts k p'] e env = pure none := by intros; rfl) : TS cx n sc loc σ (.Assign [.Tuple ts k p'] e pos) P := fun f env ρ s ok eo S => by
  refine wpAny_bind (wpAny_standAt (wpAny_bind ?_))
  have sw : swapsWithSole [.Tuple ts k p'] e pos.line env = pure false := noSwap (t := some (.Tuple ts k p')) (l := pos.line) (env := env) hc
  rw [sw]
  refine wpAny_pure (wpAny_bind (goE (h f env ρ s ok eo S) fun _ _ _ _ _ h1 k1 S1 r1 => wpAny_bind ?_))
  rw [ht]
  refine wpAny_pure ?_
  exact wpAny_bind (goA (h1 f env _ _ _ ok eo S1 r1) fun _ _ _ _ h2 k2 S2 => wpAny_pure ⟨.next, _, _, _, h2, (S.ks k1).trans k2, S2, trivial⟩)

/-! loops -/
/-- the iterator's object -/
def ItObj (h : Heap) (it : Addr) : Prop := ∃ o vs c, h.get? it = some o ∧ o.data = .fields vs ∧ o.cls = .type c ∧ (c = "list_iterator" ∨ c = "tuple_iterator" ∨ c = "range_iterator")
theorem ItObj.imm {h : Heap} {it : Addr} (x : ItObj h it) {o : Obj} (e : h.get? it = some o) : ¬ Im o ∧ (∃ vs, o.data = .fields vs) ∧ Far o := by
  obtain ⟨o', vs, c, e', d, q, w⟩ := x
  rw [e] at e'; obtain rfl := Option.some.inj e'
  refine ⟨?_, ⟨vs, d⟩, .inr ⟨c, vs, q, d⟩⟩
  rintro (⟨a, _⟩ | ⟨a, _⟩) <;> (rw [q] at a; injection a with a; subst a; simp at w)
theorem ItObj.go {it : Addr} {target : Expr} {x : Value} {Q : Unit → Shared → Prop} (i : ItObj s.heap it) (h : Q () s) : wpAny M A (letOwnedTupleGo target (.ref it) x) Q E s := by
  obtain ⟨o, vs, c, e, d, q, w⟩ := i
  unfold letOwnedTupleGo
  split
  all_goals first | exact wpAny_pure h | (cases x <;> first | exact wpAny_pure h | skip)
  all_goals
    refine wpAny_bind (wpAny_load e ?_)
    rw [q, d]
    rcases w with rfl | rfl | rfl <;> exact wpAny_pure h
theorem St.itOff (S : St cx f env ρ σ loc s) {it : Addr} (i : ItObj s.heap it) : it ∉ ρ ∧ it ≠ f.L ∧ it ≠ env.locals ∧ ∀ x, env.cells.lookup x ≠ some it := by
  have i' := i
  obtain ⟨o, vs, c, e, d, q, _⟩ := i'
  have w : Far o := .inr ⟨c, vs, q, d⟩
  refine ⟨S.offρ e w, (S.offL e w).1, (S.offL e w).2, fun x h => ?_⟩
  obtain ⟨⟨u, q⟩, _⟩ := S.cells x it h
  exact (cell_data q e).2.1 _ d
/-- the iterator alone is changed -/
theorem St.next (S : St cx f env ρ σ loc s) {it : Addr} {h' : Heap} {t : Nat} (i : ItObj s.heap it) (h0 : f.h₀.get? it = none) (ex : Heap.ExtBut it s.heap h') : St cx f env ρ σ loc { s with heap := h', toks := t } :=
  S.keep rfl rfl fun a o e w => ex a o (fun q => by
    subst q
    obtain ⟨n1, n2, n3, _⟩ := S.itOff i
    obtain ⟨m1, ⟨vs, m2⟩, _⟩ := i.imm e
    rcases w with w | w | w | w | ⟨u, w⟩ | w
    · exact m1 w
    · exact n1 w
    · exact n2 w
    · exact n3 w
    · rw [m2] at w; cases w
    · rw [h0] at w; cases w) e

/-- what a source gives, item by item: the iterator's state by the number of items that it gave -/
structure Src (cx : Cx) (n : Nat) (src : V) (items : List V) (ok : List O → Prop) (It : List Addr → Addr → Nat → Heap → Prop) : Prop where
  obj : ∀ {ρ it i h}, It ρ it i h → ItObj h it
  keep : ∀ {ρ ρ' it i h h'}, It ρ it i h → ρ <+: ρ' → Imm h h' → (∀ o, h.get? it = some o → h'.get? it = some o) → It ρ' it i h'
  next : ∀ {f env ρ σ loc s it i v} {A : Around} {E : Value → Shared → Prop} {Q : Option Value → Shared → Prop}, FrOk cx f n → St cx f env ρ σ loc s → ok σ → It ρ it i s.heap → items[i]? = some v →
    (∀ x h' t, VR cx.hb s.heap ρ v x → Heap.SameBut it s.heap h' → It ρ it (i + 1) h' → Q (some x) { s with heap := h', toks := t }) → wpAny (model cx.prog cx.w) A (pyNext (.ref it)) Q E s
  stop : ∀ {f env ρ σ loc s it i} {A : Around} {E : Value → Shared → Prop} {Q : Option Value → Shared → Prop}, A.handled = none → FrOk cx f n → St cx f env ρ σ loc s → ok σ → It ρ it i s.heap → items.length ≤ i →
    (∀ h', Heap.ExtBut it s.heap h' → Q none { s with heap := h' }) → wpAny (model cx.prog cx.w) A (pyNext (.ref it)) Q E s
  again : ∀ {ρ it i} {s : Shared} {A : Around} {E : Value → Shared → Prop} {Q : Value → Shared → Prop}, It ρ it i s.heap → Q (.ref it) s → wpAny (model cx.prog cx.w) A (pyIter (.ref it)) Q E s
  start : ∀ {f env ρ σ loc s x} {A : Around} {E : Value → Shared → Prop} {Q : Value → Shared → Prop}, FrOk cx f n → St cx f env ρ σ loc s → ok σ → VR cx.hb s.heap ρ src x →
    (∀ h' t, (∀ a o, s.heap.get? a = some o → h'.get? a = some o) → It ρ s.heap.objs.size 0 h' → Q (.ref s.heap.objs.size) { s with heap := h', toks := t }) → wpAny (model cx.prog cx.w) A (pyIter x) Q E s

/-- what is known of the one is known of the other -/
def Sub (l' l : Loc) : Prop := ∀ x v, lk l' x = some v → lk l x = some v
theorem Sub.nil {l : Loc} : Sub [] l := fun _ _ h => nomatch h
theorem Sub.cons {l l' : Loc} {x : Str} {v : V} (h : lk l x = some v) (s : Sub l' l) : Sub ((x, v) :: l') l := fun y w e => by
  simp only [lk] at e
  split at e
  · rename_i q; subst q; cases e; exact h
  · exact s y w e
theorem Sub.refl (l : Loc) : Sub l l := fun _ _ h => h
theorem St.weak {loc' : Loc} (S : St cx f env ρ σ loc s) (h : Sub loc' loc) : St cx f env ρ σ loc' s := { S with vars := fun x v e => S.vars x v (h x v e) }
/-- a turn's way out -/
def Turn (P : Fl → Loc → List O → Prop) (I : Loc → List O → Prop) : Fl → Loc → List O → Prop
  | .next, l, s => I l s
  | .cont, l, s => I l s
  | .brk, l, s => P .next l s
  | .ret v, l, s => P (.ret v) l s

theorem TS_forE {target iter : Expr} {body : List Stmt} {T : Type} (L : T → Loc)
    (hI : TE cx n sc loc σ iter fun v σ₁ => ∃ (items : List V) (ok : List O → Prop) (It : List Addr → Addr → Nat → Heap → Prop) (I : Nat → T → List O → Prop), Src cx n v items ok It ∧ (∃ t, Sub (L t) loc ∧ I 0 t σ₁) ∧ (∀ i t σ, I i t σ → ok σ) ∧
      (∀ i v t σ, items[i]? = some v → I i t σ → TA cx n sc (L t) σ target v fun loc σ => TSs cx n sc loc σ body (Turn P fun l s => ∃ t', Sub (L t') l ∧ I (i + 1) t' s)) ∧ ∀ t σ, I items.length t σ → P .next (L t) σ)
    (hs : ∀ env x, foldedSetIterable iter env x = pure x := by intros; rfl) : TS cx n sc loc σ (.For target iter body [] pos) P := fun f env ρ s fo eo S => by
  refine wpAny_For (goE (hI f env ρ s fo eo S) fun x s₁ src σ₁ ρ₁ h1 k1 S1 r1 => ?_) (hs env)
  obtain ⟨items, ok, It, I, G, ⟨t0, sb0, hi⟩, hok, turn, done⟩ := h1
  refine G.start fo S1 (hok _ _ _ hi) r1 fun h2 tk kp it0 => ?_
  obtain ⟨m, F1⟩ := S1.fr
  have h0 : f.h₀.get? s₁.heap.objs.size = none := by
    cases q : f.h₀.get? s₁.heap.objs.size with
    | none => rfl
    | some o => exact absurd (Heap.lt_size (F1.keep _ _ q)) (Nat.lt_irrefl _)
  have old : ∀ a o, s₁.heap.get? a = some o → a ≠ s₁.heap.objs.size := fun a o e => Nat.ne_of_lt (Heap.lt_size e)
  refine codeAny_forLoop_any (fun k s' => ∃ i loc' σ' ρ', k = items.length + 1 - i ∧ i ≤ items.length ∧ I i loc' σ' ∧ KS f env ρ₁ ρ' s₁.heap s'.heap ∧ St cx f env ρ' σ' (L loc') s' ∧ It ρ' s₁.heap.objs.size i s'.heap) ?_ (items.length + 1)
    ⟨0, t0, σ₁, ρ₁, rfl, Nat.zero_le _, hi, S1.ks (KE.grow kp), (S1.grow kp).weak sb0, it0⟩
  rintro k s' ⟨i, loc', σ', ρ', rfl, hle, hI', ks, S', iti⟩
  have pre : ∀ {h' : Heap}, Heap.ExtBut s₁.heap.objs.size s'.heap h' → KS f env ρ₁ ρ' s₁.heap h' := fun ex => ⟨ks.pre, ks.off, fun a o n1 n3 n4 e => ex a o (old a o e) (ks.all a o n1 n3 n4 e)⟩
  cases hv : items[i]? with
  | none =>
    have hlen : i = items.length := by have := List.getElem?_eq_none_iff.mp hv; omega
    subst hlen
    exact G.stop fo.handled fo S' (hok _ _ _ hI') iti (Nat.le_refl _) fun h' ex => wpAny_execs_nil ⟨.next, _, _, _, done _ _ hI', (S.ks k1).trans (pre ex), S'.next (t := s'.toks) (G.obj iti) h0 ex, trivial⟩
  | some v =>
    have hlt : i < items.length := (List.getElem?_eq_some_iff.mp hv).1
    refine G.next fo S' (hok _ _ _ hI') iti hv fun x h' t r sb iti' => ?_
    have S3 : St cx f env ρ' σ' (L loc') { s' with heap := h', toks := t } := S'.next (G.obj iti) h0 sb.extBut
    have im : Imm s'.heap h' := fun a o e w => sb.extBut a o (fun q => by subst q; exact ((G.obj iti).imm e).1 w) e
    refine ItObj.go (G.obj iti') ?_
    refine goA (turn i v loc' σ' hv hI' f env ρ' _ x fo eo S3 (r.mono im (pre_refl _))) fun s4 loc4 σ4 ρ4 h4 k4 S4 => ?_
    refine goS (h4 f env ρ4 _ fo eo S4) fun fl5 s5 fl loc5 σ5 ρ5 h5 k5 S5 fr => ?_
    have k45 := k4.trans k5
    have kk : KS f env ρ₁ ρ5 s₁.heap s5.heap := (pre sb.extBut).trans k45
    have goes : (∃ t', Sub (L t') loc5 ∧ I (i + 1) t' σ5) → ∃ m, m < items.length + 1 - i ∧ ∃ j loc' σ' ρ', m = items.length + 1 - j ∧ j ≤ items.length ∧ I j loc' σ' ∧ KS f env ρ₁ ρ' s₁.heap s5.heap ∧ St cx f env ρ' σ' (L loc') s5 ∧ It ρ' s₁.heap.objs.size j s5.heap := fun h => by
      obtain ⟨t', sb', h⟩ := h
      obtain ⟨n1, n2, n3, n4⟩ := S3.itOff (G.obj iti')
      exact ⟨items.length + 1 - (i + 1), by omega, i + 1, t', _, _, rfl, hlt, h, kk, S5.weak sb', G.keep iti' k45.pre (S3.immS k45) fun o e => k45.all _ o n1 n3 n4 e⟩
    cases fl <;> cases fl5 <;> first | exact fr.elim | skip
    · exact goes h5
    · exact ⟨.next, _, _, _, h5, (S.ks k1).trans kk, S5, trivial⟩
    · exact goes h5
    · exact ⟨.ret _, _, _, _, h5, (S.ks k1).trans kk, S5, fr⟩

theorem TS_for {target iter : Expr} {body : List Stmt} {src : V} {items : List V} {ok : List O → Prop} {It : List Addr → Addr → Nat → Heap → Prop} (G : Src cx n src items ok It) {T : Type} (L : T → Loc) (I : Nat → T → List O → Prop)
    (hI : TE cx n sc loc σ iter fun v σ₁ => v = src ∧ ∃ t, Sub (L t) loc ∧ I 0 t σ₁) (hok : ∀ i t σ, I i t σ → ok σ)
    (turn : ∀ i v t σ, items[i]? = some v → I i t σ → TA cx n sc (L t) σ target v fun loc σ => TSs cx n sc loc σ body (Turn P fun l s => ∃ t', Sub (L t') l ∧ I (i + 1) t' s))
    (done : ∀ t σ, I items.length t σ → P .next (L t) σ)
    (hs : ∀ env x, foldedSetIterable iter env x = pure x := by intros; rfl) : TS cx n sc loc σ (.For target iter body [] pos) P :=
  TS_forE L (fun f env ρ s fo eo S => goE (hI f env ρ s fo eo S) fun _ _ _ _ _ h k S r => ⟨_, _, _, ⟨items, ok, It, I, h.1 ▸ G, h.2, hok, turn, done⟩, k, S, r⟩) hs

theorem TS_while {test : Expr} {body : List Stmt} {T : Type} (L : T → Loc) (I : Nat → T → List O → Prop) (k : Nat) (t0 : T) (h0 : Sub (L t0) loc ∧ I k t0 σ)
    (turn : ∀ k t σ, I k t σ → TB cx n sc (L t) σ test fun b σ => if b = true then TSs cx n sc (L t) σ body (Turn P fun l s => ∃ m, m < k ∧ ∃ t', Sub (L t') l ∧ I m t' s) else P .next (L t) σ) : TS cx n sc loc σ (.While test body [] pos) P := fun f env ρ s fo eo S => by
  refine wpAny_While (codeAny_whileLoop (fun k s' => ∃ t σ' ρ', I k t σ' ∧ KS f env ρ ρ' s.heap s'.heap ∧ St cx f env ρ' σ' (L t) s') ?_ k ⟨t0, σ, ρ, h0.2, KS.refl .., S.weak h0.1⟩)
  rintro k s' ⟨t, σ', ρ', hI, ks, S'⟩
  refine goB (turn k t σ' hI f env ρ' s' fo eo S') fun b s2 σ2 ρ2 h2 k2 S2 => ?_
  have k02 := ks.trans (S'.ks k2)
  cases b with
  | false => exact wpAny_execs_nil ⟨.next, _, _, _, h2, k02, S2, trivial⟩
  | true =>
    refine goS (h2 f env ρ2 _ fo eo S2) fun fl5 s5 fl loc5 σ5 ρ5 h5 k5 S5 fr => ?_
    have goes : (∃ m, m < k ∧ ∃ t', Sub (L t') loc5 ∧ I m t' σ5) → ∃ m, m < k ∧ ∃ t σ' ρ', I m t σ' ∧ KS f env ρ ρ' s.heap s5.heap ∧ St cx f env ρ' σ' (L t) s5 := fun h => by
      obtain ⟨m, lt, t', sb, h⟩ := h; exact ⟨m, lt, t', _, _, h, k02.trans k5, S5.weak sb⟩
    cases fl <;> cases fl5 <;> first | exact fr.elim | skip
    · exact goes h5
    · exact ⟨.next, _, _, _, h5, k02.trans k5, S5, trivial⟩
    · exact goes h5
    · exact ⟨.ret _, _, _, _, h5, k02.trans k5, S5, fr⟩

/-! the sources -/
section
variable {it : Addr} {i : Nat} {h h' : Heap}
def ItL (j : Nat) (ρ : List Addr) (it : Addr) (i : Nat) (h : Heap) : Prop := ∃ a, ρ[j]? = some a ∧ h.IsListIter it a i
theorem src_list {j : Nat} {l : List V} : Src cx n (.ref j) l (fun σ => σ[j]? = some (.list l)) (ItL j) where
  obj q := by obtain ⟨a, _, o, e, c, d⟩ := q; exact ⟨o, _, _, e, d, c, .inl rfl⟩
  keep q p _ k := by obtain ⟨a, e, o, r, d⟩ := q; exact ⟨a, pre_get p e, o, k o r, d⟩
  again q k := by obtain ⟨a, _, q⟩ := q; exact wpAny_pyIter_listiter q k
  next := @fun f env ρ σ loc s it i v A E Q fo S e q hv k => by
    obtain ⟨a, ea, q⟩ := q
    obtain ⟨ob, g, vs, m, rfl, r, _⟩ := S.rep j _ a e ea
    obtain ⟨x, e1, e2⟩ := r.get hv
    exact wpAny_pyNext_list_item q (isList_of g) (by rw [List.getElem?_toArray]; exact e1) fun h' q' sb => k x h' _ e2 sb ⟨a, ea, q'⟩
  stop hh fo S e q hv k := by
    obtain ⟨a, ea, q⟩ := q
    obtain ⟨ob, g, vs, m, rfl, r, _⟩ := S.rep j _ a e ea
    exact wpAny_pyNext_list_end hh q (isList_of g) (by rw [List.getElem?_toArray, List.getElem?_eq_none_iff, r.length]; exact hv) k
  start := @fun f env ρ σ loc s x A E Q fo S e r k => by
    obtain ⟨a, vs, q, rfl, ha, g, r'⟩ := S.list e r
    exact wpAny_pyIter_list (isList_of g) (k _ _ (fun _ _ e => Heap.get?_push_of_some _ e) ⟨a, ha, _, Heap.get?_push_size _ rfl, rfl, rfl⟩)
def ItT (hb : Heap) (l : List V) (ρ : List Addr) (it : Addr) (i : Nat) (h : Heap) : Prop := ∃ t vs n, h.IsTupleIter it t i ∧ h.get? t = some { cls := .type "tuple", data := .seq vs.toArray n } ∧ VRs hb h ρ l vs
theorem src_tup {l : List V} : Src cx n (.tup l) l (fun _ => True) (ItT cx.hb l) where
  obj q := by obtain ⟨t, vs, n, ⟨o, e, c, d⟩, _⟩ := q; exact ⟨o, _, _, e, d, c, .inr (.inl rfl)⟩
  keep q p im k := by obtain ⟨t, vs, n, ⟨o, e, d⟩, g, r⟩ := q; exact ⟨t, vs, n, ⟨o, k o e, d⟩, im _ _ g (.inl ⟨rfl, _, _, rfl⟩), VRs.mono im p r⟩
  again q k := by obtain ⟨t, vs, n, q, _⟩ := q; exact wpAny_pyIter_tupleiter q k
  next := @fun f env ρ σ loc s it i v A E Q fo S e q hv k => by
    obtain ⟨t, vs, n, q, g, r⟩ := q
    obtain ⟨x, e1, e2⟩ := r.get hv
    obtain ⟨o, eo, co, _⟩ := q
    refine wpAny_pyNext_tuple_item ⟨o, eo, co, by assumption⟩ ⟨_, g, rfl, n, rfl⟩ (by rw [List.getElem?_toArray]; exact e1) fun h' q' sb => ?_
    have ne : ∀ a o', Im o' → s.heap.get? a = some o' → a ≠ it := fun a o' i e q => by
      subst q; rw [eo] at e; obtain rfl := Option.some.inj e
      rcases i with ⟨c, _⟩ | ⟨c, _⟩ <;> (rw [co] at c; injection c with c; simp at c)
    have im : Imm s.heap h' := fun a o' e i => (sb.2 a (ne a o' i e)).trans e
    exact k x h' _ e2 sb ⟨t, vs, n, q', im _ _ g (.inl ⟨rfl, _, _, rfl⟩), VRs.mono im (pre_refl _) r⟩
  stop hh fo S e q hv k := by
    obtain ⟨t, vs, n, q, g, r⟩ := q
    exact wpAny_pyNext_tuple_end hh q ⟨_, g, rfl, n, rfl⟩ (by rw [List.getElem?_toArray, List.getElem?_eq_none_iff, r.length]; exact hv) k
  start := @fun f env ρ σ loc s x A E Q fo S e r k => by
    obtain ⟨a', vs, q, rfl, g, r'⟩ := r.tupE
    have kp : ∀ a o, s.heap.get? a = some o → (s.heap.push { cls := .type "tuple_iterator", data := .fields #[.ref a', .int 0 0] }).get? a = some o := fun _ _ e => Heap.get?_push_of_some _ e
    exact wpAny_pyIter_tuple ⟨_, g, rfl, q, rfl⟩ (k _ _ kp ⟨a', vs, q, ⟨_, Heap.get?_push_size _ rfl, rfl, rfl⟩, kp _ _ g, VRs.mono (fun _ _ e _ => kp _ _ e) (pre_refl _) r'⟩)
def upto (a b : Int) : List V := (List.range (b - a).toNat).map fun i => .int (a + (i : Nat))
theorem upto_len {a b : Int} : (upto a b).length = (b - a).toNat := by rw [upto, List.length_map, List.length_range]
theorem src_rng {a b : Int} (ha : -(2 ^ 62) ≤ a) (ha' : a < 2 ^ 62) (hb : -(2 ^ 62) ≤ b) (hb' : b < 2 ^ 62) : Src cx n (.rng a b) (upto a b) (fun _ => True) (fun _ it i h => IsRangeIter h it (a + (i : Nat)) ((b - a).toNat - (i : Nat) : Int) 1) where
  obj q := ⟨_, _, _, q, rfl, rfl, .inr (.inr rfl)⟩
  keep q _ _ k := k _ q
  again q k := wpAny_pyIter_rangeiter q k
  next := @fun f env ρ σ loc s it i v A E Q fo S e q hv k => by
    have hl := (List.getElem?_eq_some_iff.mp hv).1
    rw [upto_len] at hl
    rw [upto, List.getElem?_map, List.getElem?_range hl] at hv
    obtain rfl := Option.some.inj hv
    refine wpAny_pyNext_range_item q (by omega) fun h' q' sb => k _ h' _ (.int _ _) sb ?_
    rw [Int.add_assoc, Int.sub_sub] at q'
    exact q'
  stop hh fo S e q hv k := by
    rw [upto_len] at hv
    exact wpAny_pyNext_range_end hh q (by omega) k
  start := @fun f env ρ σ loc s x A E Q fo S e r k => by
    cases r with
    | rng q =>
      refine wpAny_pyIter_range q (small_one ha ha' hb hb') (k _ _ (fun _ _ e => Heap.get?_push_of_some _ e) ?_)
      have e1 : Builtin.Range.rangeSize a b 1 = ((b - a).toNat : Int) - ((0 : Nat) : Int) := by rw [rangeSize_nat]; simp
      have e2 : a + ((0 : Nat) : Int) = a := by simp
      rw [e2, ← e1]
      exact Heap.get?_push_size _ rfl
end
end
end Mine
open PySem PySem.W PyProof.Rows PySem.Calls
set_option Elab.async false
namespace Mine
section
variable {cx : Cx} {n : Nat} {sc : Scope} {loc : Loc} {σ : List O} {P : V → List O → Prop} {pos : Pos}
  {f : Frm} {env : Env} {ρ ρ' : List Addr} {s s' s₀ : Shared} {M : Model} {A : Around} {E : Value → Shared → Prop}

/-- a call with arguments by place -/
abbrev callF (v : Value) (xs : List Value) : Sem Value := call v xs
/-! names of the module, of the builtins -/
def Bi (cx : Cx) (x : Str) (v : Value) : Prop := cx.mg x = none ∧ cx.mb x = some v
theorem load_bi {x : Str} {v : Value} {Q : Value → Shared → Prop} (ok : FrOk cx f n) (eo : EnvOk env sc) (S : St cx f env ρ σ loc s) (b : Bi cx x v) (hk : sc.names.lookup x = some .globalImplicit) (hx : nameOk x = true) (h : Q v s) : wpAny M A (eval (.Name x pos) env) Q E s := by
  obtain ⟨m, F⟩ := S.fr
  have T := topRead_of ok.top
  exact Name_function_global eo.fn (by unfold Env.kindOf; rw [eo.scope]; exact hk) (loadGlobal_builtin (by rw [eo.globals]; exact T.g.keeps F.keep) b.1 (by rw [eo.builtins]; exact T.b.keeps F.keep) b.2 h) (nameOk1 hx)
theorem load_gl {x : Str} {v : Value} {Q : Value → Shared → Prop} (ok : FrOk cx f n) (eo : EnvOk env sc) (S : St cx f env ρ σ loc s) (b : cx.mg x = some v) (hk : sc.names.lookup x = some .globalImplicit) (hx : nameOk x = true) (h : Q v s) : wpAny M A (eval (.Name x pos) env) Q E s := by
  obtain ⟨m, F⟩ := S.fr
  have T := topRead_of ok.top
  exact Name_function_global eo.fn (by unfold Env.kindOf; rw [eo.scope]; exact hk) (loadGlobal_global (by rw [eo.globals]; exact T.g.keeps F.keep) b h) (nameOk1 hx)
theorem TE_glob {x : Str} {i : Int} (b : ∃ t, cx.mg x = some (.int i t)) (h : P (.int i) σ) (hk : sc.names.lookup x = some .globalImplicit := by rfl) (hx : nameOk x = true := by rfl) : TE cx n sc loc σ (.Name x pos) P := fun f env ρ s ok eo S => by
  obtain ⟨t, b⟩ := b
  exact load_gl ok eo S b hk hx (stay (t := _) S h (.int _ _))

/-- arguments by place alone, one at least -/
abbrev Args1 (pos : Pos) (args : List Expr) : Prop := ∀ env, ∃ x r, backTo pos (starEach args env) = (false, x) :: r ∧ r.any (·.1) = false
theorem evalArgs1 {fv : Value} {args : List Expr} {Q : Args → Shared → Prop} (ha : Args1 pos args) (h : wpAny M A (spliced (backTo pos (starEach args env))) (fun vs s' => Q ⟨vs, []⟩ s') E s) : wpAny M A (evalArgs fv true (backTo pos (starEach args env)) []) Q E s := by
  obtain ⟨x, r, e, _⟩ := ha env
  rw [e] at h ⊢
  exact evalArgs_plain h
theorem any1 {args : List Expr} (ha : Args1 pos args) : (backTo pos (starEach args env)).any (·.1) = false := by
  obtain ⟨x, r, e, q⟩ := ha env
  rw [e, List.any_cons, q]; rfl
theorem TE_callB {x : Str} {p : Pos} {id : String} {args : List Expr} (b : Bi cx x (.builtin id)) (h : TEs cx n sc loc σ args fun vs σ₁ => TO cx n sc loc σ₁ (callF (.builtin id)) vs P)
    (hk : sc.names.lookup x = some .globalImplicit := by rfl) (hx : nameOk x = true := by rfl) (ha : Args1 pos args := by intro; exact ⟨_, _, rfl, rfl⟩) : TE cx n sc loc σ (.Call (.Name x p) args [] pos) P := fun f env ρ s ok eo S =>
  wpAny_Call_NameR (load_bi ok eo S b hk hx (callWith_builtin (any1 ha) (evalArgs1 ha (goL (h pos f env ρ s ok eo S) fun _ _ _ _ _ h1 k1 S1 r1 => preE k1 (h1 f env _ _ _ ok eo S1 r1)))))
theorem TE_callT {x : Str} {p : Pos} {id : String} {args : List Expr} (b : Bi cx x (.type id)) (h : TEs cx n sc loc σ args fun vs σ₁ => TO cx n sc loc σ₁ (callF (.type id)) vs P)
    (hk : sc.names.lookup x = some .globalImplicit := by rfl) (hx : nameOk x = true := by rfl) (ha : Args1 pos args := by intro; exact ⟨_, _, rfl, rfl⟩) : TE cx n sc loc σ (.Call (.Name x p) args [] pos) P := fun f env ρ s ok eo S =>
  wpAny_Call_NameR (load_bi ok eo S b hk hx (PySem.callWith_type (any1 ha) (evalArgs1 ha (goL (h pos f env ρ s ok eo S) fun _ _ _ _ _ h1 k1 S1 r1 => preE k1 (h1 f env _ _ _ ok eo S1 r1)))))

/-! methods of lists and dicts -/
/-- the value is of the builtin type and has no dict of its own -/
def Ty (cx : Cx) (σ : List O) (v : V) (T : String) : Prop := ∀ {f env ρ loc s x}, St cx f env ρ σ loc s → VR cx.hb s.heap ρ v x → s.TypeIs x T ∧ ∀ a, x = .ref a → ∃ ob, s.heap.get? a = some ob ∧ ob.dict = none
theorem ty_list {i : Nat} {l : List V} (e : σ[i]? = some (.list l)) : Ty cx σ (.ref i) "list" := fun S r => by
  obtain ⟨a, vs, k, rfl, _, g, _⟩ := S.list e r
  exact ⟨⟨_, g, rfl⟩, fun a e => by cases e; exact ⟨_, g, rfl⟩⟩
theorem ty_dict {K : Type} [DecidableEq K] {D : DK cx K} {i : Nat} {o : O} {l : List (K × V)} (e : σ[i]? = some o) (d : DR D o l) : Ty cx σ (.ref i) "dict" := fun S r => by
  obtain ⟨a, kvs, rfl, _, _, g, _⟩ := S.dict e d r
  exact ⟨g.typeIs, g.mapOf.noDict⟩
theorem TE_meth {o : Expr} {name : Str} {T id : String} {p : Pos} {args : List Expr} (pa : PlainAttrs T) (slot : Slot T name id) (hty : typeOf (.builtin id) = pure (.type "method_descriptor"))
    (h : TE cx n sc loc σ o fun vo σ₁ => Ty cx σ₁ vo T ∧ TEs cx n sc loc σ₁ args fun vs σ₂ => TO cx n sc loc σ₂ (callF (.builtin id)) (vo :: vs) P) (ha : Args1 pos args := by intro; exact ⟨_, _, rfl, rfl⟩)
    (hm : ∀ env, ∃ pl, eval (.Call (.Attribute o name p) args [] pos) env = (do
      let ov ← eval o env
      standAt p.atName
      let (f, first) ← holding [ov] (getMethod ov name pl)
      callWith pos f first (backTo pos (starEach args env)) (backToKw pos (keywordEach [] env))) := by intro; exact ⟨_, rfl⟩) : TE cx n sc loc σ (.Call (.Attribute o name p) args [] pos) P := fun f env ρ s ok eo S => by
  obtain ⟨pl, hm⟩ := hm env
  exact methodCall_KW (he := hm) (goE (h f env ρ s ok eo S) fun x s₁ _ _ _ h1 k1 S1 r1 => by
    obtain ⟨t1, t2⟩ := h1.1 S1 r1
    exact getMethod_builtin t1 pa slot hty t2 (callWith_builtin (any1 ha) (evalArgs1 ha (goL (h1.2 pos f env _ _ ok eo S1) fun _ _ _ _ _ h2 k2 S2 r2 => preE (k1.trans k2) (h2 f env _ _ (_ :: _) ok eo S2 (.cons (r1.mono (S1.imm k2) k2.pre) r2))))))
theorem TE_meth0 {o : Expr} {name : Str} {T id : String} {p : Pos} (pa : PlainAttrs T) (slot : Slot T name id) (hty : typeOf (.builtin id) = pure (.type "method_descriptor"))
    (h : TE cx n sc loc σ o fun vo σ₁ => Ty cx σ₁ vo T ∧ TO cx n sc loc σ₁ (callF (.builtin id)) [vo] P)
    (hm : ∀ env, ∃ pl, eval (.Call (.Attribute o name p) [] [] pos) env = (do
      let ov ← eval o env
      standAt p.atName
      let (f, first) ← holding [ov] (getMethod ov name pl)
      callWith pos f first (backTo pos (starEach [] env)) (backToKw pos (keywordEach [] env))) := by intro; exact ⟨_, rfl⟩) : TE cx n sc loc σ (.Call (.Attribute o name p) [] [] pos) P := fun f env ρ s ok eo S => by
  obtain ⟨pl, hm⟩ := hm env
  exact methodCall_KW (he := hm) (goE (h f env ρ s ok eo S) fun x s₁ _ _ _ h1 k1 S1 r1 => by
    obtain ⟨t1, t2⟩ := h1.1 S1 r1
    exact getMethod_builtin t1 pa slot hty t2 (callWith_builtin rfl (PySem.evalArgs_none (preE k1 (h1.2 f env _ _ [_] ok eo S1 (.cons r1 .nil))))))

theorem updAt {i t : Nat} {a : Addr} {o' : O} {ob' : Obj} {v : V} {x : Value} {h' : Heap} (S : St cx f env ρ σ loc s) (hi : ρ[i]? = some a) (sb : Heap.SameBut a s.heap h') (e : h'.get? a = some ob') (r : OR cx s.heap ρ o' ob') (h : P v (σ.set i o')) (q : VR cx.hb s.heap ρ v x) (hd : o'.isD = true → ∃ o₀, σ[i]? = some o₀ ∧ o₀.isD = true := by intro h; cases h) :
    PostE cx f env loc ρ s P x { s with heap := h', toks := t } := by
  have kp : ∀ b o, b ≠ a → s.heap.get? b = some o → h'.get? b = some o := fun b o n e => (sb.2 b n).trans e
  have ha := List.mem_iff_getElem?.mpr ⟨i, hi⟩
  have ke := S.keUpd ha kp
  exact ⟨_, _, ρ, h, ke, S.upd hi kp e r hd, q.mono (S.imm ke) (pre_refl _)⟩

section
variable {i : Nat} {l : List V} {v : V}
theorem orL {h : Heap} {vs : List Value} {k : Nat} (r : VRs cx.hb h ρ l vs) (z : l.length ≤ sizeLine) : OR cx h ρ (.list l) (listOf vs.toArray k) := ⟨vs, k, rfl, r, z⟩
theorem TO_append (e : σ[i]? = some (.list l)) (h : P .none (σ.set i (.list (l ++ [v])))) (hz : l.length < sizeLine) : TO cx n sc loc σ (callF (.builtin "list.append")) [.ref i, v] P := fun f env ρ s xs ok eo S r => by
  obtain ⟨x, y, rfl, rx, ry⟩ := VRs.two r
  obtain ⟨a, vs, k, rfl, ha, g, r'⟩ := S.list e rx
  refine append_at g (fun h' sb e' => ?_) (by rw [List.size_toArray, r'.length]; exact Nat.le_of_lt hz)
  rw [List.push_toArray] at e'
  exact updAt (t := s.toks) S ha sb e' (orL (r'.append (.cons ry .nil)) (by rw [List.length_append]; exact hz)) h .none
theorem last_split {α : Type} {R : α → Value → Prop} {l : List α} {w : α} {vs : List Value} (r : All2 R (l ++ [w]) vs) : ∃ us u, vs = us ++ [u] ∧ All2 R l us ∧ R w u := by
  induction l generalizing vs with
  | nil => cases r with | cons a b => cases b; exact ⟨[], _, rfl, .nil, a⟩
  | cons x l ih => cases r with | cons a b => obtain ⟨us, u, rfl, c, d⟩ := ih b; exact ⟨_ :: us, u, rfl, .cons a c, d⟩
theorem TO_pop (e : σ[i]? = some (.list (l ++ [v]))) (h : P v (σ.set i (.list l))) : TO cx n sc loc σ (callF (.builtin "list.pop")) [.ref i] P := fun f env ρ s xs ok eo S r => by
  obtain ⟨x, rfl, rx⟩ := VRs.one r
  obtain ⟨a, vs, k, rfl, ha, g, r'⟩ := S.list e rx
  obtain ⟨us, u, rfl, r1, r2⟩ := last_split r'
  refine Copied.pop_at g (y := u) (by simp) (fun h' sb e' => ?_) (by rw [List.size_toArray, r'.length]; exact S.listZ e)
  rw [List.pop_toArray, List.dropLast_concat] at e'
  exact updAt (t := s.toks) S ha sb e' (orL r1 (Nat.le_trans (by rw [List.length_append]; exact Nat.le_add_right _ _) (S.listZ e))) h r2
theorem TO_reverse (e : σ[i]? = some (.list l)) (h : P .none (σ.set i (.list l.reverse))) : TO cx n sc loc σ (callF (.builtin "list.reverse")) [.ref i] P := fun f env ρ s xs ok eo S r => by
  obtain ⟨x, rfl, rx⟩ := VRs.one r
  obtain ⟨a, vs, k, rfl, ha, g, r'⟩ := S.list e rx
  refine call_meets PySem.F.slot_list_reverse ⟨_, g, rfl⟩ PySem.F.entry_list_reverse (PySem.F.args_list_reverse_1 _) (PySem.AutoSeq1.list_reverse_list_0 a vs.toArray k (by rw [List.size_toArray, r'.length]; exact S.listZ e)) ⟨g, ?_⟩
  refine updAt (t := s.toks) S ha (Heap.SameBut.update ..) (Heap.get?_update_self _ g rfl) (o' := .list l.reverse) ⟨vs.reverse, _, by simp only [Obj.mapSeq, List.reverse_toArray]; rfl, r'.reverse, by rw [List.length_reverse]; exact S.listZ e⟩ h .none
theorem intsAre {ns : List Int} {vs : List Value} {hb h : Heap} (r : VRs hb h ρ (ns.map V.int) vs) : IntsAre vs ns := by
  induction ns generalizing vs with
  | nil => cases r; exact .nil
  | cons a ns ih => cases r with | cons a b => obtain ⟨t, rfl⟩ := a.intE; exact .cons _ _ (ih b)
theorem TO_count {ns : List Int} {k : Int} (e : σ[i]? = some (.list (ns.map V.int))) (h : P (.int (ns.count k : Nat)) σ) : TO cx n sc loc σ (callF (.builtin "list.count")) [.ref i, .int k] P := fun f env ρ s xs ok eo S r => by
  obtain ⟨x, y, rfl, rx, ry⟩ := VRs.two r
  obtain ⟨a, vs, q, rfl, ha, g, r'⟩ := S.list e rx
  obtain ⟨t, rfl⟩ := ry.intE
  exact count_list_ints (isList_of g) (intsAre r') (stay S h (.int _ _))
theorem TO_get2 {K : Type} [DecidableEq K] (D : DK cx K) {k : K} {o : O} {l : List (K × V)} {d : V} (e : σ[i]? = some o) (dr : DR D o l) (h : P ((lk l k).getD d) σ) : TO cx n sc loc σ (callF (.builtin "dict.get")) [.ref i, D.key k, d] P := fun f env ρ s xs ok eo S r => by
  obtain ⟨x, y, z, rfl, rx, ry, rz⟩ := VRs.three r
  obtain ⟨a, kvs, rfl, ha, hd, dd, kk, _⟩ := S.dict e dr rx
  refine call_meetsIn PySem.F.slot_dict_get dd.typeIs PySem.F.entry_dict_get (PySem.F.args_dict_get_3 _ _ _) (meets_dict_get_default D.knd a (D.is ry) hd z) ⟨_, dd.mapOf, stay S h ?_⟩
  cases q : lk l k with
  | none => rw [(kk.at k).2 q]; exact rz
  | some v => obtain ⟨u, e1, e2⟩ := (kk.at k).1 v q; rw [e1]; exact e2
theorem lt63' {k : Nat} (h : k ≤ sizeLine) : (k : Int) < 2 ^ 63 := by unfold sizeLine at h; omega
theorem TO_lenL (e : σ[i]? = some (.list l)) (h : P (.int l.length) σ) : TO cx n sc loc σ (callF (.builtin "len")) [.ref i] P := fun f env ρ s xs ok eo S r => by
  obtain ⟨x, rfl, rx⟩ := VRs.one r
  obtain ⟨a, vs, q, rfl, ha, g, r'⟩ := S.list e rx
  refine PyProof.Rows.len_list (isList_of g) (by rw [List.size_toArray, r'.length]; exact lt63' (S.listZ e)) ?_
  rw [List.size_toArray, r'.length]
  exact stay S h (.int _ _)
theorem TO_lenT (h : P (.int l.length) σ) : TO cx n sc loc σ (callF (.builtin "len")) [.tup l] P := fun f env ρ s xs ok eo S r => by
  obtain ⟨x, rfl, rx⟩ := VRs.one r
  obtain ⟨b, vs, q, rfl, g, r'⟩ := rx.tupE
  refine PySem.P.len_tuple g (by rw [List.size_toArray, r'.length]; exact Int.not_le.mpr (lt63' rx.tupZ)) ?_
  rw [List.size_toArray, r'.length]
  exact stay S h (.int _ _)
theorem rngAt {a b : Int} {t0 t1 t2 : Tok} {t : Nat} (S : St cx f env ρ σ loc s) (h : P (.rng a b) σ) : PostE cx f env loc ρ s P (.ref s.heap.objs.size) { s with heap := s.heap.push { cls := .type "range", data := .fields #[.int a t0, .int b t1, .int 1 t2] }, toks := t } :=
  have kp : ∀ x o, s.heap.get? x = some o → (s.heap.push { cls := .type "range", data := .fields #[.int a t0, .int b t1, .int 1 t2] }).get? x = some o := fun _ _ e => Heap.get?_push_of_some _ e
  ⟨_, _, _, h, KE.grow kp, S.grow kp, .rng (Heap.get?_push_size _ rfl)⟩
theorem TO_range1 {b : Int} (h : P (.rng 0 b) σ) : TO cx n sc loc σ (callF (.type "range")) [.int b] P := fun f env ρ s xs ok eo S r => by
  obtain ⟨x, rfl, rx⟩ := VRs.one r
  obtain ⟨t, rfl⟩ := rx.intE
  exact call_range_1 (rngAt S h)
theorem TO_range2 {a b : Int} (h : P (.rng a b) σ) : TO cx n sc loc σ (callF (.type "range")) [.int a, .int b] P := fun f env ρ s xs ok eo S r => by
  obtain ⟨x, y, rfl, rx, ry⟩ := VRs.two r
  obtain ⟨t, rfl⟩ := rx.intE
  obtain ⟨t, rfl⟩ := ry.intE
  exact call_range_2 (rngAt S h)
theorem TO_strI {a : Int} (ha : a.natAbs.log2 < 1920) (h : P (.str (toString a)) σ) (hc : PyData.canLay0 (.str (toString a)) = true) : TO cx n sc loc σ (callF (.type "str")) [.int a] P := fun f env ρ s xs ok eo S r => by
  obtain ⟨x, rfl, rx⟩ := VRs.one r
  obtain ⟨t, rfl⟩ := rx.intE
  exact PySem.P.str_of_int ha (stay S h (.str _ _ hc))
theorem TO_min {a b : Int} (h : P (.int (min a b)) σ) : TO cx n sc loc σ (callF (.builtin "min")) [.int a, .int b] P := fun f env ρ s xs ok eo S r => by
  obtain ⟨x, y, rfl, rx, ry⟩ := VRs.two r
  obtain ⟨t, rfl⟩ := rx.intE
  obtain ⟨u, rfl⟩ := ry.intE
  refine min_two_ints ok.handled fun h' tk kp => ⟨_, _, _, h, KE.grow kp, S.grow kp, ?_⟩
  split
  · rw [Int.min_eq_right (by omega)]; exact .int _ _
  · rw [Int.min_eq_left (by omega)]; exact .int _ _
/-- a copy as a list -/
theorem newL {h' : Heap} {xs : List Value} {k t : Nat} (ok : FrOk cx f n) (S : St cx f env ρ σ loc s) (kp : ∀ a o, s.heap.get? a = some o → h'.get? a = some o) {b : Addr} (hb : s.heap.objs.size ≤ b) (e : h'.get? b = some (listOf xs.toArray k)) (r : VRs cx.hb s.heap ρ l xs) (hz : l.length ≤ sizeLine)
    (h : P (.ref σ.length) (σ ++ [.list l])) : PostE cx f env loc ρ s P (.ref b) { s with heap := h', toks := t } := by
  have fr : s.heap.get? b = none := by
    cases e : s.heap.get? b with
    | none => rfl
    | some o => exact absurd (Heap.lt_size e) (Nat.not_lt.mpr hb)
  refine ⟨_, _, ρ ++ [b], h, S.keNews kp (by simp [fr]), S.new kp fr e ⟨xs, k, rfl, VRs.mono (fun _ _ e _ => kp _ _ e) ⟨_, rfl⟩ r, hz⟩ (fun q => nomatch q), .ref ?_⟩
  rw [← S.len, List.getElem?_append_right (Nat.le_refl _), Nat.sub_self]; rfl
theorem TO_listL (e : σ[i]? = some (.list l)) (h : P (.ref σ.length) (σ ++ [.list l])) : TO cx n sc loc σ (callF (.type "list")) [.ref i] P := fun f env ρ s xs ok eo S r => by
  obtain ⟨x, rfl, rx⟩ := VRs.one r
  obtain ⟨a, vs, q, rfl, ha, g, r'⟩ := S.list e rx
  have hz := S.listZ e
  exact call_list_seq a (.inl rfl) g rfl rfl (fun h' c' kp e' => newL (t := s.toks) ok S kp (Nat.le_refl _) e' r' hz h) (by rw [List.size_toArray, r'.length]; exact hz)
theorem TO_listT (h : P (.ref σ.length) (σ ++ [.list l])) : TO cx n sc loc σ (callF (.type "list")) [.tup l] P := fun f env ρ s xs ok eo S r => by
  obtain ⟨x, rfl, rx⟩ := VRs.one r
  obtain ⟨b, vs, q, rfl, g, r'⟩ := rx.tupE
  have hz := rx.tupZ
  exact call_list_seq b (.inr rfl) g rfl rfl (fun h' c' kp e' => newL (t := s.toks) ok S kp (Nat.le_refl _) e' r' hz h) (by rw [List.size_toArray, r'.length]; exact hz)
theorem TO_tupL (e : σ[i]? = some (.list l)) (h : P (.tup l) σ) : TO cx n sc loc σ (callF (.type "tuple")) [.ref i] P := fun f env ρ s xs ok eo S r => by
  obtain ⟨x, rfl, rx⟩ := VRs.one r
  obtain ⟨a, vs, q, rfl, ha, g, r'⟩ := S.list e rx
  exact call_tuple_list (isList_of g) (fun h' kp => (tupAt (S.grow (t := s.toks) (g := s.drawn) kp) h (VRs.mono (fun _ _ e _ => kp _ _ e) (pre_refl _) r') (S.listZ e)).pre (KE.grow kp)) (by rw [List.size_toArray, r'.length]; exact S.listZ e)
theorem TO_addL {j : Nat} {l' : List V} (e : σ[i]? = some (.list l)) (e' : σ[j]? = some (.list l')) (h : P (.ref σ.length) (σ ++ [.list (l ++ l')])) (hz : l.length + l'.length ≤ sizeLine) : TO cx n sc loc σ (op2 (binaryOp .Add)) [.ref i, .ref j] P := TO2 fun f env ρ s x y ok eo S rx ry => by
  obtain ⟨a, vs, q, rfl, ha, g, r⟩ := S.list e rx
  obtain ⟨b, us, q', rfl, hb, g', r'⟩ := S.list e' ry
  refine PySem.P.add_list g g' ?_ (by rw [List.size_toArray, List.size_toArray, r.length, r'.length]; exact hz)
  rw [List.append_toArray]
  exact newAt (t := s.toks) ok S h ⟨vs ++ us, 0, rfl, r.append r', by rw [List.length_append]; exact hz⟩
theorem TO_addS {a b : Str} (h : P (.str (a ++ b)) σ) (hz : a.length + b.length ≤ sizeLine) (hc : PyData.canLay0 (.str (a ++ b)) = true) : TO cx n sc loc σ (op2 (binaryOp .Add)) [.str a, .str b] P := TO2 fun f env ρ s x y ok eo S rx ry => by
  obtain ⟨t, rfl⟩ := rx.strE
  obtain ⟨u, rfl⟩ := ry.strE
  exact PyProof.Rows.add_str (fun t' tk => stay S h (.str _ _ hc)) hz
/-- the first items of a list -/
def IsSeq (σ : List O) (v : V) (l : List V) : Prop := (∃ ns, v = .inp ns ∧ l = ns.map V.int) ∨ ∃ i, v = .ref i ∧ σ[i]? = some (.list l)
theorem VRs.ints {ns : List Int} {vs : List Value} {hb h : Heap} (r : IntsAre vs ns) : VRs hb h ρ (ns.map V.int) vs := by
  induction r with
  | nil => exact .nil
  | cons i t _ ih => exact .cons (.int _ _) ih
theorem St.seq {x : Value} (ok : FrOk cx f n) (S : St cx f env ρ σ loc s) (e : IsSeq σ v l) (r : VR cx.hb s.heap ρ v x) : ∃ a vs, x = .ref a ∧ s.heap.IsList a vs.toArray ∧ VRs cx.hb s.heap ρ l vs := by
  rcases e with ⟨ns, rfl, rfl⟩ | ⟨i, rfl, g⟩
  · cases r with
    | inp q i =>
      obtain ⟨A₀, b⟩ := ok.below
      obtain ⟨m, F⟩ := S.fr
      obtain ⟨o, g, w⟩ := q
      exact ⟨_, _, rfl, ⟨o, F.keep _ _ (b.stays _ _ g), w⟩, VRs.ints i⟩
  · obtain ⟨a, vs, k, rfl, ha, g', r'⟩ := S.list g r
    exact ⟨a, vs, rfl, isList_of g', r'⟩
theorem TE_upto {e : Expr} {k : Int} {q : Nat} {p p' : Pos} (h : TE cx n sc loc σ e fun v σ₁ => ∃ l, IsSeq σ₁ v l ∧ l.length ≤ sizeLine ∧ P (.ref σ₁.length) (σ₁ ++ [.list (l.take k.toNat)])) (h0 : 0 ≤ k := by decide) (ht : ∀ o r, letTemporaryGo e o r = pure () := by intro _ _; rfl) :
    TE cx n sc loc σ (.Subscript e (.Slice none (some (.Constant (.int k) q p)) none p') pos) P := fun f env ρ s ok eo S =>
  wpAny_Subscript_list_slice (goE (h f env ρ s ok eo S) fun x s₁ v σ₁ ρ₁ h1 k1 S1 r1 => by
    obtain ⟨l, e, hz, hp⟩ := h1
    obtain ⟨a, vs, rfl, il, r⟩ := S1.seq ok e r1
    refine evalPart_none_step (evalPart_some_step (wpAny_Constant_int ?_))
    refine ⟨a, vs.toArray, none, some ((k.toNat : Nat) : Int), rfl, il, by rw [List.size_toArray, r.length]; exact hz, .none, by rw [Int.toNat_of_nonneg h0]; exact .int _ _, ?_⟩
    rw [slicePick_upto']
    refine (newL (k := 0) ok S1 (fun _ _ e => Heap.get?_push_of_some _ (Heap.get?_push_of_some _ e)) (Nat.le_succ _) ?_ (r.take k.toNat) (by rw [List.length_take]; exact Nat.le_trans (Nat.min_le_right _ _) hz) hp).pre k1
    exact (congrArg _ (Heap.size_push ..).symm).trans (Heap.get?_push_size _ rfl)) ht
theorem new_dict {K : Type} [DecidableEq K] (knd : KeyKind cx.prog cx.w K) : Obj.IsDictOf knd { cls := .type "dict", data := .dict #[] } [] := by
  obtain ⟨o, ho, hd⟩ := Heap.dictOf_iff.mp (Heap.DictOf.new (knd := knd) cx.hb)
  rw [Heap.get?_push_size _ rfl] at ho
  exact (Option.some.inj ho) ▸ hd
theorem TE_dict0 (h : P (.ref σ.length) (σ ++ [.di []])) : TE cx n sc loc σ (.Dict [] [] pos) P := fun f env ρ s ok eo S =>
  wpAny_Dict_empty (newAt (t := s.toks) ok S h ⟨[], new_dict _, .nil, fun _ => new_dict _⟩)
end
end
end Mine
open PySem PySem.W PyProof.Rows PySem.Calls
set_option Elab.async false
namespace Mine
theorem lk_put {α β : Type} [DecidableEq α] {l : List (α × β)} {k x : α} {v : β} : lk (put l k v) x = if k = x then some v else lk l x := by
  induction l with
  | nil => rfl
  | cons a l ih =>
    obtain ⟨k1, v1⟩ := a
    unfold put
    split
    · rename_i h; subst h; simp only [lk]; split <;> rfl
    · rename_i h
      simp only [lk, ih]
      by_cases h1 : k1 = x
      · rw [if_pos h1, if_pos h1, if_neg (fun q => h (h1.trans q.symm))]
      · rw [if_neg h1, if_neg h1]
theorem lk_mem {α β : Type} [DecidableEq α] {l : List (α × β)} {x : α} {v : β} (h : lk l x = some v) : x ∈ l.map (·.1) := by
  induction l with
  | nil => cases h
  | cons a l ih =>
    obtain ⟨k1, v1⟩ := a
    simp only [lk] at h
    split at h
    · rename_i q; subst q; exact .head _
    · exact .tail _ (ih h)
section
variable {cx : Cx} {n : Nat} {sc : Scope} {loc : Loc} {σ : List O} {P : V → List O → Prop} {pos : Pos}
  {f : Frm} {env : Env} {ρ ρ' : List Addr} {s s' s₀ : Shared} {M : Model} {A : Around} {E : Value → Shared → Prop} {i d : Nat} {l : List (Str × V)} {v : V}

/-- an instance with its own names -/
structure InI (σ : List O) (i d : Nat) (l : List (Str × V)) : Prop where
  obj : σ[i]? = some (.inst d)
  dict : σ[d]? = some (.ns l)
theorem InI.ne (e : InI σ i d l) : d ≠ i := fun q => by have := e.dict; rw [q, e.obj] at this; cases this
theorem St.inst {x : Value} (S : St cx f env ρ σ loc s) (e : InI σ i d l) (r : VR cx.hb s.heap ρ (.ref i) x) : ∃ a dx mA ob, x = .ref a ∧ ρ[i]? = some a ∧ ρ[d]? = some dx ∧ s.heap.get? a = some ob ∧ ob.cls = .ref cx.C ∧ ob.dict = some dx ∧ s.heap.Inst a cx.C mA ∧
    ∀ k, (∀ v, lk l k = some v → ∃ x, mA k = some x ∧ VR cx.hb s.heap ρ v x) ∧ (lk l k = none → mA k = none) := by
  obtain ⟨a, rfl, ha⟩ := r.refE
  obtain ⟨ob, q, dx, hd, h1, h2, h3⟩ := S.rep i _ a e.obj ha
  obtain ⟨od, q', es, ep, e1, e2, e3, r⟩ := S.rep d _ dx e.dict hd
  exact ⟨a, dx, _, ob, rfl, ha, hd, q, h1, h2, ⟨ob, q, h1, h3, .inr ⟨dx, h2, fun z => e.ne (S.same hd (z ▸ ha)), od, es, ep, q', e1, e2, e3, fun _ => rfl⟩⟩, r⟩
theorem VR.handed {hb h : Heap} {x : Value} (r : VR hb h ρ v x) : handedOut x = pure x := by cases r <;> rfl
/-- no name of «object» -/
abbrev NotObj (name : Str) : Prop := typeLookup (.type "object") name = pure none
theorem quiet_at {cx : Cx} {N : Addr} {mN : Str → Option Value} {h : Heap} {name : Str} (p : PlainAtD h cx.cls cx.C N mN) (hs : cx.cls.statics.contains name = true) : mN "__setattr__" = none ∧ mN "__getattribute__" = none ∧ mN name = none :=
  ⟨p.quiet _ (List.mem_append_left _ (.head _)), p.quiet _ (List.mem_append_left _ (.tail _ (.head _))), p.quiet _ (List.mem_append_right _ (List.contains_iff_mem.mp hs))⟩

theorem TO_getAttr {name : Str} (e : InI σ i d l) (hs : cx.cls.statics.contains name = true) (hB : NotObj name) (hv : lk l name = some v) (h : P v σ) : TO cx n sc loc σ (op1 fun x => getAttr x name true) [.ref i] P := TO1 fun f env ρ s x ok eo S r => by
  obtain ⟨a, dx, mA, ob, rfl, ha, hd, q, q1, q2, I, kk⟩ := S.inst e r
  obtain ⟨N, mN, p⟩ := ok.cls
  obtain ⟨m, F⟩ := S.fr
  obtain ⟨u, e1, e2⟩ := (kk name).1 v hv
  obtain ⟨nm, q, bs, sn, sub, col, dd, k0, k1, k2, k3, k5, hC⟩ := (p.cls.keeps F.keep).obj
  obtain ⟨_, w2, w3⟩ := quiet_at p hs
  exact load_attr hC (p.cls.keeps F.keep).ns w2 w3 hB I e1 e2.handed (stay S h e2)
theorem TE_attr {name x : Str} {px : Pos} (h : TE cx n sc loc σ (.Name x px) fun vo σ₁ => TO cx n sc loc σ₁ (op1 fun x => getAttr x name true) [vo] P) : TE cx n sc loc σ (.Attribute (.Name x px) name pos) P := fun f env ρ s ok eo S =>
  Attribute_name (goE (h f env ρ s ok eo S) fun _ _ _ _ _ h1 k1 S1 r1 => preE k1 (h1 f env _ _ [_] ok eo S1 (.cons r1 .nil)))
theorem TU_setAttr {name : Str} {P : List O → Prop} (e : InI σ i d l) (hs : cx.cls.statics.contains name = true) (hB : NotObj name) (h : P (σ.set d (.ns (put l name v)))) (hz : l.length ≤ sizeLine) : TU cx n sc loc σ (fun xs => setAttr (xs[0]?.getD .none) name (xs[1]?.getD .none)) [.ref i, v] P := fun f env ρ s xs ok eo S r => by
  obtain ⟨x, y, rfl, rx, ry⟩ := VRs.two r
  obtain ⟨a, dx, mA, ob, rfl, ha, hd, q, q1, q2, I, kk⟩ := S.inst e rx
  obtain ⟨N, mN, p⟩ := ok.cls
  obtain ⟨m, F⟩ := S.fr
  obtain ⟨nm, q', bs, sn, sub, col, dd, k0, k1, k2, k3, k5, hC⟩ := (p.cls.keeps F.keep).obj
  obtain ⟨w1, _, w3⟩ := quiet_at p hs
  have mem : ∀ {j b}, ρ[j]? = some b → b ∈ ρ := fun h => List.mem_iff_getElem?.mpr ⟨_, h⟩
  refine store_attr (ns := l.map (·.1)) PySem.F.store_object hC (p.cls.keeps F.keep).ns w1 w3 hB (fun z => ?_) I (fun h' tk I' hk hsame => ?_) (fun y hy => ?_) (by rw [List.length_map]; exact hz)
  · have := S.out a (mem ha)
    obtain ⟨_, _, _, _, _, _, _, _, _, _, _, _, hC0⟩ := p.cls.obj
    rw [z, hC0] at this; cases this
  · have kp : ∀ b o, b ∉ ρ → s.heap.get? b = some o → h'.get? b = some o := fun b o n e => hk b o (fun z => n (z ▸ mem ha)) (fun o₀ d' e₀ ed => by
      rw [q] at e₀; obtain rfl := Option.some.inj e₀
      rw [q2] at ed; obtain rfl := Option.some.inj ed
      exact fun z => n (z ▸ mem hd)) e
    have im : Imm s.heap h' := fun b o e i => kp b o (S.offρ e (.inl i)) e
    have ke : KE f ρ ρ s.heap h' := ⟨pre_refl _, fun _ a n => (n a).elim, fun b o n e => kp b o n e⟩
    obtain ⟨o₁, g1, g2, g3, g4, g5⟩ := hsame ob q
    refine ⟨_, ρ, h, ke, S.upds (by rw [List.length_set]) kp (fun j o b e1 e2 => ?_) fun j o e1 h => ?_⟩
    rotate_left
    · by_cases hj : j = d
      · subst hj
        rw [List.getElem?_set_self (List.getElem?_eq_some_iff.mp e.dict).1] at e1
        cases e1; cases h
      · rw [List.getElem?_set_ne (Ne.symm hj)] at e1; exact ⟨o, e1, h⟩
    by_cases hj : j = d
    · subst hj
      rw [hd] at e2; obtain rfl := Option.some.inj e2
      have hl : j < σ.length := (List.getElem?_eq_some_iff.mp e.dict).1
      rw [List.getElem?_set_self hl] at e1
      obtain rfl := Option.some.inj e1
      obtain ⟨o', e', _, _, w⟩ := I'
      rcases w with ⟨w, _⟩ | ⟨d', w1, _, od, es, ep, t1, t2, t3, t4, t5⟩
      · rw [g1] at e'; obtain rfl := Option.some.inj e'; rw [g5 _ q2] at w; cases w
      · rw [g1] at e'; obtain rfl := Option.some.inj e'
        rw [g5 _ q2] at w1; obtain rfl := Option.some.inj w1
        refine ⟨od, t1, es, ep, t2, t3, t4, fun k => ?_⟩
        have e5 : nsFind es k = if k = name then some y else mA k := t5 k
        rw [lk_put, e5]
        by_cases hkk : name = k
        · subst hkk
          rw [if_pos rfl, if_pos rfl]
          exact ⟨fun v' e => ⟨y, rfl, by cases e; exact ry.mono im (pre_refl _)⟩, fun e => by cases e⟩
        · rw [if_neg hkk, if_neg (fun q => hkk q.symm)]
          exact ⟨fun v' e => by obtain ⟨x, a1, a2⟩ := (kk k).1 v' e; exact ⟨x, a1, a2.mono im (pre_refl _)⟩, (kk k).2⟩
    · rw [List.getElem?_set_ne (Ne.symm hj)] at e1
      by_cases hi : j = i
      · subst hi
        rw [ha] at e2; obtain rfl := Option.some.inj e2
        rw [e.obj] at e1; obtain rfl := Option.some.inj e1
        exact ⟨o₁, g1, dx, hd, g2.trans q1, g5 _ q2, by
          obtain ⟨o', e', _, w, _⟩ := I'
          rw [g1] at e'; obtain rfl := Option.some.inj e'; exact w⟩
      · obtain ⟨ob', z1, z2⟩ := S.rep j o b e1 e2
        refine ⟨ob', hk b ob' (fun z => hi (S.same e2 (z ▸ ha))) (fun o₀ d' e₀ ed z => ?_) z1, z2.mono im (pre_refl _)⟩
        rw [q] at e₀; obtain rfl := Option.some.inj e₀
        rw [q2] at ed; obtain rfl := Option.some.inj ed
        exact hj (S.same e2 (z ▸ hd))
  · cases hq : lk l y with
    | none => exact absurd ((kk y).2 hq) hy
    | some v' => exact lk_mem hq
end
end Mine
open PySem PySem.W PyProof.Rows PySem.Calls
set_option Elab.async false
namespace Mine
theorem pairwise_inj {cs : List (Str × Addr)} (h : cs.Pairwise fun x y => x.2 ≠ y.2) {x y : Str} {c : Addr} (hx : (x, c) ∈ cs) (hy : (y, c) ∈ cs) : x = y := by
  induction h with
  | nil => cases hx
  | cons a _ ih =>
    cases hx with
    | head => cases hy with
      | head => rfl
      | tail _ q => exact absurd rfl (a (y, c) q)
    | tail _ p => cases hy with
      | head => exact absurd rfl (a (x, c) p)
      | tail _ q => exact ih p q
theorem bindL_out {k : Str → Option NameKind} {x : Str} : ∀ {l : List (Str × Value)} {m : Str → Option Value}, x ∉ l.map (·.1) → bindL k l m x = m x
  | [], _, _ => rfl
  | (y, v) :: l, m, h => by
    simp only [List.map_cons, List.mem_cons, not_or] at h
    rw [bindL, bindL_out h.2]
    split
    · exact if_neg h.1
    · rfl
theorem bindC_out {k : Str → Option NameKind} {x : Str} : ∀ {l : List (Str × Value)} {m : Str → Option Value}, x ∉ l.map (·.1) → bindC k l m x = m x
  | [], _, _ => rfl
  | (y, v) :: l, m, h => by
    simp only [List.map_cons, List.mem_cons, not_or] at h
    rw [bindC, bindC_out h.2]
    split
    · rfl
    · exact if_neg h.1
theorem bindL_at {k : Str → Option NameKind} {x : Str} {v : Value} (hk : k x = some .local) : ∀ {l : List (Str × Value)} {m : Str → Option Value}, (l.map (·.1)).Nodup → (x, v) ∈ l → bindL k l m x = some v
  | (y, u) :: l, m, nd, h => by
    rw [List.map_cons, List.nodup_cons] at nd
    cases h with
    | head => rw [bindL, bindL_out nd.1, if_pos hk]; exact if_pos rfl
    | tail _ h => rw [bindL]; exact bindL_at hk nd.2 h
theorem bindC_at {k : Str → Option NameKind} {x : Str} {v : Value} (hk : k x ≠ some .local) : ∀ {l : List (Str × Value)} {m : Str → Option Value}, (l.map (·.1)).Nodup → (x, v) ∈ l → bindC k l m x = some v
  | (y, u) :: l, m, nd, h => by
    rw [List.map_cons, List.nodup_cons] at nd
    cases h with
    | head => rw [bindC, bindC_out nd.1, if_neg hk]; exact if_pos rfl
    | tail _ h => rw [bindC]; exact bindC_at hk nd.2 h
theorem noneAt {h : Heap} {a : Addr} (q : h.objs.size ≤ a) : h.get? a = none := by
  cases e : h.get? a with
  | none => rfl
  | some o => exact absurd (Heap.lt_size e) (Nat.not_lt.mpr q)
section
variable {cx : Cx} {n : Nat} {sc : Scope} {loc : Loc} {σ : List O} {P : V → List O → Prop} {pos : Pos}
  {f : Frm} {env : Env} {ρ ρ' : List Addr} {s s' s₀ : Shared} {M : Model} {A : Around} {E : Value → Shared → Prop}

theorem KVs.mem {α : Type} [DecidableEq α] {hb h : Heap} {l : List (α × V)} {kvs : List (α × Value)} (r : KVs hb h ρ l kvs) {x : α} {v : V} (e : lk l x = some v) : ∃ u, (x, u) ∈ kvs ∧ VR hb h ρ v u := by
  induction r with
  | nil => cases e
  | @cons a b _ _ q _ ih =>
    obtain ⟨k1, v1⟩ := a
    obtain ⟨k2, v2⟩ := b
    obtain ⟨q1, q2⟩ := q
    dsimp only at q1 q2
    subst q1
    simp only [lk] at e
    split at e
    · rename_i z; subst z; cases e; exact ⟨_, .head _, q2⟩
    · obtain ⟨u, a, b⟩ := ih e; exact ⟨u, .tail _ a, b⟩
theorem KVs.keys {α : Type} {hb h : Heap} {l : List (α × V)} {kvs : List (α × Value)} (r : KVs hb h ρ l kvs) : kvs.map (·.1) = l.map (·.1) := by
  induction r with
  | nil => rfl
  | cons a _ ih => rw [List.map_cons, List.map_cons, ih, a.1]

/-- back from another frame -/
theorem St.back {f' : Frm} {env' : Env} {ρ2 : List Addr} {σ2 : List O} {loc' : Loc} {s2 : Shared} (S : St cx f env ρ σ loc s) (S2 : St cx f' env' ρ2 σ2 loc' s2) (pre : ρ <+: ρ2)
    (off : ∀ a ∈ ρ2, a ∉ ρ → s.heap.get? a = none) (kp : ∀ a o, a ∉ ρ → s.heap.get? a = some o → s2.heap.get? a = some o) : KE f ρ ρ2 s.heap s2.heap ∧ St cx f env ρ2 σ2 loc s2 := by
  obtain ⟨m, F⟩ := S.fr
  obtain ⟨m', N⟩ := S.lns
  have nin : ∀ {a o}, s.heap.get? a = some o → a ∉ ρ → a ∉ ρ2 := fun e n q => by have := off _ q n; rw [this] at e; cases e
  have nL : ∀ m, s.heap.Ns f.L m → s2.heap.Ns f.L m := fun _ ⟨o, es, ep, e, r⟩ => ⟨o, es, ep, kp _ _ S.notL e, r⟩
  have nE : ∀ m, s.heap.Ns env.locals m → s2.heap.Ns env.locals m := fun _ ⟨o, es, ep, e, r⟩ => ⟨o, es, ep, kp _ _ S.notE e, r⟩
  have im : Imm s.heap s2.heap := fun a o e i => kp a o (S.offρ e (.inl i)) e
  have cc : ∀ x c u, env.cells.lookup x = some c → s.heap.IsCell c u → s2.heap.IsCell c u := fun x c u l ⟨o, e, d⟩ => ⟨o, kp _ _ (S.cnot x c l) e, d⟩
  have F' : Fr f.h₀ f.L s2.heap m := ⟨nL _ F.ns, fun b o e => kp b o (fun q => by rw [S.out b q] at e; cases e) (F.keep b o e), F.above⟩
  refine ⟨⟨pre, fun a q n => ⟨fun z => ?_, off a q n⟩, fun a o n e => kp a o n e⟩, ?_⟩
  · have := off a q n
    obtain ⟨o, _, _, e, _⟩ := F.ns
    rw [z, e] at this; cases this
  · exact
    { fr := ⟨m, F'⟩
      lns := ⟨m', nE _ N⟩
      big := S2.big
      len := S2.len
      nodup := S2.nodup
      out := fun a q => by
        by_cases n : a ∈ ρ
        · exact S.out a n
        · cases e : f.h₀.get? a with
          | none => rfl
          | some o => have := off a q n; rw [F.keep _ _ e] at this; cases this
      rep := S2.rep
      notL := by obtain ⟨o, _, _, e, _⟩ := F.ns; exact nin e S.notL
      notE := by obtain ⟨o, _, _, e, _⟩ := N; exact nin e S.notE
      vars := fun x v e => by obtain ⟨val, a, b⟩ := S.vars x v e; exact ⟨val, a.keep nE fun c u q => cc x c u q, b.mono im pre⟩
      cells := fun x c e => by obtain ⟨⟨u, a⟩, b⟩ := S.cells x c e; exact ⟨⟨u, cc x c u e a⟩, b⟩
      ckind := S.ckind
      cnot := fun x c e => by obtain ⟨⟨u, o, a, _⟩, _⟩ := S.cells x c e; exact nin a (S.cnot x c e)
      cinj := S.cinj
      lout := S.lout
      gens := S2.gens
      os := S2.os }

/-- what a function's body gives back -/
def RetP (P : V → List O → Prop) (fl : Fl) (_ : Loc) (σ : List O) : Prop :=
  match fl with
  | .ret v => P v σ
  | .next => P .none σ
  | _ => False
/-- a function's scope: no generator, its parameters plain or cells -/
def scOk (sc : Scope) (xs : List Str) : Bool :=
  sc.kind == .function && !sc.isCoroutine && !sc.isGenerator && xs.all (fun x => sc.names.lookup x == some .local || sc.names.lookup x == some .cell) && decide ((cellsFrom 0 sc.names []).map (·.1)).Nodup && decide xs.Nodup
def newsOf (h : Heap) (ρ : List Addr) : List (Addr × Obj) := ρ.filterMap fun a => (h.get? a).map fun o => (a, o)
theorem newsOf_mem {h : Heap} {p : Addr × Obj} (m : p ∈ newsOf h ρ) : p.1 ∈ ρ ∧ h.get? p.1 = some p.2 := by
  obtain ⟨a, ha, e⟩ := List.mem_filterMap.mp m
  cases q : h.get? a with
  | none => rw [q] at e; cases e
  | some o => rw [q] at e; cases e; exact ⟨ha, q⟩

theorem call_core {fA : Addr} {fo : Obj} {fd : FuncData} {body : List Stmt} {xs : List Value} {binds : List (Str × Value)} {vals : Loc} (ok : FrOk cx f (n + 1)) (S : St cx f env ρ σ loc s)
    (ho : f.h₀.get? fA = some fo) (hd : fo.data = .func fd) (hbody : fd.body = .stmts body) (hcl : fd.closure = []) (hgl : fd.globals = mainGlobals) (hbu : fd.builtins = builtinsNs) (hcd : f.h₀.CodeRec fd.code fd.qualname)
    (hb : BindsTo s fd ⟨xs, []⟩ binds) (rel : KVs cx.hb s.heap ρ vals binds) (hs : scOk fd.scope (vals.map (·.1)) = true) (h : TSs cx n fd.scope vals σ body (RetP P)) :
    wpAny (model cx.prog cx.w) f.A (callF (.ref fA) xs) (PostE cx f env loc ρ s P) NoE s := by
  obtain ⟨A₀, B⟩ := ok.below
  obtain ⟨m, F⟩ := S.fr
  simp only [scOk, Bool.and_eq_true, Bool.not_eq_true', beq_iff_eq, decide_eq_true_eq, List.all_eq_true, Bool.or_eq_true] at hs
  obtain ⟨⟨⟨⟨⟨hk, hco⟩, hgen⟩, hnm⟩, hnd⟩, hvn⟩ := hs
  have mn : ∀ a, a ∈ (newsOf s.heap ρ).map (·.1) ↔ a ∈ ρ := fun a => by
    constructor
    · intro q; obtain ⟨p, hp, rfl⟩ := List.mem_map.mp q; exact (newsOf_mem hp).1
    · intro q
      obtain ⟨_, ob, e, _⟩ := S.notIn q
      exact List.mem_map.mpr ⟨(a, ob), List.mem_filterMap.mpr ⟨a, q, by rw [e]; rfl⟩, rfl⟩
  have N : News f.h₀ f.L s.heap (newsOf s.heap ρ) := fun p hp => by
    obtain ⟨a, b⟩ := newsOf_mem hp
    exact ⟨b, fun q => S.notL (q ▸ a), S.out _ a⟩
  obtain ⟨FG, BG, st, -⟩ := groundX (R := fun _ _ => True) B F N ok.frames ok.fframe ok.fkind
  refine wpAny_call (codeAny_call_function (by have := ok.depth; omega) (F.keep _ _ ho) hd hco hgen hbody (hcd.keeps F.keep) (hb _ _ _ _ ?_))
  rw [hcl, hgl, hbu]
  refine wpAny_newFunctionEnv_cells hk (fun x hx => ?_) fun env' he s' X => ?_
  · have hx' : x.1 ∈ vals.map (·.1) := by rw [← KVs.keys rel]; exact List.mem_map_of_mem hx
    rcases hnm _ hx' with q | q
    · exact .inl q
    · exact .inr ⟨q, cellsFrom_some _ _ _ (.inl q)⟩
  refine ⟨(ok.top.nolimit.keeps F.keep).keeps X.toInCall.keep, codeAny_func ?_⟩
  obtain ⟨h₁, tk, rfl, _⟩ := X.done
  have k1 : ∀ b o, s.heap.get? b = some o → h₁.get? b = some o := X.toInCall.keep
  have hsz : (hideAll s.heap ((newsOf s.heap ρ).map (·.1))).objs.size = s.heap.objs.size := hideAll_size _ _
  have eL : env'.locals = s.heap.objs.size := by rw [he]; rfl
  have hno : s.heap.get? s.heap.objs.size = none := noneAt (Nat.le_refl _)
  have nr : ∀ a, s.heap.objs.size ≤ a → a ∉ ρ := fun a q w => by obtain ⟨_, ob, e, _⟩ := S.notIn w; rw [noneAt q] at e; cases e
  have up : ∀ x c, env'.cells.lookup x = some c → s.heap.objs.size ≤ c := fun x c q => by have := X.above x c (mem_of_lookup_some q); rw [eL] at this; exact Nat.le_of_lt this
  have im : Imm s.heap h₁ := fun a o e _ => k1 a o e
  let f' : Frm := { A := f.A.deeper env', h₀ := hideAll s.heap ((newsOf s.heap ρ).map (·.1)), L := s.heap.objs.size, fenv := env', outer := f.fenv :: f.outer }
  have fo' : FrOk cx f' n :=
  { below := ⟨_, BG⟩
    top := ok.top.keeps st
    cls := by obtain ⟨N, mN, p⟩ := ok.cls; exact ⟨N, mN, p.keeps st⟩
    frames := Around.frames_deeper ok.frames
    fframe := by show env'.frame = _; rw [he]; rfl
    fkind := by show env'.scope.kind = _; rw [he]; exact hk
    handled := ok.handled
    depth := by have := ok.depth; show f.A.depth + 1 + 4 * n + 4 < _; omega
    units := by have := ok.units; show f.A.units + 3 + 40 * n + 400 < _; omega }
  have eo' : EnvOk env' fd.scope := ⟨by rw [he]; rfl, hk, by rw [he]; rfl, by rw [he]; rfl⟩
  have S1 : St cx f' env' ρ σ vals { s with heap := h₁, toks := tk } :=
  { fr := ⟨_, ⟨eL ▸ X.toInCall.ns, fun b o e => k1 b o (of_hideAll _ e), Nat.le_of_eq hsz⟩⟩
    lns := ⟨_, X.toInCall.ns⟩
    big := S.big
    len := S.len
    nodup := S.nodup
    out := fun a q => hideAll_none _ ((mn a).mpr q)
    rep := fun i o a e1 e2 => by obtain ⟨ob, a, b⟩ := S.rep i o a e1 e2; exact ⟨ob, k1 _ _ a, b.mono im (pre_refl _)⟩
    notL := nr _ (Nat.le_refl _)
    notE := by rw [eL]; exact nr _ (Nat.le_refl _)
    vars := fun x v e => by
      obtain ⟨u, hm, r⟩ := KVs.mem rel e
      refine ⟨u, ?_, r.mono im (pre_refl _)⟩
      have nd : (binds.map (·.1)).Nodup := by rw [KVs.keys rel]; exact hvn
      have kn : env'.kindOf x = fd.scope.names.lookup x := by rw [he]; rfl
      unfold VarAt
      rcases hnm x (lk_mem e) with q | q
      · rw [kn, q]; exact ⟨_, X.toInCall.ns, bindL_at (kn.trans q) nd hm⟩
      · rw [kn, q]
        have ce : env'.cells = cellsFrom (s.heap.objs.size + 1) fd.scope.names [] := by rw [he]; rfl
        obtain ⟨c, hc⟩ := Option.isSome_iff_exists.mp (cellsFrom_some fd.scope.names (s.heap.objs.size + 1) [] (.inl q))
        refine ⟨c, by rw [ce]; exact hc, ?_⟩
        have := X.cell x c (by rw [ce]; exact hc)
        rw [bindC_at (by rw [kn, q]; simp) nd hm] at this
        exact this
    cells := fun x c e => ⟨⟨_, X.cell x c e⟩, noneAt (by show (hideAll s.heap _).objs.size ≤ c; rw [hsz]; exact up x c e)⟩
    ckind := fun x q => by
      have kn : env'.kindOf x = fd.scope.names.lookup x := by rw [he]; rfl
      have ce : env'.cells = cellsFrom (s.heap.objs.size + 1) fd.scope.names [] := by rw [he]; rfl
      rw [ce]
      exact Option.isSome_iff_exists.mp (cellsFrom_some fd.scope.names (s.heap.objs.size + 1) [] (.inl (kn ▸ q)))
    cnot := fun x c e => nr c (up x c e)
    cinj := fun x y c e1 e2 => pairwise_inj X.apart (mem_of_lookup_some e1) (mem_of_lookup_some e2)
    lout := by rw [eL]; exact noneAt (Nat.le_of_eq hsz)
    gens := S.gens
    os := S.os }
  refine wpAny_mono (h f' env' ρ _ fo' eo' S1) (fun x s2 q => ?_) fun _ _ e => e.elim
  obtain ⟨fl, loc2, σ2, ρ2, hp, ks, S2, fr⟩ := q
  obtain ⟨ke, S3⟩ := S.back S2 ks.pre (fun a q n => by
    have := (ks.off a q n).2.2.2
    cases e : s.heap.get? a with
    | none => rfl
    | some o => rw [k1 _ _ e] at this; cases this) (fun a o n e => ks.all a o n (fun q => by rw [q, eL, hno] at e; cases e)
      (fun x q => by rw [noneAt (up x a q)] at e; cases e) (k1 a o e))
  cases fl <;> cases x <;> first | exact fr.elim | exact hp.elim | skip
  · exact ⟨_, _, _, hp, ke, S3, .none⟩
  · exact ⟨_, _, _, hp, ke, S3, fr⟩
end
end Mine
open PySem PySem.W PyProof.Rows PySem.Calls
set_option Elab.async false
namespace Mine
section
variable {cx : Cx} {n : Nat} {sc : Scope} {loc : Loc} {σ : List O} {P : V → List O → Prop} {pos : Pos}
  {f : Frm} {env : Env} {ρ ρ' : List Addr} {s s' s₀ : Shared} {M : Model} {A : Around} {E : Value → Shared → Prop}

theorem TSs.mono {r : List Stmt} {P Q : Fl → Loc → List O → Prop} (h : TSs cx n sc loc σ r P) (k : ∀ fl l s, P fl l s → Q fl l s) : TSs cx n sc loc σ r Q := fun f env ρ s ok eo S =>
  goS (h f env ρ s ok eo S) fun _ _ _ _ _ _ h k' S r => ⟨_, _, _, _, k _ _ _ h, k', S, r⟩
theorem RetP.mono {P Q : V → List O → Prop} (k : ∀ v s, P v s → Q v s) (fl : Fl) (l : Loc) (s : List O) (h : RetP P fl l s) : RetP Q fl l s := by
  cases fl <;> first | exact k _ _ h | exact h
theorem zipV {hb h : Heap} : ∀ {names : List Str} {vs : List V} {xs : List Value}, VRs hb h ρ vs xs → KVs hb h ρ (names.zip vs) (names.zip xs)
  | [], _, _, _ => .nil
  | _ :: _, _, _, .nil => .nil
  | _ :: _, _, _, .cons a r => .cons ⟨rfl, a⟩ (zipV r)
theorem zipN {α : Type} : ∀ {names : List Str} {vs : List α}, vs.length = names.length → (names.zip vs).map (·.1) = names
  | [], _, _ => rfl
  | _ :: _, [], h => nomatch h
  | _ :: _, _ :: _, h => by rw [List.zip_cons_cons, List.map_cons, zipN (Nat.succ.inj h)]

/-- a def of the module, with its parameters' names -/
structure BindOk (d : DefRec) (names : List Str) : Prop where
  bind : ∀ pm code doc xs, xs.length = names.length → bindArgs (docDef d.name d.params d.body d.scope pm code doc) ⟨xs, []⟩ = pure (names.zip xs)
  ok : scOk d.scope names = true
/-- a call of a def: its body, with the arguments bound -/
def TF (cx : Cx) (n : Nat) (d : DefRec) (vs : List V) (σ : List O) (P : V → List O → Prop) : Prop :=
  ∃ names, BindOk d names ∧ vs.length = names.length ∧ TSs cx n d.scope (names.zip vs) σ d.body (RetP P)
theorem TF.mono {d : DefRec} {vs : List V} {Q : V → List O → Prop} (h : TF cx n d vs σ P) (k : ∀ v s, P v s → Q v s) : TF cx n d vs σ Q := by
  obtain ⟨names, a, b, c⟩ := h; exact ⟨names, a, b, c.mono (RetP.mono k)⟩
theorem TE_callD {x : Str} {p : Pos} {args : List Expr} {d : DefRec} (hd : d ∈ recsOf cx.p ∧ d.name = x) (h : TEs cx (n + 1) sc loc σ args fun vs σ₁ => TF cx n d vs σ₁ P)
    (hk : sc.names.lookup x = some .globalImplicit := by rfl) (hx : nameOk x = true := by rfl) (ha : Args1 pos args := by intro; exact ⟨_, _, rfl, rfl⟩) : TE cx (n + 1) sc loc σ (.Call (.Name x p) args [] pos) P := fun f env ρ s ok eo S => by
  obtain ⟨hd, rfl⟩ := hd
  obtain ⟨a, o, pm, code, doc, h1, h2, h3, h4⟩ := ok.top.fn d hd
  refine wpAny_Call_NameR (load_gl ok eo S h1 hk hx (Calls.callWith_function (o := o) (fd := docDef d.name d.params d.body d.scope pm code doc) (evalArgs1 ha (goL (h pos f env ρ s ok eo S) fun xs s₁ vs σ₁ ρ₁ q k1 S1 r1 => ?_))))
  obtain ⟨m, F⟩ := S1.fr
  obtain ⟨names, b1, b2, b3⟩ := q
  have hl : xs.length = names.length := r1.length.trans b2
  exact ⟨⟨F.keep _ _ h2, h3⟩, preE k1 (call_core ok S1 h2 h3 rfl rfl rfl rfl h4 (.of_eq (b1.bind pm code doc xs hl)) (zipV r1) (by rw [zipN b2]; exact b1.ok) b3)⟩

/-- a method, with its parameters' names -/
structure MBindOk (m : MethRec) (names : List Str) : Prop where
  bind : ∀ qual pm code doc dV s xs, DefaultsOk 0 s.heap m.params dV → xs.length = names.length → BindsTo s (methDefD m.name qual m.params m.body m.scope pm code doc dV) ⟨xs, []⟩ (names.zip xs)
  ok : scOk m.scope names = true
def TM (cx : Cx) (n : Nat) (m : MethRec) (vs : List V) (σ : List O) (P : V → List O → Prop) : Prop :=
  ∃ names, MBindOk m names ∧ vs.length = names.length ∧ TSs cx n m.scope (names.zip vs) σ m.body (RetP P)
theorem TM.mono {m : MethRec} {vs : List V} {Q : V → List O → Prop} (h : TM cx n m vs σ P) (k : ∀ v s, P v s → Q v s) : TM cx n m vs σ Q := by
  obtain ⟨names, a, b, c⟩ := h; exact ⟨names, a, b, c.mono (RetP.mono k)⟩
theorem TM.call {m : MethRec} {vs : List V} {xs : List Value} {fA : Addr} {o : Obj} {pm cdv doc dV : Value} (q : TM cx n m vs σ P) (ok : FrOk cx f (n + 1)) (S : St cx f env ρ σ loc s) (X : MethAtD f.h₀ cx.cls m fA o pm cdv doc dV) (r : VRs cx.hb s.heap ρ vs xs) :
    wpAny (model cx.prog cx.w) f.A (callF (.ref fA) xs) (PostE cx f env loc ρ s P) NoE s := by
  obtain ⟨mm, F⟩ := S.fr
  obtain ⟨names, b1, b2, b3⟩ := q
  exact call_core ok S X.obj X.dat rfl rfl rfl rfl X.code (b1.bind _ pm cdv doc dV s xs (X.dflt.above fun b o _ e => F.keep b o e) (r.length.trans b2)) (zipV r) (by rw [zipN b2]; exact b1.ok) b3
/-- the base of a method call: an instance of the class -/
structure InM (cx : Cx) (σ : List O) (name : Str) (m : MethRec) (v : V) : Prop where
  inst : ∃ i d l, v = .ref i ∧ InI σ i d l ∧ lk l name = none
  meth : cx.cls.meths.find? (fun r => r.name == name) = some m
  obj : NotObj name
theorem getMeth {name : Str} {m : MethRec} {v : V} {x : Value} {pl : Sem Bool} {Q : Value × List Value → Shared → Prop} (e : InM cx σ name m v) (ok : FrOk cx f (n + 1)) (S : St cx f env ρ σ loc s) (r : VR cx.hb s.heap ρ v x)
    (h : ∀ fA o pm cdv doc dV, MethAtD f.h₀ cx.cls m fA o pm cdv doc dV → Q (.ref fA, [x]) s) : wpAny (model cx.prog cx.w) A (getMethod x name pl) Q E s := by
  obtain ⟨i, d, l, rfl, e1, e2⟩ := e.inst
  obtain ⟨a, dx, mA, ob, rfl, ha, hd, q, q1, q2, I, kk⟩ := S.inst e1 r
  obtain ⟨N, mN, p⟩ := ok.cls
  obtain ⟨mm, F⟩ := S.fr
  exact getMethod_TD F I p e.meth ((kk name).2 e2) e.obj h
theorem TE_callMe {o : Expr} {name : Str} {p : Pos} {args : List Expr} {m : MethRec} (h : TE cx (n + 1) sc loc σ o fun vo σ₁ => InM cx σ₁ name m vo ∧ TEs cx (n + 1) sc loc σ₁ args fun vs σ₂ => TM cx n m (vo :: vs) σ₂ P)
    (ha : Args1 pos args := by intro; exact ⟨_, _, rfl, rfl⟩)
    (hm : ∀ env, ∃ pl, eval (.Call (.Attribute o name p) args [] pos) env = (do
      let ov ← eval o env
      standAt p.atName
      let (f, first) ← holding [ov] (getMethod ov name pl)
      callWith pos f first (backTo pos (starEach args env)) (backToKw pos (keywordEach [] env))) := by intro; exact ⟨_, rfl⟩) : TE cx (n + 1) sc loc σ (.Call (.Attribute o name p) args [] pos) P := fun f env ρ s ok eo S => by
  obtain ⟨pl, hm⟩ := hm env
  refine methodCall_KW (he := hm) (goE (h f env ρ s ok eo S) fun x s₁ _ _ _ h1 k1 S1 r1 => getMeth h1.1 ok S1 r1 fun fA o pm cdv doc dV X => ?_)
  refine Calls.callWith_function (o := o) (fd := methDefD m.name (cx.cls.name ++ "." ++ m.name) m.params m.body m.scope pm cdv doc dV) (evalArgs1 ha (goL (h1.2 pos f env _ _ ok eo S1) fun xs s₂ vs σ₂ ρ₂ q k2 S2 r2 => ?_))
  obtain ⟨mm, F⟩ := S2.fr
  exact ⟨⟨F.keep _ _ X.obj, X.dat⟩, preE (k1.trans k2) (q.call ok S2 X (.cons (r1.mono (S1.imm k2) k2.pre) r2))⟩
theorem TE_callMe0 {o : Expr} {name : Str} {p : Pos} {m : MethRec} (h : TE cx (n + 1) sc loc σ o fun vo σ₁ => InM cx σ₁ name m vo ∧ TM cx n m [vo] σ₁ P)
    (hm : ∀ env, ∃ pl, eval (.Call (.Attribute o name p) [] [] pos) env = (do
      let ov ← eval o env
      standAt p.atName
      let (f, first) ← holding [ov] (getMethod ov name pl)
      callWith pos f first (backTo pos (starEach [] env)) (backToKw pos (keywordEach [] env))) := by intro; exact ⟨_, rfl⟩) : TE cx (n + 1) sc loc σ (.Call (.Attribute o name p) [] [] pos) P := fun f env ρ s ok eo S => by
  obtain ⟨pl, hm⟩ := hm env
  refine methodCall_KW (he := hm) (goE (h f env ρ s ok eo S) fun x s₁ _ _ _ h1 k1 S1 r1 => getMeth h1.1 ok S1 r1 fun fA o pm cdv doc dV X => ?_)
  obtain ⟨mm, F⟩ := S1.fr
  exact callWith_meth0 X.dat (F.keep _ _ X.obj) (preE k1 (h1.2.call ok S1 X (.cons r1 .nil)))

/-- another way round the same frame -/
theorem St.frm {f' : Frm} (S : St cx f env ρ σ loc s) (h : f'.h₀ = f.h₀) (hL : f'.L = f.L) : St cx f' env ρ σ loc s where
  fr := by rw [h, hL]; exact S.fr
  lns := S.lns
  big := S.big
  len := S.len
  nodup := S.nodup
  out := by rw [h]; exact S.out
  rep := S.rep
  notL := by rw [hL]; exact S.notL
  notE := S.notE
  vars := S.vars
  cells := by rw [h]; exact S.cells
  ckind := S.ckind
  cnot := S.cnot
  cinj := S.cinj
  lout := by rw [h]; exact S.lout
  gens := S.gens
  os := S.os
theorem depth_make {a : Addr} {args : List Value} : (A.under (.builtin "type.__call__" ⟨.ref a :: args, []⟩)).depth = A.depth + 1 ∧ (A.under (.builtin "type.__call__" ⟨.ref a :: args, []⟩)).units = A.units + 1 ∧ (A.under (.builtin "type.__call__" ⟨.ref a :: args, []⟩)).frames = A.frames ∧ (A.under (.builtin "type.__call__" ⟨.ref a :: args, []⟩)).handled = A.handled :=
  ⟨rfl, rfl, rfl, rfl⟩
/-- a new instance -/
theorem TE_make {x : Str} {p : Pos} {arg : Expr} {m : MethRec} (hC : cx.mg x = some (.ref cx.C)) (hm : cx.cls.meths.find? (fun r => r.name == ("__init__" : Str)) = some m)
    (h : TE cx (n + 2) sc loc σ arg fun v σ₁ => TM cx n m [.ref (σ₁.length + 1), v] (σ₁ ++ [.ns [], .inst σ₁.length]) fun r σ₂ => r = .none ∧ P (.ref (σ₁.length + 1)) σ₂)
    (hk : sc.names.lookup x = some .globalImplicit := by rfl) (hx : nameOk x = true := by rfl) (he : ∀ env, starEach [arg] env = (false, eval arg env) :: starEach [] env := by intro; rfl) : TE cx (n + 2) sc loc σ (.Call (.Name x p) [arg] [] pos) P := fun f env ρ s ok eo S => by
  obtain ⟨N, mN, pl⟩ := ok.cls
  refine wpAny_Call_NameR (load_gl ok eo S hC hk hx (callWith_cls pl.cls ?_ (he := he env)))
  refine wpAny_items_cons (goE (h f env ρ s ok eo S) fun y s₁ v σ₁ ρ₁ q k1 S1 r1 => wpAny_items_nil ?_) (he env)
  obtain ⟨mm, F⟩ := S1.fr
  refine ⟨F.keep, ?_⟩
  obtain ⟨nm, q', bs, sn, sub, col, dd, k0, k1', k2, k3, k5, hC⟩ := (pl.cls.keeps F.keep).obj
  have hn : m.name = "__init__" := beq_iff_eq.mp (List.find?_some (p := fun r : MethRec => r.name == ("__init__" : Str)) hm)
  obtain ⟨fI, oI, pm, cd, doc, dV, g1, g2, g3, g4, g5, g6⟩ := pl.meths m (List.mem_of_find?_eq_some hm)
  refine wpAny_call_obj_init PySem.F.objNew hC (pl.cls.keeps F.keep).ns (hn ▸ g1) (F.keep _ _ g2) g3 fun h' x dx Mk => ?_
  let f' : Frm := { f with A := f.A.under (.builtin "type.__call__" ⟨.ref cx.C :: [y], []⟩) }
  have ok' : FrOk cx f' (n + 1) :=
  { below := ok.below
    top := ok.top
    cls := ok.cls
    frames := ok.frames
    fframe := ok.fframe
    fkind := ok.fkind
    handled := ok.handled
    depth := by have := ok.depth; show f.A.depth + 1 + 4 * (n + 1) + 4 < _; omega
    units := by have := ok.units; show f.A.units + 1 + 40 * (n + 1) + 400 < _; omega }
  obtain ⟨ob, z1, z2, z3, z4⟩ := Mk.inst
  have z5 := Mk.dict ob z1
  obtain ⟨w0, w1⟩ : dx ≠ x ∧ h'.Ns1 dx fun _ => none := by
    rcases z4 with ⟨z4, _⟩ | ⟨d', w1, w2, w3⟩
    · rw [z4] at z5; cases z5
    · rw [w1] at z5; obtain rfl := Option.some.inj z5; exact ⟨w2, w3⟩
  have S2 : St cx f env (ρ₁ ++ [dx, x]) (σ₁ ++ [.ns [], .inst σ₁.length]) loc { s₁ with heap := h' } := by
    refine S1.adds (t := s₁.toks) Mk.keeps (fun a ha => ?_) (by simp [w0]) rfl fun i a o e1 e2 => ?_
    · rcases List.mem_cons.mp ha with rfl | ha
      · exact Mk.newD
      · rw [List.mem_singleton.mp ha]; exact Mk.newX
    · match i, e1, e2 with
      | 0, e1, e2 =>
        cases e1; cases e2
        obtain ⟨od, es, ep, t1, t2, t3, t4, t5⟩ := w1
        exact ⟨⟨od, t1, es, ep, t2, t3, t4, fun k => ⟨fun v e => (nomatch e), fun _ => t5 k⟩⟩, fun e => (nomatch e)⟩
      | 1, e1, e2 =>
        cases e1; cases e2
        refine ⟨⟨ob, z1, dx, ?_, z2, z5, z3⟩, fun e => (nomatch e)⟩
        rw [← S1.len, List.getElem?_append_right (Nat.le_refl _), Nat.sub_self]; rfl
  have kE : KE f ρ₁ (ρ₁ ++ [dx, x]) s₁.heap h' := S1.keNews Mk.keeps fun a ha => by
    rcases List.mem_cons.mp ha with rfl | ha
    · exact Mk.newD
    · rw [List.mem_singleton.mp ha]; exact Mk.newX
  have r2 : VRs cx.hb h' (ρ₁ ++ [dx, x]) [.ref (σ₁.length + 1), v] [.ref x, y] := .cons (.ref (by rw [← S1.len, List.getElem?_append_right (by omega), show ρ₁.length + 1 - ρ₁.length = 1 by omega]; rfl)) (.cons (r1.mono (fun a o e _ => Mk.keeps a o e) ⟨_, rfl⟩) .nil)
  obtain ⟨names, b1, b2, b3⟩ := q
  refine goE (call_core (f := f') ok' (S2.frm rfl rfl) g2 g4 rfl rfl rfl rfl g5 (b1.bind _ pm cd doc dV { s₁ with heap := h' } [.ref x, y] (g6.above fun b o _ e => Mk.keeps _ _ (F.keep b o e)) b2) (zipV r2) (by rw [zipN b2]; exact b1.ok) b3) fun r s₃ v₃ σ₃ ρ₃ hp k3 S3 r3 => ?_
  obtain ⟨rfl, hp⟩ := hp
  cases r3
  refine ⟨rfl, _, _, _, hp, (k1.trans kE).trans ⟨k3.pre, k3.off, k3.all⟩, S3.frm rfl rfl, .ref (pre_get k3.pre ?_)⟩
  rw [← S1.len, List.getElem?_append_right (by omega), show ρ₁.length + 1 - ρ₁.length = 1 by omega]; rfl
end
end Mine
open PySem PySem.W PyProof.Rows PySem.Calls
set_option Elab.async false
namespace Mine
/-- a comprehension's scope in its function -/
def reSc (csc sc : Scope) : Scope := { csc with names := csc.names.map fun (n, k) => if (k == .free && sc.kind == .function && sc.names.lookup n == some .cell) then (n, .cell) else (n, k) }
theorem lookup_re {sc : Scope} {x : Str} : ∀ {l : List (Str × NameKind)}, (l.map fun (n, k) => if (k == NameKind.free && sc.kind == .function && sc.names.lookup n == some .cell) then (n, NameKind.cell) else (n, k)).lookup x =
    (l.lookup x).map fun k => if (k == .free && sc.kind == .function && sc.names.lookup x == some .cell) then .cell else k
  | [] => rfl
  | (n, k) :: r => by
    rw [List.map_cons]
    show List.lookup x ((if (k == NameKind.free && sc.kind == .function && sc.names.lookup n == some .cell) = true then (n, NameKind.cell) else (n, k)) :: _) = _
    by_cases hx : x = n
    · subst hx
      split <;> rename_i h
      · simp only [List.lookup_cons, beq_self_eq_true, Option.map_some, if_pos h]
      · simp only [List.lookup_cons, beq_self_eq_true, Option.map_some, if_neg h]
    · have hx' : (x == n) = false := beq_eq_false_iff_ne.mpr hx
      split <;> (simp only [List.lookup_cons, hx']; exact lookup_re)
theorem clos_at {env : Env} : ∀ (l : List (Str × NameKind)) (acc : List (Str × Addr)), (∀ y ∈ l, y.2 = .free → ∃ c, env.cells.lookup y.1 = some c) → (∀ y c, acc.lookup y = some c → env.cells.lookup y = some c) →
    ∃ cl, (forIn l acc fun (x : Str × NameKind) r => do
        if x.2 == .free then
          let a ← cellOf env x.1
          pure (ForInStep.yield ((x.1, a) :: r))
        else pure (ForInStep.yield r) : Sem (List (Str × Addr))) = pure cl ∧ (∀ y c, cl.lookup y = some c → env.cells.lookup y = some c) ∧ ∀ y, ((y, .free) ∈ l ∨ (acc.lookup y).isSome = true) → (cl.lookup y).isSome = true
  | [], acc, _, g => ⟨acc, rfl, g, fun y h => h.elim (fun h => nomatch h) id⟩
  | (n, k) :: l, acc, h, g => by
    by_cases hk : k = .free
    · subst hk
      obtain ⟨c, hc⟩ := h _ (.head _) rfl
      have g' : ∀ y c', ((n, c) :: acc).lookup y = some c' → env.cells.lookup y = some c' := fun y c' e => by
        by_cases hy : y = n
        · subst hy; simp only [List.lookup_cons, beq_self_eq_true] at e; rw [hc]; exact e
        · simp only [List.lookup_cons, beq_eq_false_iff_ne.mpr hy] at e; exact g y c' e
      obtain ⟨cl, e1, e2, e3⟩ := clos_at l ((n, c) :: acc) (fun y hy => h y (.tail _ hy)) g'
      refine ⟨cl, ?_, e2, fun y q => e3 y ?_⟩
      · rw [List.forIn_cons]
        simp only [beq_self_eq_true, if_true, cellOf, hc]
        exact e1
      · by_cases hy : y = n
        · subst hy; right; simp [List.lookup_cons]
        · rcases q with q | q
          · cases q with
            | head => exact absurd rfl hy
            | tail _ q => exact .inl q
          · right; simp only [List.lookup_cons, beq_eq_false_iff_ne.mpr hy]; exact q
    · obtain ⟨cl, e1, e2, e3⟩ := clos_at l acc (fun y hy => h y (.tail _ hy)) g
      refine ⟨cl, ?_, e2, fun y q => e3 y ?_⟩
      · rw [List.forIn_cons]
        have : (k == NameKind.free) = false := beq_eq_false_iff_ne.mpr hk
        simp only [this, Bool.false_eq_true, if_false]
        exact e1
      · rcases q with q | q
        · cases q with
          | head => exact absurd rfl hk
          | tail _ q => exact .inl q
        · exact .inr q
/-- the variables that the comprehension sees -/
def seen (csc : Scope) (loc : Loc) : Loc := loc.filter fun p => csc.names.lookup p.1 == some .free
theorem lk_seen {csc : Scope} {x : Str} {v : V} : ∀ {loc : Loc}, lk (seen csc loc) x = some v → lk loc x = some v ∧ csc.names.lookup x = some .free
  | [], h => nomatch h
  | (y, w) :: l, h => by
    unfold seen at h
    rw [List.filter_cons] at h
    split at h
    · rename_i q
      by_cases hy : y = x
      · subst hy; rw [lk_self] at h ⊢; exact ⟨h, beq_iff_eq.mp q⟩
      · rw [lk_ne hy] at h ⊢; exact lk_seen h
    · rename_i q
      obtain ⟨a, b⟩ := lk_seen (csc := csc) h
      by_cases hy : y = x
      · subst hy; exact absurd (beq_iff_eq.mpr b) q
      · rw [lk_ne hy]; exact ⟨a, b⟩
section
variable {cx : Cx} {n : Nat} {sc : Scope} {loc : Loc} {σ : List O} {P : V → List O → Prop} {pos : Pos}
  {f : Frm} {env : Env} {ρ ρ' : List Addr} {s s' s₀ : Shared} {M : Model} {A : Around} {E : Value → Shared → Prop}

theorem store_loc {x : Str} {v : V} {val : Value} {Q : Unit → Shared → Prop} (eo : EnvOk env sc) (S : St cx f env ρ σ loc s) (hx : env.kindOf x = some .local) (r : VR cx.hb s.heap ρ v val)
    (h : ∀ s', Heap.SameBut env.locals s.heap s'.heap → St cx f env ρ σ ((x, v) :: loc) s' → Q () s') : wpAny M A (storeName env x val) Q E s := by
  obtain ⟨m, hn⟩ := S.lns
  refine wpAny_storeName_local hx hn (fun h' hn' sb => ?_) (by rw [eo.fn]; rfl)
  exact h _ sb (S.setL (t := s.toks + 1) hx r hn hn' sb).2
/-- what a turn of a comprehension keeps -/
structure KC (C : Addr) (ρ ρ' : List Addr) (h h' : Heap) : Prop where
  pre : ρ <+: ρ'
  off : ∀ a ∈ ρ', a ∉ ρ → h.get? a = none
  all : ∀ a o, a ∉ ρ → a ≠ C → h.get? a = some o → h'.get? a = some o
theorem KC.same {C : Addr} {h h' h'' : Heap} (k : KC C ρ ρ' h h') (sb : ∀ a o, a ≠ C → h'.get? a = some o → h.get? a = some o → h''.get? a = some o) : KC C ρ ρ' h h'' := ⟨k.pre, k.off, fun a o n1 n2 e => sb a o n2 (k.all a o n1 n2 e) e⟩
theorem KC.expr {C : Addr} {ρ'' : List Addr} {h h' h'' : Heap} (k : KC C ρ ρ' h h') (ke : KE f ρ' ρ'' h' h'') (hC : ∃ o, h'.get? C = some o) : KC C ρ ρ'' h h'' where
  pre := k.pre.trans ke.pre
  off a m n := by
    by_cases q : a ∈ ρ'
    · exact k.off a q n
    · have := (ke.off a m q).2
      cases e : h.get? a with
      | none => rfl
      | some o =>
        have nC : a ≠ C := fun z => by obtain ⟨o, e⟩ := hC; rw [← z, this] at e; cases e
        rw [k.all a o n nC e] at this; cases this
  all a o n1 n2 e := ke.all a o (fun m => by rw [k.off a m n1] at e; cases e) (k.all a o n1 n2 e)
/-- the tests of a comprehension -/
def TI (cx : Cx) (n : Nat) (sc : Scope) (loc : Loc) (σ : List O) (ifs : List Expr) (P : Bool → List O → Prop) : Prop :=
  ∀ f env ρ s, FrOk cx f n → EnvOk env sc → St cx f env ρ σ loc s → wpAny (model cx.prog cx.w) f.A (forIn ifs true fun c r => if r = true then do let ok ← isTrue c env (eval c env); pure (ForInStep.yield ok) else pure (ForInStep.yield r)) (PostB cx f env loc ρ s P) NoE s
theorem TI_nil {P : Bool → List O → Prop} (h : P true σ) : TI cx n sc loc σ [] P := fun _ _ _ _ _ _ S => wpAny_pure ⟨_, _, h, KE.refl .., S⟩
theorem TI_one {e : Expr} {P : Bool → List O → Prop} (h : TB cx n sc loc σ e P) : TI cx n sc loc σ [e] P := fun f env ρ s ok eo S => by
  rw [List.forIn_cons]
  simp only [if_true]
  refine wpAny_bind (wpAny_bind (goB (h f env ρ s ok eo S) fun b _ _ _ h1 k1 S1 => wpAny_pure ?_))
  show wpAny _ _ (forIn ([] : List Expr) b _) _ _ _
  exact wpAny_pure ⟨_, _, h1, k1, S1⟩

/-- the comprehension's scope is plain: its target its own, what it sees from the function a cell there -/
def compOk (csc sc : Scope) (x : Str) : Bool :=
  csc.kind == .function && csc.names.all (fun y => y.2 != .cell && (y.2 != .local || csc.names.lookup y.1 == some .local) && (y.2 != .free || sc.names.lookup y.1 == some .cell)) && csc.names.lookup x == some .local
theorem TE_compE {elt iter : Expr} {x : Str} {px : Pos} {ifs : List Expr} {csc : Scope}
    (hI : TE cx n sc loc σ iter fun v σ₁ => ∃ (items : List V) (ok : List O → Prop) (It : List Addr → Addr → Nat → Heap → Prop) (I : Nat → Nat → List V → List O → Prop), Src cx n v items ok It ∧ ok σ₁ ∧ I σ₁.length 0 [] (σ₁ ++ [.list []]) ∧
      (∀ k i acc σ, I k i acc σ → ok σ ∧ σ[k]? = some (.list acc) ∧ acc.length < sizeLine) ∧
      (∀ k i acc σ v, items[i]? = some v → I k i acc σ → TI cx n (reSc csc sc) ((x, v) :: seen csc loc) σ ifs fun b σ₁ => if b = true then TE cx n (reSc csc sc) ((x, v) :: seen csc loc) σ₁ elt (fun y σ₂ => σ₂[k]? = some (.list acc) ∧ I k (i + 1) (acc ++ [y]) (σ₂.set k (.list (acc ++ [y]))))
        else I k (i + 1) acc σ₁) ∧
      ∀ k acc σ, I k items.length acc σ → P (.ref k) σ)
    (hc : compOk csc sc x = true := by rfl) (hs : ∀ env x, foldedSetIterable iter env x = pure x := by intros; rfl) : TE cx n sc loc σ (.ListComp elt [⟨.Name x px, iter, ifs, 0⟩] csc pos) P := fun f env ρ s fo eo S => by
  simp only [compOk, Bool.and_eq_true, beq_iff_eq, List.all_eq_true, bne_iff_ne, Bool.or_eq_true] at hc
  obtain ⟨⟨ck, cn⟩, cx'⟩ := hc
  have kq : ∀ y, env.kindOf y = sc.names.lookup y := fun y => by unfold Env.kindOf; rw [eo.scope]
  have free : ∀ y ∈ csc.names, y.2 = .free → env.kindOf y.1 = some .cell := fun y hy e => by
    rw [kq]; exact ((cn y hy).2).resolve_left fun z => z e
  obtain ⟨cl, hcl, cl1, cl2⟩ := clos_at (env := env) csc.names [] (fun y hy e => S.ckind _ (free y hy e)) (fun y c e => by cases e)
  have hclos : closureFor csc env = pure cl := by
    exact (congrArg (fun m => m >>= pure) hcl).trans rfl
  rw [eval_ListComp]
  refine wpAny_comprehension_free (use := none) rfl (hs env) hclos ck (fun y hy e => ((cn y hy).1.2).resolve_left fun z => z e) (goE (h := hI f env ρ s fo eo S) fun xv s₁ v σ₁ ρ₁ h1 k1 S1 r1 => ?_)
  obtain ⟨items, ok, It, I, G, hok1, hi, hok, turn, done⟩ := h1
  refine G.start fo S1 hok1 r1 fun h2 t kp it0 => ?_
  have S2 : St cx f env ρ₁ σ₁ loc { s₁ with heap := h2, toks := t } := S1.grow kp
  refine wpAny_newList ?_ (Nat.zero_le _)
  have kp3 : ∀ a o, h2.get? a = some o → (h2.push { cls := .type "list", data := .seq ([] : List Value).toArray }).get? a = some o := fun _ _ e => Heap.get?_push_of_some _ e
  have S3 : St cx f env (ρ₁ ++ [h2.objs.size]) (σ₁ ++ [.list []]) loc { s₁ with heap := h2.push { cls := .type "list", data := .seq ([] : List Value).toArray }, toks := t } :=
    S2.new kp3 fresh (Heap.get?_push_size _ rfl) ⟨[], 0, rfl, .nil, Nat.zero_le _⟩ fun e => nomatch e
  generalize hH3 : h2.push { cls := .type "list", data := .seq ([] : List Value).toArray } = h3 at S3 kp3 ⊢
  refine wpAny_newFunctionEnv (fun y hy => (cn y hy).1.1) (by intro y hy; simp at hy) (fun h4 hns hsb => ?_) ck
  dsimp only at hns hsb ⊢
  have kp4 : ∀ a o, h3.get? a = some o → h4.get? a = some o := fun a o e => (hsb.2 a (Nat.ne_of_lt (Heap.lt_size e))).trans (Heap.get?_push_of_some _ e)
  have hC : h3.get? h3.objs.size = none := fresh
  have S4' : St cx f env (ρ₁ ++ [h2.objs.size]) (σ₁ ++ [.list []]) loc { s₁ with heap := h4, toks := t } := S3.grow kp4
  let cenv : Env := compEnvC csc cl h3.objs.size env
  have kc : ∀ y, cenv.kindOf y = (reSc csc sc).names.lookup y := fun y => by
    show (relabel csc env).names.lookup y = _
    unfold relabel reSc
    simp only [kq, eo.scope]
  have lc : ∀ y, cenv.kindOf y = (csc.names.lookup y).map fun k => if (k == .free && sc.kind == .function && sc.names.lookup y == some .cell) then .cell else k := fun y => by rw [kc]; exact lookup_re
  have mem : ∀ {y k}, csc.names.lookup y = some k → (y, k) ∈ csc.names := fun e => mem_of_lookup_some e
  have nD : s₁.heap.get? h2.objs.size = none := by
    cases e : s₁.heap.get? h2.objs.size with
    | none => rfl
    | some o => have e' := kp _ _ e; rw [fresh] at e'; cases e'
  have k14 : ∀ a o, s₁.heap.get? a = some o → h4.get? a = some o := fun a o e => kp4 _ _ (kp3 _ _ (kp _ _ e))
  have eo4 : EnvOk cenv (reSc csc sc) := ⟨by
    show relabel csc env = _
    unfold relabel reSc
    simp only [kq, eo.scope], ck, eo.globals, eo.builtins⟩
  have inS : ∀ {a o}, h3.get? a = some o → a ≠ h3.objs.size := fun e => Nat.ne_of_lt (Heap.lt_size e)
  have S4 : St cx f cenv (ρ₁ ++ [h2.objs.size]) (σ₁ ++ [.list []]) (seen csc loc) { s₁ with heap := h4, toks := t } :=
  { fr := S4'.fr
    lns := ⟨_, hns⟩
    big := S4'.big
    len := S4'.len
    nodup := S4'.nodup
    out := S4'.out
    rep := S4'.rep
    notL := S4'.notL
    notE := fun q => by obtain ⟨_, ob, e, _⟩ := S3.notIn q; exact inS e rfl
    vars := fun y v e => by
      obtain ⟨e1, e2⟩ := lk_seen e
      obtain ⟨val, a, b⟩ := S4'.vars y v e1
      refine ⟨val, ?_, b⟩
      have kf := free _ (mem e2) rfl
      have kf' := kf
      rw [kq] at kf'
      unfold VarAt at a ⊢
      rw [kf] at a
      rw [lc, e2]
      simp only [Option.map_some, kf', eo.scope ▸ eo.fn, beq_self_eq_true, Bool.and_self, if_true]
      obtain ⟨c, a1, a2⟩ := a
      obtain ⟨c', hc'⟩ := Option.isSome_iff_exists.mp (cl2 y (.inl (mem e2)))
      have := cl1 y c' hc'
      rw [a1] at this
      obtain rfl := Option.some.inj this
      exact ⟨c, hc', a2⟩
    cells := fun y c e => S4'.cells y c (cl1 y c e)
    ckind := fun y q => by
      rw [lc] at q
      cases hq : csc.names.lookup y with
      | none => rw [hq] at q; cases q
      | some k =>
        have hk : k = .free := by
          rw [hq] at q
          simp only [Option.map_some] at q
          split at q
          · rename_i z; simp only [Bool.and_eq_true, beq_iff_eq] at z; exact z.1.1
          · exact absurd (Option.some.inj q) ((cn _ (mem hq)).1.1)
        exact Option.isSome_iff_exists.mp (cl2 y (.inl (mem (hk ▸ hq))))
    cnot := fun y c e => S4'.cnot y c (cl1 y c e)
    cinj := fun y z c e1 e2 => S4'.cinj y z c (cl1 _ _ e1) (cl1 _ _ e2)
    lout := by
      show f.h₀.get? h3.objs.size = none
      cases e : f.h₀.get? h3.objs.size with
      | none => rfl
      | some o => obtain ⟨m, F⟩ := S3.fr; exact absurd rfl (inS (F.keep _ _ e))
    gens := S4'.gens
    os := S4'.os }
  have hxl : cenv.kindOf x = some .local := by rw [lc, cx']; rfl
  have it4 : It (ρ₁ ++ [h2.objs.size]) s₁.heap.objs.size 0 h4 := G.keep it0 ⟨_, rfl⟩ (fun a o e _ => kp4 _ _ (kp3 _ _ e)) fun o e => kp4 _ _ (kp3 _ _ e)
  have hlen : (ρ₁ ++ [h2.objs.size])[σ₁.length]? = some h2.objs.size := by rw [← S1.len, List.getElem?_append_right (Nat.le_refl _), Nat.sub_self]; rfl
  have h0 : f.h₀.get? s₁.heap.objs.size = none := by
    cases q : f.h₀.get? s₁.heap.objs.size with
    | none => rfl
    | some o => obtain ⟨m, F⟩ := S1.fr; exact absurd (Heap.lt_size (F.keep _ _ q)) (Nat.lt_irrefl _)
  have loop : ∀ s4 : Shared, s4 = { s₁ with heap := h4, toks := t } → codeAny (model cx.prog cx.w) f.A (.compLoop (.ListComp elt [⟨.Name x px, iter, ifs, 0⟩] csc pos) 0 (.ref s₁.heap.objs.size) (.ref h2.objs.size) cenv)
      (compPost (model cx.prog cx.w) f.A NoE none (PostE cx f env loc ρ s P) (.ref h2.objs.size) h3.objs.size) s4 := by
    rintro s4 rfl
    refine codeAny_compLoop_tests (fun k s' => ∃ i acc σ' ρ', k = items.length + 1 - i ∧ i ≤ items.length ∧ I σ₁.length i acc σ' ∧ KC h3.objs.size (ρ₁ ++ [h2.objs.size]) ρ' s₁.heap s'.heap ∧ St cx f cenv ρ' σ' (seen csc loc) s' ∧ It ρ' s₁.heap.objs.size i s'.heap) ?_ (items.length + 1)
      ⟨0, [], _, _, rfl, Nat.zero_le _, hi, ⟨pre_refl _, fun _ q n => (n q).elim, fun _ _ _ _ e => k14 _ _ e⟩, S4, it4⟩
    rintro k s' ⟨i, acc, σ', ρ', rfl, hle, hI', ks, S', iti⟩
    obtain ⟨ok1, ok2, ok3⟩ := hok _ _ _ _ hI'
    cases hv : items[i]? with
    | none =>
      have hl : i = items.length := by have := List.getElem?_eq_none_iff.mp hv; omega
      subst hl
      refine G.stop fo.handled fo S' ok1 iti (Nat.le_refl _) fun h5 ex => ?_
      have S5 : St cx f cenv ρ' σ' (seen csc loc) { s' with heap := h5 } := S'.next (t := s'.toks) (G.obj iti) h0 ex
      obtain ⟨mc, nc⟩ := S5.lns
      refine ⟨mc, nc, fun h6 sb => ?_⟩
      obtain ⟨ke, S6⟩ := S1.back S5 ((List.prefix_append _ _).trans ks.pre) (fun a q m1 => by
        by_cases z : a ∈ ρ₁ ++ [h2.objs.size]
        · rcases List.mem_append.mp z with z | z
          · exact (m1 z).elim
          · rw [List.mem_singleton.mp z]; exact nD
        · exact ks.off a q z) fun a o m1 e => ex a o (Nat.ne_of_lt (Heap.lt_size e)) (ks.all a o (fun q => by
            rcases List.mem_append.mp q with q | q
            · exact m1 q
            · rw [List.mem_singleton.mp q, nD] at e; cases e) (fun q => inS (kp3 _ _ (kp _ _ e)) q) e)
      have nC : ∀ a o, s₁.heap.get? a = some o → a ≠ h3.objs.size := fun a o e => inS (kp3 _ _ (kp _ _ e))
      have S7 : St cx f env ρ' σ' loc { s' with heap := h6 } := S6.keep rfl rfl fun a o e w => (sb.2 a (fun q => by
        subst q
        rcases w with w | w | w | w | ⟨u, w⟩ | w
        · exact (ns_data nc e).1 w
        · exact S5.notE w
        · obtain ⟨m, F⟩ := S1.fr; obtain ⟨oL, _, _, eL, _⟩ := F.ns; exact nC _ _ eL w.symm
        · obtain ⟨m, Nn⟩ := S1.lns; obtain ⟨oL, _, _, eL, _⟩ := Nn; exact nC _ _ eL w.symm
        · exact (ns_data nc e).2.2 _ w
        · obtain ⟨m, F⟩ := S1.fr; exact nC _ _ (F.keep _ _ w) rfl)).trans e
      have k7 : KE f ρ₁ ρ' s₁.heap h6 := ⟨ke.pre, ke.off, fun a o n e => (sb.2 a (nC _ _ e)).trans (ke.all a o n e)⟩
      exact ⟨_, _, _, done _ _ _ hI', k1.trans k7, S7, .ref (pre_get ks.pre hlen)⟩
    | some v =>
      have hlt : i < items.length := (List.getElem?_eq_some_iff.mp hv).1
      refine G.next fo S' ok1 iti hv fun y h5 t5 r sb iti5 => ?_
      have S5 : St cx f cenv ρ' σ' (seen csc loc) { s' with heap := h5, toks := t5 } := S'.next (G.obj iti) h0 sb.extBut
      have im5 : Imm s'.heap h5 := fun a o e w => sb.extBut a o (fun q => by subst q; exact ((G.obj iti).imm e).1 w) e
      have k5 : KC h3.objs.size (ρ₁ ++ [h2.objs.size]) ρ' s₁.heap h5 := ks.same fun a o n e e4 => sb.extBut a o (Nat.ne_of_lt (Heap.lt_size e4)) e
      refine wpAny_assign_Name (store_loc eo4 S5 hxl (r.mono im5 (pre_refl _)) fun s6 sb6 S6 => ?_)
      have k6 : KC h3.objs.size (ρ₁ ++ [h2.objs.size]) ρ' s₁.heap s6.heap := k5.same fun a o n e _ => (sb6.2 a n).trans e
      have it6 : It ρ' s₁.heap.objs.size (i + 1) s6.heap := G.keep iti5 (pre_refl _) (fun a o e w => (sb6.2 a (S5.offL e (.inl w)).2).trans e) fun o e => (sb6.2 _ (S5.itOff (G.obj iti5)).2.2.1).trans e
      have cEx : ∀ {ρ σ loc} {s : Shared}, St cx f cenv ρ σ loc s → ∃ o, s.heap.get? h3.objs.size = some o := fun S => by obtain ⟨m, o, _, _, e, _⟩ := S.lns; exact ⟨o, e⟩
      refine goB (turn _ i acc σ' v hv hI' f cenv ρ' s6 fo eo4 S6) fun b s7 σ7 ρ7 h7 ke7 S7 => ?_
      have k7 := k6.expr ke7 (cEx S6)
      have it7 : It ρ7 s₁.heap.objs.size (i + 1) s7.heap := G.keep it6 ke7.pre (S6.imm ke7) fun o e => ke7.all _ o (S6.itOff (G.obj it6)).1 e
      have wk : ∀ {ρ σ} {s : Shared}, St cx f cenv ρ σ ((x, v) :: seen csc loc) s → St cx f cenv ρ σ (seen csc loc) s := fun S => S.weak fun y w e => by
        rw [lk_ne]; exact e
        rintro rfl
        have := (lk_seen e).2
        rw [cx'] at this; cases this
      cases b with
      | false => exact ⟨items.length + 1 - (i + 1), by omega, i + 1, acc, σ7, ρ7, rfl, hlt, h7, k7, wk S7, it7⟩
      | true =>
        simp only [if_true] at h7 ⊢
        refine goE (h7 f cenv ρ7 s7 fo eo4 S7) fun z s8 w σ8 ρ8 h8 ke8 S8 r8 => ?_
        have k8 := k7.expr ke8 (cEx S7)
        have it8 : It ρ8 s₁.heap.objs.size (i + 1) s8.heap := G.keep it7 ke8.pre (S7.imm ke8) fun o e => ke8.all _ o (S7.itOff (G.obj it7)).1 e
        refine goE (TO_append (cx := cx) (n := n) (sc := reSc csc sc) (loc := (x, v) :: seen csc loc) (P := fun _ s => s = σ8.set σ₁.length (.list (acc ++ [w]))) h8.1 rfl ok3 f cenv ρ8 s8 [.ref h2.objs.size, z] fo eo4 S8 (.cons (.ref (pre_get k8.pre hlen)) (.cons r8 .nil))) fun _ s9 _ σ9 ρ9 h9 ke9 S9 _ => ?_
        have it9 : It ρ9 s₁.heap.objs.size (i + 1) s9.heap := G.keep it8 ke9.pre (S8.imm ke9) fun o e => ke9.all _ o (S8.itOff (G.obj it8)).1 e
        exact ⟨items.length + 1 - (i + 1), by omega, i + 1, acc ++ [w], σ9, ρ9, rfl, hlt, h9 ▸ h8.2, k8.expr ke9 (cEx S8), wk S9, it9⟩
  exact codeAny_compStart_list (loop _ rfl) (G.again it4 (loop _ rfl))
theorem TE_comp {elt iter : Expr} {x : Str} {px : Pos} {ifs : List Expr} {csc : Scope} {src : V} {items : List V} {ok : List O → Prop} {It : List Addr → Addr → Nat → Heap → Prop} (G : Src cx n src items ok It) (I : Nat → Nat → List V → List O → Prop)
    (hI : TE cx n sc loc σ iter fun v σ₁ => v = src ∧ ok σ₁ ∧ I σ₁.length 0 [] (σ₁ ++ [.list []]))
    (hok : ∀ k i acc σ, I k i acc σ → ok σ ∧ σ[k]? = some (.list acc) ∧ acc.length < sizeLine)
    (turn : ∀ k i acc σ v, items[i]? = some v → I k i acc σ → TI cx n (reSc csc sc) ((x, v) :: seen csc loc) σ ifs fun b σ₁ => if b = true then TE cx n (reSc csc sc) ((x, v) :: seen csc loc) σ₁ elt (fun y σ₂ => σ₂[k]? = some (.list acc) ∧ I k (i + 1) (acc ++ [y]) (σ₂.set k (.list (acc ++ [y]))))
      else I k (i + 1) acc σ₁)
    (done : ∀ k acc σ, I k items.length acc σ → P (.ref k) σ)
    (hc : compOk csc sc x = true := by rfl) (hs : ∀ env x, foldedSetIterable iter env x = pure x := by intros; rfl) : TE cx n sc loc σ (.ListComp elt [⟨.Name x px, iter, ifs, 0⟩] csc pos) P :=
  TE_compE (fun f env ρ s fo eo S => goE (hI f env ρ s fo eo S) fun _ _ _ _ _ h k S r => ⟨_, _, _, ⟨items, ok, It, I, h.1 ▸ G, h.2.1, h.2.2, hok, turn, done⟩, k, S, r⟩) hc hs
end
end Mine
open PySem PySem.W PyProof.Rows PySem.Calls
set_option Elab.async false
namespace Mine
/-! expressions that change nothing: their value by a function -/
def toInt : V → Option Int
  | .int i => some i
  | _ => none
def toStr : V → Option Str
  | .str i => some i
  | _ => none
def toBool : V → Option Bool
  | .bool i => some i
  | _ => none
def toTup : V → Option (List V)
  | .tup l => some l
  | _ => none
def toRef : V → Option Nat
  | .ref i => some i
  | _ => none
def oList : O → Option (List V)
  | .list l => some l
  | _ => none
def oInst : O → Option Nat
  | .inst l => some l
  | _ => none
def oNs : O → Option (List (Str × V))
  | .ns l => some l
  | _ => none
theorem toInt_eq {v : V} {i : Int} (h : toInt v = some i) : v = .int i := by cases v <;> first | exact congrArg V.int (Option.some.inj h) | cases h
theorem toStr_eq {v : V} {i : Str} (h : toStr v = some i) : v = .str i := by cases v <;> first | exact congrArg V.str (Option.some.inj h) | cases h
theorem toBool_eq {v : V} {i : Bool} (h : toBool v = some i) : v = .bool i := by cases v <;> first | exact congrArg V.bool (Option.some.inj h) | cases h
theorem toTup_eq {v : V} {i : List V} (h : toTup v = some i) : v = .tup i := by cases v <;> first | exact congrArg V.tup (Option.some.inj h) | cases h
theorem toRef_eq {v : V} {i : Nat} (h : toRef v = some i) : v = .ref i := by cases v <;> first | exact congrArg V.ref (Option.some.inj h) | cases h
theorem oList_eq {v : O} {i : List V} (h : oList v = some i) : v = .list i := by cases v <;> first | exact congrArg O.list (Option.some.inj h) | cases h
theorem oInst_eq {v : O} {i : Nat} (h : oInst v = some i) : v = .inst i := by cases v <;> first | exact congrArg O.inst (Option.some.inj h) | cases h
theorem oNs_eq {v : O} {i : List (Str × V)} (h : oNs v = some i) : v = .ns i := by cases v <;> first | exact congrArg O.ns (Option.some.inj h) | cases h
theorem bindE {α β : Type} {o : Option α} {f : α → Option β} {b : β} (h : o.bind f = some b) : ∃ a, o = some a ∧ f a = some b := Option.bind_eq_some_iff.mp h
theorem noneE {α : Type} {v : α} {C : Prop} (h : (none : Option α) = some v) : C := by cases h
theorem iteE {α : Type} {c : Bool} {o : Option α} {b : α} (h : (bif c then o else none) = some b) : c = true ∧ o = some b := by
  cases c
  · cases h
  · exact ⟨rfl, h⟩

def iiV {α : Type} (f : Int → Int → α) (a b : V) : Option α := (toInt a).bind fun x => (toInt b).bind fun y => some (f x y)
def ssV (a b : V) : Option Bool := (toStr a).bind fun x => (toStr b).bind fun y => some (x == y)
def isN (a b : V) : Option Bool := bif isNone b then some (isNone a) else none
def inT (a b : V) : Option Bool := (toTup b).bind fun l => bif oks l && okV 4 a then some (hits l a) else none
def cmpV : CmpOp → V → V → Option Bool
  | .Eq, a, b => (iiV (· == ·) a b).or (ssV a b)
  | .NotEq, a, b => iiV (· != ·) a b
  | .Lt, a, b => iiV (fun x y => decide (x < y)) a b
  | .LtE, a, b => iiV (fun x y => decide (x ≤ y)) a b
  | .Gt, a, b => iiV (fun x y => decide (x > y)) a b
  | .GtE, a, b => iiV (fun x y => decide (x ≥ y)) a b
  | .Is, a, b => isN a b
  | .IsNot, a, b => (isN a b).map fun c => !c
  | .In, a, b => inT a b
  | .NotIn, a, b => (inT a b).map fun c => !c
def binV : Operator → V → V → Option V
  | .Add, a, b => (iiV (· + ·) a b).map .int
  | .Sub, a, b => (iiV (· - ·) a b).map .int
  | _, _, _ => none
def seqV (σ : List O) (v : V) : Option (List V) := (toTup v).or ((toRef v).bind fun i => σ[i]?.bind oList)
def itemV (σ : List O) (a i : V) : Option V := (seqV σ a).bind fun l => (toInt i).bind fun k => bif decide (0 ≤ k) then l[k.toNat]? else none
def attrNames : List Str := ["name", "count", "inputs", "outputs", "cells"]
def attrV (σ : List O) (v : V) (a : Str) : Option V := bif attrNames.contains a then (toRef v).bind fun i => σ[i]?.bind fun o => (oInst o).bind fun d => σ[d]?.bind fun o => (oNs o).bind fun l => lk l a else none
/-- a text that may be laid -/
def strL (s : Str) : Bool := s.cps.toList.all fun c => decide (c < 0x110000)
theorem strL_ok {s : Str} (h : strL s = true) : PyData.canLay0 (.str s) = true := by
  rw [PyData.canLay0]
  exact (Array.all_toList (p := fun c => decide (c < 0x110000))).symm.trans h
def constV : Const → Option V
  | .none => some .none
  | .bool b => some (.bool b)
  | .int i => some (.int i)
  | .str s => bif strL s then some (.str s) else none
  | _ => none
def isName : Expr → Option Str
  | .Name x _ => some x
  | _ => none
def isSlice : Expr → Bool
  | .Slice .. => true
  | _ => false
def all2 (f : Expr → Option V) : List Expr → Option (List V)
  | [] => some []
  | e :: es => (f e).bind fun v => (all2 f es).bind fun vs => some (v :: vs)
def isStar : Expr → Bool
  | .Starred .. => true
  | _ => false
def boolsV : List V → Option (List Bool)
  | [] => some []
  | v :: vs => (toBool v).bind fun b => (boolsV vs).bind fun bs => some (b :: bs)
def foldB : BoolOp → List Bool → Bool
  | .And, l => l.all id
  | .Or, l => l.any id
def unV : UnaryOp → V → Option V
  | .Not, v => (toBool v).map fun b => .bool (!b)
  | .USub, v => (toInt v).map fun b => .int (-b)
  | _, _ => none
def peS (sc : Scope) (loc : Loc) (σ : List O) (r : Expr → Option V) (e : Expr) : Option V :=
  match e with
  | .Constant c _ _ => constV c
  | .Name x _ => bif nameOk x then lk loc x else none
  | .BinOp a op b _ => (r a).bind fun va => (r b).bind fun vb => binV op va vb
  | .Compare a ops bs _ => (match ops, bs with
    | [op], [b] => bif !behindInMarks op b then (r a).bind fun va => (r b).bind fun vb => (cmpV op va vb).map .bool else none
    | _, _ => none)
  | .BoolOp op es _ => bif !es.isEmpty then (all2 r es).bind fun vs => (boolsV vs).map fun bs => .bool (foldB op bs) else none
  | .UnaryOp op x _ => (r x).bind fun v => unV op v
  | .IfExp t b o _ => (r t).bind fun c => (toBool c).bind fun c => bif c then r b else r o
  | .Attribute v a _ => (isName v).bind fun _ => (r v).bind fun v => attrV σ v a
  | .Subscript a i _ => bif !isSlice i then (r a).bind fun va => (r i).bind fun vi => itemV σ va vi else none
  | .Tuple es _ _ => bif es.all (fun e => !isStar e) && decide (es.length ≤ 100) then (all2 r es).map .tup else none
  | .Call f args kw _ => (match args, kw with
    | [x], [] => bif isName f == some (Str.ofString "len") && sc.names.lookup (Str.ofString "len") == some NameKind.globalImplicit && !isStar x then (r x).bind fun v => (seqV σ v).map fun l => .int l.length else none
    | _, _ => none)
  | _ => none
noncomputable def pe (sc : Scope) (loc : Loc) (σ : List O) (k : Nat) : Expr → Option V := @Nat.rec (fun _ => Expr → Option V) (fun _ => none) (fun _ r => peS sc loc σ r) k

/-- what the program's top gives -/
structure CxOk (cx : Cx) : Prop where
  attr : ∀ a ∈ attrNames, cx.cls.statics.contains a = true ∧ NotObj a
  len : Bi cx "len" (.builtin "len")
section
variable {cx : Cx} {n : Nat} {sc : Scope} {loc : Loc} {σ : List O} {P : V → List O → Prop} {pos : Pos}

def EvE (cx : Cx) (n : Nat) (sc : Scope) (loc : Loc) (σ : List O) (e : Expr) (v : V) : Prop := ∀ P : V → List O → Prop, P v σ → TE cx n sc loc σ e P
def EvB (cx : Cx) (n : Nat) (sc : Scope) (loc : Loc) (σ : List O) (e : Expr) (b : Bool) : Prop := ∀ P : Bool → List O → Prop, P b σ → TB cx n sc loc σ e P
theorem EvE.test {e : Expr} {b : Bool} (h : EvE cx n sc loc σ e (.bool b)) (he : ∀ env whole, isTrue e env whole = (do let v ← whole; standAt e.pos; holding [v] (truthy v)) := by intros; rfl) : EvB cx n sc loc σ e b := fun P p => TB_val (h _ ⟨b, rfl, p⟩) he

theorem ints_ev {α : Type} {f : Int → Int → α} {a b : V} {c : α} (h : iiV f a b = some c) : ∃ x y, a = .int x ∧ b = .int y ∧ f x y = c := by
  obtain ⟨x, h1, h⟩ := bindE h
  obtain ⟨y, h2, h⟩ := bindE h
  exact ⟨x, y, toInt_eq h1, toInt_eq h2, Option.some.inj h⟩
theorem inT_ev {a b : V} {c : Bool} (h : inT a b = some c) : ∃ l, b = .tup l ∧ oks l = true ∧ okV 4 a = true ∧ hits l a = c := by
  obtain ⟨l, h1, h⟩ := bindE h
  obtain ⟨h2, h⟩ := iteE h
  rw [Bool.and_eq_true] at h2
  exact ⟨l, toTup_eq h1, h2.1, h2.2, Option.some.inj h⟩
theorem isN_ev {a b : V} {c : Bool} (h : isN a b = some c) : b = .none ∧ isNone a = c := by
  obtain ⟨h2, h⟩ := iteE h
  have hb : b = .none := by cases b <;> first | rfl | cases h2
  exact ⟨hb, Option.some.inj h⟩
theorem cmp_ev {op : CmpOp} {a b : V} {c : Bool} (h : cmpV op a b = some c) (p : P (.bool c) σ) : TO cx n sc loc σ (op2 (compareOp op)) [a, b] P := by
  cases op
  case Eq =>
    rcases Option.or_eq_some_iff.mp h with h | ⟨_, h⟩
    · obtain ⟨x, y, rfl, rfl, rfl⟩ := ints_ev h; exact TO_intB (fun k => PyProof.Rows.eq_int k) p
    · obtain ⟨x, h1, h⟩ := bindE h
      obtain ⟨y, h2, h⟩ := bindE h
      cases h
      rw [toStr_eq h1, toStr_eq h2]
      exact TO_eqS p
  case NotEq => obtain ⟨x, y, rfl, rfl, rfl⟩ := ints_ev h; exact TO_intB (fun k => PyProof.Rows.ne_int k) p
  case Lt => obtain ⟨x, y, rfl, rfl, rfl⟩ := ints_ev h; exact TO_intB (fun k => PyProof.Rows.lt_int k) p
  case LtE => obtain ⟨x, y, rfl, rfl, rfl⟩ := ints_ev h; exact TO_intB (fun k => PyProof.Rows.le_int k) p
  case Gt => obtain ⟨x, y, rfl, rfl, rfl⟩ := ints_ev h; exact TO_intB (fun k => PyProof.Rows.gt_int k) p
  case GtE => obtain ⟨x, y, rfl, rfl, rfl⟩ := ints_ev h; exact TO_intB (fun k => PyProof.Rows.ge_int k) p
  case Is => obtain ⟨rfl, rfl⟩ := isN_ev h; exact TO_is p
  case IsNot => obtain ⟨d, h', rfl⟩ := Option.map_eq_some_iff.mp h; obtain ⟨rfl, rfl⟩ := isN_ev h'; exact TO_isNot p
  case In => obtain ⟨l, rfl, h1, h2, rfl⟩ := inT_ev h; exact TO_inT h1 h2 p
  case NotIn => obtain ⟨d, h', rfl⟩ := Option.map_eq_some_iff.mp h; obtain ⟨l, rfl, h1, h2, rfl⟩ := inT_ev h'; exact TO_ninT h1 h2 p
theorem bin_ev {op : Operator} {a b v : V} (h : binV op a b = some v) (p : P v σ) : TO cx n sc loc σ (op2 (binaryOp op)) [a, b] P := by
  cases op
  case Add =>
    obtain ⟨c, h', rfl⟩ := Option.map_eq_some_iff.mp h
    obtain ⟨x, y, rfl, rfl, rfl⟩ := ints_ev h'; exact TO_intI (fun k => PyProof.Rows.add_int k) p
  case Sub =>
    obtain ⟨c, h', rfl⟩ := Option.map_eq_some_iff.mp h
    obtain ⟨x, y, rfl, rfl, rfl⟩ := ints_ev h'; exact TO_intI (fun k => PyProof.Rows.sub_int k) p
  all_goals exact noneE h
theorem seq_ev {v : V} {l : List V} (h : seqV σ v = some l) : v = .tup l ∨ ∃ i, v = .ref i ∧ σ[i]? = some (.list l) := by
  rcases Option.or_eq_some_iff.mp h with h | ⟨_, h⟩
  · exact .inl (toTup_eq h)
  · obtain ⟨i, h1, h⟩ := bindE h
    obtain ⟨o, h2, h⟩ := bindE h
    exact .inr ⟨i, toRef_eq h1, by rw [h2, oList_eq h]⟩
theorem noSlice {i : Expr} (h : (!isSlice i) = true) : NoSlice i := fun o k => by
  cases i <;> first | rfl | cases h
theorem item_ev {a i : Expr} {va vi v : V} (h : itemV σ va vi = some v) (hs : (!isSlice i) = true) (p : P v σ) : TO cx n sc loc σ (op2 (subscriptTail a i)) [va, vi] P := by
  obtain ⟨l, h1, ha⟩ := bindE h
  obtain ⟨k, h2, hb⟩ := bindE ha
  obtain ⟨h3, hc⟩ := iteE hb
  rw [toInt_eq h2]
  rcases seq_ev h1 with rfl | ⟨j, rfl, e⟩
  · exact TO_itemT (of_decide_eq_true h3) hc p (noSlice hs)
  · exact TO_itemL e (of_decide_eq_true h3) hc p (noSlice hs)
theorem attr_ev (c : CxOk cx) {v u : V} {a : Str} (h : attrV σ v a = some u) (p : P u σ) : TO cx n sc loc σ (op1 fun x => getAttr x a true) [v] P := by
  obtain ⟨h1, h⟩ := iteE h
  obtain ⟨i, h2, h⟩ := bindE h
  obtain ⟨o, h3, h⟩ := bindE h
  obtain ⟨d, h4, h⟩ := bindE h
  obtain ⟨o', h5, h⟩ := bindE h
  obtain ⟨l, h6, h⟩ := bindE h
  obtain ⟨w1, w2⟩ := c.attr a (List.contains_iff_mem.mp h1)
  rw [toRef_eq h2]
  exact TO_getAttr ⟨by rw [h3, oInst_eq h4], by rw [h5, oNs_eq h6]⟩ w1 w2 h p
theorem len_ev {v : V} {l : List V} (h : seqV σ v = some l) (p : P (.int l.length) σ) : TO cx n sc loc σ (callF (.builtin "len")) [v] P := by
  rcases seq_ev h with rfl | ⟨j, rfl, e⟩
  · exact TO_lenT p
  · exact TO_lenL e p
theorem const_ev {c : Const} {q : Nat} {v : V} (h : constV c = some v) : EvE cx n sc loc σ (.Constant c q pos) v := fun P p => by
  cases c
  case none => cases h; exact TE_none p
  case bool => cases h; exact TE_bool p
  case int => cases h; exact TE_int p
  case str => obtain ⟨o, h⟩ := iteE h; cases h; exact TE_str p (strL_ok o)
  all_goals exact noneE h
/-- the list of the values -/
theorem all_ev {f : Expr → Option V} (ih : ∀ e v, f e = some v → EvE cx n sc loc σ e v) : ∀ {es : List Expr} {vs : List V}, all2 f es = some vs → es.all (fun e => !isStar e) = true → ∀ P : List V → List O → Prop, P vs σ → TEs cx n sc loc σ es P := by
  intro es
  induction es with
  | nil => intro vs h _ P p; cases h; exact TEs_nil p
  | cons e es ihs =>
    intro vs h s P p
    obtain ⟨v, h1, h⟩ := bindE h
    obtain ⟨ws, h2, h⟩ := bindE h
    cases h
    rw [List.all_cons, Bool.and_eq_true] at s
    exact TEs_cons (ih e v h1 _ (ihs h2 s.2 _ p)) (fun env => by cases e <;> first | rfl | cases s.1)
theorem all2_len {f : Expr → Option V} : ∀ {es : List Expr} {vs : List V}, all2 f es = some vs → vs.length = es.length := by
  intro es
  induction es with
  | nil => intro vs h; cases h; rfl
  | cons e es ih =>
    intro vs h
    obtain ⟨v, h1, h⟩ := bindE h
    obtain ⟨ws, h2, h⟩ := bindE h
    cases h
    rw [List.length_cons, ih h2]; rfl
theorem TB_ite {t b o : Expr} {P : Bool → List O → Prop} (h : TB cx n sc loc σ t fun c σ₁ => if c = true then TB cx n sc loc σ₁ b P else TB cx n sc loc σ₁ o P) : TB cx n sc loc σ (.IfExp t b o pos) P := fun f env ρ s ok eo S => by
  refine wpAny_bind (goB (h f env ρ s ok eo S) fun c _ _ _ h1 k1 S1 => ?_)
  cases c <;> exact preB k1 (h1 f env _ _ ok eo S1)
theorem isName_eq {e : Expr} {x : Str} (h : isName e = some x) : ∃ p, e = .Name x p := by cases e <;> first | exact ⟨_, by cases h; rfl⟩ | cases h
theorem boolsV_eq : ∀ {vs : List V} {bs : List Bool}, boolsV vs = some bs → vs = bs.map V.bool := by
  intro vs
  induction vs with
  | nil => intro bs h; cases h; rfl
  | cons v vs ih =>
    intro bs h
    obtain ⟨b, h1, h⟩ := bindE h
    obtain ⟨cs, h2, h⟩ := bindE h
    cases h
    rw [toBool_eq h1, ih h2]; rfl
/-- and, or: as a value, as a test -/
theorem bo_ev {f : Expr → Option V} {op : BoolOp} (ih : ∀ e b, f e = some (.bool b) → EvE cx n sc loc σ e (.bool b)) : ∀ {es : List Expr} {bs : List Bool}, all2 f es = some (bs.map V.bool) → es ≠ [] → P (.bool (foldB op bs)) σ → TBo cx n sc loc σ op es P := by
  intro es
  induction es with
  | nil => intro _ _ h _; exact absurd rfl h
  | cons e es ihs =>
    intro bs h _ p
    obtain ⟨v, h1, h⟩ := bindE h
    obtain ⟨ws, h2, h⟩ := bindE h
    have h := Option.some.inj h
    cases bs with
    | nil => cases h
    | cons b bs =>
      rw [List.map_cons, List.cons.injEq] at h
      obtain ⟨rfl, rfl⟩ := h
      cases es with
      | nil =>
        cases bs with
        | nil => exact TBo_one (ih e b h1 _ (by cases op <;> cases b <;> exact p))
        | cons _ _ => cases h2
      | cons e' es =>
        cases op
        · exact TBo_and (ih e b h1 _ ⟨b, rfl, by cases b with | true => exact ihs h2 (by simp) p | false => exact p⟩)
        · exact TBo_or (ih e b h1 _ ⟨b, rfl, by cases b with | true => exact p | false => exact ihs h2 (by simp) p⟩)
theorem al_ev {f : Expr → Option V} {op : BoolOp} {P : Bool → List O → Prop} (ih : ∀ e b, f e = some (.bool b) → EvB cx n sc loc σ e b) : ∀ {es : List Expr} {bs : List Bool}, all2 f es = some (bs.map V.bool) → P (foldB op bs) σ → TAll cx n sc loc σ op es P := by
  intro es
  induction es with
  | nil =>
    intro bs h p
    cases bs with
    | nil => cases op; exact TAll_andN p; exact TAll_orN p
    | cons _ _ => cases h
  | cons e es ihs =>
    intro bs h p
    obtain ⟨v, h1, h⟩ := bindE h
    obtain ⟨ws, h2, h⟩ := bindE h
    have h := Option.some.inj h
    cases bs with
    | nil => cases h
    | cons b bs =>
      rw [List.map_cons, List.cons.injEq] at h
      obtain ⟨rfl, rfl⟩ := h
      cases op
      · exact TAll_and (ih e b h1 _ (by cases b with | true => exact ihs h2 p | false => exact p))
      · exact TAll_or (ih e b h1 _ (by cases b with | true => exact p | false => exact ihs h2 p))
theorem pe_ok (c : CxOk cx) (k : Nat) : ∀ e, (∀ v, pe sc loc σ k e = some v → EvE cx n sc loc σ e v) ∧ ∀ b, pe sc loc σ k e = some (.bool b) → EvB cx n sc loc σ e b := by
  induction k with
  | zero => exact fun e => ⟨fun v h => noneE h, fun b h => noneE h⟩
  | succ k ih =>
    intro e
    have ie : ∀ e v, pe sc loc σ k e = some v → EvE cx n sc loc σ e v := fun e => (ih e).1
    cases e
    case Constant q ps => exact ⟨fun v h => const_ev h, fun b h => (const_ev h).test⟩
    case Name x ps =>
      have go : ∀ v, pe sc loc σ (k + 1) (.Name x ps) = some v → EvE cx n sc loc σ (.Name x ps) v := fun v h P p => by
        obtain ⟨h1, h⟩ := iteE h
        exact TE_var h p h1
      exact ⟨go, fun b h => (go _ h).test⟩
    case BinOp a op b ps =>
      have go : ∀ v, pe sc loc σ (k + 1) (.BinOp a op b ps) = some v → EvE cx n sc loc σ (.BinOp a op b ps) v := fun v h P p => by
        obtain ⟨va, h1, h⟩ := bindE h
        obtain ⟨vb, h2, h⟩ := bindE h
        exact TE_bin (ie _ _ h1 _ (ie _ _ h2 _ (bin_ev h p)))
      exact ⟨go, fun b h => (go _ h).test⟩
    case Compare a ops bs ps =>
      have go : ∀ v, pe sc loc σ (k + 1) (.Compare a ops bs ps) = some v → ∃ op b va vb c, ops = [op] ∧ bs = [b] ∧ behindInMarks op b = false ∧ pe sc loc σ k a = some va ∧ pe sc loc σ k b = some vb ∧ cmpV op va vb = some c ∧ v = .bool c := fun v h => by
        cases ops with
        | nil => exact noneE h
        | cons op ops =>
          cases ops with
          | cons _ _ => exact noneE h
          | nil =>
            cases bs with
            | nil => exact noneE h
            | cons b bs =>
              cases bs with
              | cons _ _ => exact noneE h
              | nil =>
                obtain ⟨h0, h⟩ := iteE h
                obtain ⟨va, h1, h⟩ := bindE h
                obtain ⟨vb, h2, h⟩ := bindE h
                obtain ⟨c, h3, rfl⟩ := Option.map_eq_some_iff.mp h
                exact ⟨op, b, va, vb, c, rfl, rfl, (Bool.not_eq_true' _).mp h0, h1, h2, h3, rfl⟩
      refine ⟨fun v h P p => ?_, fun b h P p => ?_⟩
      · obtain ⟨op, b, va, vb, c, rfl, rfl, h0, h1, h2, h3, rfl⟩ := go v h
        exact TE_cmp (ie _ _ h1 _ (ie _ _ h2 _ (cmp_ev h3 p))) h0
      · obtain ⟨op, b', va, vb, c, rfl, rfl, h0, h1, h2, h3, h4⟩ := go _ h
        cases h4
        exact TB_cmp (ie _ _ h1 _ (ie _ _ h2 _ (cmp_ev h3 ⟨_, rfl, p⟩))) h0
    case BoolOp op es ps =>
      have go : ∀ v, pe sc loc σ (k + 1) (.BoolOp op es ps) = some v → ∃ bs, es ≠ [] ∧ all2 (pe sc loc σ k) es = some (bs.map V.bool) ∧ v = .bool (foldB op bs) := fun v h => by
        obtain ⟨h0, h⟩ := iteE h
        obtain ⟨vs, h1, h⟩ := bindE h
        obtain ⟨bs, h2, rfl⟩ := Option.map_eq_some_iff.mp h
        exact ⟨bs, (fun q => by subst q; cases h0), h1.trans (congrArg some (boolsV_eq h2)), rfl⟩
      refine ⟨fun v h P p => ?_, fun b h P p => ?_⟩
      · obtain ⟨bs, h0, h1, rfl⟩ := go v h
        exact TE_op (bo_ev (fun e b => ie e _) h1 h0 p)
      · obtain ⟨bs, h0, h1, h2⟩ := go _ h
        cases h2
        exact TB_op (al_ev (fun e => (ih e).2) h1 p)
    case UnaryOp op x ps =>
      refine ⟨fun v h P p => ?_, fun b h P p => ?_⟩ <;> obtain ⟨w, h1, h⟩ := bindE h <;> cases op
      case refine_1.Not => obtain ⟨b, h2, rfl⟩ := Option.map_eq_some_iff.mp h; exact TE_not (ie _ _ h1 _ ⟨b, toBool_eq h2, p⟩)
      case refine_1.USub => obtain ⟨b, h2, rfl⟩ := Option.map_eq_some_iff.mp h; exact TE_neg (ie _ _ h1 _ ⟨b, toInt_eq h2, p⟩)
      case refine_2.Not => obtain ⟨b, h2, h3⟩ := Option.map_eq_some_iff.mp h; cases h3; exact TB_not ((ih _).2 b (h1.trans (congrArg some (toBool_eq h2))) _ p)
      case refine_2.USub => obtain ⟨b, h2, h3⟩ := Option.map_eq_some_iff.mp h; cases h3
      all_goals exact noneE h
    case IfExp t x y ps =>
      have go : ∀ v, pe sc loc σ (k + 1) (.IfExp t x y ps) = some v → ∃ c, pe sc loc σ k t = some (.bool c) ∧ (bif c then pe sc loc σ k x else pe sc loc σ k y) = some v := fun v h => by
        obtain ⟨w, h1, h⟩ := bindE h
        obtain ⟨c, h2, h⟩ := bindE h
        exact ⟨c, h1.trans (congrArg some (toBool_eq h2)), h⟩
      refine ⟨fun v h P p => ?_, fun b h P p => ?_⟩
      · obtain ⟨c, h1, h2⟩ := go v h
        exact TE_ite ((ih t).2 c h1 _ (by cases c with | true => exact ie _ _ h2 _ p | false => exact ie _ _ h2 _ p))
      · obtain ⟨c, h1, h2⟩ := go _ h
        exact TB_ite ((ih t).2 c h1 _ (by cases c with | true => exact (ih x).2 _ h2 _ p | false => exact (ih y).2 _ h2 _ p))
    case Attribute x a ps =>
      have go : ∀ v, pe sc loc σ (k + 1) (.Attribute x a ps) = some v → EvE cx n sc loc σ (.Attribute x a ps) v := fun v h P p => by
        obtain ⟨y, h0, ha⟩ := bindE h
        obtain ⟨w, h1, hb⟩ := bindE ha
        obtain ⟨px, rfl⟩ := isName_eq h0
        exact TE_attr (ie _ _ h1 _ (attr_ev c hb p))
      exact ⟨go, fun b h => (go _ h).test⟩
    case Subscript a i ps =>
      have go : ∀ v, pe sc loc σ (k + 1) (.Subscript a i ps) = some v → EvE cx n sc loc σ (.Subscript a i ps) v := fun v h P p => by
        obtain ⟨h0, h⟩ := iteE h
        obtain ⟨va, h1, h⟩ := bindE h
        obtain ⟨vi, h2, h⟩ := bindE h
        exact TE_sub (ie _ _ h1 _ (ie _ _ h2 _ (item_ev h h0 p)))
      exact ⟨go, fun b h => (go _ h).test⟩
    case Tuple es q ps =>
      have go : ∀ v, pe sc loc σ (k + 1) (.Tuple es q ps) = some v → EvE cx n sc loc σ (.Tuple es q ps) v := fun v h P p => by
        obtain ⟨h0, h⟩ := iteE h
        obtain ⟨vs, h1, rfl⟩ := Option.map_eq_some_iff.mp h
        rw [Bool.and_eq_true] at h0
        exact TE_tup (all_ev ie h1 h0.1 _ ⟨by rw [all2_len h1]; exact Nat.le_trans (of_decide_eq_true h0.2) (by decide), p⟩)
      exact ⟨go, fun b h => (go _ h).test⟩
    case Call g args kw ps =>
      have go : ∀ v, pe sc loc σ (k + 1) (.Call g args kw ps) = some v → EvE cx n sc loc σ (.Call g args kw ps) v := fun v h P p => by
        cases args with
        | nil => exact noneE h
        | cons x args =>
          cases args with
          | cons _ _ => exact noneE h
          | nil =>
            cases kw with
            | cons _ _ => exact noneE h
            | nil =>
              obtain ⟨h0, h⟩ := iteE h
              simp only [Bool.and_eq_true, beq_iff_eq] at h0
              obtain ⟨w, h1, h⟩ := bindE h
              obtain ⟨l, h2, rfl⟩ := Option.map_eq_some_iff.mp h
              obtain ⟨px, rfl⟩ := isName_eq h0.1.1
              have hx : ∀ env, starEach [x] env = (false, eval x env) :: starEach [] env := fun env => by cases x <;> first | rfl | cases h0.2
              exact TE_callB c.len (TEs_cons (ie _ _ h1 _ (TEs_nil (len_ev h2 p))) hx) h0.1.2 rfl (fun env => ⟨eval x env, [], by rw [hx]; rfl, rfl⟩)
      exact ⟨go, fun b h => (go _ h).test⟩
    all_goals exact ⟨fun v h => noneE h, fun b h => noneE h⟩
end
end Mine
open PySem PySem.W PyProof.Rows PySem.Calls
set_option Elab.async false
set_option maxRecDepth 4000
namespace Mine
/-! the program's parts, by their places -/
noncomputable def stm (k : Nat) : Stmt := (PySem.Challenge.pw_on0111_01.main.body[k]?).getD (.Pass ⟨0, 0, 0, 0⟩)
noncomputable def dfn (s : Stmt) : DefRec :=
  match s with
  | .FunctionDef name args body _ _ _ scope _ _ pos => ⟨name, args, body, scope, pos⟩
  | _ => ⟨"", ⟨[], [], none, [], [], none, []⟩, [], ⟨.module, [], false, false, []⟩, ⟨0, 0, 0, 0⟩⟩
noncomputable def bodyOf (s : Stmt) : List Stmt :=
  match s with
  | .ClassDef _ _ _ body _ _ _ _ _ _ _ => body
  | _ => []
noncomputable abbrev fn (k : Nat) : DefRec := dfn (stm k)
noncomputable def mth (k : Nat) : MethRec := (fun d : DefRec => ⟨d.name, d.params, d.body, d.scope⟩) (dfn (((bodyOf (stm 9))[k]?).getD (.Pass ⟨0, 0, 0, 0⟩)))

/-- what the program's top gives -/
structure TopOk (cx : Cx) : Prop extends CxOk cx where
  rng : Bi cx "range" (.type "range")
  str : Bi cx "str" (.type "str")
  lst : Bi cx "list" (.type "list")
  tup : Bi cx "tuple" (.type "tuple")
  min : Bi cx "min" (.builtin "min")
  srt : Bi cx "sorted" (.builtin "sorted")
  c0 : ∃ t, cx.mg "CONST0" = some (.int 0 t)
  c1 : ∃ t, cx.mg "CONST1" = some (.int 1 t)
  cls : cx.mg "Netlist" = some (.ref cx.C)
  fns : ∀ k, k < 32 → 7 ≤ k → k ≠ 9 → k ≠ 20 → fn k ∈ recsOf cx.p
  mts : ∀ k, k < 9 → cx.cls.meths.find? (fun r => r.name == (mth k).name) = some (mth k)
  mno : ∀ k, k < 9 → k ≠ 0 → NotObj (mth k).name

theorem len1 {α : Type} {l : List α} (h : l.length = 1) : ∃ a, l = [a] := List.length_eq_one_iff.mp h
theorem len2 {α : Type} {l : List α} (h : l.length = 2) : ∃ a b, l = [a, b] := by
  cases l with
  | nil => cases h
  | cons a l => obtain ⟨b, rfl⟩ := len1 (Nat.succ.inj h); exact ⟨a, b, rfl⟩
theorem len3 {α : Type} {l : List α} (h : l.length = 3) : ∃ a b c, l = [a, b, c] := by
  cases l with
  | nil => cases h
  | cons a l => obtain ⟨b, c, rfl⟩ := len2 (Nat.succ.inj h); exact ⟨a, b, c, rfl⟩
theorem len4 {α : Type} {l : List α} (h : l.length = 4) : ∃ a b c d, l = [a, b, c, d] := by
  cases l with
  | nil => cases h
  | cons a l => obtain ⟨b, c, d, rfl⟩ := len3 (Nat.succ.inj h); exact ⟨a, b, c, d, rfl⟩
theorem bd1 {d : DefRec} {a : Str} (h : ∀ pm code doc x, bindArgs (docDef d.name d.params d.body d.scope pm code doc) ⟨[x], []⟩ = pure [(a, x)] := by intros; rfl) (o : scOk d.scope [a] = true := by rfl) : BindOk d [a] :=
  ⟨fun pm code doc xs q => by obtain ⟨x, rfl⟩ := len1 q; exact h pm code doc x, o⟩
theorem bd2 {d : DefRec} {a b : Str} (h : ∀ pm code doc x y, bindArgs (docDef d.name d.params d.body d.scope pm code doc) ⟨[x, y], []⟩ = pure [(a, x), (b, y)] := by intros; rfl) (o : scOk d.scope [a, b] = true := by rfl) : BindOk d [a, b] :=
  ⟨fun pm code doc xs q => by obtain ⟨x, y, rfl⟩ := len2 q; exact h pm code doc x y, o⟩
theorem bd4 {d : DefRec} {a b c e : Str} (h : ∀ pm code doc x y z u, bindArgs (docDef d.name d.params d.body d.scope pm code doc) ⟨[x, y, z, u], []⟩ = pure [(a, x), (b, y), (c, z), (e, u)] := by intros; rfl) (o : scOk d.scope [a, b, c, e] = true := by rfl) : BindOk d [a, b, c, e] :=
  ⟨fun pm code doc xs q => by obtain ⟨x, y, z, u, rfl⟩ := len4 q; exact h pm code doc x y z u, o⟩
section
variable {cx : Cx} {n : Nat} {sc : Scope} {loc : Loc} {σ : List O} {P : V → List O → Prop} {Q : Fl → Loc → List O → Prop} {pos : Pos}

/-! statements upon pure expressions -/
theorem rtn (c : CxOk cx) {e : Expr} {v : V} (h : pe sc loc σ 12 e = some v) (p : Q (.ret v) loc σ) : TS cx n sc loc σ (.Return (some e) pos) Q := TS_ret ((pe_ok c 12 _).1 _ h _ p)
theorem asg (c : CxOk cx) {e : Expr} {v : V} {x : Str} {px : Pos} (h : pe sc loc σ 12 e = some v) (p : Q .next ((x, v) :: loc) σ) (hx : stores sc x = true := by rfl) (hc : notComp e = true := by rfl) : TS cx n sc loc σ (.Assign [.Name x px] e pos) Q := TS_assign ((pe_ok c 12 _).1 _ h _ p) hx hc
theorem iff' (c : CxOk cx) {e : Expr} {b : Bool} {s t : List Stmt} (h : pe sc loc σ 12 e = some (.bool b)) (p : b = true → TSs cx n sc loc σ s Q) (q : b = false → TSs cx n sc loc σ t Q) : TS cx n sc loc σ (.If e s t pos) Q :=
  TS_if ((pe_ok c 12 _).2 _ h _ (by cases b with | true => exact p rfl | false => exact q rfl))
theorem ex (c : CxOk cx) {e : Expr} {v : V} (h : pe sc loc σ 12 e = some v) (p : P v σ) : TE cx n sc loc σ e P := (pe_ok c 12 _).1 _ h _ p
theorem tx (c : CxOk cx) {e : Expr} {b : Bool} {P : Bool → List O → Prop} (h : pe sc loc σ 12 e = some (.bool b)) (p : P b σ) : TB cx n sc loc σ e P := (pe_ok c 12 _).2 _ h _ p

/-! the small functions -/
abbrev S (s : String) : Str := Str.ofString s
def isSt (k : Str) : Bool := foldB .Or [k == S "flop", k == S "latch"]
theorem sState (c : CxOk cx) {k : Str} (h : P (.bool (isSt k)) σ) : TF cx n (fn 7) [.str k] σ P := ⟨[S "kind"], bd1, rfl, TSs_cons (rtn c (v := .bool (isSt k)) rfl h)⟩
theorem sName (c : CxOk cx) {k : Str} {o : V} {i p : List V} {v : V} (hv : (bif k == S "flop" then p[1]? else p[0]?) = some v) (h : P v σ) : TF cx n (fn 8) [.tup [.str k, o, .tup i, .tup p]] σ P := ⟨[S "cell"], bd1, rfl, TSs_cons (iff' c (b := k == S "flop") rfl
    (fun e => TSs_cons (rtn c (v := v) (by rw [e] at hv; exact hv) h)) fun e => TSs_nil (TSs_cons (rtn c (v := v) (by rw [e] at hv; exact hv) h)))⟩
def expIn (k : Str) : Int :=
  bif foldB .Or [k == S "buf", k == S "not"] then 1 else
  bif hits [.str (S "and"), .str (S "or"), .str (S "xor"), .str (S "nand"), .str (S "nor"), .str (S "xnor")] (.str k) then 2 else
  bif k == S "mux" then 3 else
  bif foldB .Or [k == S "flop", k == S "latch"] then 4 else
  bif foldB .Or [k == S "lut", k == S "cell"] then -1 else -2
theorem sExp (c : CxOk cx) {k : Str} (h : P (.int (expIn k)) σ) : TF cx n (fn 12) [.str k] σ P := by
  refine ⟨[S "kind"], bd1, rfl, TSs_cons (iff' c (b := foldB .Or [k == S "buf", k == S "not"]) rfl (fun e => TSs_cons (rtn c (v := .int 1) rfl ?_)) fun e1 => TSs_nil
    (TSs_cons (iff' c (b := hits [.str (S "and"), .str (S "or"), .str (S "xor"), .str (S "nand"), .str (S "nor"), .str (S "xnor")] (.str k)) rfl (fun e => TSs_cons (rtn c (v := .int 2) rfl ?_)) fun e2 => TSs_nil
    (TSs_cons (iff' c (b := k == S "mux") rfl (fun e => TSs_cons (rtn c (v := .int 3) rfl ?_)) fun e3 => TSs_nil
    (TSs_cons (iff' c (b := foldB .Or [k == S "flop", k == S "latch"]) rfl (fun e => TSs_cons (rtn c (v := .int 4) rfl ?_)) fun e4 => TSs_nil
    (TSs_cons (iff' c (b := foldB .Or [k == S "lut", k == S "cell"]) rfl (fun e => TSs_cons (rtn c (v := .int (-1)) rfl ?_)) fun e5 => TSs_nil (TSs_cons (rtn c (v := .int (-2)) rfl ?_)))))))))))⟩
  all_goals (unfold expIn at h; simp only [*, cond_true, cond_false] at h; exact h)
end
end Mine
open PySem PySem.W PyProof.Rows PySem.Calls
set_option Elab.async false
set_option maxRecDepth 4000
namespace Mine
section
variable {cx : Cx} {n : Nat} {sc : Scope} {loc : Loc} {σ : List O} {P : V → List O → Prop} {Q : Fl → Loc → List O → Prop} {pos : Pos}

theorem TO_shl {a k : Int} (h0 : 0 ≤ k) (h1 : k ≤ 1000000) (h2 : a.natAbs < 2 ^ 64) (h : P (.int (a * 2 ^ k.toNat)) σ) : TO cx n sc loc σ (op2 (binaryOp .LShift)) [.int a, .int k] P := TO_intI (fun q => lshift_int_small h0 h1 h2 q) h
theorem TO_pow {a k : Int} (h0 : 0 ≤ k) (h1 : (Builtin.Int.intBits a : Int) * k ≤ 2 ^ 27) (h : P (.int (a ^ k.toNat)) σ) : TO cx n sc loc σ (op2 (binaryOp .Pow)) [.int a, .int k] P := TO_intI (fun q => pow_int h0 h1 q) h
theorem br {b : Bool} {X Y : Prop} (p : b = true → X) (q : b = false → Y) : if b = true then X else Y := by
  cases b with
  | true => exact p rfl
  | false => exact q rfl
/-- a table of so many places -/
def tab (t : Int) (w : Nat) : Bool := decide (0 ≤ t) && decide (t < 2 ^ 2 ^ w)
theorem sTab0 (c : CxOk cx) {w : Int} (h : P (.bool false) σ) : TF cx n (fn 13) [.none, .int w] σ P := ⟨[S "table", S "width"], bd2, rfl, TSs_cons (TS_ret (TE_op (TBo_and (ex c (v := .bool false) rfl ⟨_, rfl, h⟩))))⟩
theorem pow_small {w : Nat} (hw : w ≤ 10) : (1 : Int) * 2 ^ w ≤ 1000000 ∧ (0 : Int) ≤ 1 * 2 ^ w ∧ ((1 : Int) * 2 ^ w).toNat = 2 ^ w := by
  have h : (2 : Int) ^ w = ((2 ^ w : Nat) : Int) := by simp
  have h1 : 2 ^ w ≤ 2 ^ 10 := Nat.pow_le_pow_right (by decide) hw
  rw [h, Int.one_mul]
  refine ⟨?_, Int.natCast_nonneg _, Int.toNat_natCast _⟩
  exact Int.ofNat_le.mpr (Nat.le_trans h1 (by decide))
theorem sTab1 (c : CxOk cx) {t : Int} {w : Nat} (hw : w ≤ 10) (h : P (.bool (tab t w)) σ) : TF cx n (fn 13) [.int t, .int w] σ P := by
  obtain ⟨w1, w2, w3⟩ := pow_small hw
  refine ⟨[S "table", S "width"], bd2, rfl, TSs_cons (TS_ret (TE_op (TBo_and (ex c (v := .bool true) rfl ⟨_, rfl, TBo_and (ex c (v := .bool (decide (0 ≤ t))) rfl ⟨_, rfl, br (fun q => ?_) fun q => ?_⟩)⟩))))⟩
  · refine TBo_one (TE_cmp (ex c (v := .int t) rfl (TE_bin (ex c (v := .int 1) rfl (TE_bin (ex c (v := .int 1) rfl (ex c (v := .int w) rfl (TO_shl (Int.natCast_nonneg _) (by omega) (by decide) (TO_shl (by simpa using w2) (by simpa using w1) (by decide) ?_)))))))))
    refine TO_intB (fun k => PyProof.Rows.lt_int k) ?_
    simp only [tab, q, Bool.true_and] at h
    simp only [Int.toNat_natCast, w3, Int.one_mul]
    exact h
  · simp only [tab, q, Bool.false_and] at h
    exact h
theorem sLTab0 (c : CxOk cx) {w : Int} (h : P (.bool false) σ) : TF cx n (fn 26) [.none, .int w] σ P := ⟨[S "value", S "wide"], bd2, rfl, TSs_cons (TS_ret (TE_op (TBo_and (ex c (v := .bool false) rfl ⟨_, rfl, h⟩))))⟩
theorem sLTab1 (c : CxOk cx) {t : Int} {w : Nat} (hw : w ≤ 10) (h : P (.bool (tab t w)) σ) : TF cx n (fn 26) [.int t, .int w] σ P := by
  obtain ⟨w1, w2, w3⟩ := pow_small hw
  rw [Int.one_mul] at w1 w2 w3
  refine ⟨[S "value", S "wide"], bd2, rfl, TSs_cons (TS_ret (TE_op (TBo_and (ex c (v := .bool true) rfl ⟨_, rfl, TBo_and (ex c (v := .bool (decide (0 ≤ t))) rfl ⟨_, rfl, br (fun q => ?_) fun q => ?_⟩)⟩))))⟩
  · refine TBo_one (TE_cmp (ex c (v := .int t) rfl (TE_bin (ex c (v := .int 2) rfl (TE_bin (ex c (v := .int 2) rfl (ex c (v := .int w) rfl (TO_pow (Int.natCast_nonneg _) ?_ (TO_pow ?_ ?_ ?_)))))))))
    · exact Int.le_trans (Int.mul_le_mul_of_nonneg_left (Int.ofNat_le.mpr hw) (by decide)) (by decide)
    · exact w2
    · exact Int.le_trans (Int.mul_le_mul_of_nonneg_left w1 (by decide)) (by decide)
    refine TO_intB (fun k => PyProof.Rows.lt_int k) ?_
    simp only [tab, q, Bool.true_and] at h
    simp only [Int.toNat_natCast, w3]
    exact h
  · simp only [tab, q, Bool.false_and] at h
    exact h

/-! what a cell's parameter may be, by its kind -/
structure Cell where
  k : Str
  o : Int
  i : List Int
  p : V
abbrev Cell.v (c : Cell) : V := .tup [.str c.k, .int c.o, .tup (c.i.map V.int), c.p]
/-- a parameter of a kind, at so many inputs: is it as the kind asks -/
inductive PmB (w : Nat) : Str → V → Bool → Prop
  | lutN : PmB w (S "lut") .none false
  | lutI (t : Int) : PmB w (S "lut") (.int t) (tab t w)
  | cellN (a : V) : PmB w (S "cell") (.tup [a]) false
  | cellT (a : V) (t : Int) : PmB w (S "cell") (.tup [a, .int t]) (tab t w)
  | flop (x : Int) (nm : Str) (y : Int) : hits [.int 0, .int 1] (.int x) = true → hits [.int 0, .int 1] (.int y) = decide (y < 2) → PmB w (S "flop") (.tup [.int x, .str nm, .int y]) (decide (y < 2))
  | latB (nm : Str) : PmB w (S "latch") (.tup [.str nm, .int 1, .int 0]) false
  | latG (nm : Str) (x : Int) : hits [.int 0, .int 1] (.int x) = true → PmB w (S "latch") (.tup [.str nm, .int x]) true
  | nonN (k : Str) : (k == S "lut") = false → (k == S "cell") = false → (k == S "flop") = false → (k == S "latch") = false → hits [.str (S "cell"), .str (S "flop"), .str (S "latch")] (.str k) = false → PmB w k .none true
  | nonI (k : Str) : (k == S "lut") = false → (k == S "cell") = false → (k == S "flop") = false → (k == S "latch") = false → PmB w k (.int 3) false
theorem asg4 (c : CxOk cx) {e : Expr} {x1 x2 x3 x4 : Str} {p1 p2 p3 p4 p' : Pos} {v1 v2 v3 v4 : V} {q : Nat} (h : pe sc loc σ 12 e = some (.tup [v1, v2, v3, v4])) (p : Q .next ((x4, v4) :: (x3, v3) :: (x2, v2) :: (x1, v1) :: loc) σ)
    (h1 : (stores sc x1 && stores sc x2 && stores sc x3 && stores sc x4) = true := by rfl) (hc : notComp e = true := by rfl)
    (ht : ∀ env, swappedStores [.Tuple [.Name x1 p1, .Name x2 p2, .Name x3 p3, .Name x4 p4] q p'] e env = pure none := by intros; rfl) : TS cx n sc loc σ (.Assign [.Tuple [.Name x1 p1, .Name x2 p2, .Name x3 p3, .Name x4 p4] q p'] e pos) Q := by
  simp only [Bool.and_eq_true] at h1
  exact TS_assignTup (ex c h (TA_tup (TAs_cons (TA_name (TAs_cons (TA_name (TAs_cons (TA_name (TAs_cons (TA_name (TAs_nil p) h1.2)) h1.1.2)) h1.1.1.2)) h1.1.1.1)))) hc ht
theorem nxt {s : Stmt} {r : List Stmt} (h : TS cx n sc loc σ s (Then cx n sc r Q)) : Then cx n sc (s :: r) Q .next loc σ := TSs_cons h
theorem nx0' {s : Stmt} {r : List Stmt} (h : TS cx n sc loc σ s (Then cx n sc r Q)) : Then cx n sc (s :: r) Q .next loc σ := TSs_cons h
theorem nx0 {s : Stmt} {r : List Stmt} (h : TS cx n sc loc σ s (Then cx n sc r Q)) : TSs cx n sc loc σ [] (Then cx n sc (s :: r) Q) := TSs_nil (TSs_cons h)
/-- a test that holds, that does not hold -/
theorem ifT (c : CxOk cx) {e : Expr} {s t : List Stmt} {b : Bool} (h : pe sc loc σ 12 e = some (.bool b)) (p : TSs cx n sc loc σ s Q) (hb : b = true := by rfl) : TS cx n sc loc σ (.If e s t pos) Q := by subst hb; exact TS_if (tx c h p)
theorem ifF (c : CxOk cx) {e : Expr} {s : List Stmt} {b : Bool} (h : pe sc loc σ 12 e = some (.bool b)) (p : Q .next loc σ) (hb : b = false := by rfl) : TS cx n sc loc σ (.If e s [] pos) Q := by subst hb; exact TS_if (tx c h (TSs_nil p))
/-- a call of a def with two arguments -/
theorem TopOk.fn' (c : TopOk cx) (k : Nat) (h : k < 32 ∧ 7 ≤ k ∧ k ≠ 9 ∧ k ≠ 20 := by decide) : fn k ∈ recsOf cx.p := c.fns k h.1 h.2.1 h.2.2.1 h.2.2.2
theorem cl2 (c : CxOk cx) {x : Str} {p : Pos} {a b : Expr} {va vb : V} {d : DefRec} (hd : d ∈ recsOf cx.p) (ha : pe sc loc σ 12 a = some va) (hb : pe sc loc σ 12 b = some vb) (h : TF cx n d [va, vb] σ P) (hx : d.name = x := by rfl)
    (hk : sc.names.lookup x = some .globalImplicit := by rfl) (hn : nameOk x = true := by rfl) (hs : (!isStar a && !isStar b) = true := by rfl) : TE cx (n + 1) sc loc σ (.Call (.Name x p) [a, b] [] pos) P := by
  simp only [Bool.and_eq_true] at hs
  have s1 : ∀ env, starEach [a, b] env = (false, eval a env) :: starEach [b] env := fun env => by cases a <;> first | rfl | cases hs.1
  have s2 : ∀ env, starEach [b] env = (false, eval b env) :: starEach [] env := fun env => by cases b <;> first | rfl | cases hs.2
  exact TE_callD ⟨hd, hx⟩ (TEs_cons (ex c ha (TEs_cons (ex c hb (TEs_nil h)) s2)) s1) hk hn (fun env => ⟨_, _, by rw [s1, s2]; rfl, rfl⟩)
theorem sFits (c : TopOk cx) {x : Cell} {b : Bool} (hw : (x.i.map V.int).length ≤ 10) (hp : PmB (x.i.map V.int).length x.k x.p b) (h : P (.bool b) σ) : TF cx (n + 1) (fn 14) [x.v] σ P := by
  refine ⟨[S "cell"], bd1, rfl, TSs_cons (asg4 c.toCxOk (v1 := .str x.k) (v2 := .int x.o) (v3 := .tup (x.i.map V.int)) (v4 := x.p) rfl ?_)⟩
  obtain ⟨k, o, i, p⟩ := x
  have c' := c.toCxOk
  cases hp with
  | lutN => exact nxt (ifT c' rfl (TSs_cons (TS_ret (cl2 c' (c.fn' 13) (va := .none) rfl rfl (sTab0 c' h)))))
  | lutI t => exact nxt (ifT c' rfl (TSs_cons (TS_ret (cl2 c' (c.fn' 13) (va := .int t) rfl rfl (sTab1 c' hw h)))))
  | cellN a => exact nxt (ifF c' rfl (nx0' (ifF c' rfl (nx0' (ifT c' rfl (TSs_cons (TS_ret (TE_op (TBo_and (ex c' (v := .bool false) rfl ⟨_, rfl, h⟩))))))))))
  | cellT a t => exact nxt (ifF c' rfl (nxt (ifF c' rfl (nxt (ifT c' rfl (TSs_cons (TS_ret (TE_op (TBo_and (ex c' (v := .bool true) rfl ⟨_, rfl, TBo_one (cl2 c' (c.fn' 13) (va := .int t) rfl rfl (sTab1 c' hw h))⟩))))))))))
  | flop x nm y h1 h2 =>
    refine nxt (ifF c' rfl (nxt (ifF c' rfl (nxt (ifF c' rfl (nxt (ifT c' rfl (TSs_cons (rtn c' (v := .bool (foldB .And [true, hits [.int 0, .int 1] (.int x), hits [.int 0, .int 1] (.int y)])) rfl ?_)))))))))
    rw [h1, h2]
    simp only [foldB, List.all_cons, List.all_nil, id, Bool.true_and, Bool.and_true]
    exact h
  | latB nm => exact nxt (ifF c' rfl (nxt (ifF c' rfl (nxt (ifF c' rfl (nxt (ifF c' rfl (nxt (ifT c' rfl (TSs_cons (rtn c' (v := .bool (foldB .And [false, hits [.int 0, .int 1] (.int 1)])) rfl h)))))))))))
  | latG nm x h1 =>
    refine nxt (ifF c' rfl (nxt (ifF c' rfl (nxt (ifF c' rfl (nxt (ifF c' rfl (nxt (ifT c' rfl (TSs_cons (rtn c' (v := .bool (foldB .And [true, hits [.int 0, .int 1] (.int x)])) rfl ?_)))))))))))
    rw [h1]
    exact h
  | nonN _ h1 h2 h3 h4 h5 =>
    refine nxt (ifF c' (b := k == S "lut") rfl (nxt (ifT c' rfl (TSs_cons (rtn c' (v := .bool (!hits [.str (S "cell"), .str (S "flop"), .str (S "latch")] (.str k))) rfl ?_)))) h1)
    rw [h5]
    exact h
  | nonI _ h1 h2 h3 h4 => exact nxt (ifF c' (b := k == S "lut") rfl (nxt (ifF c' rfl (nxt (ifF c' (b := k == S "cell") rfl (nxt (ifF c' (b := k == S "flop") rfl (nxt (ifF c' (b := k == S "latch") rfl (nxt (rtn c' (v := .bool false) rfl h)) h4)) h3)) h2)))) h1)
theorem sGood (c : TopOk cx) {x : Cell} {b : Bool} (hw : (x.i.map V.int).length ≤ 10) (hp : PmB (x.i.map V.int).length x.k x.p b) (h : P (.bool b) σ) : TF cx (n + 1) (fn 27) [x.v] σ P := by
  refine ⟨[S "cell"], bd1, rfl, TSs_cons (asg4 c.toCxOk (v1 := .str x.k) (v2 := .int x.o) (v3 := .tup (x.i.map V.int)) (v4 := x.p) rfl ?_)⟩
  obtain ⟨k, o, i, p⟩ := x
  have c' := c.toCxOk
  cases hp with
  | lutN => exact nxt (ifT c' rfl (TSs_cons (TS_ret (cl2 c' (c.fn' 26) (va := .none) rfl rfl (sLTab0 c' h)))))
  | lutI t => exact nxt (ifT c' rfl (TSs_cons (TS_ret (cl2 c' (c.fn' 26) (va := .int t) rfl rfl (sLTab1 c' hw h)))))
  | cellN a => exact nxt (ifF c' rfl (nxt (ifT c' rfl (TSs_cons (TS_ret (TE_op (TBo_and (ex c' (v := .bool true) rfl ⟨_, rfl, TBo_and (ex c' (v := .bool false) rfl ⟨_, rfl, h⟩)⟩))))))))
  | cellT a t => exact nxt (ifF c' rfl (nxt (ifT c' rfl (TSs_cons (TS_ret (TE_op (TBo_and (ex c' (v := .bool true) rfl ⟨_, rfl, TBo_and (ex c' (v := .bool true) rfl ⟨_, rfl, TBo_one (cl2 c' (c.fn' 26) (va := .int t) rfl rfl (sLTab1 c' hw h))⟩)⟩))))))))
  | flop x nm y h1 h2 =>
    refine nxt (ifF c' rfl (nxt (ifF c' rfl (nxt (ifT c' rfl (TSs_cons (rtn c' (v := .bool (foldB .And [true, true, decide (y < 2)])) rfl ?_)))))))
    simp only [foldB, List.all_cons, List.all_nil, id, Bool.true_and, Bool.and_true]
    exact h
  | latB nm => exact nxt (ifF c' rfl (nxt (ifF c' rfl (nxt (ifF c' rfl (nxt (ifT c' rfl (TSs_cons (rtn c' (v := .bool false) rfl h)))))))))
  | latG nm x h1 => exact nxt (ifF c' rfl (nxt (ifF c' rfl (nxt (ifF c' rfl (nxt (ifT c' rfl (TSs_cons (rtn c' (v := .bool true) rfl h)))))))))
  | nonN _ h1 h2 h3 h4 h5 => exact nxt (ifF c' (b := k == S "lut") rfl (nxt (ifF c' (b := k == S "cell") rfl (nxt (ifF c' (b := k == S "flop") rfl (nxt (ifF c' (b := k == S "latch") rfl (nxt (rtn c' (v := .bool true) rfl h)) h4)) h3)) h2)) h1)
  | nonI _ h1 h2 h3 h4 => exact nxt (ifF c' (b := k == S "lut") rfl (nxt (ifF c' (b := k == S "cell") rfl (nxt (ifF c' (b := k == S "flop") rfl (nxt (ifF c' (b := k == S "latch") rfl (nxt (rtn c' (v := .bool false) rfl h)) h4)) h3)) h2)) h1)
def wideV (k : Str) : V :=
  bif hits [.str (S "buf"), .str (S "not")] (.str k) then .int 1 else
  bif hits [.str (S "and"), .str (S "or"), .str (S "xor"), .str (S "nand"), .str (S "nor"), .str (S "xnor")] (.str k) then .int 2 else
  bif k == S "mux" then .int 3 else
  bif hits [.str (S "flop"), .str (S "latch")] (.str k) then .int 4 else .none
theorem sWide (c : CxOk cx) {k : Str} (h : P (wideV k) σ) : TF cx n (fn 23) [.str k] σ P := by
  refine ⟨[S "kind"], bd1, rfl, TSs_cons (iff' c (b := hits [.str (S "buf"), .str (S "not")] (.str k)) rfl (fun e => TSs_cons (rtn c (v := .int 1) rfl ?_)) fun e1 => TSs_nil
    (TSs_cons (iff' c (b := hits [.str (S "and"), .str (S "or"), .str (S "xor"), .str (S "nand"), .str (S "nor"), .str (S "xnor")] (.str k)) rfl (fun e => TSs_cons (rtn c (v := .int 2) rfl ?_)) fun e2 => TSs_nil
    (TSs_cons (iff' c (b := k == S "mux") rfl (fun e => TSs_cons (rtn c (v := .int 3) rfl ?_)) fun e3 => TSs_nil
    (TSs_cons (TS_ret (TE_ite (tx c (b := hits [.str (S "flop"), .str (S "latch")] (.str k)) rfl (br (fun e4 => ex c (v := .int 4) rfl ?_) fun e4 => ex c (v := .none) rfl ?_))))))))))⟩
  all_goals (unfold wideV at h; simp only [*, cond_true, cond_false] at h; exact h)
end
end Mine
open PySem PySem.W PyProof.Rows PySem.Calls
set_option Elab.async false
set_option maxRecDepth 4000
namespace Mine
structure Net where
  cnt : Int
  ins : List (Str × List Int)
  outs : List (Str × List Int)
  cells : List Cell
abbrev Keep (σ σ' : List O) : Prop := ∀ (j : Nat) (o : O), σ[j]? = some o → σ'[j]? = some o
theorem Keep.refl (σ : List O) : Keep σ σ := fun _ _ e => e
theorem Keep.trans {σ σ' σ'' : List O} (a : Keep σ σ') (b : Keep σ' σ'') : Keep σ σ'' := fun j o e => b j o (a j o e)
theorem Keep.app (σ τ : List O) : Keep σ (σ ++ τ) := fun _ _ e => by rw [List.getElem?_append_left (List.getElem?_eq_some_iff.mp e).1]; exact e
theorem Keep.set {σ σ' : List O} (k : Keep σ σ') {i : Nat} {o : O} (h : σ.length ≤ i) : Keep σ (σ'.set i o) := fun j o' e => by
  have := (List.getElem?_eq_some_iff.mp e).1
  rw [List.getElem?_set_ne (by omega)]; exact k j o' e
theorem getA {σ : List O} {o : O} : (σ ++ [o])[σ.length]? = some o := by rw [List.getElem?_append_right (Nat.le_refl _), Nat.sub_self]; rfl
theorem getS {σ : List O} {i : Nat} {o o' : O} (e : σ[i]? = some o) : (σ.set i o')[i]? = some o' := List.getElem?_set_self (List.getElem?_eq_some_iff.mp e).1
abbrev Ports (σ : List O) (l : List (Str × List Int)) (vs : List V) : Prop := All2 (fun p v => ∃ r, v = .tup [.str p.1, .ref r] ∧ σ[r]? = some (.list (p.2.map V.int))) l vs
/-- a netlist stands -/
theorem InI.keep {σ σ' : List O} {i d : Nat} {l : List (Str × V)} (h : InI σ i d l) (k : Keep σ σ') : InI σ' i d l := ⟨k _ _ h.obj, k _ _ h.dict⟩
structure NetAt (σ : List O) (N : Nat) (t : Net) : Prop where
  ex : ∃ d nm a b e pi po, InI σ N d [(S "name", nm), (S "count", .int t.cnt), (S "inputs", .ref a), (S "outputs", .ref b), (S "cells", .ref e)] ∧ σ[a]? = some (.list pi) ∧ Ports σ t.ins pi ∧ σ[b]? = some (.list po) ∧ Ports σ t.outs po ∧ σ[e]? = some (.list (t.cells.map Cell.v))
theorem NetAt.keep {σ σ' : List O} {N : Nat} {t : Net} (h : NetAt σ N t) (k : Keep σ σ') : NetAt σ' N t := by
  obtain ⟨d, nm, a, b, e, pi, po, h1, h2, h3, h4, h5, h6⟩ := h.ex
  have kp : ∀ {l vs}, Ports σ l vs → Ports σ' l vs := fun r => r.imp fun _ _ ⟨r, q, w⟩ => ⟨r, q, k _ _ w⟩
  exact ⟨d, nm, a, b, e, pi, po, ⟨k _ _ h1.obj, k _ _ h1.dict⟩, k _ _ h2, kp h3, k _ _ h4, kp h5, k _ _ h6⟩
section
variable {cx : Cx} {n : Nat} {sc : Scope} {loc : Loc} {σ : List O} {P : V → List O → Prop} {Q : Fl → Loc → List O → Prop} {pos : Pos} {N : Nat} {t : Net}

theorem at_ (c : CxOk cx) {x a : Str} {px : Pos} {i d : Nat} {l : List (Str × V)} {v : V} (hx : lk loc x = some (.ref i)) (e : InI σ i d l) (hv : lk l a = some v) (p : P v σ) (ha : attrNames.contains a = true := by rfl) (hn : nameOk x = true := by rfl) : TE cx n sc loc σ (.Attribute (.Name x px) a pos) P := by
  obtain ⟨w1, w2⟩ := c.attr a (List.contains_iff_mem.mp ha)
  exact TE_attr (TE_var hx (TO_getAttr e w1 w2 hv p) hn)
theorem at_cells (c : CxOk cx) {x : Str} {px : Pos} (h : NetAt σ N t) (hx : lk loc x = some (.ref N)) (p : ∀ e, σ[e]? = some (.list (t.cells.map Cell.v)) → P (.ref e) σ) (hn : nameOk x = true := by rfl) : TE cx n sc loc σ (.Attribute (.Name x px) (S "cells") pos) P := by
  obtain ⟨d, nm, a, b, e, pi, po, h1, h2, h3, h4, h5, h6⟩ := h.ex
  exact at_ c hx h1 rfl (p e h6) rfl hn
theorem at_ins (c : CxOk cx) {x : Str} {px : Pos} (h : NetAt σ N t) (hx : lk loc x = some (.ref N)) (p : ∀ e vs, σ[e]? = some (.list vs) → Ports σ t.ins vs → P (.ref e) σ) (hn : nameOk x = true := by rfl) : TE cx n sc loc σ (.Attribute (.Name x px) (S "inputs") pos) P := by
  obtain ⟨d, nm, a, b, e, pi, po, h1, h2, h3, h4, h5, h6⟩ := h.ex
  exact at_ c hx h1 rfl (p a pi h2 h3) rfl hn
theorem at_outs (c : CxOk cx) {x : Str} {px : Pos} (h : NetAt σ N t) (hx : lk loc x = some (.ref N)) (p : ∀ e vs, σ[e]? = some (.list vs) → Ports σ t.outs vs → P (.ref e) σ) (hn : nameOk x = true := by rfl) : TE cx n sc loc σ (.Attribute (.Name x px) (S "outputs") pos) P := by
  obtain ⟨d, nm, a, b, e, pi, po, h1, h2, h3, h4, h5, h6⟩ := h.ex
  exact at_ c hx h1 rfl (p b po h4 h5) rfl hn
theorem at_cnt (c : CxOk cx) {x : Str} {px : Pos} (h : NetAt σ N t) (hx : lk loc x = some (.ref N)) (p : P (.int t.cnt) σ) (hn : nameOk x = true := by rfl) : TE cx n sc loc σ (.Attribute (.Name x px) (S "count") pos) P := by
  obtain ⟨d, nm, a, b, e, pi, po, h1, h2, h3, h4, h5, h6⟩ := h.ex
  exact at_ c hx h1 rfl p rfl hn

/-- a thing appended to a list -/
theorem apd (c : CxOk cx) {x : Str} {e : Expr} {v : V} {i : Nat} {l : List V} {px pa pc : Pos} (hx : lk loc x = some (.ref i)) (e1 : σ[i]? = some (.list l)) (h : pe sc loc σ 12 e = some v) (hz : l.length < sizeLine) (p : Q .next loc (σ.set i (.list (l ++ [v])))) (hn : nameOk x = true := by rfl)
    (ha : ∀ env, starEach [e] env = (false, eval e env) :: starEach [] env := by intro; rfl)
    (hm : ∀ env, ∃ pl, eval (.Call (.Attribute (.Name x px) (S "append") pa) [e] [] pc) env = (do
      let ov ← eval (.Name x px) env
      standAt pa.atName
      let (f, first) ← holding [ov] (getMethod ov (S "append") pl)
      callWith pc f first (backTo pc (starEach [e] env)) (backToKw pc (keywordEach [] env))) := by intro; exact ⟨_, rfl⟩) : TS cx n sc loc σ (.Expr (.Call (.Attribute (.Name x px) (S "append") pa) [e] [] pc) pos) Q :=
  TS_expr (TE_meth PySem.F.plainAttrs_list PySem.F.slot_list_append PySem.F.type_list_append (TE_var hx ⟨ty_list e1, TEs_cons (ex c h (TEs_nil (TO_append e1 p hz))) ha⟩ hn) (fun env => ⟨eval e env, [], by rw [ha]; rfl, rfl⟩) hm)
/-- a new empty list in a name -/
theorem new0 {x : Str} {px pe : Pos} (p : Q .next ((x, .ref σ.length) :: loc) (σ ++ [.list []])) (hx : stores sc x = true := by rfl) : TS cx n sc loc σ (.Assign [.Name x px] (.List [] pe) pos) Q := TS_assign (TE_list (TEs_nil ⟨Nat.zero_le _, p⟩)) hx

/-! faults -/
abbrev flt (s : Str) (k : Int) : V := .tup [.str s, .int k]
structure WfC (g : Cell → Bool) (x : Cell) : Prop where
  len : (x.i.map V.int).length ≤ 10
  par : PmB (x.i.map V.int).length x.k x.p (g x)
def cf (g : Cell → Bool) (x : Cell) : Option Str :=
  bif expIn x.k == -2 then some (S "unknown_kind") else bif foldB .And [decide (expIn x.k ≥ 0), ((x.i.map V.int).length : Int) != expIn x.k] then some (S "wrong_ins") else bif !g x then some (S "wrong_param") else none
def cellF (g : Cell → Bool) (l : List Cell) : List V := l.filterMap fun x => (cf g x).map fun s => flt s x.o
theorem cellF_take {g : Cell → Bool} {l : List Cell} {i : Nat} {x : Cell} (h : l[i]? = some x) : cellF g (l.take (i + 1)) = cellF g (l.take i) ++ ((cf g x).map fun s => flt s x.o).toList := by
  unfold cellF
  rw [List.take_add_one, h, List.filterMap_append]
  simp only [Option.toList_some, List.filterMap_cons, List.filterMap_nil]
  cases (cf g x) <;> rfl
theorem lenF {α : Type} {f : α → Option V} {l : List α} {i : Nat} (h : l.length ≤ 1000) : ((l.take i).filterMap f).length < sizeLine := by
  have := List.length_filterMap_le f (l.take i)
  rw [List.length_take] at this
  unfold sizeLine; omega
theorem sCellF (c : TopOk cx) (hN : NetAt σ N t) {g : Cell → Bool} (hg : ∀ x ∈ t.cells, WfC g x) (hl : t.cells.length ≤ 1000) (p : ∀ r σ', Keep σ σ' → σ'[r]? = some (.list (cellF g t.cells)) → P (.ref r) σ') : TF cx (n + 2) (fn 15) [.ref N] σ P := by
  refine ⟨[S "netlist"], bd1, rfl, TSs_cons (new0 (nxt ?_))⟩
  obtain ⟨d, nm, a, b, e, pi, po, h1, h2, h3, h4, h5, h6⟩ := hN.ex
  have k0 := Keep.app σ [.list []]
  refine TS_for (src_list (j := e) (l := t.cells.map Cell.v)) (fun _ : Unit => [(S "faults", .ref σ.length), (S "netlist", .ref N)]) (fun i _ σ' => Keep σ σ' ∧ σ'[σ.length]? = some (.list (cellF g (t.cells.take i))))
    (at_ c.toCxOk (loc := [(S "faults", .ref σ.length), (S "netlist", .ref N)]) rfl (h1.keep k0) rfl ⟨rfl, (), Sub.refl _, k0, getA⟩) (fun i _ σ' h => h.1 _ _ h6) (fun i v _ σ' hv h => ?_) fun _ σ' h => ?_
  · rw [List.getElem?_map] at hv
    obtain ⟨x, hx, rfl⟩ := Option.map_eq_some_iff.mp hv
    have w := hg x (List.mem_of_getElem? hx)
    have c' := c.toCxOk
    have ta := cellF_take (g := g) hx
    have fin : ∀ {τ l}, Sub [(S "faults", .ref σ.length), (S "netlist", .ref N)] l → Keep σ τ → τ[σ.length]? = some (.list (cellF g (t.cells.take i) ++ ((cf g x).map fun s => flt s x.o).toList)) →
        ∃ _ : Unit, Sub [(S "faults", .ref σ.length), (S "netlist", .ref N)] l ∧ Keep σ τ ∧ τ[σ.length]? = some (.list (cellF g (t.cells.take (i + 1)))) := fun s k h => ⟨(), s, k, by rw [ta]; exact h⟩
    have sb : Sub [(S "faults", .ref σ.length), (S "netlist", .ref N)] ((S "expected", .int (expIn x.k)) :: (S "cell", x.v) :: [(S "faults", .ref σ.length), (S "netlist", .ref N)]) := .cons rfl (.cons rfl .nil)
    have put : ∀ {s}, cf g x = some s → ∃ _ : Unit, Sub [(S "faults", .ref σ.length), (S "netlist", .ref N)] ((S "expected", .int (expIn x.k)) :: (S "cell", x.v) :: [(S "faults", .ref σ.length), (S "netlist", .ref N)]) ∧
        Keep σ (σ'.set σ.length (.list (cellF g (t.cells.take i) ++ [flt s x.o]))) ∧ (σ'.set σ.length (.list (cellF g (t.cells.take i) ++ [flt s x.o])))[σ.length]? = some (.list (cellF g (t.cells.take (i + 1)))) := fun e => fin sb (h.1.set (Nat.le_refl _)) (by rw [e]; exact getS h.2)
    refine TA_name (TSs_cons (TS_assign (TE_callD ⟨c.fn' 12, rfl⟩ (TEs_cons (ex c' (v := .str x.k) rfl (TEs_nil (sExp c' (nxt (iff' c' (b := expIn x.k == -2) rfl (fun q => ?_) fun q => ?_)))))))))
    · exact TSs_cons (apd c' (v := flt (S "unknown_kind") x.o) (l := cellF g (t.cells.take i)) rfl h.2 rfl (lenF hl) (TSs_nil (TSs_nil (put (by unfold cf; rw [q]; rfl)))))
    · refine TSs_cons (iff' c' (b := foldB .And [decide (expIn x.k ≥ 0), ((x.i.map V.int).length : Int) != expIn x.k]) rfl (fun q' => ?_) fun q' => ?_)
      · exact TSs_cons (apd c' (v := flt (S "wrong_ins") x.o) (l := cellF g (t.cells.take i)) rfl h.2 rfl (lenF hl) (TSs_nil (TSs_nil (TSs_nil (put (by unfold cf; rw [q, q']; rfl))))))
      · refine TSs_cons (TS_if (TB_not (TB_val (TE_callD ⟨c.fn' 14, rfl⟩ (TEs_cons (ex c' (v := x.v) rfl (TEs_nil (sFits c w.len w.par ⟨g x, rfl, br (fun q2 => ?_) fun q2 => ?_⟩))))))))
        · exact TSs_cons (apd c' (v := flt (S "wrong_param") x.o) (l := cellF g (t.cells.take i)) rfl h.2 rfl (lenF hl) (TSs_nil (TSs_nil (TSs_nil (TSs_nil (put (by unfold cf; rw [q, q', q2]; rfl)))))))
        · exact TSs_nil (TSs_nil (TSs_nil (TSs_nil (fin sb h.1 (by rw [show cf g x = none by unfold cf; rw [q, q', q2]; rfl, Option.map_none, Option.toList_none, List.append_nil]; exact h.2)))))
  · rw [List.length_map, List.take_length] at h
    exact nxt (rtn c.toCxOk (v := .ref σ.length) rfl (p _ _ h.1 h.2))
end
end Mine
open PySem PySem.W PyProof.Rows PySem.Calls
set_option Elab.async false
set_option maxRecDepth 4000
namespace Mine
/-! what is among plain values -/
theorem hits_strs {l : List Str} {x : Str} : hits (l.map V.str) (.str x) = decide (x ∈ l) := by
  unfold hits
  rw [Bool.eq_iff_iff, List.any_eq_true, decide_eq_true_eq]
  constructor
  · rintro ⟨y, hy, e⟩
    obtain ⟨v, hv, rfl⟩ := List.mem_map.mp hy
    obtain ⟨a, ha, rfl⟩ := List.mem_map.mp hv
    simp only [py, PyData.eqv, beq_iff_eq] at e
    exact e ▸ ha
  · intro h
    exact ⟨_, List.mem_map_of_mem (List.mem_map_of_mem h), by simp [py, PyData.eqv]⟩
theorem hits_ints {l : List Int} {x : Int} : hits (l.map V.int) (.int x) = decide (x ∈ l) := by
  unfold hits
  rw [Bool.eq_iff_iff, List.any_eq_true, decide_eq_true_eq]
  constructor
  · rintro ⟨y, hy, e⟩
    obtain ⟨v, hv, rfl⟩ := List.mem_map.mp hy
    obtain ⟨a, ha, rfl⟩ := List.mem_map.mp hv
    simp only [py, PyData.eqv, beq_iff_eq] at e
    exact e ▸ ha
  · intro h
    exact ⟨_, List.mem_map_of_mem (List.mem_map_of_mem h), by simp [py, PyData.eqv]⟩
theorem oks_strs (l : List Str) : oks (l.map V.str) = true := List.all_eq_true.mpr fun x hx => by obtain ⟨a, _, rfl⟩ := List.mem_map.mp hx; rfl
theorem oks_ints (l : List Int) : oks (l.map V.int) = true := List.all_eq_true.mpr fun x hx => by obtain ⟨a, _, rfl⟩ := List.mem_map.mp hx; rfl
section
variable {cx : Cx} {n : Nat} {sc : Scope} {loc : Loc} {σ : List O} {P : V → List O → Prop} {Q : Fl → Loc → List O → Prop} {pos : Pos} {N : Nat} {t : Net}

theorem pev (c : CxOk cx) {e : Expr} {v : V} (h : pe sc loc σ 12 e = some v) : EvE cx n sc loc σ e v := (pe_ok c 12 _).1 _ h
theorem EvE.tup2 {a b : Expr} {va vb : V} {k : Nat} (ha : EvE cx n sc loc σ a va) (hb : EvE cx n sc loc σ b vb) (he : (!isStar a && !isStar b) = true := by rfl) : EvE cx n sc loc σ (.Tuple [a, b] k pos) (.tup [va, vb]) := fun P p => by
  simp only [Bool.and_eq_true] at he
  exact TE_tup (TEs_cons (ha _ (TEs_cons (hb _ (TEs_nil ⟨(by decide : 2 ≤ sizeLine), p⟩)) (fun env => by cases b <;> first | rfl | cases he.2))) (fun env => by cases a <;> first | rfl | cases he.1))
/-- a thing appended to a list -/
theorem apd' (c : CxOk cx) {x : Str} {e : Expr} {v : V} {i : Nat} {l : List V} {px pa pc : Pos} (hx : lk loc x = some (.ref i)) (e1 : σ[i]? = some (.list l)) (h : EvE cx n sc loc σ e v) (hz : l.length < sizeLine) (p : Q .next loc (σ.set i (.list (l ++ [v])))) (hn : nameOk x = true := by rfl)
    (ha : ∀ env, starEach [e] env = (false, eval e env) :: starEach [] env := by intro; rfl)
    (hm : ∀ env, ∃ pl, eval (.Call (.Attribute (.Name x px) (S "append") pa) [e] [] pc) env = (do
      let ov ← eval (.Name x px) env
      standAt pa.atName
      let (f, first) ← holding [ov] (getMethod ov (S "append") pl)
      callWith pc f first (backTo pc (starEach [e] env)) (backToKw pc (keywordEach [] env))) := by intro; exact ⟨_, rfl⟩) : TS cx n sc loc σ (.Expr (.Call (.Attribute (.Name x px) (S "append") pa) [e] [] pc) pos) Q :=
  TS_expr (TE_meth PySem.F.plainAttrs_list PySem.F.slot_list_append PySem.F.type_list_append (TE_var hx ⟨ty_list e1, TEs_cons (h _ (TEs_nil (TO_append e1 p hz))) ha⟩ hn) (fun env => ⟨eval e env, [], by rw [ha]; rfl, rfl⟩) hm)
/-- a new empty dict in a name -/
theorem newD {x : Str} {px pe : Pos} (p : Q .next ((x, .ref σ.length) :: loc) (σ ++ [.di []])) (hx : stores sc x = true := by rfl) : TS cx n sc loc σ (.Assign [.Name x px] (.Dict [] [] pe) pos) Q := TS_assign (TE_dict0 p) hx
/-- the first of a list, or -1 -/
abbrev hd1 (l : List Int) : Int := l.headD (-1)
theorem ev_first (c : CxOk cx) {x : Str} {r : Nat} {l : List Int} {p1 p2 p3 p4 p5 p6 p7 p8 p9 p10 : Pos} {q1 q2 q3 : Nat} (hx : lk loc x = some (.ref r)) (e : σ[r]? = some (.list (l.map V.int))) (hk : sc.names.lookup (S "len") = some .globalImplicit) (hn : nameOk x = true := by rfl) :
    EvE cx n sc loc σ (.IfExp (.Compare (.Call (.Name (S "len") p1) [.Name x p2] [] p3) [.Gt] [.Constant (.int 0) q1 p4] p5) (.Subscript (.Name x p6) (.Constant (.int 0) q2 p7) p8) (.UnaryOp .USub (.Constant (.int 1) q3 p9) p10) pos) (.int (hd1 l)) := fun P p => by
  refine TE_ite (TB_cmp (TE_callB c.len (TEs_cons (TE_var hx (TEs_nil (TO_lenL e (TE_int (TO_intB (fun k => PyProof.Rows.gt_int k) ⟨_, rfl, br (fun q => ?_) fun q => ?_⟩)))) hn)) hk))
  · cases l with
    | nil => cases q
    | cons a l => exact TE_sub (TE_var hx (TE_int (TO_itemL e (Int.le_refl _) rfl p fun _ _ => rfl)) hn)
  · cases l with
    | nil => exact TE_neg (TE_int ⟨1, rfl, p⟩)
    | cons a l => simp at q

/-! ports and states that come twice -/
def portN (l : List (Str × List Int)) (k : Nat) : List V := (List.range k).filterMap fun j => (l[j]?).bind fun p => if p.1 ∈ (l.take j).map (·.1) then some (flt (S "duplicate_port") (hd1 p.2)) else none
theorem portN_succ {l : List (Str × List Int)} {k : Nat} {p : Str × List Int} (h : l[k]? = some p) : portN l (k + 1) = portN l k ++ if p.1 ∈ (l.take k).map (·.1) then [flt (S "duplicate_port") (hd1 p.2)] else [] := by
  unfold portN
  rw [List.range_succ, List.filterMap_append]
  simp only [List.filterMap_cons, List.filterMap_nil, h, Option.bind_some]
  split <;> split <;> simp_all
def stName (k : Str) (p : V) : Option Str := (toTup p).bind fun l => (bif k == S "flop" then l[1]? else l[0]?).bind toStr
def stN (g : Cell → Bool) (x : Cell) : Option Str := bif isSt x.k && g x then stName x.k x.p else none
def dupN (g : Cell → Bool) (l : List Cell) (k : Nat) : List V := (List.range k).filterMap fun j => (l[j]?).bind fun x => (stN g x).bind fun nm => if nm ∈ (l.take j).filterMap (stN g) then some (flt (S "duplicate_state") x.o) else none
theorem dupN_succ {g : Cell → Bool} {l : List Cell} {k : Nat} {x : Cell} (h : l[k]? = some x) : dupN g l (k + 1) = dupN g l k ++ ((stN g x).bind fun nm => if nm ∈ (l.take k).filterMap (stN g) then some (flt (S "duplicate_state") x.o) else none).toList := by
  unfold dupN
  rw [List.range_succ, List.filterMap_append]
  simp only [List.filterMap_cons, List.filterMap_nil, h, Option.bind_some]
  generalize ((stN g x).bind fun nm => if nm ∈ (l.take k).filterMap (stN g) then some (flt (S "duplicate_state") x.o) else none) = o
  cases o <;> rfl
theorem filterMap_take {α β : Type} {f : α → Option β} {l : List α} {i : Nat} {x : α} (h : l[i]? = some x) : (l.take (i + 1)).filterMap f = (l.take i).filterMap f ++ (f x).toList := by
  rw [List.take_add_one, h, List.filterMap_append]
  simp only [Option.toList_some, List.filterMap_cons, List.filterMap_nil]
  cases (f x) <;> rfl
theorem map_take {α β : Type} {f : α → β} {l : List α} {i : Nat} {x : α} (h : l[i]? = some x) : (l.take (i + 1)).map f = (l.take i).map f ++ [f x] := by
  rw [List.take_add_one, h, List.map_append]; rfl
theorem lenR {f : Nat → Option V} {k : Nat} (h : k ≤ 1000) : ((List.range k).filterMap f).length < sizeLine := by
  have := List.length_filterMap_le f (List.range k)
  rw [List.length_range] at this
  unfold sizeLine; omega
/-- a state cell with a good parameter has a name -/
theorem st_name {g : Cell → Bool} {x : Cell} (w : WfC g x) (h1 : isSt x.k = true) (h2 : g x = true) : ∃ nm l, x.p = .tup l ∧ (bif x.k == S "flop" then l[1]? else l[0]?) = some (.str nm) ∧ stN g x = some nm := by
  obtain ⟨b, hb, hp⟩ : ∃ b, b = true ∧ PmB (x.i.map V.int).length x.k x.p b := ⟨_, h2, w.par⟩
  unfold stN stName
  rw [h1, h2]
  obtain ⟨k, o, i, p⟩ := x
  dsimp only at hp h1 ⊢
  cases hp with
  | flop x nm y _ _ => exact ⟨nm, _, rfl, rfl, rfl⟩
  | latG nm x _ => exact ⟨nm, _, rfl, rfl, rfl⟩
  | latB nm => cases hb
  | lutN => cases hb
  | cellN a => cases hb
  | lutI t => cases h1
  | cellT a t => cases h1
  | nonN _ _ _ h3 h4 _ => unfold isSt foldB at h1; rw [h3, h4] at h1; cases h1
  | nonI _ _ _ h3 h4 => cases hb
end
end Mine
open PySem PySem.W PyProof.Rows PySem.Calls
set_option Elab.async false
set_option maxRecDepth 4000
namespace Mine
theorem put_len {α β : Type} [DecidableEq α] {l : List (α × β)} {k : α} {v : β} : (put l k v).length ≤ l.length + 1 := by
  induction l with
  | nil => exact Nat.le_refl _
  | cons a l ih =>
    obtain ⟨k1, v1⟩ := a
    unfold put
    split
    · exact Nat.le_succ _
    · exact Nat.succ_le_succ ih
/-- a dict used as a set -/
def SetAt (cx : Cx) {K : Type} [DecidableEq K] (D : DK cx K) (σ : List O) (i : Nat) (ks : List K) : Prop := ∃ o m, σ[i]? = some o ∧ DR D o m ∧ (∀ x, (lk m x).isSome = decide (x ∈ ks)) ∧ m.length ≤ ks.length
section
variable {cx : Cx} {n : Nat} {sc : Scope} {loc : Loc} {σ : List O} {P : V → List O → Prop} {Q : Fl → Loc → List O → Prop} {pos : Pos} {N : Nat} {t : Net}

theorem SetAt.newS : SetAt cx (dS cx) (σ ++ [.di []]) σ.length [] := ⟨_, [], getA, dS_n, fun _ => rfl, Nat.le_refl _⟩
theorem SetAt.keep {K : Type} [DecidableEq K] {D : DK cx K} {σ' : List O} {i : Nat} {ks : List K} (h : SetAt cx D σ i ks) (k : ∀ o, σ[i]? = some o → σ'[i]? = some o) : SetAt cx D σ' i ks := by
  obtain ⟨o, m, a, b⟩ := h; exact ⟨o, m, k o a, b⟩
theorem SetAt.put {i : Nat} {ks : List Str} {k : Str} {v : V} {o : O} {m : List (Str × V)} (h : σ[i]? = some o) (hm : ∀ x, (lk m x).isSome = decide (x ∈ ks)) (hl : m.length ≤ ks.length) : SetAt cx (dS cx) (σ.set i (.ds (put m k v))) i (ks ++ [k]) :=
  ⟨_, _, getS h, dS_r, fun x => by
    rw [lk_put]
    by_cases q : k = x
    · subst q; simp
    · rw [if_neg q, hm]; simp [Ne.symm q], by rw [List.length_append]; exact Nat.le_trans put_len (Nat.succ_le_succ hl)⟩
theorem SetAt.putI {i : Nat} {ks : List Int} {k : Int} {v : V} {o : O} {m : List (Int × V)} (h : σ[i]? = some o) (hm : ∀ x, (lk m x).isSome = decide (x ∈ ks)) (hl : m.length ≤ ks.length) : SetAt cx (dI cx) (σ.set i (.di (Mine.put m k v))) i (ks ++ [k]) :=
  ⟨_, _, getS h, dI_r, fun x => by
    rw [lk_put]
    by_cases q : k = x
    · subst q; simp
    · rw [if_neg q, hm]; simp [Ne.symm q], by rw [List.length_append]; exact Nat.le_trans put_len (Nat.succ_le_succ hl)⟩
theorem Ports.get {l : List (Str × List Int)} {vs : List V} (h : Ports σ l vs) {i : Nat} {v : V} (e : vs[i]? = some v) : ∃ p r, l[i]? = some p ∧ v = .tup [.str p.1, .ref r] ∧ σ[r]? = some (.list (p.2.map V.int)) := by
  have hl : i < l.length := by rw [← h.length]; exact (List.getElem?_eq_some_iff.mp e).1
  obtain ⟨w, e1, r, e2, e3⟩ := All2.get h (List.getElem?_eq_getElem hl)
  rw [e] at e1; cases e1
  exact ⟨_, r, List.getElem?_eq_getElem hl, e2, e3⟩
theorem getB {j : Nat} {o : O} {τ : List O} (e : σ[j]? = some o) : (σ ++ τ)[j]? = some o := Keep.app _ _ _ _ e
theorem getN {i j : Nat} {o o' : O} (h : i ≠ j) (e : σ[j]? = some o) : (σ.set i o')[j]? = some o := by rw [List.getElem?_set_ne h]; exact e
theorem len_of {l : List Int} (h : l.length ≤ 1000) : l.length ≤ sizeLine := Nat.le_trans h (by decide)

theorem sNameF (c : TopOk cx) (hN : NetAt σ N t) {g : Cell → Bool} (hg : ∀ x ∈ t.cells, WfC g x) (hl : t.cells.length ≤ 500) (hp : (t.ins ++ t.outs).length ≤ 500)
    (p : ∀ r σ', Keep σ σ' → σ'[r]? = some (.list (portN (t.ins ++ t.outs) (t.ins ++ t.outs).length ++ dupN g t.cells t.cells.length)) → P (.ref r) σ') : TF cx (n + 2) (fn 17) [.ref N] σ P := by
  have c' := c.toCxOk
  refine ⟨[S "netlist"], bd1, rfl, TSs_cons (new0 (nxt (newD (nxt ?_))))⟩
  have k2 : Keep σ ((σ ++ [.list []]) ++ [.di []]) := (Keep.app σ [.list []]).trans (Keep.app _ _)
  have f2 : ((σ ++ [.list []]) ++ [.di []])[σ.length]? = some (.list []) := Keep.app _ _ _ _ getA
  have e1 : (σ ++ [O.list []]).length = σ.length + 1 := List.length_append
  generalize hσ2 : (σ ++ [O.list []]) ++ [O.di []] = σ2 at k2 f2
  have s2 : SetAt cx (dS cx) σ2 (σ.length + 1) [] := by rw [← hσ2, ← e1]; exact SetAt.newS
  have l2 : σ2.length = σ.length + 2 := by rw [← hσ2, List.length_append, e1]; rfl
  rw [e1]
  obtain ⟨d, nm0, a, b, e, pi, po, h1, h2, h3, h4, h5, h6⟩ := hN.ex
  have hpp : Ports σ (t.ins ++ t.outs) (pi ++ po) := h3.append h5
  have hlp : (pi ++ po).length = (t.ins ++ t.outs).length := hpp.length
  have h0 : ∀ {τ}, Keep σ τ → ∀ {j : Nat} {o : O}, σ[j]? = some o → τ[j]? = some o := fun k _ _ e => k _ _ e
  refine TS_for (src_list (j := σ.length + 2) (l := pi ++ po)) (fun _ : Unit => [(S "seen", .ref (σ.length + 1)), (S "faults", .ref σ.length), (S "netlist", .ref N)])
    (fun i _ σ' => Keep σ σ' ∧ σ'[σ.length]? = some (.list (portN (t.ins ++ t.outs) i)) ∧ SetAt cx (dS cx) σ' (σ.length + 1) (((t.ins ++ t.outs).take i).map (·.1)) ∧ σ'[σ.length + 2]? = some (.list (pi ++ po)))
    (TE_bin (at_ c' (loc := [(S "seen", .ref (σ.length + 1)), (S "faults", .ref σ.length), (S "netlist", .ref N)]) rfl (h1.keep k2) rfl (at_ c' rfl (h1.keep k2) rfl (TO_addL (k2 _ _ h2) (k2 _ _ h4) ⟨by rw [l2], (), Sub.refl _, k2.trans (Keep.app _ _), getB f2, s2.keep fun o e => getB e, by rw [← l2]; exact getA⟩ (by rw [← List.length_append, hlp]; exact Nat.le_trans hp (by decide))))))
    (fun i _ σ' h => h.2.2.2) (fun i v _ σ' hv h => ?_) fun _ σ' h => ?_
  · obtain ⟨⟨nm, bits⟩, r, hi, rfl, hr⟩ := hpp.get hv
    obtain ⟨k1, f1, ⟨o, m, so, sd, sm, sl⟩, w1⟩ := h
    have mem : decide (nm ∈ ((t.ins ++ t.outs).take i).map (·.1)) = (lk m nm).isSome := (sm nm).symm
    have hm : m.length ≤ sizeLine := Nat.le_trans sl (by rw [List.length_map, List.length_take]; exact Nat.le_trans (Nat.min_le_right _ _) (Nat.le_trans hp (by decide)))
    have fin : ∀ τ, Keep σ τ → τ[σ.length]? = some (.list (portN (t.ins ++ t.outs) (i + 1))) → τ[σ.length + 1]? = some o → τ[σ.length + 2]? = some (.list (pi ++ po)) →
        ∃ _ : Unit, Sub [(S "seen", .ref (σ.length + 1)), (S "faults", .ref σ.length), (S "netlist", .ref N)] ((S "bits", .ref r) :: (S "name", .str nm) :: [(S "seen", .ref (σ.length + 1)), (S "faults", .ref σ.length), (S "netlist", .ref N)]) ∧ Keep σ (τ.set (σ.length + 1) (.ds (put m nm (.bool true)))) ∧
          (τ.set (σ.length + 1) (.ds (put m nm (.bool true))))[σ.length]? = some (.list (portN (t.ins ++ t.outs) (i + 1))) ∧ SetAt cx (dS cx) (τ.set (σ.length + 1) (.ds (put m nm (.bool true)))) (σ.length + 1) (((t.ins ++ t.outs).take (i + 1)).map (·.1)) ∧ (τ.set (σ.length + 1) (.ds (put m nm (.bool true))))[σ.length + 2]? = some (.list (pi ++ po)) := fun τ k f so w =>
      ⟨(), .cons rfl (.cons rfl (.cons rfl .nil)), k.set (Nat.le_succ _), getN (by omega) f, by rw [map_take hi]; exact .put so sm sl, getN (by omega) w⟩
    refine TA_tup (TAs_cons (TA_name (TAs_cons (TA_name (TAs_nil (TSs_cons (TS_if (TB_cmp (TE_var rfl (TE_var rfl (TO_inD (dS cx) so sd ⟨_, rfl, br (fun q => ?_) fun q => ?_⟩)))))))))))
    · have hs : (σ'.set σ.length (.list (portN (t.ins ++ t.outs) i ++ [flt (S "duplicate_port") (hd1 bits)])))[σ.length + 1]? = some o := getN (by omega) so
      refine TSs_cons (apd' c' (v := flt (S "duplicate_port") (hd1 bits)) (l := portN (t.ins ++ t.outs) i) rfl f1 (EvE.tup2 (pev c' rfl) (ev_first c' rfl (k1 _ _ hr) rfl)) (lenR ?_) (TSs_nil (nxt (TS_setSub (TE_bool (TE_var rfl (TE_var rfl (TU_set (dS cx) hs sd (TSs_nil (fin _ (k1.set (Nat.le_refl _)) ?_ hs (getN (by omega) w1))) hm))))))))
      · have := (List.getElem?_eq_some_iff.mp hi).1; omega
      · rw [portN_succ hi, if_pos (of_decide_eq_true (mem.trans q))]; exact getS f1
    · exact TSs_nil (nxt (TS_setSub (TE_bool (TE_var rfl (TE_var rfl (TU_set (dS cx) so sd (TSs_nil (fin _ k1 (by rw [portN_succ hi, if_neg (of_decide_eq_false (mem.trans q)), List.append_nil]; exact f1) so w1)) hm))))))
  · rw [hlp] at h
    obtain ⟨k1, f1, _, _⟩ := h
    refine nxt (newD (nxt ?_))
    have k2 : Keep σ (σ' ++ [.di []]) := k1.trans (Keep.app _ _)
    have hF : σ.length < σ'.length := (List.getElem?_eq_some_iff.mp f1).1
    refine TS_for (src_list (j := e) (l := t.cells.map Cell.v)) (fun _ : Unit => [(S "states", .ref σ'.length), (S "faults", .ref σ.length), (S "netlist", .ref N)])
      (fun i _ τ => Keep σ τ ∧ τ[σ.length]? = some (.list (portN (t.ins ++ t.outs) (t.ins ++ t.outs).length ++ dupN g t.cells i)) ∧ SetAt cx (dS cx) τ σ'.length ((t.cells.take i).filterMap (stN g)))
      (at_ c' (loc := (S "states", .ref σ'.length) :: [(S "seen", .ref (σ.length + 1)), (S "faults", .ref σ.length), (S "netlist", .ref N)]) rfl (h1.keep k2) rfl ⟨rfl, (), .cons rfl (.cons rfl (.cons rfl .nil)), k2, by rw [show dupN g t.cells 0 = [] from rfl, List.append_nil]; exact getB f1, SetAt.newS⟩) (fun i _ τ h => h.1 _ _ h6) (fun i v _ τ hv h => ?_) fun _ τ h => ?_
    · rw [List.getElem?_map] at hv
      obtain ⟨x, hx, rfl⟩ := Option.map_eq_some_iff.mp hv
      have w := hg x (List.mem_of_getElem? hx)
      obtain ⟨k1, f1, ⟨o, m, so, sd, sm, sl⟩⟩ := h
      have hi := (List.getElem?_eq_some_iff.mp hx).1
      have ne : σ.length ≠ σ'.length := Nat.ne_of_lt hF
      have sb : Sub [(S "states", .ref σ'.length), (S "faults", .ref σ.length), (S "netlist", .ref N)] ((S "cell", x.v) :: [(S "states", .ref σ'.length), (S "faults", .ref σ.length), (S "netlist", .ref N)]) := .cons rfl (.cons rfl (.cons rfl .nil))
      have ds := dupN_succ (g := g) hx
      have no : stN g x = none → ∃ _ : Unit, Sub [(S "states", .ref σ'.length), (S "faults", .ref σ.length), (S "netlist", .ref N)] ((S "cell", x.v) :: [(S "states", .ref σ'.length), (S "faults", .ref σ.length), (S "netlist", .ref N)]) ∧ Keep σ τ ∧ τ[σ.length]? = some (.list (portN (t.ins ++ t.outs) (t.ins ++ t.outs).length ++ dupN g t.cells (i + 1))) ∧ SetAt cx (dS cx) τ σ'.length ((t.cells.take (i + 1)).filterMap (stN g)) := fun q => ⟨(), sb, k1, by rw [ds, q]; simp only [Option.bind_none, Option.toList_none, List.append_nil]; exact f1, by rw [filterMap_take hx, q, Option.toList_none, List.append_nil]; exact ⟨o, m, so, sd, sm, sl⟩⟩
      have hm : m.length ≤ sizeLine := Nat.le_trans sl (Nat.le_trans (List.length_filterMap_le _ _) (by rw [List.length_take]; exact Nat.le_trans (Nat.min_le_right _ _) (Nat.le_trans hl (by decide))))
      refine TA_name (TSs_cons (TS_if (TB_op (TAll_and (TB_val (TE_callD ⟨c.fn' 7, rfl⟩ (TEs_cons (ex c' (v := .str x.k) rfl (TEs_nil (sState c' ⟨_, rfl, br (fun q => ?_) fun q => ?_⟩))))))))))
      rotate_left
      · exact br (b := false) (fun q => nomatch q) fun _ => TSs_nil (TSs_nil (no (by unfold stN; rw [q, Bool.false_and]; rfl)))
      refine TAll_and (TB_val (TE_callD ⟨c.fn' 14, rfl⟩ (TEs_cons (ex c' (v := x.v) rfl (TEs_nil (sFits c w.len w.par ⟨g x, rfl, br (fun q2 => TAll_andN (br (b := true) (fun _ => ?_) fun q => nomatch q)) fun q2 => ?_⟩))))))
      rotate_left
      · exact br (b := false) (fun q => nomatch q) fun _ => TSs_nil (TSs_nil (no (by unfold stN; rw [q2, Bool.and_false]; rfl)))
      · obtain ⟨nm, l, e1, e2, e3⟩ := st_name w q q2
        have hv : x.v = .tup [.str x.k, .int x.o, .tup (x.i.map V.int), .tup l] := by rw [← e1]
        have mem : (lk m nm).isSome = decide (nm ∈ (t.cells.take i).filterMap (stN g)) := sm nm
        have fin : ∀ τ', Keep σ τ' → τ'[σ.length]? = some (.list (portN (t.ins ++ t.outs) (t.ins ++ t.outs).length ++ dupN g t.cells (i + 1))) → τ'[σ'.length]? = some o →
            ∃ _ : Unit, Sub [(S "states", .ref σ'.length), (S "faults", .ref σ.length), (S "netlist", .ref N)] ((S "cell", x.v) :: [(S "states", .ref σ'.length), (S "faults", .ref σ.length), (S "netlist", .ref N)]) ∧ Keep σ (τ'.set σ'.length (.ds (put m nm (.bool true)))) ∧ (τ'.set σ'.length (.ds (put m nm (.bool true))))[σ.length]? = some (.list (portN (t.ins ++ t.outs) (t.ins ++ t.outs).length ++ dupN g t.cells (i + 1))) ∧
              SetAt cx (dS cx) (τ'.set σ'.length (.ds (put m nm (.bool true)))) σ'.length ((t.cells.take (i + 1)).filterMap (stN g)) := fun τ' k f so' => ⟨(), sb, k.set (Nat.le_of_lt hF), getN (Ne.symm ne) f, by rw [filterMap_take hx, e3]; exact .put so' sm sl⟩
        refine TSs_cons (TS_if (TB_cmp (TE_callD ⟨c.fn' 8, rfl⟩ (TEs_cons (TE_var (v := .tup [.str x.k, .int x.o, .tup (x.i.map V.int), .tup l]) (by rw [← hv]; rfl) (TEs_nil (sName c' e2 (TE_var rfl (TO_inD (dS cx) so sd ⟨_, rfl, br (fun q3 => ?_) fun q3 => ?_⟩)))))))))
        · have hs : (τ.set σ.length (.list (portN (t.ins ++ t.outs) (t.ins ++ t.outs).length ++ dupN g t.cells i ++ [flt (S "duplicate_state") x.o])))[σ'.length]? = some o := getN ne so
          refine TSs_cons (apd c' (v := flt (S "duplicate_state") x.o) rfl f1 rfl ?_ (TSs_nil (nxt (TS_setSub (TE_bool (TE_var rfl ?_))))))
          rotate_left
          · refine TE_callD ⟨c.fn' 8, rfl⟩ (TEs_cons (TE_var (v := .tup [.str x.k, .int x.o, .tup (x.i.map V.int), .tup l]) (by rw [← hv]; rfl) (TEs_nil (sName c' e2 ?_))))
            refine TU_set (dS cx) hs sd (TSs_nil (TSs_nil (fin _ (k1.set (Nat.le_refl _)) ?_ hs))) hm
            rw [ds, e3, Option.bind_some, if_pos (of_decide_eq_true (mem.symm.trans q3)), ← List.append_assoc]; exact getS f1
          · have h1 := List.length_filterMap_le (fun j => ((t.ins ++ t.outs)[j]?).bind fun p => if p.1 ∈ ((t.ins ++ t.outs).take j).map (·.1) then some (flt (S "duplicate_port") (hd1 p.2)) else none) (List.range (t.ins ++ t.outs).length)
            have h2 := List.length_filterMap_le (fun j => (t.cells[j]?).bind fun x => (stN g x).bind fun nm => if nm ∈ (t.cells.take j).filterMap (stN g) then some (flt (S "duplicate_state") x.o) else none) (List.range i)
            rw [List.length_range] at h1 h2
            rw [List.length_append]
            unfold portN dupN sizeLine
            omega
        · refine TSs_nil (nxt (TS_setSub (TE_bool (TE_var rfl ?_))))
          refine TE_callD ⟨c.fn' 8, rfl⟩ (TEs_cons (TE_var (v := .tup [.str x.k, .int x.o, .tup (x.i.map V.int), .tup l]) (by rw [← hv]; rfl) (TEs_nil (sName c' e2 ?_))))
          refine TU_set (dS cx) so sd (TSs_nil (TSs_nil (fin _ k1 ?_ so))) hm
          rw [ds, e3, Option.bind_some, if_neg (of_decide_eq_false (mem.symm.trans q3)), Option.toList_none, List.append_nil]; exact f1
    · rw [List.length_map] at h
      exact nxt (rtn c' (v := .ref σ.length) rfl (p _ _ h.1 h.2.1))
end
end Mine
open PySem PySem.W PyProof.Rows PySem.Calls
set_option Elab.async false
set_option maxRecDepth 4000
namespace Mine
def kinds : List Str := [S "and", S "buf", S "mux", S "lut", S "cell", S "flop", S "latch", S "not", S "xnor", S "odd"]
/-- what the two sides say of a kind -/
theorem kind10 {k : Str} (h : k ∈ kinds) : (k == S "odd") = (expIn k == -2) ∧ hits [.str (S "flop"), .str (S "latch")] (.str k) = isSt k ∧ ((wideV k = .none ∧ expIn k < 0) ∨ ∃ w : Int, 0 ≤ w ∧ wideV k = .int w ∧ expIn k = w) := by
  simp only [kinds, List.mem_cons, List.not_mem_nil, or_false] at h
  rcases h with rfl | rfl | rfl | rfl | rfl | rfl | rfl | rfl | rfl | rfl
  · exact ⟨by decide +kernel, by decide +kernel, .inr ⟨2, by decide, by kernel_rfl, by kernel_rfl⟩⟩
  · exact ⟨by decide +kernel, by decide +kernel, .inr ⟨1, by decide, by kernel_rfl, by kernel_rfl⟩⟩
  · exact ⟨by decide +kernel, by decide +kernel, .inr ⟨3, by decide, by kernel_rfl, by kernel_rfl⟩⟩
  · exact ⟨by decide +kernel, by decide +kernel, .inl ⟨by kernel_rfl, by decide +kernel⟩⟩
  · exact ⟨by decide +kernel, by decide +kernel, .inl ⟨by kernel_rfl, by decide +kernel⟩⟩
  · exact ⟨by decide +kernel, by decide +kernel, .inr ⟨4, by decide, by kernel_rfl, by kernel_rfl⟩⟩
  · exact ⟨by decide +kernel, by decide +kernel, .inr ⟨4, by decide, by kernel_rfl, by kernel_rfl⟩⟩
  · exact ⟨by decide +kernel, by decide +kernel, .inr ⟨1, by decide, by kernel_rfl, by kernel_rfl⟩⟩
  · exact ⟨by decide +kernel, by decide +kernel, .inr ⟨2, by decide, by kernel_rfl, by kernel_rfl⟩⟩
  · exact ⟨by decide +kernel, by decide +kernel, .inl ⟨by kernel_rfl, by decide +kernel⟩⟩
def cq (g : Cell → Bool) (l : List Cell) (j : Nat) : Option V := (l[j]?).bind fun x => (cf g x).map fun s => flt s x.o
def dq (g : Cell → Bool) (l : List Cell) (j : Nat) : Option V := (l[j]?).bind fun x => (stN g x).bind fun nm => if nm ∈ (l.take j).filterMap (stN g) then some (flt (S "duplicate_state") x.o) else none
def lawC (g : Cell → Bool) (l : List Cell) (k : Nat) : List V := (List.range k).flatMap fun j => (cq g l j).toList ++ (dq g l j).toList
theorem lawC_succ {g : Cell → Bool} {l : List Cell} {k : Nat} : lawC g l (k + 1) = lawC g l k ++ (cq g l k).toList ++ (dq g l k).toList := by
  unfold lawC
  rw [List.range_succ, List.flatMap_append]
  simp
theorem lawC_len {g : Cell → Bool} {l : List Cell} {k : Nat} : (lawC g l k).length ≤ 2 * k := by
  induction k with
  | zero => exact Nat.le_refl _
  | succ k ih =>
    rw [lawC_succ, List.length_append, List.length_append]
    have h : ∀ o : Option V, o.toList.length ≤ 1 := fun o => by cases o <;> simp
    have h1 := h (cq g l k)
    have h2 := h (dq g l k)
    omega
section
variable {cx : Cx} {n : Nat} {sc : Scope} {loc : Loc} {σ : List O} {P : V → List O → Prop} {Q : Fl → Loc → List O → Prop} {pos : Pos} {N : Nat} {t : Net}
theorem TS.mono {s : Stmt} {P Q : Fl → Loc → List O → Prop} (h : TS cx n sc loc σ s P) (k : ∀ fl l s, P fl l s → Q fl l s) : TS cx n sc loc σ s Q := fun f env ρ s ok eo S =>
  goS (h f env ρ s ok eo S) fun _ _ _ _ _ _ h k' S r => ⟨_, _, _, _, k _ _ _ h, k', S, r⟩
/-- a statement that goes on at the same names -/
theorem mid {s : Stmt} {r : List Stmt} (R : List O → Prop) (h : TS cx n sc loc σ s fun fl l τ => fl = .next ∧ l = loc ∧ R τ) (k : ∀ τ, R τ → TSs cx n sc loc τ r Q) : TSs cx n sc loc σ (s :: r) Q := TSs_cons (TS.mono h fun fl l τ q => by obtain ⟨rfl, rfl, q⟩ := q; exact k τ q)
theorem te_first2 {x : Str} {r : Nat} {l : List Int} {p1 p2 p3 p4 p5 p6 p7 p8 : Pos} {q2 q3 : Nat} (hx : lk loc x = some (.ref r)) (e : σ[r]? = some (.list (l.map V.int))) (p : P (.int (hd1 l)) (σ ++ [.list []])) (hn : nameOk x = true := by rfl) :
    TE cx n sc loc σ (.IfExp (.Compare (.Name x p1) [.NotEq] [.List [] p2] p3) (.Subscript (.Name x p4) (.Constant (.int 0) q2 p5) p6) (.UnaryOp .USub (.Constant (.int 1) q3 p7) p8) pos) P := by
  refine TE_ite (TB_cmp (TE_var hx (TE_list (TEs_nil ⟨Nat.zero_le _, TO_neL (getB e) getA (oks_ints _) rfl ⟨_, rfl, ?_⟩⟩)) hn))
  cases l with
  | nil => exact br (b := false) (fun q => nomatch q) fun _ => TE_neg (TE_int ⟨1, rfl, p⟩)
  | cons a l => exact br (b := true) (fun _ => TE_sub (TE_var hx (TE_int (TO_itemL (getB e) (Int.le_refl _) rfl p fun _ _ => rfl)) hn)) fun q => nomatch q
/-- what a cell is known to be -/
structure WfK (g : Cell → Bool) (x : Cell) : Prop extends WfC g x where
  kind : x.k ∈ kinds
theorem sLCells1 (c : TopOk cx) (hN : NetAt σ N t) {g : Cell → Bool} (hg : ∀ x ∈ t.cells, WfK g x) (hl : t.cells.length ≤ 500) (hp : (t.ins ++ t.outs).length ≤ 500)
    (p : ∀ r σ', Keep σ σ' → σ'[r]? = some (.list (lawC g t.cells t.cells.length ++ portN (t.ins ++ t.outs) (t.ins ++ t.outs).length)) → P (.ref r) σ') : TF cx (n + 2) (fn 28) [.ref N] σ P := by
  have c' := c.toCxOk
  refine ⟨[S "netlist"], bd1, rfl, TSs_cons (new0 (nxt (new0 (nxt ?_))))⟩
  have k2 : Keep σ ((σ ++ [.list []]) ++ [.list []]) := (Keep.app σ [.list []]).trans (Keep.app _ _)
  have f2 : ((σ ++ [.list []]) ++ [.list []])[σ.length]? = some (.list []) := Keep.app _ _ _ _ getA
  have e1 : (σ ++ [O.list []]).length = σ.length + 1 := List.length_append
  generalize hσ2 : (σ ++ [O.list []]) ++ [O.list []] = σ2 at k2 f2
  have s2 : σ2[σ.length + 1]? = some (.list []) := by rw [← hσ2, ← e1]; exact getA
  rw [e1]
  obtain ⟨d, nm0, a, b, e, pi, po, h1, h2, h3, h4, h5, h6⟩ := hN.ex
  have hpp : Ports σ (t.ins ++ t.outs) (pi ++ po) := h3.append h5
  have hlp : (pi ++ po).length = (t.ins ++ t.outs).length := hpp.length
  refine TS_for (src_list (j := e) (l := t.cells.map Cell.v)) (fun _ : Unit => [(S "names", .ref (σ.length + 1)), (S "found", .ref σ.length), (S "netlist", .ref N)])
    (fun i _ τ => Keep σ τ ∧ τ[σ.length]? = some (.list (lawC g t.cells i)) ∧ τ[σ.length + 1]? = some (.list (((t.cells.take i).filterMap (stN g)).map V.str)))
    (at_ c' (loc := [(S "names", .ref (σ.length + 1)), (S "found", .ref σ.length), (S "netlist", .ref N)]) rfl (h1.keep k2) rfl ⟨rfl, (), Sub.refl _, k2, f2, s2⟩) (fun i _ τ h => h.1 _ _ h6) (fun i v _ τ hv h => ?_) fun _ τ h => ?_
  · rw [List.getElem?_map] at hv
    obtain ⟨x, hx, rfl⟩ := Option.map_eq_some_iff.mp hv
    have w := hg x (List.mem_of_getElem? hx)
    obtain ⟨k1, f1, n1⟩ := h
    have hi := (List.getElem?_eq_some_iff.mp hx).1
    obtain ⟨w1, w2, w3⟩ := kind10 w.kind
    have hcq : cq g t.cells i = (cf g x).map fun s => flt s x.o := by unfold cq; rw [hx]; rfl
    have hz : (lawC g t.cells i).length < sizeLine := Nat.lt_of_le_of_lt lawC_len (by unfold sizeLine; omega)
    have hst : Sub [(S "names", .ref (σ.length + 1)), (S "found", .ref σ.length), (S "netlist", .ref N)] ((S "wide", wideV x.k) :: (S "cell", x.v) :: [(S "names", .ref (σ.length + 1)), (S "found", .ref σ.length), (S "netlist", .ref N)]) := .cons rfl (.cons rfl (.cons rfl .nil))
    refine TA_name (TSs_cons (TS_assign (TE_callD ⟨c.fn' 23, rfl⟩ (TEs_cons (ex c' (v := .str x.k) rfl (TEs_nil (sWide c' ?_)))))))
    refine mid (fun τ' => Keep σ τ' ∧ τ'[σ.length]? = some (.list (lawC g t.cells i ++ (cq g t.cells i).toList)) ∧ τ'[σ.length + 1]? = some (.list (((t.cells.take i).filterMap (stN g)).map V.str))) ?_ fun τ' h' => ?_
    · have put : ∀ {s}, cf g x = some s → Keep σ (τ.set σ.length (.list (lawC g t.cells i ++ [flt s x.o]))) ∧ (τ.set σ.length (.list (lawC g t.cells i ++ [flt s x.o])))[σ.length]? = some (.list (lawC g t.cells i ++ (cq g t.cells i).toList)) ∧ (τ.set σ.length (.list (lawC g t.cells i ++ [flt s x.o])))[σ.length + 1]? = some (.list (((t.cells.take i).filterMap (stN g)).map V.str)) := fun e => ⟨k1.set (Nat.le_refl _), by rw [hcq, e]; exact getS f1, getN (by omega) n1⟩
      refine iff' c' (b := x.k == S "odd") rfl (fun q => ?_) fun q => ?_
      · exact TSs_cons (apd c' (v := flt (S "unknown_kind") x.o) rfl f1 rfl hz (TSs_nil ⟨rfl, rfl, put (by unfold cf; rw [← w1, q]; rfl)⟩))
      · rw [w1] at q
        have c3 : foldB .And [decide (expIn x.k ≥ 0), ((x.i.map V.int).length : Int) != expIn x.k] = false → g x = false → cf g x = some (S "wrong_param") := fun a b => by unfold cf; rw [q, a, b]; rfl
        have c4 : foldB .And [decide (expIn x.k ≥ 0), ((x.i.map V.int).length : Int) != expIn x.k] = false → g x = true → cf g x = none := fun a b => by unfold cf; rw [q, a, b]; rfl
        refine TSs_cons (TS_if (TB_op (TAll_and (tx c' (b := !isNone (wideV x.k)) rfl (br (fun q1 => ?_) fun q1 => ?_)))))
        · rcases w3 with ⟨e1, _⟩ | ⟨wd, w0, e1, e2⟩
          · rw [e1] at q1; cases q1
          · have ff : foldB .And [decide (expIn x.k ≥ 0), ((x.i.map V.int).length : Int) != expIn x.k] = (wd != ((x.i.map V.int).length : Int)) := by
              rw [e2]
              simp only [foldB, List.all_cons, List.all_nil, id, Bool.and_true, decide_eq_true w0, ge_iff_le, Bool.true_and]
              exact bne_comm
            refine TAll_and (TB_cmp (TE_var (v := .int wd) (by rw [e1]; rfl) (ex c' (v := .int (x.i.map V.int).length) rfl (TO_intB (fun k => PyProof.Rows.ne_int k) ⟨_, rfl, br (fun q2 => TAll_andN (br (b := true) (fun _ => ?_) fun q => nomatch q)) fun q2 => br (b := false) (fun q => nomatch q) fun _ => ?_⟩))))
            · exact TSs_cons (apd c' (v := flt (S "wrong_ins") x.o) rfl f1 rfl hz (TSs_nil (TSs_nil ⟨rfl, rfl, put (by unfold cf; rw [q, ff, q2]; rfl)⟩)))
            · rw [q2] at ff
              refine TSs_cons (TS_if (TB_not (TB_val (TE_callD ⟨c.fn' 27, rfl⟩ (TEs_cons (ex c' (v := x.v) rfl (TEs_nil (sGood c w.len w.par ⟨g x, rfl, br (fun q3 => ?_) fun q3 => ?_⟩))))))))
              · exact TSs_cons (apd c' (v := flt (S "wrong_param") x.o) rfl f1 rfl hz (TSs_nil (TSs_nil (TSs_nil ⟨rfl, rfl, put (c3 ff ((Bool.not_eq_true' _).mp q3))⟩))))
              · exact TSs_nil (TSs_nil (TSs_nil ⟨rfl, rfl, k1, by rw [hcq, c4 ff (by simpa using q3)]; simpa using f1, n1⟩))
        · rcases w3 with ⟨e1, e2⟩ | ⟨wd, w0, e1, e2⟩
          · have ff : foldB .And [decide (expIn x.k ≥ 0), ((x.i.map V.int).length : Int) != expIn x.k] = false := by
              simp only [foldB, List.all_cons, id, decide_eq_false (Int.not_le.mpr e2), ge_iff_le, Bool.false_and]
            refine br (b := false) (fun q => nomatch q) fun _ => TSs_cons (TS_if (TB_not (TB_val (TE_callD ⟨c.fn' 27, rfl⟩ (TEs_cons (ex c' (v := x.v) rfl (TEs_nil (sGood c w.len w.par ⟨g x, rfl, br (fun q3 => ?_) fun q3 => ?_⟩))))))))
            · exact TSs_cons (apd c' (v := flt (S "wrong_param") x.o) rfl f1 rfl hz (TSs_nil (TSs_nil (TSs_nil ⟨rfl, rfl, put (c3 ff ((Bool.not_eq_true' _).mp q3))⟩))))
            · exact TSs_nil (TSs_nil (TSs_nil ⟨rfl, rfl, k1, by rw [hcq, c4 ff (by simpa using q3)]; simpa using f1, n1⟩))
          · rw [e1] at q1; cases q1
    · obtain ⟨k1, f1, n1⟩ := h'
      have hdq : dq g t.cells i = (stN g x).bind fun nm => if nm ∈ (t.cells.take i).filterMap (stN g) then some (flt (S "duplicate_state") x.o) else none := by unfold dq; rw [hx]; rfl
      have hz2 : (lawC g t.cells i ++ (cq g t.cells i).toList).length < sizeLine := by
        have h1 := lawC_len (g := g) (l := t.cells) (k := i)
        have h2 : (cq g t.cells i).toList.length ≤ 1 := by cases (cq g t.cells i) <;> simp
        rw [List.length_append]; unfold sizeLine; omega
      have hz3 : (((t.cells.take i).filterMap (stN g)).map V.str).length < sizeLine := by
        have := List.length_filterMap_le (stN g) (t.cells.take i)
        rw [List.length_take] at this
        rw [List.length_map]; unfold sizeLine; omega
      have no : stN g x = none → ∃ _ : Unit, Sub [(S "names", .ref (σ.length + 1)), (S "found", .ref σ.length), (S "netlist", .ref N)] ((S "wide", wideV x.k) :: (S "cell", x.v) :: [(S "names", .ref (σ.length + 1)), (S "found", .ref σ.length), (S "netlist", .ref N)]) ∧ Keep σ τ' ∧ τ'[σ.length]? = some (.list (lawC g t.cells (i + 1))) ∧ τ'[σ.length + 1]? = some (.list (((t.cells.take (i + 1)).filterMap (stN g)).map V.str)) := fun q => ⟨(), hst, k1, by rw [lawC_succ, hdq, q]; simpa using f1, by rw [filterMap_take hx, q]; simpa using n1⟩
      refine TSs_cons (TS_if (TB_op (TAll_and (tx c' (b := hits [.str (S "flop"), .str (S "latch")] (.str x.k)) rfl (br (fun q => ?_) fun q => ?_)))))
      rotate_left
      · exact br (b := false) (fun q => nomatch q) fun _ => TSs_nil (TSs_nil (no (by unfold stN; rw [← w2, q, Bool.false_and]; rfl)))
      rw [w2] at q
      refine TAll_and (TB_val (TE_callD ⟨c.fn' 27, rfl⟩ (TEs_cons (ex c' (v := x.v) rfl (TEs_nil (sGood c w.len w.par ⟨g x, rfl, br (fun q2 => TAll_andN (br (b := true) (fun _ => ?_) fun q => nomatch q)) fun q2 => ?_⟩))))))
      rotate_left
      · exact br (b := false) (fun q => nomatch q) fun _ => TSs_nil (TSs_nil (no (by unfold stN; rw [q2, Bool.and_false]; rfl)))
      obtain ⟨nm, l, e1, e2, e3⟩ := st_name w.toWfC q q2
      have hst' : Sub [(S "names", .ref (σ.length + 1)), (S "found", .ref σ.length), (S "netlist", .ref N)] ((S "name", .str nm) :: (S "wide", wideV x.k) :: (S "cell", x.v) :: [(S "names", .ref (σ.length + 1)), (S "found", .ref σ.length), (S "netlist", .ref N)]) := .cons rfl (.cons rfl (.cons rfl .nil))
      have mem : hits (((t.cells.take i).filterMap (stN g)).map V.str) (.str nm) = decide (nm ∈ (t.cells.take i).filterMap (stN g)) := hits_strs
      have hn2 : (((t.cells.take (i + 1)).filterMap (stN g)).map V.str) = ((t.cells.take i).filterMap (stN g)).map V.str ++ [.str nm] := by rw [filterMap_take hx, e3, List.map_append]; rfl
      refine TSs_cons (TS_assign (TE_ite (tx c' (b := x.k == S "flop") rfl (br (fun q4 => ?_) fun q4 => ?_))))
      all_goals (refine TE_sub (TE_sub (TE_var (v := x.v) rfl (TE_int (TO_itemT (by decide) (v := x.p) rfl (TE_int ?_) (fun _ _ => rfl))))); rw [e1]; rw [q4] at e2; refine TO_itemT (by decide) (v := .str nm) e2 ?_ (fun _ _ => rfl))
      all_goals (refine nxt (TS_if (TB_cmp (TE_var rfl (TE_var rfl (TO_inL n1 (oks_strs _) rfl ⟨_, rfl, br (fun q3 => ?_) fun q3 => ?_⟩)))))
                 · refine TSs_cons (apd c' (v := flt (S "duplicate_state") x.o) rfl f1 rfl hz2 (TSs_nil (nxt (apd c' (v := .str nm) rfl (getN (by omega) n1) rfl hz3 (TSs_nil (TSs_nil ⟨(), hst', (k1.set (Nat.le_refl _)).set (Nat.le_succ _), getN (by omega) ?_, by rw [hn2]; exact getS (getN (by omega) n1)⟩))))))
                   rw [lawC_succ, hdq, e3, Option.bind_some, if_pos (of_decide_eq_true (mem.symm.trans q3))]; exact getS f1
                 · refine TSs_nil (nxt (apd c' (v := .str nm) rfl n1 rfl hz3 (TSs_nil (TSs_nil ⟨(), hst', k1.set (Nat.le_succ _), getN (by omega) ?_, by rw [hn2]; exact getS n1⟩))))
                   rw [lawC_succ, hdq, e3, Option.bind_some, if_neg (of_decide_eq_false (mem.symm.trans q3)), Option.toList_none, List.append_nil]; exact f1)
  · rw [List.length_map] at h
    obtain ⟨k1, f1, _⟩ := h
    refine nxt (new0 (nxt ?_))
    have hF : σ.length < τ.length := (List.getElem?_eq_some_iff.mp f1).1
    have k2 : Keep σ (τ ++ [.list []]) := k1.trans (Keep.app _ _)
    have e1 : (τ ++ [O.list []]).length = τ.length + 1 := List.length_append
    refine TS_for (src_list (j := τ.length + 1) (l := pi ++ po)) (fun _ : Unit => [(S "ports", .ref τ.length), (S "found", .ref σ.length), (S "netlist", .ref N)])
      (fun i _ σ' => Keep σ σ' ∧ σ'[σ.length]? = some (.list (lawC g t.cells t.cells.length ++ portN (t.ins ++ t.outs) i)) ∧ σ'[τ.length]? = some (.list ((((t.ins ++ t.outs).take i).map (·.1)).map V.str)) ∧ σ'[τ.length + 1]? = some (.list (pi ++ po)))
      (TE_bin (at_ c' (loc := (S "ports", .ref τ.length) :: [(S "names", .ref (σ.length + 1)), (S "found", .ref σ.length), (S "netlist", .ref N)]) rfl (h1.keep k2) rfl (at_ c' rfl (h1.keep k2) rfl (TO_addL (k2 _ _ h2) (k2 _ _ h4) ⟨by rw [e1], (), .cons rfl (.cons rfl (.cons rfl .nil)), k2.trans (Keep.app _ _), by rw [show portN (t.ins ++ t.outs) 0 = [] from rfl, List.append_nil]; exact getB (getB f1), getB getA, by rw [← e1]; exact getA⟩ (by rw [← List.length_append, hlp]; exact Nat.le_trans hp (by decide))))))
      (fun i _ σ' h => h.2.2.2) (fun i v _ σ' hv h => ?_) fun _ σ' h => ?_
    · obtain ⟨⟨nm, bits⟩, r, hi, rfl, hr⟩ := hpp.get hv
      obtain ⟨k1, f1, n1, w1⟩ := h
      have mem : hits ((((t.ins ++ t.outs).take i).map (·.1)).map V.str) (.str nm) = decide (nm ∈ ((t.ins ++ t.outs).take i).map (·.1)) := hits_strs
      have hi' := (List.getElem?_eq_some_iff.mp hi).1
      have hst : Sub [(S "ports", .ref τ.length), (S "found", .ref σ.length), (S "netlist", .ref N)] ((S "nets", .ref r) :: (S "name", .str nm) :: [(S "ports", .ref τ.length), (S "found", .ref σ.length), (S "netlist", .ref N)]) := .cons rfl (.cons rfl (.cons rfl .nil))
      have hn2 : (((t.ins ++ t.outs).take (i + 1)).map (·.1)).map V.str = (((t.ins ++ t.outs).take i).map (·.1)).map V.str ++ [.str nm] := by rw [map_take hi, List.map_append]; rfl
      have hz3 : ((((t.ins ++ t.outs).take i).map (·.1)).map V.str).length < sizeLine := by
        rw [List.length_map, List.length_map, List.length_take]; unfold sizeLine; omega
      have hz2 : (lawC g t.cells t.cells.length ++ portN (t.ins ++ t.outs) i).length < sizeLine := by
        have h1 := lawC_len (g := g) (l := t.cells) (k := t.cells.length)
        have h2 := List.length_filterMap_le (fun j => ((t.ins ++ t.outs)[j]?).bind fun p => if p.1 ∈ ((t.ins ++ t.outs).take j).map (·.1) then some (flt (S "duplicate_port") (hd1 p.2)) else none) (List.range i)
        rw [List.length_range] at h2
        rw [List.length_append]; unfold portN sizeLine; omega
      have ne : τ.length ≠ σ.length := Nat.ne_of_gt hF
      refine TA_tup (TAs_cons (TA_name (TAs_cons (TA_name (TAs_nil (TSs_cons (TS_if (TB_cmp (TE_var rfl (TE_var rfl (TO_inL n1 (oks_strs _) rfl ⟨_, rfl, br (fun q => ?_) fun q => ?_⟩)))))))))))
      · refine TSs_cons (TS_expr (TE_meth PySem.F.plainAttrs_list PySem.F.slot_list_append PySem.F.type_list_append (TE_var rfl ⟨ty_list f1, TEs_cons (TE_tup (TEs_cons (TE_str (TEs_cons (te_first2 rfl (k1 _ _ hr) (TEs_nil ⟨(by decide : 2 ≤ sizeLine), TEs_nil (TO_append (getB f1) (TSs_nil (nxt ?_)) hz2)⟩)))))) ⟩)))
        refine apd c' (v := .str nm) rfl (getN ne.symm (getB n1)) rfl hz3 (TSs_nil ⟨(), hst, ((k1.trans (Keep.app _ _)).set (Nat.le_refl _)).set (Nat.le_of_lt hF), getN ne ?_, by rw [hn2]; exact getS (getN ne.symm (getB n1)), getN (by omega) (getN (by omega) (getB w1))⟩)
        rw [portN_succ hi, if_pos (of_decide_eq_true (mem.symm.trans q)), ← List.append_assoc]; exact getS (getB f1)
      · exact TSs_nil (nxt (apd c' (v := .str nm) rfl n1 rfl hz3 (TSs_nil ⟨(), hst, k1.set (Nat.le_of_lt hF), getN ne (by rw [portN_succ hi, if_neg (of_decide_eq_false (mem.symm.trans q)), List.append_nil]; exact f1), by rw [hn2]; exact getS n1, getN (by omega) w1⟩)))
    · rw [hlp] at h
      exact nxt (rtn c' (v := .ref σ.length) rfl (p _ _ h.1 h.2.1))
end
end Mine
open PySem PySem.W PyProof.Rows PySem.Calls
set_option Elab.async false
set_option maxRecDepth 4000
namespace Mine
/-- the nets that are driven, that are read -/
def made (t : Net) : List Int := 0 :: 1 :: (t.ins.flatMap (·.2) ++ t.cells.map (·.o))
def taken (t : Net) : List Int := t.outs.flatMap (·.2) ++ t.cells.flatMap (·.i)
theorem flat_take {α β : Type} {f : α → List β} {l : List α} {i : Nat} {x : α} (h : l[i]? = some x) : (l.take (i + 1)).flatMap f = (l.take i).flatMap f ++ f x := by
  rw [List.take_add_one, h, List.flatMap_append]; simp
theorem Keep.len {σ τ : List O} (k : Keep σ τ) : σ.length ≤ τ.length := by
  by_cases h : σ.length = 0
  · omega
  · have h1 : σ.length - 1 < σ.length := by omega
    have := (List.getElem?_eq_some_iff.mp (k _ _ (List.getElem?_eq_getElem h1))).1
    omega
section
variable {cx : Cx} {n : Nat} {sc : Scope} {loc : Loc} {σ : List O} {P : V → List O → Prop} {Q : Fl → Loc → List O → Prop} {pos : Pos} {N : Nat} {t : Net}
theorem flat_len {α : Type} {f : α → List Int} {l : List α} {i k : Nat} (h : ∀ x ∈ l, (f x).length ≤ k) : ((l.take i).flatMap f).length ≤ l.length * k := by
  have : ∀ (m : List α), (∀ x ∈ m, (f x).length ≤ k) → (m.flatMap f).length ≤ m.length * k := fun m => by
    induction m with
    | nil => intro _; simp
    | cons a m ih =>
      intro h
      rw [List.flatMap_cons, List.length_append, List.length_cons, Nat.succ_mul]
      have h1 := h a (.head _)
      have h2 := ih fun x hx => h x (.tail _ hx)
      omega
  have h1 := this (l.take i) fun x hx => h x (List.mem_of_mem_take hx)
  exact Nat.le_trans h1 (Nat.mul_le_mul_right _ (by rw [List.length_take]; exact Nat.min_le_right _ _))
/-- what is said of a net -/
def insideN (t : Net) (x : Int) : Bool := decide (0 ≤ x) && decide (x < t.cnt)
def nf (t : Net) (x : Int) : Option V :=
  bif decide (x ∈ made t) && !insideN t x then some (flt (S "bad_net") x) else bif decide (((made t).count x : Int) > 1) then some (flt (S "two_drivers") x) else
  bif decide (x ∈ taken t) && !decide (x ∈ made t) then some (flt (bif insideN t x then S "undriven" else S "bad_net") x) else none
def lawN (t : Net) (k : Nat) : List V := (List.range k).filterMap fun i => nf t (-2 + (i : Nat))
theorem lawN_succ {t : Net} {k : Nat} : lawN t (k + 1) = lawN t k ++ (nf t (-2 + (k : Nat))).toList := by
  unfold lawN
  rw [List.range_succ, List.filterMap_append]
  simp only [List.filterMap_cons, List.filterMap_nil]
  cases (nf t (-2 + (k : Nat))) <;> rfl
/-- sizes -/
structure Sz (t : Net) : Prop where
  ins : t.ins.length ≤ 100
  outs : t.outs.length ≤ 100
  cells : t.cells.length ≤ 100
  ib : ∀ p ∈ t.ins, p.2.length ≤ 100
  ob : ∀ p ∈ t.outs, p.2.length ≤ 100
  ci : ∀ x ∈ t.cells, x.i.length ≤ 100
  cnt : 0 ≤ t.cnt ∧ t.cnt ≤ 900
theorem ev_inside (c : CxOk cx) {x y : Str} {v : Int} {q : Nat} {p1 p2 p3 p4 p5 p6 p7 : Pos} (hx : lk loc x = some (.int v)) (hy : lk loc y = some (.ref N)) (hN : NetAt σ N t) (h1 : nameOk x = true := by rfl) (h2 : nameOk y = true := by rfl) :
    EvE cx n sc loc σ (.BoolOp .And [.Compare (.Constant (.int 0) q p1) [.LtE] [.Name x p2] p3, .Compare (.Name x p4) [.Lt] [.Attribute (.Name y p5) (S "count") p6] p7] pos) (.bool (insideN t v)) := fun P p => by
  refine TE_op (TBo_and (TE_cmp (TE_int (TE_var hx (TO_intB (fun k => PyProof.Rows.le_int k) ⟨_, rfl, br (fun e => TBo_one (TE_cmp (TE_var hx (at_cnt c hN hy (TO_intB (fun k => PyProof.Rows.lt_int k) ?_) h2) h1))) fun e => ?_⟩) h1))))
  · unfold insideN at p; rw [e, Bool.true_and] at p; exact p
  · unfold insideN at p; rw [e, Bool.false_and] at p; exact p
theorem and2 {a b : Expr} {ba bb : Bool} {P : Bool → List O → Prop} (ha : EvB cx n sc loc σ a ba) (hb : EvB cx n sc loc σ b bb) (p : P (ba && bb) σ) : TB cx n sc loc σ (.BoolOp .And [a, b] pos) P :=
  TB_op (TAll_and (ha _ (by cases ba with
    | true => exact TAll_and (hb _ (by cases bb with | true => exact TAll_andN p | false => exact p))
    | false => exact p)))
theorem evb_inL {a b : Expr} {x : Int} {i : Nat} {l : List Int} (ha : EvE cx n sc loc σ a (.int x)) (hb : EvE cx n sc loc σ b (.ref i)) (e : σ[i]? = some (.list (l.map V.int))) (hm : behindInMarks .In b = false := by rfl) : EvB cx n sc loc σ (.Compare a [.In] [b] pos) (decide (x ∈ l)) := fun P p =>
  TB_cmp (ha _ (hb _ (TO_inL e (oks_ints l) rfl ⟨_, rfl, by rw [hits_ints]; exact p⟩))) hm
theorem evb_ninL {a b : Expr} {x : Int} {i : Nat} {l : List Int} (ha : EvE cx n sc loc σ a (.int x)) (hb : EvE cx n sc loc σ b (.ref i)) (e : σ[i]? = some (.list (l.map V.int))) (hm : behindInMarks .NotIn b = false := by rfl) : EvB cx n sc loc σ (.Compare a [.NotIn] [b] pos) (!decide (x ∈ l)) := fun P p =>
  TB_cmp (ha _ (hb _ (TO_ninL e (oks_ints l) rfl ⟨_, rfl, by rw [hits_ints]; exact p⟩))) hm
theorem sLNets (c : TopOk cx) (hN : NetAt σ N t) (z : Sz t) (p : ∀ r σ', Keep σ σ' → σ'[r]? = some (.list (lawN t (t.cnt + 6).toNat)) → P (.ref r) σ') : TF cx (n + 2) (fn 29) [.ref N] σ P := by
  have c' := c.toCxOk
  obtain ⟨d, nm0, a, b, e, pi, po, h1, h2, h3, h4, h5, h6⟩ := hN.ex
  refine ⟨[S "netlist"], bd1, rfl, TSs_cons (TS_assign (TE_list (TEs_cons (TE_int (TEs_cons (TE_int (TEs_nil ⟨(by decide : 2 ≤ sizeLine), nxt ?_⟩)))))))⟩
  refine TS_for (src_list (j := a) (l := pi)) (fun r : Nat => [(S "made", .ref r), (S "netlist", .ref N)]) (fun i r τ => Keep σ τ ∧ τ[r]? = some (.list ((0 :: 1 :: (t.ins.take i).flatMap (·.2)).map V.int)))
    (at_ c' (loc := [(S "made", .ref σ.length), (S "netlist", .ref N)]) rfl (h1.keep (Keep.app _ _)) rfl ⟨rfl, σ.length, Sub.refl _, Keep.app _ _, getA⟩) (fun i r τ h => h.1 _ _ h2) (fun i v r τ hv h => ?_) fun r τ h => ?_
  · obtain ⟨⟨nm, bits⟩, q, hi, rfl, hr⟩ := h3.get hv
    obtain ⟨k1, f1⟩ := h
    refine TA_tup (TAs_cons (TA_name (TAs_cons (TA_name (TAs_nil (TSs_cons (TS_assign (TE_bin (TE_var rfl (TE_var rfl (TO_addL f1 (k1 _ _ hr) (TSs_nil ⟨τ.length, .cons rfl (.cons rfl .nil), k1.trans (Keep.app _ _), ?_⟩) ?_)))))))))))
    · rw [flat_take hi, ← List.map_append]; exact getA
    · have := flat_len (i := i) (f := fun x : Str × List Int => x.2) z.ib
      have h2 := z.ib _ (List.mem_of_getElem? hi)
      have h3 := Nat.mul_le_mul_right 100 z.ins
      simp only [List.length_map, List.length_cons]
      dsimp only at h2
      unfold sizeLine; omega
  · rw [h3.length, List.take_length] at h
    obtain ⟨k1, f1⟩ := h
    have hr := (List.getElem?_eq_some_iff.mp f1).1
    refine nxt (TS_assign (TE_bin (TE_var rfl (TE_comp (src_list (j := e) (l := t.cells.map Cell.v)) (fun k i acc τ' => (Keep σ τ' ∧ τ'[r]? = some (.list ((0 :: 1 :: t.ins.flatMap (·.2)).map V.int)) ∧ τ'[k]? = some (.list acc) ∧ σ.length ≤ k ∧ r ≠ k) ∧ acc = ((t.cells.take i).map (·.o)).map V.int)
      (at_ c' rfl (h1.keep k1) rfl ⟨rfl, k1 _ _ h6, ⟨k1.trans (Keep.app _ _), getB f1, getA, k1.len, Nat.ne_of_lt hr⟩, rfl⟩) (fun k i acc τ' h => ⟨h.1.1 _ _ h6, h.1.2.2.1, ?_⟩) (fun k i acc τ' v hv h => TI_nil (br (b := true) (fun _ => ?_) fun q => nomatch q)) fun k acc τ' h => ?_))))
    · rw [h.2, List.length_map, List.length_map, List.length_take]
      have := z.cells
      unfold sizeLine; omega
    · rw [List.getElem?_map] at hv
      obtain ⟨x, hx, rfl⟩ := Option.map_eq_some_iff.mp hv
      obtain ⟨⟨q1, q2, q3, q4, q5⟩, rfl⟩ := h
      exact ex c' (v := .int x.o) rfl ⟨q3, ⟨q1.set q4, getN q5.symm q2, getS q3, q4, q5⟩, by rw [map_take hx, List.map_append]; rfl⟩
    · obtain ⟨⟨q1, q2, q3, q4, q5⟩, rfl⟩ := h
      rw [List.length_map, List.take_length] at q3
      have zm : ((0 :: 1 :: t.ins.flatMap (·.2)).map V.int).length + (((t.cells.map (·.o))).map V.int).length ≤ 20000 := by
        have := flat_len (i := t.ins.length) (f := fun x : Str × List Int => x.2) z.ib
        rw [List.take_length] at this
        have h3 := Nat.mul_le_mul_right 100 z.ins
        have h4 := z.cells
        simp only [List.length_map, List.length_cons]
        omega
      refine TO_addL q2 q3 (nxt (new0 (nxt ?_))) (Nat.le_trans zm (by decide))
      have fM : (τ' ++ [O.list ((0 :: 1 :: t.ins.flatMap (·.2)).map V.int ++ (t.cells.map (·.o)).map V.int)])[τ'.length]? = some (.list ((made t).map V.int)) := by
        rw [show (made t).map V.int = (0 :: 1 :: t.ins.flatMap (·.2)).map V.int ++ (t.cells.map (·.o)).map V.int by unfold made; simp]; exact getA
      have kM := q1.trans (Keep.app τ' [O.list ((0 :: 1 :: t.ins.flatMap (·.2)).map V.int ++ (t.cells.map (·.o)).map V.int)])
      have hM : σ.length ≤ τ'.length := q1.len
      generalize hσ1 : τ' ++ [O.list ((0 :: 1 :: t.ins.flatMap (·.2)).map V.int ++ (t.cells.map (·.o)).map V.int)] = σ1 at fM kM ⊢
      generalize τ'.length = M at fM hM ⊢
      -- the nets that are read
      refine TS_for (src_list (j := b) (l := po)) (fun r : Nat => [(S "taken", .ref r), (S "made", .ref M), (S "netlist", .ref N)]) (fun i r τ => Keep σ τ ∧ τ[M]? = some (.list ((made t).map V.int)) ∧ τ[r]? = some (.list (((t.outs.take i).flatMap (·.2)).map V.int)))
        (at_ c' (loc := [(S "taken", .ref σ1.length), (S "made", .ref M), (S "made", .ref r), (S "netlist", .ref N)]) rfl (h1.keep (kM.trans (Keep.app _ _))) rfl ⟨rfl, σ1.length, .cons rfl (.cons rfl (.cons rfl .nil)), kM.trans (Keep.app _ _), getB fM, getA⟩) (fun i r τ h => h.1 _ _ h4) (fun i v r τ hv h => ?_) fun r τ h => ?_
      · obtain ⟨⟨nm, bits⟩, q, hi, rfl, hr⟩ := h5.get hv
        obtain ⟨k1, f0, f1⟩ := h
        refine TA_tup (TAs_cons (TA_name (TAs_cons (TA_name (TAs_nil (TSs_cons (TS_assign (TE_bin (TE_var rfl (TE_var rfl (TO_addL f1 (k1 _ _ hr) (TSs_nil ⟨τ.length, .cons rfl (.cons rfl (.cons rfl .nil)), k1.trans (Keep.app _ _), getB f0, ?_⟩) ?_)))))))))))
        · rw [flat_take hi, ← List.map_append]; exact getA
        · have := flat_len (i := i) (f := fun x : Str × List Int => x.2) z.ob
          have h2 := z.ob _ (List.mem_of_getElem? hi)
          have h3 := Nat.mul_le_mul_right 100 z.outs
          simp only [List.length_map]
          dsimp only at h2
          unfold sizeLine; omega
      · rw [h5.length, List.take_length] at h
        obtain ⟨k1, f0, f1⟩ := h
        refine nxt (TS_for (src_list (j := e) (l := t.cells.map Cell.v)) (fun r : Nat => [(S "taken", .ref r), (S "made", .ref M), (S "netlist", .ref N)]) (fun i r τ => Keep σ τ ∧ τ[M]? = some (.list ((made t).map V.int)) ∧ τ[r]? = some (.list ((t.outs.flatMap (·.2) ++ (t.cells.take i).flatMap (·.i)).map V.int)))
          (at_ c' rfl (h1.keep k1) rfl ⟨rfl, r, Sub.refl _, k1, f0, by simpa using f1⟩) (fun i r τ h => h.1 _ _ h6) (fun i v r τ hv h => ?_) fun r τ h => ?_)
        · rw [List.getElem?_map] at hv
          obtain ⟨x, hx, rfl⟩ := Option.map_eq_some_iff.mp hv
          obtain ⟨k1, f0, f1⟩ := h
          refine TA_name (TSs_cons (TS_assign (TE_bin (TE_var rfl (TE_callT c.lst ?_)))))
          refine TEs_cons (ex c' (v := .tup (x.i.map V.int)) rfl (TEs_nil (TO_listT (TO_addL (getB f1) getA (TSs_nil ⟨_, .cons rfl (.cons rfl (.cons rfl .nil)), k1.trans ((Keep.app _ _).trans (Keep.app _ _)), getB (getB f0), ?_⟩) ?_))))
          · rw [flat_take hx, ← List.map_append, ← List.append_assoc]; exact getA
          · have w1 := flat_len (i := i) (f := fun x : Cell => x.i) z.ci
            have w2 := flat_len (i := t.outs.length) (f := fun x : Str × List Int => x.2) z.ob
            rw [List.take_length] at w2
            have w3 := z.ci _ (List.mem_of_getElem? hx)
            have w4 := Nat.mul_le_mul_right 100 z.outs
            have w5 := Nat.mul_le_mul_right 100 z.cells
            simp only [List.length_map, List.length_append]
            unfold sizeLine; omega
        · rw [List.length_map, List.take_length] at h
          obtain ⟨k1, f0, f1⟩ := h
          have fT : τ[r]? = some (.list ((taken t).map V.int)) := f1
          refine nxt (new0 (nxt ?_))
          have kF : Keep σ (τ ++ [.list []]) := k1.trans (Keep.app _ _)
          have hM' := (List.getElem?_eq_some_iff.mp f0).1
          have hT' := (List.getElem?_eq_some_iff.mp fT).1
          have hn := z.cnt
          refine TS_for (src_rng (a := -2) (b := t.cnt + 4) (by decide) (by decide) (by omega) (by omega)) (fun _ : Unit => [(S "found", .ref τ.length), (S "taken", .ref r), (S "made", .ref M), (S "netlist", .ref N)]) (fun i _ τ' => (∀ j o, σ[j]? = some o → τ'[j]? = some o) ∧ τ'[M]? = some (.list ((made t).map V.int)) ∧ τ'[r]? = some (.list ((taken t).map V.int)) ∧ τ'[τ.length]? = some (.list (lawN t i)))
            (TE_callT c.rng (TEs_cons (ex c' (v := .int (-2)) rfl (TEs_cons (TE_bin (at_ c' rfl (h1.keep kF) rfl (TE_int (TO_intI (fun k => PyProof.Rows.add_int k) (TEs_nil (TO_range2 ⟨rfl, (), Sub.refl _, kF, getB f0, getB fT, getA⟩))))))))))
            (fun i _ τ' h => trivial) (fun i v _ τ' hv h => ?_) fun _ τ' h => ?_
          · obtain ⟨g1, g2, g3, g4⟩ := h
            have hi := (List.getElem?_eq_some_iff.mp hv).1
            rw [upto_len] at hi
            rw [upto, List.getElem?_map, List.getElem?_range hi] at hv
            have hv' : v = V.int (-2 + (i : Nat)) := (Option.some.inj hv).symm
            subst hv'
            have hz : (lawN t i).length < sizeLine := lenR (by omega)
            generalize hx : (-2 + (i : Nat) : Int) = x
            have fin : ∀ {l : Loc} {τ'' : List O}, Sub [(S "found", .ref τ.length), (S "taken", .ref r), (S "made", .ref M), (S "netlist", .ref N)] l → (∀ (j : Nat) (o : O), σ[j]? = some o → τ''[j]? = some o) ∧ τ''[M]? = some (.list ((made t).map V.int)) ∧ τ''[r]? = some (.list ((taken t).map V.int)) ∧ τ''[τ.length]? = some (.list (lawN t i ++ (nf t x).toList)) →
              ∃ _ : Unit, Sub [(S "found", .ref τ.length), (S "taken", .ref r), (S "made", .ref M), (S "netlist", .ref N)] l ∧ (∀ (j : Nat) (o : O), σ[j]? = some o → τ''[j]? = some o) ∧ τ''[M]? = some (.list ((made t).map V.int)) ∧ τ''[r]? = some (.list ((taken t).map V.int)) ∧ τ''[τ.length]? = some (.list (lawN t (i + 1))) := fun s h => ⟨(), s, by rw [lawN_succ, hx]; exact h⟩
            have hN' := hN.keep g1
            have put : ∀ {s : Str}, nf t x = some (flt s x) → (∀ (j : Nat) (o : O), σ[j]? = some o → (τ'.set τ.length (.list (lawN t i ++ [flt s x])))[j]? = some o) ∧ (τ'.set τ.length (.list (lawN t i ++ [flt s x])))[M]? = some (.list ((made t).map V.int)) ∧ (τ'.set τ.length (.list (lawN t i ++ [flt s x])))[r]? = some (.list ((taken t).map V.int)) ∧ (τ'.set τ.length (.list (lawN t i ++ [flt s x])))[τ.length]? = some (.list (lawN t i ++ (nf t x).toList)) := fun e => ⟨Keep.set g1 k1.len, getN (by omega) g2, getN (by omega) g3, by rw [e]; exact getS g4⟩
            have sb : ∀ b : Bool, Sub [(S "found", .ref τ.length), (S "taken", .ref r), (S "made", .ref M), (S "netlist", .ref N)] ((S "inside", .bool b) :: (S "net", .int x) :: [(S "found", .ref τ.length), (S "taken", .ref r), (S "made", .ref M), (S "netlist", .ref N)]) := fun b => .cons rfl (.cons rfl (.cons rfl (.cons rfl .nil)))
            refine TA_name (TSs_cons (TS_assign (ev_inside c' rfl rfl hN' rfl rfl _ (nxt (TS_if (and2 (ba := decide (x ∈ made t)) (bb := !insideN t x) ?_ ?_ (br (fun q => ?_) fun q => ?_)))))))
            · exact evb_inL (pev c' rfl) (pev c' rfl) g2
            · exact fun P p => tx c' (b := !insideN t x) rfl p
            · exact TSs_cons (apd c' (v := flt (S "bad_net") x) rfl g4 rfl hz (TSs_nil (TSs_nil (fin (sb _) (put (by unfold nf; rw [q]; rfl))))))
            · refine TSs_cons (TS_if (TB_cmp (TE_meth PySem.F.plainAttrs_list PySem.F.slot_list_count PySem.F.type_list_count (TE_var rfl ⟨ty_list g2, TEs_cons (TE_var (v := .int x) rfl (TEs_nil (TO_count g2 (TE_int (TO_intB (fun k => PyProof.Rows.gt_int k) ⟨_, rfl, br (fun q2 => ?_) fun q2 => ?_⟩))))) ⟩))))
              · exact TSs_cons (apd c' (v := flt (S "two_drivers") x) rfl g4 rfl hz (TSs_nil (TSs_nil (TSs_nil (fin (sb _) (put (by unfold nf; rw [q, q2]; rfl)))))))
              · refine TSs_cons (TS_if (and2 (ba := decide (x ∈ taken t)) (bb := !decide (x ∈ made t)) ?_ ?_ (br (fun q3 => ?_) fun q3 => ?_)))
                · exact evb_inL (pev c' rfl) (pev c' rfl) g3
                · exact evb_ninL (pev c' rfl) (pev c' rfl) g2
                · have ev : ∀ (w : Str), w = (bif insideN t x then S "undriven" else S "bad_net") → nf t x = some (flt w x) := fun w e => by unfold nf; rw [q, q2, q3, e]; rfl
                  refine TSs_cons (apd' c' (v := flt (bif insideN t x then S "undriven" else S "bad_net") x) rfl g4 (EvE.tup2 (fun P p => TE_ite (tx c' (b := insideN t x) rfl (br (fun e => TE_str ?_) fun e => TE_str ?_))) (pev c' rfl)) hz (TSs_nil (TSs_nil (TSs_nil (TSs_nil (fin (sb _) (put (ev _ rfl))))))))
                  · rw [e] at p; exact p
                  · rw [e] at p; exact p
                · exact TSs_nil (TSs_nil (TSs_nil (TSs_nil (fin (sb _) ⟨g1, g2, g3, by rw [show nf t x = none by unfold nf; rw [q, q2, q3]; rfl]; simpa using g4⟩))))
          · have : (t.cnt + 4 - -2).toNat = (t.cnt + 6).toNat := by congr 1; omega
            rw [upto_len, this] at h
            exact nxt (rtn c' (v := .ref τ.length) rfl (p _ _ h.1 h.2.2.2))
end
end Mine
open PySem PySem.W PyProof.Rows PySem.Calls
set_option Elab.async false
namespace Mine
section
variable {cx : Cx} {n : Nat} {sc : Scope} {loc : Loc} {σ : List O} {P : V → List O → Prop} {pos : Pos}
/-- a dict display with two global ints for keys, constants for values -/
theorem TE_dict2 {x y : Str} {i j : Int} {e1 e2 : Expr} {v : V} {px py : Pos} (hx : ∃ t, cx.mg x = some (.int i t)) (hy : ∃ t, cx.mg y = some (.int j t)) (hij : i ≠ j)
    (he : ∀ e, e = e1 ∨ e = e2 → ∀ {cx' : Cx} {f : Frm} {env : Env} {ρ : List Addr} {σ' : List O} {s : Shared} {M : Model} {A : Around} {E : Value → Shared → Prop} {Q : Value → Shared → Prop}, St cx' f env ρ σ' loc s → (∀ u t, (∀ h ρ, VR cx'.hb h ρ v u) → Q u { s with toks := t }) → wpAny M A (eval e env) Q E s)
    (h : P (.ref σ.length) (σ ++ [.di [(i, v), (j, v)]])) (hk1 : sc.names.lookup x = some .globalImplicit := by rfl) (hk2 : sc.names.lookup y = some .globalImplicit := by rfl) (hn1 : nameOk x = true := by rfl) (hn2 : nameOk y = true := by rfl) :
    TE cx n sc loc σ (.Dict [some (.Name x px), some (.Name y py)] [e1, e2] pos) P := fun f env ρ s ok eo S => by
  obtain ⟨t1, hx⟩ := hx
  obtain ⟨t2, hy⟩ := hy
  refine wpAny_Dict_pairs (knd := intKind cx.prog cx.w) (pairs := [(eval (.Name x px) env, do let z ← eval e1 env; standAt pos; pure z), (eval (.Name y py) env, do let z ← eval e2 env; standAt pos; pure z)]) rfl (by simp) (by simp) ?_
  have kp : ∀ a o, s.heap.get? a = some o → (s.heap.push { cls := .type "dict", data := .dict #[] }).get? a = some o := fun _ _ e => Heap.get?_push_of_some _ e
  have S1 : St cx f env ρ σ loc { s with heap := s.heap.push { cls := .type "dict", data := .dict #[] } } := S.grow (t := s.toks) (g := s.drawn) kp
  refine evalPairs_cons (load_gl ok eo S1 hx hk1 hn1 (wpAny_bind (he e1 (.inl rfl) S1 fun u1 t1 r1 => wpAny_bind (wpAny_standAt (wpAny_pure ?_)))))
  have S2 := S1.tk (t := t1)
  refine evalPairs_cons (load_gl ok eo S2 hy hk2 hn2 (wpAny_bind (he e2 (.inr rfl) S2 fun u2 t2 r2 => wpAny_bind (wpAny_standAt (wpAny_pure ?_)))))
  refine evalPairs_nil ⟨[(i, u1), (j, u2)], ⟨intKind_is .., rfl, intKind_is .., rfl, trivial⟩, Heap.DictOf.new _, fun h' dd sb => ?_⟩
  have em : merged [] [(i, u1), (j, u2)] = [(i, u1), (j, u2)] := by simp [merged, stored, hij]
  rw [em] at dd
  obtain ⟨ob, q, z⟩ := Heap.dictOf_iff.mp dd
  have k2 : ∀ a o, s.heap.get? a = some o → h'.get? a = some o := fun a o e => (sb.2 a (Nat.ne_of_lt (Heap.lt_size e))).trans (kp a o e)
  refine ⟨_, _, ρ ++ [s.heap.objs.size], h, S.keNews k2 (by simp [fresh]), S.new k2 fresh q ((dI cx).build (by simp) z (.cons ⟨rfl, r1 _ _⟩ (.cons ⟨rfl, r2 _ _⟩ .nil))) (fun _ => S.big2 ok (Nat.le_refl _)), .ref ?_⟩
  rw [← S.len, List.getElem?_append_right (Nat.le_refl _), Nat.sub_self]; rfl
end
end Mine
open PySem PySem.W PyProof.Rows
set_option Elab.async false
namespace Mine
/-! the sort of fewer than 64: it sorts -/
/-- the tree of questions, answered by lt, all questions within n -/
def KP (lt : Nat → Nat → Bool) (n : Nat) {α : Type} : KasT α → (α → Prop) → Prop
  | .ret a, Q => Q a
  | .ask i j k, Q => i < n ∧ j < n ∧ KP lt n (k (lt i j)) Q
section
variable {lt : Nat → Nat → Bool} {n : Nat} {α β : Type}
theorem KP.mono {t : KasT α} {Q R : α → Prop} (h : KP lt n t Q) (q : ∀ a, Q a → R a) : KP lt n t R := by
  induction t with
  | ret a => exact q _ h
  | ask i j k ih => exact ⟨h.1, h.2.1, ih _ h.2.2⟩
theorem KP.bind {t : KasT α} {f : α → KasT β} {Q : β → Prop} (h : KP lt n t fun a => KP lt n (f a) Q) : KP lt n (t.bind f) Q := by
  induction t with
  | ret a => exact h
  | ask i j k ih => exact ⟨h.1, h.2.1, ih _ h.2.2⟩
/-- a run with an asker that answers as lt -/
theorem KP.run {cmp : Nat → Nat → (Bool → Shared → Prop) → Shared → Prop} {φ : Shared → Prop} (hc : ∀ i j C s, i < n → j < n → φ s → (∀ s', φ s' → C (lt i j) s') → cmp i j C s) {t : KasT α} {Q : α → Prop} {G : α → Shared → Prop} (h : KP lt n t Q) (hG : ∀ a s, φ s → Q a → G a s) :
    ∀ s, φ s → t.kasWp cmp G s := by
  induction t with
  | ret a => exact fun s p => hG _ _ p h
  | ask i j k ih => exact fun s p => hc i j _ s h.1 h.2.1 p fun s' p' => ih _ h.2.2 s' p'

structure Pre (lt : Nat → Nat → Bool) : Prop where
  tot : ∀ i j, lt i j = true → lt j i = false
  tr : ∀ i j k, lt j i = false → lt k j = false → lt k i = false
theorem Pre.refl (P : Pre lt) (i : Nat) : lt i i = false := by
  cases h : lt i i with
  | false => rfl
  | true => have := P.tot i i h; rw [h] at this; cases this
abbrev at' (p : Array Nat) (i : Nat) : Nat := p.getD i 0
/-- a permutation of the first n numbers -/
def Pm (n : Nat) (p : Array Nat) : Prop := p.toList.Perm (List.range n)
theorem Pm.size {p : Array Nat} (h : Pm n p) : p.size = n := by have := h.length_eq; simpa using this
theorem Pm.bd {p : Array Nat} (h : Pm n p) {i : Nat} (hi : i < n) : at' p i < n := by
  have hs := h.size
  have : p[i] ∈ p.toList := by rw [Array.mem_toList_iff]; exact Array.getElem_mem (by omega)
  have := h.mem_iff.mp this
  rw [List.mem_range] at this
  unfold at'
  rw [Array.getD_eq_getD_getElem?, Array.getElem?_eq_getElem (by omega)]
  exact this
theorem Pm.rev {p : Array Nat} (h : Pm n p) (i j : Nat) : Pm n (kas_rev p i j) := (Array.perm_iff_toList_perm.mp (mirror_perm p i j _)).trans h
theorem Pm.bub {p : Array Nat} (h : Pm n p) (i j : Nat) : Pm n (bubble p i j) := (Array.perm_iff_toList_perm.mp (bubble_perm p i j)).trans h
theorem at_rev {p : Array Nat} {i j : Nat} (hj : j ≤ p.size) (k : Nat) : at' (kas_rev p i j) k = if i ≤ k ∧ k < j then at' p (i + j - 1 - k) else at' p k := by
  have := getElem?_mirror_all (i := i) hj k
  unfold at' kas_rev
  rw [Array.getD_eq_getD_getElem?, Array.getD_eq_getD_getElem?, Array.getD_eq_getD_getElem?, this]
  split <;> rfl
theorem at_bub {p : Array Nat} {k d : Nat} (hk : k < p.size) (hd : d ≤ k) (i : Nat) : at' (bubble p k d) i = if i = k - d then at' p k else if k - d < i ∧ i ≤ k then at' p (i - 1) else at' p i := by
  have := getElem?_bubble hk d hd i
  unfold at'
  rw [Array.getD_eq_getD_getElem?, Array.getD_eq_getD_getElem?, Array.getD_eq_getD_getElem?, Array.getD_eq_getD_getElem?, this]
  split
  · rfl
  · split <;> rfl
/-- up, down, all alike -/
def Up (lt : Nat → Nat → Bool) (p : Array Nat) (m : Nat) : Prop := ∀ i j, i ≤ j → j < m → lt (at' p j) (at' p i) = false
def Dn (lt : Nat → Nat → Bool) (p : Array Nat) (m : Nat) : Prop := ∀ i j, i ≤ j → j < m → lt (at' p i) (at' p j) = false
def Al (lt : Nat → Nat → Bool) (p : Array Nat) (a m : Nat) : Prop := ∀ i j, a ≤ i → i < m → a ≤ j → j < m → lt (at' p i) (at' p j) = false
theorem Up.one (P : Pre lt) {p : Array Nat} : Up lt p 1 := fun i j h1 h2 => by
  obtain rfl : i = j := by omega
  exact P.refl _
theorem Up.succ (P : Pre lt) {p : Array Nat} {m : Nat} (h : Up lt p m) (hm : 1 ≤ m) (e : lt (at' p m) (at' p (m - 1)) = false) : Up lt p (m + 1) := fun i j h1 h2 => by
  by_cases hj : j < m
  · exact h i j h1 hj
  · obtain rfl : j = m := by omega
    by_cases hi : i = j
    · subst hi; exact P.refl _
    · exact P.tr _ _ _ (h i (j - 1) (by omega) (by omega)) e
theorem Dn.succ (P : Pre lt) {p : Array Nat} {m : Nat} (h : Dn lt p m) (hm : 1 ≤ m) (e : lt (at' p (m - 1)) (at' p m) = false) : Dn lt p (m + 1) := fun i j h1 h2 => by
  by_cases hj : j < m
  · exact h i j h1 hj
  · obtain rfl : j = m := by omega
    by_cases hi : i = j
    · subst hi; exact P.refl _
    · exact P.tr _ _ _ e (h i (j - 1) (by omega) (by omega))
theorem Dn.rev {p : Array Nat} {a m : Nat} (h : Dn lt p m) (ha : Al lt p a m) (hm : m ≤ p.size) : Dn lt (kas_rev p a m) m := fun i j h1 h2 => by
  rw [at_rev hm, at_rev hm]
  split
  · split
    · exact ha _ _ (by omega) (by omega) (by omega) (by omega)
    · omega
  · split
    · exact h _ _ (by omega) (by omega)
    · exact h _ _ h1 h2
theorem Dn.flip {p : Array Nat} {m : Nat} (h : Dn lt p m) (hm : m ≤ p.size) : Up lt (kas_rev p 0 m) m := fun i j h1 h2 => by
  rw [at_rev hm, at_rev hm, if_pos ⟨Nat.zero_le _, h2⟩, if_pos ⟨Nat.zero_le _, by omega⟩]
  exact h _ _ (by omega) (by omega)
theorem Up.ends {p : Array Nat} {m : Nat} (P : Pre lt) (h : Up lt p m) (e : lt (at' p 0) (at' p (m - 1)) = false) : Al lt p 0 m := fun i j _ hi _ hj => by
  -- p[i] ≥ p[0] ≥ p[m-1] ≥ p[j]
  exact P.tr _ _ _ (h j (m - 1) (by omega) (by omega)) (P.tr _ _ _ e (h 0 i (by omega) hi))
theorem Al.dn {p : Array Nat} {m : Nat} (h : Al lt p 0 m) : Dn lt p m := fun i j h1 h2 => h i j (Nat.zero_le _) (by omega) (Nat.zero_le _) h2

theorem asc_ok (P : Pre lt) {p : Array Nat} (hp : Pm n p) : ∀ f m, 1 ≤ m → m + f ≤ n → Up lt p m → KP lt n (kas_asc p f m) fun k => m ≤ k ∧ k ≤ m + f ∧ Up lt p k ∧ (k < m + f → lt (at' p k) (at' p (k - 1)) = true)
  | 0, m, _, _, h => ⟨Nat.le_refl _, Nat.le_refl _, h, fun q => absurd q (Nat.lt_irrefl _)⟩
  | f + 1, m, h1, h2, h => by
    refine ⟨hp.bd (by omega), hp.bd (by omega), ?_⟩
    cases e : lt (at' p m) (at' p (m - 1)) with
    | true => exact ⟨Nat.le_refl _, by omega, h, fun _ => e⟩
    | false => exact (asc_ok P hp f (m + 1) (by omega) (by omega) (h.succ P h1 e)).mono fun k ⟨q1, q2, q3, q4⟩ => ⟨by omega, by omega, q3, fun z => q4 (by omega)⟩
theorem desc_ok (P : Pre lt) : ∀ f (p : Array Nat) m q, Pm n p → q + 1 ≤ m → m + f ≤ n → Dn lt p m → Al lt p (m - (q + 1)) m → KP lt n (kas_desc f p m q) fun r => Pm n r.1 ∧ r.2.2 + 1 ≤ r.2.1 ∧ r.2.1 ≤ n ∧ Dn lt r.1 r.2.1 ∧ Al lt r.1 (r.2.1 - (r.2.2 + 1)) r.2.1
  | 0, p, m, q, hp, h1, h2, h, ha => ⟨hp, h1, h2, h, ha⟩
  | f + 1, p, m, q, hp, h1, h2, h, ha => by
    have hs := hp.size
    have one : ∀ p' : Array Nat, Al lt p' (m + 1 - (0 + 1)) (m + 1) := fun p' i j h1 h2 h3 h4 => by
      obtain rfl : i = j := by omega
      exact P.refl _
    refine ⟨hp.bd (by omega), hp.bd (by omega), ?_⟩
    cases e : lt (at' p m) (at' p (m - 1)) with
    | true =>
      have e' := P.tot _ _ e
      simp only [if_true]
      split
      · refine desc_ok P f _ (m + 1) 0 (hp.rev _ _) (by omega) (by omega) ((h.rev ha (by omega)).succ P (by omega) ?_) (one _)
        rw [at_rev (by omega), at_rev (by omega), if_pos (by omega), if_neg (by omega)]
        exact P.tr _ _ _ e' (ha _ _ (by omega) (by omega) (by omega) (by omega))
      · exact desc_ok P f _ (m + 1) 0 hp (by omega) (by omega) (h.succ P (by omega) e') (one _)
    | false =>
      simp only [Bool.false_eq_true, if_false]
      refine ⟨hp.bd (by omega), hp.bd (by omega), ?_⟩
      cases e2 : lt (at' p (m - 1)) (at' p m) with
      | true => exact ⟨hp, h1, by show m ≤ n; omega, h, ha⟩
      | false =>
        simp only [Bool.false_eq_true, if_false]
        refine desc_ok P f p (m + 1) (q + 1) hp (by omega) (by omega) (h.succ P (by omega) e2) fun i j g1 g2 g3 g4 => ?_
        by_cases hi : i < m <;> by_cases hj : j < m
        · exact ha i j (by omega) hi (by omega) hj
        · obtain rfl : j = m := by omega
          exact P.tr _ _ _ e2 (ha i (j - 1) (by omega) hi (by omega) (by omega))
        · obtain rfl : i = m := by omega
          exact P.tr _ _ _ (ha (i - 1) j (by omega) (by omega) (by omega) hj) e
        · obtain rfl : i = j := by omega
          exact P.refl _
def Run (lt : Nat → Nat → Bool) (n : Nat) (r : Nat × Array Nat) : Prop := Pm n r.2 ∧ 1 ≤ r.1 ∧ r.1 ≤ n ∧ Up lt r.2 r.1
theorem tail_ok (P : Pre lt) {p : Array Nat} {m : Nat} (hp : Pm n p) (h1 : 1 ≤ m) (h2 : m ≤ n) (h : Dn lt p m) : KP lt n (kas_tail3 m n p) (Run lt n) :=
  KP.bind ((asc_ok P (hp.rev 0 m) (n - m) m h1 (by omega) (h.flip (by rw [hp.size]; exact h2))).mono fun k ⟨q1, q2, q3, _⟩ => ⟨hp.rev 0 m, by show 1 ≤ k; omega, by show k ≤ n; omega, q3⟩)
theorem part_ok (P : Pre lt) {p : Array Nat} {m : Nat} (hp : Pm n p) (h1 : 1 ≤ m) (h2 : m < n) (h : Dn lt p (m + 1)) : KP lt n (kas_descPart m n p) (Run lt n) := by
  refine KP.bind ((desc_ok P (n - (m + 1)) p (m + 1) 0 hp (by omega) (by omega) h fun i j g1 g2 g3 g4 => ?_).mono fun r ⟨q1, q2, q3, q4, q5⟩ => ?_)
  · obtain rfl : i = j := by omega
    exact P.refl _
  · split
    · exact tail_ok P (q1.rev _ _) (by omega) q3 (q4.rev q5 (by rw [q1.size]; exact q3))
    · exact tail_ok P q1 (by omega) q3 q4
theorem count_ok (P : Pre lt) {p : Array Nat} (hp : Pm n p) (h1 : 1 ≤ n) : KP lt n (kas_count n p) (Run lt n) := by
  refine KP.bind ((asc_ok P hp (n - 1) 1 (Nat.le_refl _) (by omega) (Up.one P)).mono fun m ⟨q1, q2, q3, q4⟩ => ?_)
  have hs := hp.size
  split
  · rename_i e
    have e := beq_iff_eq.mp e
    exact ⟨hp, q1, by show m ≤ n; omega, q3⟩
  · rename_i e
    have e : m ≠ n := fun z => e (beq_iff_eq.mpr z)
    have e4 := P.tot _ _ (q4 (by omega))
    split
    · refine ⟨hp.bd (by omega), hp.bd (by omega), ?_⟩
      cases c : lt (at' p 0) (at' p (m - 1)) with
      | true => exact ⟨hp, q1, by show m ≤ n; omega, q3⟩
      | false =>
        have al := q3.ends P c
        refine part_ok P (hp.rev 0 m) q1 (by omega) ((al.dn.rev al (by omega)).succ P q1 ?_)
        rw [at_rev (by omega), at_rev (by omega), if_pos (by omega), if_neg (by omega)]
        exact P.tr _ _ _ e4 (al _ _ (by omega) (by omega) (by omega) (by omega))
    · obtain rfl : m = 1 := by omega
      refine part_ok P hp q1 (by omega) (Dn.succ P (fun i j g1 g2 => ?_) (Nat.le_refl _) e4)
      obtain rfl : i = j := by omega
      exact P.refl _
theorem place_ok (P : Pre lt) {p : Array Nat} {k : Nat} (hp : Pm n p) (hk : k < n) (h : Up lt p k) : ∀ f l r, l ≤ r → r ≤ k → r ≤ l + f → (∀ i, i < l → lt (at' p k) (at' p i) = false) → (∀ i, r ≤ i → i < k → lt (at' p i) (at' p k) = false) →
    KP lt n (kas_place p k f l r) fun m => m ≤ k ∧ (∀ i, i < m → lt (at' p k) (at' p i) = false) ∧ ∀ i, m ≤ i → i < k → lt (at' p i) (at' p k) = false
  | 0, l, r, h1, h2, h3, a, b => by
    obtain rfl : l = r := by omega
    exact ⟨h2, a, b⟩
  | f + 1, l, r, h1, h2, h3, a, b => by
    unfold kas_place
    split
    · obtain rfl : l = r := by omega
      exact ⟨h2, a, b⟩
    · have m1 : (l + r) / 2 < r := by omega
      have m2 : l ≤ (l + r) / 2 := by omega
      refine ⟨hp.bd hk, hp.bd (by omega), ?_⟩
      cases e : lt (at' p k) (at' p ((l + r) / 2)) with
      | true =>
        have e' := P.tot _ _ e
        exact place_ok P hp hk h f l _ m2 (by omega) (by omega) a fun i q1 q2 => P.tr _ _ _ e' (h _ i q1 q2)
      | false => exact place_ok P hp hk h f _ r (by omega) h2 (by omega) (fun i q => P.tr _ _ _ (h i _ (by omega) (by omega)) e) b
theorem bin_ok (P : Pre lt) : ∀ f (p : Array Nat) k, Pm n p → 1 ≤ k → k + f = n → Up lt p k → KP lt n (kas_bin f p k) fun q => Pm n q ∧ Up lt q n
  | 0, p, k, hp, _, h2, h => by
    obtain rfl : k = n := by omega
    exact ⟨hp, h⟩
  | f + 1, p, k, hp, h1, h2, h => by
    refine KP.bind ((place_ok P hp (by omega) h k 0 k (Nat.zero_le _) (Nat.le_refl _) (by omega) (fun i q => absurd q (Nat.not_lt_zero _)) (fun i q1 q2 => by omega)).mono fun l ⟨q1, q2, q3⟩ => ?_)
    refine bin_ok P f _ (k + 1) (hp.bub _ _) (by omega) (by omega) fun i j g1 g2 => ?_
    have hs := hp.size
    rw [at_bub (by omega) (by omega), at_bub (by omega) (by omega), show k - (k - l) = l by omega]
    by_cases hi : i = l <;> by_cases hj : j = l
    · rw [if_pos hj, if_pos hi]; exact P.refl _
    · rw [if_neg hj, if_pos hi, if_pos (by omega)]; exact q3 _ (by omega) (by omega)
    · rw [if_pos hj, if_neg hi, if_neg (by omega)]; exact q2 _ (by omega)
    · rw [if_neg hj, if_neg hi]
      split
      · split
        · exact h _ _ (by omega) (by omega)
        · exact h _ _ (by omega) (by omega)
      · split
        · omega
        · exact h _ _ (by omega) (by omega)
theorem sort_ok (P : Pre lt) (h1 : 1 ≤ n) : KP lt n (kas_sort n) fun q => Pm n q ∧ Up lt q n := by
  refine KP.bind ((count_ok P (p := List.toArray (List.range n)) (List.Perm.refl _) h1).mono fun r ⟨q1, q2, q3, q4⟩ => ?_)
  have e : max r.1 1 = r.1 := by omega
  split
  · rw [e]; exact bin_ok P _ _ _ q1 q2 (by omega) q4
  · obtain e2 : r.1 = n := by omega
    rw [e2] at q4
    exact ⟨q1, q4⟩
end
end Mine
open PySem PySem.W PyProof.Rows PySem.Calls
set_option Elab.async false
set_option maxRecDepth 100000
namespace Mine
/-! sorted() -/
section
variable {cx : Cx} {n : Nat} {sc : Scope} {loc : Loc} {σ : List O} {P : V → List O → Prop}
theorem intsAre_get : ∀ {vs : List Value} {ns : List Int}, vs.length = ns.length → (∀ (j : Nat) v k, vs[j]? = some v → ns[j]? = some k → ∃ t, v = .int k t) → IntsAre vs ns
  | [], [], _, _ => .nil
  | [], _ :: _, h, _ => nomatch h
  | _ :: _, [], h, _ => nomatch h
  | v :: vs, k :: ns, h, q => by
    obtain ⟨t, rfl⟩ := q 0 v k rfl rfl
    exact .cons k t (intsAre_get (Nat.succ.inj h) fun j => q (j + 1))
theorem lk_keys {α β : Type} [DecidableEq α] {l : List (α × β)} {x : α} : x ∈ l.map (·.1) ↔ (lk l x).isSome = true := by
  constructor
  · intro h
    induction l with
    | nil => cases h
    | cons a l ih =>
      obtain ⟨k, v⟩ := a
      simp only [lk]
      split
      · rfl
      · rename_i q
        rcases List.mem_cons.mp h with e | h
        · exact absurd e.symm q
        · exact ih h
  · intro h
    obtain ⟨v, e⟩ := Option.isSome_iff_exists.mp h
    exact lk_mem e
theorem sorted_len {ns ms : List Int} (p : ns.Perm ms) (h : ms.length < 64) : (ns.map V.int).length ≤ sizeLine := by
  rw [List.length_map, p.length_eq, sizeLine_eq]; omega
theorem newF {f : Frm} {env : Env} {ρ : List Addr} {s : Shared} {l : List V} {h' : Heap} {xs : List Value} {k t : Nat} (S : St cx f env ρ σ loc s) (kp : ∀ a o, s.heap.get? a = some o → h'.get? a = some o) {b : Addr} (fr : s.heap.get? b = none) (e : h'.get? b = some (listOf xs.toArray k)) (r : VRs cx.hb s.heap ρ l xs) (hz : l.length ≤ sizeLine)
    (h : P (.ref σ.length) (σ ++ [.list l])) : PostE cx f env loc ρ s P (.ref b) { s with heap := h', toks := t } := by
  refine ⟨_, _, ρ ++ [b], h, S.keNews kp (by simp [fr]), S.new kp fr e ⟨xs, k, rfl, VRs.mono (fun _ _ e _ => kp _ _ e) ⟨_, rfl⟩ r, hz⟩ (fun q => nomatch q), .ref ?_⟩
  rw [← S.len, List.getElem?_append_right (Nat.le_refl _), Nat.sub_self]; rfl
/-- a dict's keys, sorted -/
theorem TO_sortedD {i : Nat} {o : O} {l : List (Int × V)} (e : σ[i]? = some o) (d : DR (dI cx) o l) (h64 : l.length < 64) (h : ∀ ns : List Int, ns.Nodup → (∀ x, x ∈ ns ↔ (lk l x).isSome = true) → ns.length = l.length → P (.ref σ.length) (σ ++ [.list (ns.map V.int)])) : TO cx n sc loc σ (callF (.builtin "sorted")) [.ref i] P := fun f env ρ s xs ok eo S r => by
  obtain ⟨x, rfl, rx⟩ := VRs.one r
  obtain ⟨a, kvs, rfl, ha, hd, dd, kk, nd⟩ := S.dict e d rx
  obtain ⟨ep, hat⟩ := dd.dictAt
  refine call_function_entry kind_sorted plain_sorted entry_sorted (args_sorted1 _) ?_
  unfold Builtin.«sorted»
  refine wpAny_bind (m := checkCount "sorted" 1 1 _) (wpAny_pure ?_)
  refine wpAny_bind (kdu_collect (A := f.A.in1) (kdl_dict (knd := (dI cx).knd) (kvs := kvs) (ep := ep) hd) ok.handled hat (by rw [kk.length, sizeLine_eq]; omega) fun h' tk acc hk hacc => ?_)
  have hl : acc.toList.length = kvs.length := by rw [Array.length_toList]; exact hacc.1
  have h64' : acc.toList.length < 64 := by rw [hl, kk.length]; exact h64
  refine wpAny_bind (wpAny_newList ?_ (by rw [sizeLine_eq]; omega))
  have hI : IntsAre acc.toList (kvs.map (·.1)) := intsAre_get (by rw [hl, List.length_map]) fun j v k e1 e2 => by
    obtain ⟨k', x', e3, e4⟩ := hacc.2 j v (by rw [← Array.getElem?_toList]; exact e1)
    rw [List.getElem?_map, e3] at e2
    cases e2
    exact (kdl_flat_int e4).int_inv
  have hoL : (h'.push { cls := .type "list", data := .seq acc.toList.toArray }).get? h'.objs.size = some (seqObj "list" acc.toList.toArray 0) := Heap.get?_push_size _ rfl
  refine wpAny_bind (wpAny_holding (wpAny_call_entry slot_list_sort ⟨_, hoL, rfl⟩ entry_list_sort (list_sort_tree hoL hI h64' fun out ns' a1 a2 a3 => ⟨_, rfl, ?_⟩) (args_list_sort _)))
  refine wpAny_pure ⟨_, rfl, ?_⟩
  obtain ⟨e1, he1⟩ := sortedHeap_at (out := out) hoL
  have kp : ∀ b o, s.heap.get? b = some o → (sortedHeap (h'.push { cls := .type "list", data := .seq acc.toList.toArray }) h'.objs.size acc.toList out).get? b = some o := fun b o q => by
    have hb := hk _ _ q
    rw [sortedHeap_old (Nat.ne_of_lt (Heap.lt_size hb)) (Heap.lt_size (Heap.get?_push_of_some _ hb))]
    exact Heap.get?_push_of_some _ hb
  rw [kk.keys] at a2
  refine newF (t := tk) (xs := out.toList) (k := e1) S kp ?_ he1 (VRs.ints a1) (sorted_len a2 (by rw [List.length_map]; exact h64)) (h ns' (a2.symm.nodup (by rw [← kk.keys]; exact nd)) (fun x => a2.mem_iff.trans lk_keys) (by rw [a2.length_eq, List.length_map]))
  cases hq : s.heap.get? h'.objs.size with
  | none => rfl
  | some o => exact absurd (Heap.lt_size (hk _ _ hq)) (Nat.lt_irrefl _)

/-! pairs of a text and a number -/
abbrev Pr := Str × Int
def plt (p q : Pr) : Bool := if p.1 = q.1 then decide (p.2 < q.2) else decide (p.1.cps.toList < q.1.cps.toList)
theorem str_eq {a b : Str} (h : a.cps.toList = b.cps.toList) : a = b := by
  obtain ⟨a⟩ := a
  obtain ⟨b⟩ := b
  exact congrArg Str.mk (Array.toList_inj.mp h)
theorem plt_tot {p q : Pr} (h : plt p q = true) : plt q p = false := by
  unfold plt at h ⊢
  by_cases e : p.1 = q.1
  · rw [if_pos e] at h; rw [if_pos e.symm]
    simp only [decide_eq_true_eq, decide_eq_false_iff_not] at h ⊢
    omega
  · rw [if_neg e] at h; rw [if_neg (fun z => e z.symm)]
    simp only [decide_eq_true_eq, decide_eq_false_iff_not] at h ⊢
    exact List.lt_asymm h
theorem plt_anti {p q : Pr} (h : plt p q = false) (k : plt q p = false) : p = q := by
  unfold plt at h k
  by_cases e : p.1 = q.1
  · rw [if_pos e] at h; rw [if_pos e.symm] at k
    simp only [decide_eq_false_iff_not] at h k
    obtain ⟨a, b⟩ := p
    obtain ⟨c, d⟩ := q
    dsimp only at e h k
    subst e
    rw [show b = d by omega]
  · rw [if_neg e] at h; rw [if_neg (fun z => e z.symm)] at k
    simp only [decide_eq_false_iff_not] at h k
    exact absurd (str_eq (List.le_antisymm k h)) e
theorem plt_tr {p q r : Pr} (h : plt q p = false) (k : plt r q = false) : plt r p = false := by
  unfold plt at h k ⊢
  by_cases e1 : p.1 = q.1
  · by_cases e2 : q.1 = r.1
    · rw [if_pos e1.symm] at h; rw [if_pos e2.symm] at k; rw [if_pos (e1.trans e2).symm]
      simp only [decide_eq_false_iff_not] at h k ⊢
      omega
    · rw [if_neg (fun z => e2 z.symm)] at k; rw [if_neg (fun z => e2 (e1.symm.trans z.symm)), e1]
      exact k
  · by_cases e2 : q.1 = r.1
    · rw [if_neg (fun z => e1 z.symm)] at h; rw [if_neg (fun z => e1 (z.symm.trans e2.symm)), ← e2]
      exact h
    · rw [if_neg (fun z => e1 z.symm)] at h; rw [if_neg (fun z => e2 z.symm)] at k
      simp only [decide_eq_false_iff_not] at h k
      by_cases e3 : p.1 = r.1
      · rw [← e3] at k
        exact absurd (str_eq (List.le_antisymm h k)) e1
      · rw [if_neg (fun z => e3 z.symm)]
        simp only [decide_eq_false_iff_not]
        exact List.le_trans h k
theorem pre_at (l : List Pr) : Pre fun i j => plt (l.getD i (S "", 0)) (l.getD j (S "", 0)) := ⟨fun _ _ h => plt_tot h, fun _ _ _ h k => plt_tr h k⟩
abbrev pv (p : Pr) : V := .tup [.str p.1, .int p.2]
/-- the items of a permutation -/
theorem map_range {α : Type} {l : List α} {d : α} : (List.range l.length).map (fun i => l.getD i d) = l := by
  apply List.ext_getElem
  · simp
  · intro i h1 h2; simp [h2]
theorem Pm.items {α : Type} {l : List α} {d : α} {q : Array Nat} (h : Pm l.length q) : (q.toList.map fun i => l.getD i d).Perm l := by
  have := List.Perm.map (fun i => l.getD i d) h
  rwa [map_range] at this
theorem Up.items {l : List Pr} {q : Array Nat} (h : Pm l.length q) (u : Up (fun i j => plt (l.getD i (S "", 0)) (l.getD j (S "", 0))) q l.length) : (q.toList.map fun i => l.getD i (S "", 0)).Pairwise fun a b => plt b a = false := by
  rw [List.pairwise_iff_getElem]
  intro i j hi hj hij
  rw [List.length_map, Array.length_toList] at hi hj
  have hs := h.size
  have := u i j (Nat.le_of_lt hij) (by omega)
  unfold at' at this
  rw [Array.getD_eq_getD_getElem?, Array.getD_eq_getD_getElem?, Array.getElem?_eq_getElem hi, Array.getElem?_eq_getElem hj] at this
  simpa using this
/-- a pair's tuple in the heap -/
def TupAt (h : Heap) (p : Pr) (v : Value) : Prop := ∃ b n t u, v = .ref b ∧ h.get? b = some { cls := .type "tuple", data := .seq #[.str p.1 t, .int p.2 u] n }
theorem TupAt.keep {h h' : Heap} {p : Pr} {v : Value} (x : TupAt h p v) (k : ∀ b n xs, h.get? b = some { cls := .type "tuple", data := .seq xs n } → h'.get? b = some { cls := .type "tuple", data := .seq xs n }) : TupAt h' p v := by
  obtain ⟨b, n, t, u, e, g⟩ := x; exact ⟨b, n, t, u, e, k _ _ _ g⟩
theorem tupsAt {hb h : Heap} {ρ : List Addr} : ∀ {l : List Pr} {vs : List Value}, VRs hb h ρ (l.map pv) vs → All2 (TupAt h) l vs
  | [], _, r => by cases r; exact .nil
  | p :: l, _, r => by
    cases r with
    | cons a r =>
      obtain ⟨b, xs, n, rfl, g, q⟩ := a.tupE
      obtain ⟨x, y, rfl, rx, ry⟩ := VRs.two q
      obtain ⟨t, rfl⟩ := rx.strE
      obtain ⟨u, rfl⟩ := ry.intE
      exact .cons ⟨b, n, t, u, rfl, g⟩ (tupsAt r)
theorem katTups {h : Heap} {l : List Pr} {vs : List Value} (r : All2 (TupAt h) l vs) : ∃ fs, KatTups h vs fs ∧ fs.length = l.length ∧ ∀ v ∈ fs, ∃ x t, v = .str x t := by
  induction r with
  | nil => exact ⟨[], .nil, rfl, fun _ h => nomatch h⟩
  | cons a _ ih =>
    obtain ⟨fs, h1, h2, h3⟩ := ih
    obtain ⟨b, n, t, u, rfl, g⟩ := a
    refine ⟨_ :: fs, .cons g rfl rfl rfl h1, by rw [List.length_cons, List.length_cons, h2], fun v hv => ?_⟩
    rcases List.mem_cons.mp hv with rfl | hv
    · exact ⟨_, _, rfl⟩
    · exact h3 v hv
theorem tup_lt {prog : Program} {w : World} {A : Around} {E : Value → Shared → Prop} {s : Shared} {p q : Pr} {v u : Value} {Q : Bool → Shared → Prop} (hp : TupAt s.heap p v) (hq : TupAt s.heap q u) (h : Q (plt p q) s) : wpAny (model prog w) A (keyLt' (tuples' true) v u) Q E s := by
  obtain ⟨b, n, t, t', rfl, g⟩ := hp
  obtain ⟨b', n', t1, t2, rfl, g'⟩ := hq
  refine kat_lt g rfl g' rfl ?_
  refine kat_cons (wpAny_eqBool_str ?_)
  unfold plt at h
  by_cases e : p.1 = q.1
  · rw [if_pos e] at h
    rw [decide_eq_true e]
    refine kat_yes (kat_cons (wpAny_eqBool_int ?_))
    cases e2 : p.2 == q.2 with
    | true =>
      have e2 := beq_iff_eq.mp e2
      refine kat_yes (kat_nil ?_)
      rw [e2, decide_eq_false (Int.lt_irrefl _)] at h
      exact h
    | false => exact kat_no (kat_one _ _ (PyProof.Rows.lt_int h))
  · rw [if_neg e] at h
    rw [decide_eq_false e]
    exact kat_no (oneLt_str h)
end
end Mine
open PySem PySem.W PyProof.Rows PySem.Calls
set_option Elab.async false
set_option maxRecDepth 100000
namespace Mine
section
variable {prog : Program} {w : World} {A : Around} {E : Value → Shared → Prop} {s : Shared}
abbrev ltAt (l : List Pr) (i j : Nat) : Bool := plt (l.getD i (S "", 0)) (l.getD j (S "", 0))
theorem All2.getD' {α : Type} {R : α → Value → Prop} {l : List α} {vs : List Value} (r : All2 R l vs) {i : Nat} (h : i < l.length) (d : α) : R (l.getD i d) (vs.getD i Value.none) := by
  obtain ⟨v, e, q⟩ := r.get (List.getElem?_eq_getElem h)
  have h1 : l.getD i d = l[i] := by simp [h]
  have h2 : vs.getD i Value.none = v := by rw [List.getD_eq_getElem?_getD, e]; rfl
  rw [h1, h2]; exact q
/-- list.sort of pairs -/
theorem list_sort_tup {a : Addr} {vs : List Value} {l : List Pr} {n : Nat} {P : PySem.Fin → Shared → Prop} (ho : s.heap.get? a = some (seqObj "list" vs.toArray n)) (r : All2 (TupAt s.heap) l vs) (h64 : vs.length < 64)
    (h : ∀ q, Pm l.length q → Up (ltAt l) q l.length → P (.done (.ret .none)) { s with heap := sortedHeap s.heap a vs (List.toArray (q.toList.map fun i => vs.getD i Value.none)) }) :
    wpAny (model prog w) A (Builtin.«list.sort» ⟨[.ref a], []⟩) P E s := by
  have hl := r.length
  have ha : a < s.heap.objs.size := Heap.lt_size ho
  have hz : vs.toArray.size ≤ sizeLine := by rw [List.size_toArray, sizeLine_eq]; omega
  obtain ⟨e1, ho1⟩ : ∃ e1, (s.heap.update a (Obj.mapSeq fun _ => #[])).get? a = some (seqObj "list" #[] e1) := ⟨_, get?_update_seq ho fun _ => #[]⟩
  rw [list_sort_plain]
  refine wpAny_bind (listItems_at ho rfl (wpAny_bind (listUpdate_at ho rfl ?_ hz (Nat.zero_le _))))
  refine wpAny_bind (seqEpoch_at ho1 rfl (wpAny_bind (wpAny_newTuple ?_ (by show vs.length ≤ _; rw [sizeLine_eq]; omega))))
  refine wpAny_bind (wpAny_newList (wpAny_holding ?_) (Nat.zero_le _))
  show wpAny (model prog w) A _ P E { s with heap := ((s.heap.update a (Obj.mapSeq fun _ => #[])).push (seqObj "tuple" vs.toArray 0)).push (seqObj "list" #[] 0) }
  have ne : ∀ b o, b ≠ a → s.heap.get? b = some o → (((s.heap.update a (Obj.mapSeq fun _ => (#[] : Array Value))).push (seqObj "tuple" vs.toArray 0)).push (seqObj "list" #[] 0)).get? b = some o := fun b o hb e => by
    refine Heap.get?_push_of_some _ (Heap.get?_push_of_some _ ?_)
    rw [Heap.get?_update_ne _ _ _ _ hb]; exact e
  have ho6 : (((s.heap.update a (Obj.mapSeq fun _ => (#[] : Array Value))).push (seqObj "tuple" vs.toArray 0)).push (seqObj "list" #[] 0)).get? a = some (seqObj "list" #[] e1) := Heap.get?_push_of_some _ (Heap.get?_push_of_some _ ho1)
  have fin := h
  dsimp only
  have hs : sortedHeap s.heap a vs = fun out => (((s.heap.update a (Obj.mapSeq fun _ => (#[] : Array Value))).push (seqObj "tuple" vs.toArray 0)).push (seqObj "list" #[] 0)).update a (Obj.mapSeq fun _ => out) := rfl
  rw [hs] at fin
  have r6 : All2 (TupAt (((s.heap.update a (Obj.mapSeq fun _ => (#[] : Array Value))).push (seqObj "tuple" vs.toArray 0)).push (seqObj "list" #[] 0))) l vs := r.imp fun p v x => x.keep fun b n xs e => ne b _ (fun z => by subst z; rw [ho] at e; have := congrArg Obj.cls (Option.some.inj e); simp at this) e
  generalize ((s.heap.update a (Obj.mapSeq fun _ => (#[] : Array Value))).push (seqObj "tuple" vs.toArray 0)).push (seqObj "list" #[] 0) = h6 at ho6 r6 fin ⊢
  dsimp only at fin
  by_cases h2 : vs.toArray.size < 2
  · rw [if_pos h2, if_pos h2]
    refine wpAny_bind (wpAny_pure ?_)
    rw [StateT.run_pure]
    refine wpAny_bind (wpAny_pure ?_)
    dsimp only
    refine wpAny_bind (seqEpoch_at ho6 rfl (wpAny_bind (listUpdate_at ho6 rfl ?_ (Nat.zero_le _) ?_)))
    · simp only [bne_self_eq_false, Bool.false_eq_true, if_false]
      have hq : Pm l.length (List.toArray (List.range l.length)) := List.Perm.refl _
      have e : (arrOf (SortSt.mk' general' (vs.toArray.zip vs.toArray) #[] 7 none)).map (·.2) = List.toArray ((List.toArray (List.range l.length)).toList.map fun i => vs.getD i Value.none) := by
        rw [← hl, List.toList_toArray, map_range]
        show (pairsOf vs).map (·.2) = _
        apply Array.toList_inj.mp
        rw [Array.toList_map, pairsOf_toList]
        simp [List.map_snd_zip]
      rw [e]
      refine wpAny_pure (fin _ hq fun i j h3 h4 => ?_)
      rw [List.size_toArray, hl] at h2
      obtain rfl : i = j := by omega
      exact (pre_at l).refl _
    · rw [Array.size_map]; show (pairsOf vs).size ≤ _; rw [pairsOf_size, sizeLine_eq]; omega
  · rw [if_neg h2, if_neg h2]
    rw [List.size_toArray] at h2
    obtain ⟨fs, t1, t2, t3⟩ := katTups r6
    refine wpAny_bind (kat_kind (T := .type "str") t1 (by omega) (fun v hv => by obtain ⟨x, t, rfl⟩ := t3 v hv; exact Looks.of_pure rfl) rfl ?_)
    refine wpAny_bind (wpAny_mono (kat_run (ks := vs) (vs := vs) (E := fun _ _ => False) (G := fun q s' => s' = { s with heap := h6 } ∧ Pm l.length q ∧ Up (ltAt l) q l.length)
      (Q := fun st' s' => s' = { s with heap := h6 } ∧ ∃ q, Pm l.length q ∧ Up (ltAt l) q l.length ∧ arrOf st' = q.map (kas_item (vs.toArray.zip vs.toArray)) ∧ failedOf st' = none) rfl (by omega) h64 (fun q st' s' a1 a2 a3 a4 => ⟨a4.1, q, a4.2.1, a4.2.2, a2, a3⟩) ?_) ?_ fun _ _ x => x.elim)
    · rw [hl]
      refine KP.run (φ := fun s' => s' = { s with heap := h6 }) (fun i j C s' hi hj e k => ?_) (sort_ok (pre_at l) (by omega)) (fun q s' e k => ⟨e, k⟩) _ rfl
      subst e
      exact tup_lt (r6.getD' hi _) (r6.getD' hj _) (k _ rfl)
    · rintro ⟨⟨⟩, st'⟩ s' ⟨rfl, q, q1, q2, q3, q4⟩
      dsimp only
      refine wpAny_bind (seqEpoch_at ho6 rfl (wpAny_bind (listUpdate_at ho6 rfl ?_ (Nat.zero_le _) ?_)))
      · rw [q4, kat_snds rfl q3]
        simp only [bne_self_eq_false, Bool.false_eq_true, if_false]
        exact wpAny_pure (fin q q1 q2)
      · rw [kat_snds rfl q3, List.size_toArray, List.length_map, Array.length_toList, q1.size, sizeLine_eq]; omega
end
section
variable {cx : Cx} {n : Nat} {sc : Scope} {loc : Loc} {σ : List O} {P : V → List O → Prop}
theorem items_vr {hb h : Heap} {ρ : List Addr} {l : List V} {vs : List Value} {d : V} (r : VRs hb h ρ l vs) : ∀ {q : List Nat}, (∀ i ∈ q, i < l.length) → VRs hb h ρ (q.map fun i => l.getD i d) (q.map fun i => vs.getD i Value.none)
  | [], _ => .nil
  | i :: q, k => .cons (All2.getD' r (k i (.head _)) d) (items_vr r fun j hj => k j (.tail _ hj))
theorem TO_sortT {i : Nat} {l : List Pr} (e : σ[i]? = some (.list (l.map pv))) (h64 : l.length < 64) (h : ∀ l' : List Pr, l'.Perm l → l'.Pairwise (fun a b => plt b a = false) → P (.ref σ.length) (σ ++ [.list (l'.map pv)])) : TO cx n sc loc σ (callF (.builtin "sorted")) [.ref i] P := fun f env ρ s xs ok eo St r => by
  obtain ⟨x, rfl, rx⟩ := VRs.one r
  obtain ⟨a, vs, k, rfl, ha, g, r'⟩ := St.list e rx
  have hl : vs.length = l.length := by rw [r'.length, List.length_map]
  have hv64 : vs.length < 64 := by omega
  refine call_function_entry kind_sorted plain_sorted entry_sorted (args_sorted1 _) ?_
  unfold Builtin.«sorted»
  refine wpAny_bind (m := checkCount "sorted" 1 1 _) (wpAny_pure ?_)
  refine wpAny_bind (collect_list (isList_of g) (wpAny_bind (wpAny_newList ?_ (by rw [sizeLine_eq]; omega))) (by rw [sizeLine_eq]; omega))
  have hsz : ((s.heap.push (seqObj "list" #[] 0)).update s.heap.objs.size (Obj.mapSeq (· ++ vs.toArray))).objs.size = s.heap.objs.size + 1 := by rw [Heap.size_update, size_push']
  have hoL : (((s.heap.push (seqObj "list" #[] 0)).update s.heap.objs.size (Obj.mapSeq (· ++ vs.toArray))).push (seqObj "list" vs.toArray 0)).get? (s.heap.objs.size + 1) = some (seqObj "list" vs.toArray 0) := by
    rw [← hsz]; exact Heap.get?_push_size _ rfl
  have kp : ∀ b o, s.heap.get? b = some o → (((s.heap.push (seqObj "list" #[] 0)).update s.heap.objs.size (Obj.mapSeq (· ++ vs.toArray))).push (seqObj "list" vs.toArray 0)).get? b = some o := fun b o q => by
    refine Heap.get?_push_of_some _ ?_
    rw [Heap.get?_update_ne _ _ _ _ (Nat.ne_of_lt (Heap.lt_size q))]
    exact Heap.get?_push_of_some _ q
  show wpAny _ _ _ _ _ { s with heap := ((s.heap.push (seqObj "list" #[] 0)).update s.heap.objs.size (Obj.mapSeq (· ++ vs.toArray))).push (seqObj "list" vs.toArray 0) }
  rw [hsz]
  have r2 : All2 (TupAt (((s.heap.push (seqObj "list" #[] 0)).update s.heap.objs.size (Obj.mapSeq (· ++ vs.toArray))).push (seqObj "list" vs.toArray 0))) l vs := (tupsAt r').imp fun p v x => x.keep fun b n xs e => kp _ _ e
  refine wpAny_bind (wpAny_holding (wpAny_call_entry slot_list_sort ⟨_, hoL, rfl⟩ entry_list_sort (list_sort_tup hoL r2 hv64 fun q q1 q2 => ⟨_, rfl, ?_⟩) (args_list_sort _)))
  refine wpAny_pure ⟨_, rfl, ?_⟩
  obtain ⟨e1, he1⟩ := sortedAll_at s.heap vs (List.toArray (q.toList.map fun i => vs.getD i Value.none))
  have hq : (q.toList.map fun i => (l.map pv).getD i (pv (S "", 0))) = (q.toList.map fun i => l.getD i (S "", 0)).map pv := by
    rw [List.map_map]
    refine List.map_congr_left fun i _ => ?_
    simp only [List.getD_eq_getElem?_getD, List.getElem?_map, Function.comp]
    cases l[i]? <;> rfl
  have rr := items_vr (d := pv (S "", 0)) r' (q := q.toList) fun i hi => by
    rw [List.length_map]
    have := q1.mem_iff.mp hi
    rwa [List.mem_range] at this
  rw [hq] at rr
  exact newF (t := s.toks) (xs := q.toList.map fun i => vs.getD i Value.none) (k := e1) St (fun _ _ => sortedAll_old) (noneAt (Nat.le_succ _)) he1 rr (by rw [List.length_map, List.length_map, Array.length_toList, q1.size, sizeLine_eq]; omega) (h _ q1.items (Up.items q1 q2))
end
end Mine
open PySem PySem.W PyProof.Rows PySem.Calls
set_option Elab.async false
set_option maxRecDepth 4000
namespace Mine
/-- a dict that counts -/
def TmAt (σ : List O) (i : Nat) (ks : List Int) : Prop := ∃ m, σ[i]? = some (.di m) ∧ (∀ x, lk m x = if x ∈ ks then some (.int (ks.count x : Nat)) else none) ∧ m.length ≤ ks.length
theorem TmAt.keep {σ σ' : List O} {i : Nat} {ks : List Int} (h : TmAt σ i ks) (k : ∀ o, σ[i]? = some o → σ'[i]? = some o) : TmAt σ' i ks := by
  obtain ⟨m, a, b⟩ := h; exact ⟨m, k _ a, b⟩
theorem TmAt.inc {σ : List O} {i : Nat} {ks : List Int} {m : List (Int × V)} {k : Int} (h : σ[i]? = some (.di m)) (hm : ∀ x, lk m x = if x ∈ ks then some (V.int (ks.count x : Nat)) else none) (hl : m.length ≤ ks.length) :
    TmAt (σ.set i (.di (put m k (.int ((ks.count k : Nat) + 1 : Int))))) i (ks ++ [k]) := by
  refine ⟨_, getS h, fun x => ?_, by rw [List.length_append]; exact Nat.le_trans put_len (Nat.succ_le_succ hl)⟩
  rw [lk_put, List.count_append]
  by_cases q : k = x
  · subst q
    rw [if_pos rfl, if_pos (List.mem_append_right _ (.head _))]
    simp
  · rw [if_neg q, hm]
    have q' : ¬ x = k := fun z => q z.symm
    simp only [List.mem_append, List.mem_singleton, q', or_false]
    rw [show List.count x [k] = 0 by simp [q], Nat.add_zero]
theorem TmAt.get {ks : List Int} {m : List (Int × V)} (hm : ∀ x, lk m x = if x ∈ ks then some (V.int (ks.count x : Nat)) else none) (x : Int) : (lk m x).getD (.int 0) = .int (ks.count x : Nat) := by
  rw [hm]
  split
  · rfl
  · rename_i h; rw [List.count_eq_zero.mpr h]; rfl
section
variable {cx : Cx} {n : Nat} {sc : Scope} {loc : Loc} {σ : List O} {P : V → List O → Prop} {Q : Fl → Loc → List O → Prop} {pos : Pos} {N : Nat} {t : Net}
/-- times[k] = times.get(k, 0) + 1 -/
theorem incT (c : CxOk cx) {x : Str} {e e' : Expr} {i : Nat} {ks : List Int} {k : Int} {p1 p2 p3 p4 p5 p6 p7 p8 : Pos} {q1 q2 : Nat} (hx : lk loc x = some (.ref i)) (h : TmAt σ i ks) (he : pe sc loc σ 12 e = some (.int k)) (he' : pe sc loc σ 12 e' = some (.int k)) (hz : ks.length ≤ 1000)
    (p : ∀ m, TmAt (σ.set i (.di m)) i (ks ++ [k]) → Q .next loc (σ.set i (.di m))) (hn : nameOk x = true := by rfl)
    (ha : ∀ env, starEach [e', .Constant (.int 0) q1 p7] env = (false, eval e' env) :: starEach [.Constant (.int 0) q1 p7] env := by intro; rfl)
    (hm : ∀ env, ∃ pl, eval (.Call (.Attribute (.Name x p3) (S "get") p4) [e', .Constant (.int 0) q1 p7] [] p5) env = (do
      let ov ← eval (.Name x p3) env
      standAt p4.atName
      let (f, first) ← holding [ov] (getMethod ov (S "get") pl)
      callWith p5 f first (backTo p5 (starEach [e', .Constant (.int 0) q1 p7] env)) (backToKw p5 (keywordEach [] env))) := by intro; exact ⟨_, rfl⟩) :
    TS cx n sc loc σ (.Assign [.Subscript (.Name x p1) e p2] (.BinOp (.Call (.Attribute (.Name x p3) (S "get") p4) [e', .Constant (.int 0) q1 p7] [] p5) .Add (.Constant (.int 1) q2 p8) p6) pos) Q := by
  obtain ⟨m, h1, h2, h3⟩ := h
  refine TS_setSub (TE_bin (TE_meth PySem.F.plainAttrs_dict PySem.F.slot_dict_get PySem.F.type_dict_get (TE_var hx ⟨ty_dict (D := dI cx) h1 dI_r, TEs_cons (ex c he' (TEs_cons (TE_int (TEs_nil (TO_get2 (dI cx) h1 dI_r ?_))))) ha⟩ hn) (fun env => ⟨eval e' env, [(false, eval (.Constant (.int 0) q1 p7) env)], by rw [ha]; rfl, rfl⟩) hm))
  rw [TmAt.get h2]
  refine TE_int (TO_intI (fun k => PyProof.Rows.add_int k) (TE_var hx (ex c he (TU_set (dI cx) h1 dI_r (p _ (TmAt.inc h1 h2 h3)) (Nat.le_trans h3 (Nat.le_trans hz (by decide))))) hn))
theorem SetAt.newI : SetAt cx (dI cx) (σ ++ [.di []]) σ.length [] := ⟨_, [], getA, dI_r, fun _ => rfl, Nat.le_refl _⟩
/-- used[k] = True -/
theorem setT (c : CxOk cx) {x : Str} {e : Expr} {i : Nat} {ks : List Int} {k : Int} {p1 p2 p8 : Pos} {q2 : Nat} (hx : lk loc x = some (.ref i)) (h : ∃ m, σ[i]? = some (.di m) ∧ (∀ x, (lk m x).isSome = decide (x ∈ ks)) ∧ m.length ≤ ks.length) (he : pe sc loc σ 12 e = some (.int k)) (hz : ks.length ≤ 1000)
    (p : ∀ m, (∀ x, (lk m x).isSome = decide (x ∈ ks ++ [k])) ∧ m.length ≤ (ks ++ [k]).length → Q .next loc (σ.set i (.di m))) (hn : nameOk x = true := by rfl) :
    TS cx n sc loc σ (.Assign [.Subscript (.Name x p1) e p2] (.Constant (.bool true) q2 p8) pos) Q := by
  obtain ⟨m, h1, h2, h3⟩ := h
  refine TS_setSub (TE_bool (TE_var hx (ex c he (TU_set (dI cx) h1 dI_r (p _ ⟨fun x => ?_, ?_⟩) (Nat.le_trans h3 (Nat.le_trans hz (by decide))))) hn))
  · rw [lk_put]
    by_cases q : k = x
    · subst q; simp
    · rw [if_neg q, h2]; simp [Ne.symm q]
  · rw [List.length_append]; exact Nat.le_trans put_len (Nat.succ_le_succ h3)
end
end Mine
open PySem PySem.W PyProof.Rows PySem.Calls
set_option Elab.async false
set_option maxRecDepth 4000
namespace Mine
def UsAt (σ : List O) (i : Nat) (ks : List Int) : Prop := ∃ m, σ[i]? = some (.di m) ∧ (∀ x, (lk m x).isSome = decide (x ∈ ks)) ∧ m.length ≤ ks.length
/-- the three that net_faults fills: faults, times, used -/
structure NI (b τ : List O) (fs : List V) (ks us : List Int) : Prop where
  k : Keep b τ
  f : τ[b.length]? = some (.list fs)
  tm : TmAt τ (b.length + 1) ks
  us : UsAt τ (b.length + 2) us
section
variable {b τ : List O} {fs fs' : List V} {ks us ks' us' : List Int}
theorem NI.setT (h : NI b τ fs ks us) {m : List (Int × V)} (q : TmAt (τ.set (b.length + 1) (.di m)) (b.length + 1) ks') : NI b (τ.set (b.length + 1) (.di m)) fs ks' us :=
  ⟨h.k.set (Nat.le_succ _), getN (by omega) h.f, q, by obtain ⟨m', a, r⟩ := h.us; exact ⟨m', getN (by omega) a, r⟩⟩
theorem NI.setU (h : NI b τ fs ks us) {m : List (Int × V)} (q : (∀ x, (lk m x).isSome = decide (x ∈ us')) ∧ m.length ≤ us'.length) : NI b (τ.set (b.length + 2) (.di m)) fs ks us' :=
  ⟨h.k.set (Nat.le_add_right _ 2), getN (by omega) h.f, h.tm.keep fun o e => getN (by omega) e, by obtain ⟨m', a, r⟩ := h.us; exact ⟨m, getS a, q⟩⟩
theorem NI.setF (h : NI b τ fs ks us) : NI b (τ.set b.length (.list fs')) fs' ks us :=
  ⟨h.k.set (Nat.le_refl _), getS h.f, h.tm.keep fun o e => getN (by omega) e, by obtain ⟨m', a, r⟩ := h.us; exact ⟨m', getN (by omega) a, r⟩⟩
theorem NI.app (h : NI b τ fs ks us) {l : List O} : NI b (τ ++ l) fs ks us :=
  ⟨h.k.trans (Keep.app _ _), getB h.f, h.tm.keep fun o e => getB e, by obtain ⟨m', a, r⟩ := h.us; exact ⟨m', getB a, r⟩⟩
end
theorem flat_part {α β : Type} {f : α → List β} {l : List α} {i : Nat} {x : α} (h : l[i]? = some x) : ((l.take i).flatMap f).length + (f x).length ≤ (l.flatMap f).length := by
  have h1 := flat_take (f := f) h
  have h2 : ((l.take (i + 1)).flatMap f).length ≤ (l.flatMap f).length := by
    conv => rhs; rw [← List.take_append_drop (i + 1) l, List.flatMap_append, List.length_append]
    exact Nat.le_add_right _ _
  rw [h1, List.length_append] at h2
  exact h2
def usedL (t : Net) : List Int := t.cells.flatMap (·.i) ++ t.outs.flatMap (·.2)
/-- what net_faults says of a net that is driven, of one that is read -/
def tf (t : Net) (x : Int) : Option V := bif decide (x < 0) || decide (x ≥ t.cnt) then some (flt (S "bad_net") x) else bif decide (((made t).count x : Int) > 1) then some (flt (S "two_drivers") x) else none
def uf (t : Net) (x : Int) : Option V := bif decide (x ∈ made t) then none else some (flt (bif insideN t x then S "undriven" else S "bad_net") x)
structure Sz2 (t : Net) : Prop where
  made : (made t).length < 64
  used : (usedL t).length < 64
section
variable {cx : Cx} {n : Nat} {sc : Scope} {loc : Loc} {σ : List O} {P : V → List O → Prop} {Q : Fl → Loc → List O → Prop} {pos : Pos} {N : Nat} {t : Net}
theorem or2 {a b : Expr} {ba bb : Bool} {P : Bool → List O → Prop} (ha : EvB cx n sc loc σ a ba) (hb : EvB cx n sc loc σ b bb) (p : P (ba || bb) σ) : TB cx n sc loc σ (.BoolOp .Or [a, b] pos) P :=
  TB_op (TAll_or (ha _ (by cases ba with
    | true => exact p
    | false => exact TAll_or (hb _ (by cases bb with | true => exact p | false => exact TAll_orN p)))))
abbrev nL (b N : Nat) : Loc := [(S "used", .ref (b + 2)), (S "times", .ref (b + 1)), (S "faults", .ref b), (S "netlist", .ref N)]
theorem sNetF (c : TopOk cx) (hN : NetAt σ N t) (z : Sz2 t)
    (p : ∀ r σ' (ns us : List Int), Keep σ σ' → ns.Nodup → (∀ x, x ∈ ns ↔ x ∈ made t) → us.Nodup → (∀ x, x ∈ us ↔ x ∈ usedL t) → σ'[r]? = some (.list (ns.filterMap (tf t) ++ us.filterMap (uf t))) → P (.ref r) σ') : TF cx (n + 2) (fn 16) [.ref N] σ P := by
  have c' := c.toCxOk
  obtain ⟨d, nm0, a, b, e, pi, po, h1, h2, h3, h4, h5, h6⟩ := hN.ex
  have e1 : (σ ++ [O.list []]).length = σ.length + 1 := List.length_append
  have e2 : ((σ ++ [O.list []]) ++ [O.di [(0, .int 1), (1, .int 1)]]).length = σ.length + 2 := by rw [List.length_append, e1]; rfl
  refine ⟨[S "netlist"], bd1, rfl, TSs_cons (new0 (nxt (TS_assign (TE_dict2 (v := .int 1) c.c0 c.c1 (by decide) ?_ (nxt (newD (nxt ?_)))))))⟩
  · rintro e (rfl | rfl) <;> exact fun _ h => wpAny_Constant_int (h _ _ fun _ _ => .int _ _)
  rw [e1, e2]
  have I0 : NI σ ((σ ++ [O.list []]) ++ [O.di [(0, .int 1), (1, .int 1)]] ++ [O.di []]) [] [0, 1] [] :=
    ⟨(Keep.app _ _).trans ((Keep.app _ _).trans (Keep.app _ _)), getB (getB getA), ⟨_, by rw [← e1]; exact getB getA, fun x => by
      simp only [lk]
      by_cases h0 : (0 : Int) = x
      · subst h0; rfl
      · by_cases h1 : (1 : Int) = x
        · subst h1; rfl
        · rw [if_neg h0, if_neg h1, if_neg (by simp [Ne.symm h0, Ne.symm h1])], Nat.le_refl _⟩, ⟨[], by rw [← e2]; exact getA, fun x => rfl, Nat.le_refl _⟩⟩
  generalize (σ ++ [O.list []]) ++ [O.di [(0, V.int 1), (1, .int 1)]] ++ [O.di []] = σ1 at I0
  have zi : ∀ i, (0 :: 1 :: (t.ins.take i).flatMap (·.2)).length ≤ 64 := fun i => by
    have h1 := z.made
    unfold made at h1
    have h2 : ((t.ins.take i).flatMap (·.2)).length ≤ (t.ins.flatMap (·.2)).length := by
      conv => rhs; rw [← List.take_append_drop i t.ins, List.flatMap_append, List.length_append]
      exact Nat.le_add_right _ _
    simp only [List.length_cons, List.length_append] at h1 ⊢
    omega
  -- inputs
  refine TS_for (src_list (j := a) (l := pi)) (fun _ : Unit => nL σ.length N) (fun i _ τ => NI σ τ [] (0 :: 1 :: (t.ins.take i).flatMap (·.2)) [])
    (at_ c' (loc := nL σ.length N) rfl (h1.keep I0.k) rfl ⟨rfl, (), Sub.refl _, I0⟩) (fun i _ τ h => h.k _ _ h2) (fun i v _ τ hv h => ?_) fun _ τ h => ?_
  · obtain ⟨⟨nm, bits⟩, q, hi, rfl, hr⟩ := h3.get hv
    have z1 := flat_part (f := fun x : Str × List Int => x.2) hi
    have z2 := zi t.ins.length
    rw [List.take_length] at z2
    simp only [List.length_cons] at z1 z2
    refine TA_tup (TAs_cons (TA_name (TAs_cons (TA_name (TAs_nil (TSs_cons ?_))))))
    refine TS_for (src_list (j := q) (l := bits.map V.int)) (fun _ : Unit => nL σ.length N) (fun j _ τ => NI σ τ [] ((0 :: 1 :: (t.ins.take i).flatMap (·.2)) ++ bits.take j) [])
      (ex c' (v := .ref q) rfl ⟨rfl, (), .cons rfl (.cons rfl (.cons rfl (.cons rfl .nil))), by simpa using h⟩) (fun j _ τ h => h.k _ _ hr) (fun j v _ τ hv h => ?_) fun _ τ h => ?_
    · rw [List.getElem?_map] at hv
      obtain ⟨x, hx, rfl⟩ := Option.map_eq_some_iff.mp hv
      refine TA_name (TSs_cons (incT c' (i := σ.length + 1) (k := x) rfl h.tm rfl rfl ?_ fun m hm => TSs_nil ⟨(), .cons rfl (.cons rfl (.cons rfl (.cons rfl .nil))), h.setT (by rw [List.take_add_one, hx, ← List.append_assoc]; exact hm)⟩))
      rw [List.length_append, List.length_take]; simp only [List.length_cons]; omega
    · rw [List.length_map, List.take_length] at h
      exact TSs_nil ⟨(), Sub.refl _, by rw [flat_take hi]; exact h⟩
  rw [h3.length, List.take_length] at h
  -- cells
  have zc : ∀ i, ((t.cells.take i).flatMap (·.i)).length ≤ (t.cells.flatMap (·.i)).length := fun i => by
    conv => rhs; rw [← List.take_append_drop i t.cells, List.flatMap_append, List.length_append]
    exact Nat.le_add_right _ _
  have zu := z.used
  have zm := z.made
  unfold usedL at zu
  unfold made at zm
  simp only [List.length_append, List.length_cons, List.length_map] at zu zm
  refine nxt (TS_for (src_list (j := e) (l := t.cells.map Cell.v)) (fun _ : Unit => nL σ.length N) (fun i _ τ => NI σ τ [] (0 :: 1 :: (t.ins.flatMap (·.2) ++ (t.cells.take i).map (·.o))) ((t.cells.take i).flatMap (·.i)))
    (at_ c' rfl (h1.keep h.k) rfl ⟨rfl, (), Sub.refl _, by simpa using h⟩) (fun i _ τ h => h.k _ _ h6) (fun i v _ τ hv h => ?_) fun _ τ h => ?_)
  · rw [List.getElem?_map] at hv
    obtain ⟨x, hx, rfl⟩ := Option.map_eq_some_iff.mp hv
    have hi := (List.getElem?_eq_some_iff.mp hx).1
    have z1 := flat_part (f := fun x : Cell => x.i) hx
    refine TA_name (TSs_cons (incT c' (i := σ.length + 1) (k := x.o) rfl h.tm rfl rfl ?_ fun m hm => nxt ?_))
    · simp only [List.length_append, List.length_cons, List.length_map, List.length_take]; omega
    have h' := h.setT hm
    rw [List.cons_append, List.cons_append, List.append_assoc, ← map_take (f := fun x : Cell => x.o) hx] at h'
    refine TS_for (src_tup (l := x.i.map V.int)) (fun _ : Unit => nL σ.length N) (fun j _ τ => NI σ τ [] (0 :: 1 :: (t.ins.flatMap (·.2) ++ (t.cells.take (i + 1)).map (·.o))) ((t.cells.take i).flatMap (·.i) ++ x.i.take j))
      (ex c' (v := .tup (x.i.map V.int)) rfl ⟨rfl, (), .cons rfl (.cons rfl (.cons rfl (.cons rfl .nil))), by simpa using h'⟩) (fun j _ τ h => trivial) (fun j v _ τ hv h => ?_) fun _ τ h => ?_
    · rw [List.getElem?_map] at hv
      obtain ⟨y, hy, rfl⟩ := Option.map_eq_some_iff.mp hv
      refine TA_name (TSs_cons (setT c' (i := σ.length + 2) (k := y) rfl h.us rfl ?_ fun m hm => TSs_nil ⟨(), .cons rfl (.cons rfl (.cons rfl (.cons rfl .nil))), h.setU (by rw [List.take_add_one, hy, ← List.append_assoc]; exact hm)⟩))
      rw [List.length_append, List.length_take]; omega
    · rw [List.length_map, List.take_length] at h
      exact TSs_nil ⟨(), Sub.refl _, by rw [flat_take hx]; exact h⟩
  rw [List.length_map, List.take_length] at h
  -- outputs
  refine nxt (TS_for (src_list (j := b) (l := po)) (fun _ : Unit => nL σ.length N) (fun i _ τ => NI σ τ [] (made t) (t.cells.flatMap (·.i) ++ (t.outs.take i).flatMap (·.2)))
    (at_ c' rfl (h1.keep h.k) rfl ⟨rfl, (), Sub.refl _, by simpa [made] using h⟩) (fun i _ τ h => h.k _ _ h4) (fun i v _ τ hv h => ?_) fun _ τ h => ?_)
  · obtain ⟨⟨nm, bits⟩, q, hi, rfl, hr⟩ := h5.get hv
    have z1 := flat_part (f := fun x : Str × List Int => x.2) hi
    refine TA_tup (TAs_cons (TA_name (TAs_cons (TA_name (TAs_nil (TSs_cons ?_))))))
    refine TS_for (src_list (j := q) (l := bits.map V.int)) (fun _ : Unit => nL σ.length N) (fun j _ τ => NI σ τ [] (made t) (t.cells.flatMap (·.i) ++ ((t.outs.take i).flatMap (·.2) ++ bits.take j)))
      (ex c' (v := .ref q) rfl ⟨rfl, (), .cons rfl (.cons rfl (.cons rfl (.cons rfl .nil))), by simpa using h⟩) (fun j _ τ h => h.k _ _ hr) (fun j v _ τ hv h => ?_) fun _ τ h => ?_
    · rw [List.getElem?_map] at hv
      obtain ⟨y, hy, rfl⟩ := Option.map_eq_some_iff.mp hv
      refine TA_name (TSs_cons (setT c' (i := σ.length + 2) (k := y) rfl h.us rfl ?_ fun m hm => TSs_nil ⟨(), .cons rfl (.cons rfl (.cons rfl (.cons rfl .nil))), h.setU (by rw [List.take_add_one, hy, Option.toList_some, ← List.append_assoc (List.flatMap (·.2) (List.take i t.outs)) (bits.take j) [y], ← List.append_assoc]; exact hm)⟩))
      simp only [List.length_append, List.length_take]; dsimp only at z1; omega
    · rw [List.length_map, List.take_length] at h
      exact TSs_nil ⟨(), Sub.refl _, by rw [flat_take hi]; exact h⟩
  rw [h5.length, List.take_length] at h
  have h : NI σ τ [] (made t) (usedL t) := h
  have zmm := z.made
  have zuu := z.used
  -- the driven nets
  obtain ⟨mt, g1, g2, g3⟩ := h.tm
  refine nxt (TS_forE (fun _ : Unit => nL σ.length N) (TE_callB c.srt (TEs_cons (TE_var rfl (TEs_nil (TO_sortedD g1 dI_r (by omega) fun ns q1 q2 q3 => ?_))))))
  have q2 : ∀ x, x ∈ ns ↔ x ∈ made t := fun x => (q2 x).trans (by rw [g2]; split <;> simp_all)
  have hns : ns.length ≤ 64 := by omega
  refine ⟨ns.map V.int, _, _, fun i _ τ' => NI σ τ' ((ns.take i).filterMap (tf t)) (made t) (usedL t) ∧ τ'[τ.length]? = some (.list (ns.map V.int)), src_list (j := τ.length), ⟨(), Sub.refl _, h.app, getA⟩, fun i _ τ h => h.2, fun i v _ τ' hv h' => ?_, fun _ τ' h' => ?_⟩
  · rw [List.getElem?_map] at hv
    obtain ⟨x, hx, rfl⟩ := Option.map_eq_some_iff.mp hv
    obtain ⟨h', w⟩ := h'
    have ne : σ.length ≠ τ.length := fun z => by have := (List.getElem?_eq_some_iff.mp h.f).1; omega
    have hmem := (q2 x).mp (List.mem_of_getElem? hx)
    have hz : ((ns.take i).filterMap (tf t)).length < sizeLine := lenF (by omega)
    have sb : Sub (nL σ.length N) ((S "net", .int x) :: nL σ.length N) := .cons rfl (.cons rfl (.cons rfl (.cons rfl .nil)))
    have put : ∀ {s}, tf t x = some s → ∃ _ : Unit, Sub (nL σ.length N) ((S "net", .int x) :: nL σ.length N) ∧ NI σ (τ'.set σ.length (.list ((ns.take i).filterMap (tf t) ++ [s]))) ((ns.take (i + 1)).filterMap (tf t)) (made t) (usedL t) ∧ (τ'.set σ.length (.list ((ns.take i).filterMap (tf t) ++ [s])))[τ.length]? = some (.list (ns.map V.int)) := fun q => ⟨(), sb, by rw [filterMap_take hx, q]; exact h'.setF, getN ne w⟩
    obtain ⟨m, m1, m2, m3⟩ := h'.tm
    refine TA_name (TSs_cons (TS_if (or2 (ba := decide (x < 0)) (bb := decide (x ≥ t.cnt)) (fun P p => tx c' (b := decide (x < 0)) rfl p) (fun P p => TB_cmp (TE_var rfl (at_cnt c' (hN.keep h'.k) rfl (TO_intB (fun k => PyProof.Rows.ge_int k) ⟨_, rfl, p⟩)))) (br (fun q => ?_) fun q => ?_))))
    · exact TSs_cons (apd c' (v := flt (S "bad_net") x) rfl h'.f rfl hz (TSs_nil (TSs_nil (put (by unfold tf; rw [q]; rfl)))))
    · refine TSs_cons (TS_if (TB_cmp (TE_sub (TE_var rfl (TE_var rfl (TO_itemD (dI cx) m1 dI_r (v := .int ((made t).count x : Nat)) (by rw [m2, if_pos hmem]) (TE_int (TO_intB (fun k => PyProof.Rows.gt_int k) ⟨_, rfl, br (fun q2 => ?_) fun q2 => ?_⟩)) (fun _ _ => rfl))))))) 
      · exact TSs_cons (apd c' (v := flt (S "two_drivers") x) rfl h'.f rfl hz (TSs_nil (TSs_nil (TSs_nil (put (by unfold tf; rw [q, q2]; rfl))))))
      · exact TSs_nil (TSs_nil (TSs_nil ⟨(), sb, by rw [filterMap_take hx, show tf t x = none by unfold tf; rw [q, q2]; rfl]; simpa using h', w⟩))
  rw [List.length_map, List.take_length] at h'
  obtain ⟨h, -⟩ := h'
  generalize hfs : ns.filterMap (tf t) = fs at h
  -- the nets that are read
  obtain ⟨mt, g1, g2, g3⟩ := h.us
  refine nxt (TS_forE (fun _ : Unit => nL σ.length N) (TE_callB c.srt (TEs_cons (TE_var rfl (TEs_nil (TO_sortedD g1 dI_r (by omega) fun us r1 r2 r3 => ?_))))))
  have r2 : ∀ x, x ∈ us ↔ x ∈ usedL t := fun x => (r2 x).trans (by rw [g2, decide_eq_true_eq])
  have hus : us.length ≤ 64 := by omega
  have hfl : fs.length ≤ 64 := by rw [← hfs]; exact Nat.le_trans (List.length_filterMap_le _ _) hns
  refine ⟨us.map V.int, _, _, fun i _ τ'' => NI σ τ'' (fs ++ (us.take i).filterMap (uf t)) (made t) (usedL t) ∧ τ''[τ'.length]? = some (.list (us.map V.int)), src_list (j := τ'.length), ⟨(), Sub.refl _, by simpa using h.app, getA⟩, fun i _ τ h => h.2, fun i v _ τ'' hv h' => ?_, fun _ τ'' h' => ?_⟩
  · rw [List.getElem?_map] at hv
    obtain ⟨x, hx, rfl⟩ := Option.map_eq_some_iff.mp hv
    obtain ⟨h', w⟩ := h'
    have ne : σ.length ≠ τ'.length := fun z => by have := (List.getElem?_eq_some_iff.mp h.f).1; omega
    have hz : (fs ++ (us.take i).filterMap (uf t)).length < sizeLine := by
      have h1 := List.length_filterMap_le (uf t) (us.take i)
      rw [List.length_take] at h1
      rw [List.length_append]; unfold sizeLine; omega
    obtain ⟨m, m1, m2, m3⟩ := h'.tm
    have hs : (lk m x).isSome = decide (x ∈ made t) := by rw [m2]; split <;> simp_all
    refine TA_name (TSs_cons (TS_if (TB_cmp (TE_var rfl (TE_var rfl (TO_ninD (dI cx) (k := x) m1 dI_r ⟨_, rfl, ?_⟩))))))
    rw [hs]
    refine br (fun q => ?_) fun q => ?_
    · refine TSs_cons (TS_assign (ev_inside c' rfl rfl (hN.keep h'.k) rfl rfl _ (nxt (apd' c' (v := flt (bif insideN t x then S "undriven" else S "bad_net") x) rfl h'.f (EvE.tup2 (fun P p => TE_ite (tx c' (b := insideN t x) rfl (br (fun e => TE_str ?_) fun e => TE_str ?_))) (pev c' rfl)) hz (TSs_nil (TSs_nil ⟨(), .cons rfl (.cons rfl (.cons rfl (.cons rfl .nil))), ?_, getN ne w⟩))))))
      · rw [e] at p; exact p
      · rw [e] at p; exact p
      · have hu : uf t x = some (flt (bif insideN t x then S "undriven" else S "bad_net") x) := by
          have hq : decide (x ∈ made t) = false := by simpa using q
          unfold uf; rw [hq]; rfl
        rw [filterMap_take hx, hu, Option.toList_some, ← List.append_assoc]; exact h'.setF
    · refine TSs_nil (TSs_nil ⟨(), .cons rfl (.cons rfl (.cons rfl (.cons rfl .nil))), ?_, w⟩)
      rw [filterMap_take hx, show uf t x = none by unfold uf; rw [show decide (x ∈ made t) = true by simpa using q]; rfl]; simpa using h'
  rw [List.length_map, List.take_length] at h'
  exact nxt (rtn c' (v := .ref σ.length) rfl (p _ _ ns us h'.1.k q1 q2 r1 r2 (by rw [hfs]; exact h'.1.f)))
end
end Mine
open PySem PySem.W PyProof.Rows PySem.Calls
set_option Elab.async false
set_option maxRecDepth 4000
namespace Mine
theorem flat_pre {α β : Type} {f : α → List β} {l : List α} {i j : Nat} {x : α} {y : β} (h : l[i]? = some x) (hy : (f x)[j]? = some y) : ∃ r, l.flatMap f = ((l.take i).flatMap f ++ (f x).take j) ++ y :: r := by
  have hi := (List.getElem?_eq_some_iff.mp h)
  have hj := (List.getElem?_eq_some_iff.mp hy)
  refine ⟨(f x).drop (j + 1) ++ (l.drop (i + 1)).flatMap f, ?_⟩
  obtain ⟨h1, h2⟩ := hi
  obtain ⟨h3, h4⟩ := hj
  conv => lhs; rw [← List.take_append_drop i l, List.drop_eq_getElem_cons h1, h2, List.flatMap_append, List.flatMap_cons]
  conv => lhs; arg 2; arg 1; rw [← List.take_append_drop j (f x), List.drop_eq_getElem_cons h3, h4]
  simp
theorem nd_mid {α : Type} {a b : List α} {x : α} (h : (a ++ x :: b).Nodup) : x ∉ a := fun q => by
  rw [List.nodup_append] at h
  exact h.2.2 x q x (.head _) rfl
/-- the place of the cell that drives a net -/
def ixOf (l : List Cell) (x : Int) : Option Nat := l.findIdx? fun c => c.o == x
theorem ixOf_take {l : List Cell} {i : Nat} {c : Cell} {x : Int} (h : l[i]? = some c) : ixOf (l.take (i + 1)) x = (ixOf (l.take i) x).or (if c.o = x then some i else none) := by
  unfold ixOf
  have hi := (List.getElem?_eq_some_iff.mp h).1
  rw [List.take_add_one, h, Option.toList_some, List.findIdx?_append]
  congr 1
  rw [List.length_take, Nat.min_eq_left (Nat.le_of_lt hi)]
  by_cases q : c.o = x
  · simp [q]
  · simp [q]
theorem ixOf_none {l : List Cell} {x : Int} (h : x ∉ l.map (·.o)) : ixOf l x = none := by
  unfold ixOf
  rw [List.findIdx?_eq_none_iff]
  intro c hc
  simp only [beq_eq_false_iff_ne, ne_eq]
  exact fun q => h (q ▸ List.mem_map_of_mem hc)
section
variable {cx : Cx} {n : Nat} {sc : Scope} {loc : Loc} {σ : List O} {P : V → List O → Prop} {Q : Fl → Loc → List O → Prop} {pos : Pos} {N : Nat} {t : Net}
/-- taken, while drivers fills it; found -/
structure DI (b τ : List O) (ks : List Int) : Prop where
  k : Keep b τ
  us : UsAt τ b.length ks
theorem DI.set {b τ : List O} {ks ks' : List Int} (h : DI b τ ks) {m : List (Int × V)} (q : (∀ x, (lk m x).isSome = decide (x ∈ ks')) ∧ m.length ≤ ks'.length) : DI b (τ.set b.length (.di m)) ks' :=
  ⟨h.k.set (Nat.le_refl _), by obtain ⟨m', a, r⟩ := h.us; exact ⟨m, getS a, q⟩⟩
abbrev dL (b N : Nat) : Loc := [(S "taken", .ref b), (S "netlist", .ref N)]
/-- the place of a cell, a part of it -/
theorem te_cell {x y : Str} {e i : Nat} {l : List Cell} {c : Cell} {k : Int} {v : V} {q : Nat} {p1 p2 p3 p4 : Pos} (hx : lk loc x = some (.ref e)) (hy : lk loc y = some (.int (i : Nat))) (he : σ[e]? = some (.list (l.map Cell.v))) (hc : l[i]? = some c)
    (h0 : 0 ≤ k) (hv : [V.str c.k, .int c.o, .tup (c.i.map V.int), c.p][k.toNat]? = some v) (p : P v σ) (h1 : nameOk x = true := by rfl) (h2 : nameOk y = true := by rfl) : TE cx n sc loc σ (.Subscript (.Subscript (.Name x p1) (.Name y p2) p3) (.Constant (.int k) q p4) pos) P :=
  TE_sub (TE_sub (TE_var hx (TE_var hy (TO_itemL he (Int.natCast_nonneg _) (by rw [Int.toNat_natCast, List.getElem?_map, hc]; rfl) (TE_int (TO_itemT h0 hv p fun _ _ => rfl)) fun _ _ => rfl) h2) h1))
theorem sDrv (c : TopOk cx) (hN : NetAt σ N t) (z : Sz2 t) (nd : (made t).Nodup) (p : ∀ r σ' m, Keep σ σ' → σ.length ≤ r → σ'[r]? = some (.di m) → (∀ x, lk m x = (ixOf t.cells x).map fun i => V.int (i : Nat)) → P (.ref r) σ') : TF cx n (fn 10) [.ref N] σ P := by
  have c' := c.toCxOk
  have hN' := hN
  obtain ⟨d, nm0, a, b, e, pi, po, h1, h2, h3, h4, h5, h6⟩ := hN'.ex
  refine ⟨[S "netlist"], bd1, rfl, TSs_cons (TS_assign (TE_dict2 (v := .bool true) c.c0 c.c1 (by decide) ?_ (nxt ?_)))⟩
  · rintro e (rfl | rfl) <;> exact fun _ h => wpAny_Constant_bool (h _ _ fun _ _ => .bool _)
  have zm := z.made
  have nd' := nd
  unfold made at zm nd
  simp only [List.length_append, List.length_cons, List.length_map] at zm
  have I0 : DI σ (σ ++ [.di [(0, .bool true), (1, .bool true)]]) [0, 1] := ⟨Keep.app _ _, _, getA, fun x => by
      simp only [lk]
      by_cases h0 : (0 : Int) = x
      · subst h0; rfl
      · by_cases h1 : (1 : Int) = x
        · subst h1; rfl
        · rw [if_neg h0, if_neg h1]; simp [Ne.symm h0, Ne.symm h1], Nat.le_refl _⟩
  refine TS_for (src_list (j := a) (l := pi)) (fun _ : Unit => dL σ.length N) (fun i _ τ => DI σ τ (0 :: 1 :: (t.ins.take i).flatMap (·.2)))
    (at_ c' (loc := dL σ.length N) rfl (h1.keep I0.k) rfl ⟨rfl, (), Sub.refl _, I0⟩) (fun i _ τ h => h.k _ _ h2) (fun i v _ τ hv h => ?_) fun _ τ h => ?_
  · obtain ⟨⟨nm, bits⟩, q, hi, rfl, hr⟩ := h3.get hv
    have z1 := flat_part (f := fun x : Str × List Int => x.2) hi
    dsimp only at z1
    refine TA_tup (TAs_cons (TA_name (TAs_cons (TA_name (TAs_nil (TSs_cons ?_))))))
    refine TS_for (src_list (j := q) (l := bits.map V.int)) (fun _ : Unit => dL σ.length N) (fun j _ τ => DI σ τ ((0 :: 1 :: (t.ins.take i).flatMap (·.2)) ++ bits.take j))
      (ex c' (v := .ref q) rfl ⟨rfl, (), .cons rfl (.cons rfl .nil), by simpa using h⟩) (fun j _ τ h => h.k _ _ hr) (fun j v _ τ hv h => ?_) fun _ τ h => ?_
    · rw [List.getElem?_map] at hv
      obtain ⟨x, hx, rfl⟩ := Option.map_eq_some_iff.mp hv
      obtain ⟨r, hr'⟩ := flat_pre (f := fun x : Str × List Int => x.2) hi hx
      have nx : x ∉ (0 :: 1 :: (t.ins.take i).flatMap (·.2)) ++ bits.take j := nd_mid (b := r ++ t.cells.map (·.o)) (by
        rw [hr'] at nd
        simpa using nd)
      have us := h.us
      obtain ⟨m, m1, m2, m3⟩ := us
      refine TA_name (TSs_cons (TS_if (TB_cmp (TE_var rfl (TE_var rfl (TO_inD (dI cx) (k := x) m1 dI_r ⟨_, rfl, ?_⟩))))))
      rw [m2, decide_eq_false nx]
      refine br (fun q => nomatch q) fun _ => TSs_nil (nxt ?_)
      refine setT c' (i := σ.length) (k := x) rfl h.us rfl ?_ fun m hm => TSs_nil ⟨(), .cons rfl (.cons rfl .nil), h.set (by rw [List.take_add_one, hx, ← List.append_assoc]; exact hm)⟩
      rw [List.length_append, List.length_take]
      simp only [List.length_cons]; omega
    · rw [List.length_map, List.take_length] at h
      exact TSs_nil ⟨(), Sub.refl _, by rw [flat_take hi]; exact h⟩
  rw [h3.length, List.take_length] at h
  have hb := h.k.len
  have hb2 : σ.length < τ.length := by obtain ⟨m, m1, _⟩ := h.us; exact (List.getElem?_eq_some_iff.mp m1).1
  have I1 : DI σ (τ ++ [.di []]) (0 :: 1 :: t.ins.flatMap (·.2)) := ⟨h.k.trans (Keep.app _ _), by obtain ⟨m, m1, r⟩ := h.us; exact ⟨m, getB m1, r⟩⟩
  refine nxt (newD (nxt ?_))
  refine TS_for (src_rng (a := 0) (b := (t.cells.length : Int)) (by decide) (by decide) (by omega) (by omega)) (fun _ : Unit => [(S "found", .ref τ.length), (S "taken", .ref σ.length), (S "netlist", .ref N)])
    (fun i _ τ' => DI σ τ' (0 :: 1 :: (t.ins.flatMap (·.2) ++ (t.cells.take i).map (·.o))) ∧ ∃ m, τ'[τ.length]? = some (.di m) ∧ (∀ x, lk m x = (ixOf (t.cells.take i) x).map fun i => V.int (i : Nat)) ∧ m.length ≤ i)
    (TE_callT c.rng (TEs_cons (TE_callB c.len (TEs_cons (at_ c' (loc := (S "found", .ref τ.length) :: dL σ.length N) rfl (h1.keep I1.k) rfl (TEs_nil (TO_lenL (I1.k _ _ h6) (TEs_nil ?_)))))))) (fun i _ τ' h => trivial) (fun i v _ τ' hv h => ?_) fun _ τ' h => ?_
  · rw [List.length_map]
    exact TO_range1 ⟨rfl, (), .cons rfl (.cons rfl (.cons rfl .nil)), by simpa using I1, [], getA, fun x => rfl, Nat.le_refl _⟩
  · have hi := (List.getElem?_eq_some_iff.mp hv).1
    rw [upto_len, Int.sub_zero, Int.toNat_natCast] at hi
    rw [upto, List.getElem?_map, List.getElem?_range (by omega)] at hv
    have hv' : v = V.int (i : Nat) := by rw [← Option.some.inj hv]; dsimp only; rw [Int.zero_add]
    subst hv'
    have hx := List.getElem?_eq_getElem hi
    generalize t.cells[i] = x at hx
    obtain ⟨h, m', g1, g2, g3⟩ := h
    have us := h.us
    obtain ⟨m, m1, m2, m3⟩ := us
    have nx : x.o ∉ 0 :: 1 :: (t.ins.flatMap (·.2) ++ (t.cells.take i).map (·.o)) := nd_mid (b := (t.cells.drop (i + 1)).map (·.o)) (by
      have := nd
      rw [← List.take_append_drop i t.cells, List.drop_eq_getElem_cons hi, (List.getElem?_eq_some_iff.mp hx).2] at this
      simpa using this)
    have nx' : x.o ∉ (t.cells.take i).map (·.o) := fun q => nx (.tail _ (.tail _ (List.mem_append_right _ q)))
    refine TA_name (TSs_cons (TS_assign (TE_sub (TE_sub (at_ c' (loc := (S "index", .int (i : Nat)) :: [(S "found", .ref τ.length), (S "taken", .ref σ.length), (S "netlist", .ref N)]) rfl (h1.keep h.k) rfl
      (TE_var rfl (TO_itemL (h.k _ _ h6) (Int.natCast_nonneg _) (v := x.v) (by rw [Int.toNat_natCast, List.getElem?_map, hx]; rfl) (TE_int (TO_itemT (by decide) (v := .int x.o) rfl (nxt ?_) fun _ _ => rfl)) fun _ _ => rfl)))))))
    refine TS_if (TB_cmp (TE_var rfl (TE_var rfl (TO_inD (dI cx) (k := x.o) m1 dI_r ⟨_, rfl, ?_⟩))))
    rw [m2, decide_eq_false nx]
    refine br (fun q => nomatch q) fun _ => TSs_nil (nxt ?_)
    refine setT c' (i := σ.length) (k := x.o) rfl h.us rfl ?_ fun m hm => nxt ?_
    · simp only [List.length_append, List.length_cons, List.length_map, List.length_take]; omega
    refine TS_setSub (TE_var rfl (TE_var rfl (TE_var rfl (TU_set (dI cx) (k := x.o) (getN (by omega) g1) dI_r (TSs_nil ⟨(), .cons rfl (.cons rfl (.cons rfl .nil)), ?_, _, getS (getN (by omega) g1), fun y => ?_, Nat.le_trans put_len (Nat.succ_le_succ g3)⟩) (Nat.le_trans g3 (by unfold sizeLine; omega))))))
    · have h' := h.set hm
      refine ⟨h'.k.set (by omega), ?_⟩
      obtain ⟨mm, q1, q2⟩ := h'.us
      rw [List.cons_append, List.cons_append, List.append_assoc, ← map_take (f := fun x : Cell => x.o) hx] at q2
      exact ⟨mm, getN (by omega) q1, q2⟩
    · rw [lk_put, ixOf_take hx, g2]
      by_cases q : x.o = y
      · subst q
        rw [if_pos rfl, if_pos rfl, ixOf_none nx']; rfl
      · rw [if_neg q, if_neg q, Option.or_none]
  · rw [upto_len, Int.sub_zero, Int.toNat_natCast, List.take_length] at h
    obtain ⟨h, m, g1, g2, g3⟩ := h
    exact nxt (rtn c' (v := .ref τ.length) rfl (p _ _ m h.k hb g1 g2))
end
end Mine
open PySem PySem.W PyProof.Rows PySem.Calls
set_option Elab.async false
set_option maxRecDepth 4000
namespace Mine
/-! what a cell waits for -/
def cmb (l : List Cell) (i : Nat) : Bool := (l[i]?).any fun c => !isSt c.k
/-- the cell that drives a net, where it is no state cell -/
def depN (l : List Cell) (x : Int) : Option Nat := (ixOf l x).bind fun b => bif cmb l b then some b else none
def dep (l : List Cell) (c : Cell) : List Nat := c.i.filterMap (depN l)
def deps (l : List Cell) (i : Nat) : List Nat := ((l[i]?).map fun c => bif isSt c.k then [] else dep l c).getD []
abbrev evOf (i : Nat) (ds : List Nat) : List (Nat × Nat) := ds.map fun b => (b, i)
def ev (l : List Cell) (k : Nat) : List (Nat × Nat) := (List.range k).flatMap fun i => evOf i (deps l i)
def usr (E : List (Nat × Nat)) (b : Nat) : List Nat := (E.filter fun e => e.1 == b).map (·.2)
theorem usr_app {E F : List (Nat × Nat)} {b : Nat} : usr (E ++ F) b = usr E b ++ usr F b := by unfold usr; rw [List.filter_append, List.map_append]
theorem usr_one {a i b : Nat} : usr [(a, i)] b = if a = b then [i] else [] := by
  unfold usr
  by_cases h : a = b
  · subst h; simp
  · simp [h]
theorem cnt_usr {i j b : Nat} {ds : List Nat} : (usr (evOf i ds) b).count j = if i = j then ds.count b else 0 := by
  induction ds with
  | nil => simp [usr]
  | cons d ds ih =>
    rw [show evOf i (d :: ds) = [(d, i)] ++ evOf i ds from rfl, usr_app, List.count_append, ih, usr_one]
    by_cases h1 : d = b <;> by_cases h2 : i = j <;> simp [h1, h2, List.count_cons]
    omega
theorem cnt_ev {l : List Cell} {j b : Nat} : ∀ k, (usr (ev l k) b).count j = if j < k then (deps l j).count b else 0
  | 0 => rfl
  | k + 1 => by
    have e : ev l (k + 1) = ev l k ++ evOf k (deps l k) := by unfold ev; rw [List.range_succ, List.flatMap_append]; simp
    rw [e, usr_app, List.count_append, cnt_ev k, cnt_usr]
    by_cases h : k = j
    · subst h; simp
    · by_cases h2 : j < k
      · rw [if_pos h2, if_neg h, if_pos (by omega), Nat.add_zero]
      · rw [if_neg h2, if_neg h, if_neg (by omega)]
theorem deps_out {l : List Cell} {j : Nat} (h : cmb l j = false) : deps l j = [] := by
  unfold deps cmb at *
  cases e : l[j]? with
  | none => rfl
  | some c =>
    rw [e] at h
    have h : isSt c.k = true := by simpa using h
    simp [h]
theorem cmb_lt {l : List Cell} {j : Nat} (h : cmb l j = true) : j < l.length := by
  unfold cmb at h
  cases e : l[j]? with
  | none => rw [e] at h; cases h
  | some c => exact (List.getElem?_eq_some_iff.mp e).1
abbrev uz (l : List Cell) (b : Nat) : List Nat := usr (ev l l.length) b
theorem cnt_uz {l : List Cell} {j b : Nat} : (uz l b).count j = (deps l j).count b := by
  rw [cnt_ev]
  split
  · rfl
  · rename_i h
    rw [deps_out (l := l) (j := j) (by cases e : cmb l j with | false => rfl | true => exact absurd (cmb_lt e) h)]; rfl
theorem cntP_cons {D : List Nat} {b : Nat} {R : List Nat} (h : b ∉ R) : D.countP (fun d => decide (d ∈ b :: R)) = D.count b + D.countP (fun d => decide (d ∈ R)) := by
  induction D with
  | nil => rfl
  | cons d D ih =>
    rw [List.countP_cons, List.countP_cons, List.count_cons, ih]
    by_cases h1 : d = b
    · subst h1; simp [h]; omega
    · simp [h1]; omega
theorem cnt_flat {l : List Cell} {i : Nat} : ∀ {R : List Nat}, R.Nodup → (R.flatMap (uz l)).count i = (deps l i).countP fun d => decide (d ∈ R)
  | [], _ => by simp
  | b :: R, h => by
    rw [List.nodup_cons] at h
    rw [List.flatMap_cons, List.count_append, cnt_flat h.2, cntP_cons h.1, cnt_uz]
theorem cntP_all {D R : List Nat} (h : D.countP (fun d => decide (d ∈ R)) = D.length) : ∀ d ∈ D, d ∈ R := fun d hd => by
  have := List.countP_eq_length.mp h d hd
  simpa using this

/-- the queue: what is ready, the events that were told -/
structure KI (l : List Cell) (R E : List Nat) : Prop where
  m : ∀ j, j ∈ R ↔ cmb l j = true ∧ E.count j = (deps l j).length
  nd : R.Nodup
  ord : ∀ (p i : Nat), R[p]? = some i → ∀ d ∈ deps l i, d ∈ R.take p
theorem nd_len : ∀ {R S : List Nat}, R.Nodup → (∀ x ∈ R, x ∈ S) → R.length ≤ S.length
  | [], _, _, _ => Nat.zero_le _
  | a :: R, S, h, k => by
    rw [List.nodup_cons] at h
    have ha := k a (.head _)
    have := nd_len (R := R) (S := S.erase a) h.2 fun x hx => (List.mem_erase_of_ne (fun e : x = a => h.1 (e ▸ hx))).mpr (k x (.tail _ hx))
    rw [List.length_erase_of_mem ha] at this
    have := List.length_pos_of_mem ha
    rw [List.length_cons]; omega
theorem KI.isC {l : List Cell} {R E : List Nat} (h : KI l R E) {i : Nat} (hi : i ∈ R) : cmb l i = true := ((h.m i).mp hi).1
theorem KI.len {l : List Cell} {R E : List Nat} (h : KI l R E) : R.length ≤ l.length := by
  have := nd_len (S := List.range l.length) h.nd fun i hi => List.mem_range.mpr (cmb_lt (h.isC hi))
  rwa [List.length_range] at this
/-- the events of a turn -/
abbrev evs (l : List Cell) (R : List Nat) (T j : Nat) (b : Nat) : List Nat := (R.take T).flatMap (uz l) ++ (uz l b).take j
theorem KI.step {l : List Cell} {R : List Nat} {T j b i : Nat} (h : KI l R (evs l R T j b)) (hb : R[T]? = some b) (hi : (uz l b)[j]? = some i) :
    cmb l i = true ∧ (evs l R T j b).count i < (deps l i).length ∧ (evs l R T (j + 1) b) = evs l R T j b ++ [i] ∧ (∀ d, (evs l R T j b).count i + 1 = (deps l i).length → d ∈ deps l i → d ∈ R) := by
  have e : evs l R T (j + 1) b = evs l R T j b ++ [i] := by
    unfold evs; rw [List.take_add_one, hi, ← List.append_assoc]; rfl
  have hT := (List.getElem?_eq_some_iff.mp hb).1
  have le : (evs l R T (j + 1) b).count i ≤ (deps l i).countP fun d => decide (d ∈ R.take (T + 1)) := by
    rw [← cnt_flat (List.Nodup.sublist (List.take_sublist _ _) h.nd), List.take_add_one, hb, List.flatMap_append, List.count_append, List.count_append]
    refine Nat.add_le_add_left ?_ _
    simp only [Option.toList_some, List.flatMap_cons, List.flatMap_nil, List.append_nil]
    exact List.Sublist.count_le _ (List.take_sublist _ _)
  have le2 : (deps l i).countP (fun d => decide (d ∈ R.take (T + 1))) ≤ (deps l i).length := List.countP_le_length
  rw [e, List.count_append, List.count_singleton_self] at le
  refine ⟨?_, by omega, e, fun d q hd => ?_⟩
  · cases c : Mine.cmb l i with
    | true => rfl
    | false => rw [deps_out c] at le2 le; simp at le
  · have := cntP_all (D := deps l i) (R := R.take (T + 1)) (by omega) d hd
    exact List.mem_of_mem_take this
theorem KI.no {l : List Cell} {R : List Nat} {T j b i : Nat} (h : KI l R (evs l R T j b)) (hb : R[T]? = some b) (hi : (uz l b)[j]? = some i) (q : (evs l R T j b).count i + 1 ≠ (deps l i).length) : KI l R (evs l R T (j + 1) b) := by
  obtain ⟨h1, h2, h3, _⟩ := h.step hb hi
  refine ⟨fun k => ?_, h.nd, h.ord⟩
  rw [h3, List.count_append]
  by_cases e : k = i
  · subst e
    rw [List.count_singleton_self]
    exact ⟨fun w => absurd ((h.m k).mp w).2 (by omega), fun w => absurd w.2 q⟩
  · rw [show List.count k [i] = 0 by simp [Ne.symm e], Nat.add_zero]; exact h.m k
theorem KI.yes {l : List Cell} {R : List Nat} {T j b i : Nat} (h : KI l R (evs l R T j b)) (hb : R[T]? = some b) (hi : (uz l b)[j]? = some i) (q : (evs l R T j b).count i + 1 = (deps l i).length) : KI l (R ++ [i]) (evs l (R ++ [i]) T (j + 1) b) ∧ (R ++ [i])[T]? = some b := by
  obtain ⟨h1, h2, h3, h4⟩ := h.step hb hi
  have hT := (List.getElem?_eq_some_iff.mp hb).1
  have ni : i ∉ R := fun w => absurd ((h.m i).mp w).2 (by omega)
  have et : (R ++ [i]).take T = R.take T := by rw [List.take_append_of_le_length (Nat.le_of_lt hT)]
  have e2 : evs l (R ++ [i]) T (j + 1) b = evs l R T j b ++ [i] := by rw [← h3]; unfold evs; rw [et]
  refine ⟨⟨fun k => ?_, ?_, fun p k hp d hd => ?_⟩, by rw [List.getElem?_append_left hT]; exact hb⟩
  · rw [e2, List.count_append, List.mem_append]
    by_cases e : k = i
    · subst e
      rw [List.count_singleton_self]
      exact ⟨fun _ => ⟨h1, q⟩, fun _ => .inr (.head _)⟩
    · rw [show List.count k [i] = 0 by simp [Ne.symm e], Nat.add_zero, ← h.m k]
      exact ⟨fun w => w.elim id fun z => absurd (List.mem_singleton.mp z) e, .inl⟩
  · rw [List.nodup_append]
    exact ⟨h.nd, by simp, fun x hx y hy z => ni (by rw [← List.mem_singleton.mp hy, ← z]; exact hx)⟩
  · by_cases hp' : p < R.length
    · rw [List.getElem?_append_left hp'] at hp
      have := h.ord p k hp d hd
      rw [List.take_append_of_le_length (Nat.le_of_lt hp')]; exact this
    · have hl := (List.getElem?_eq_some_iff.mp hp).1
      rw [List.length_append] at hl
      have hl : p = R.length := by simp at hl; omega
      subst hl
      rw [List.getElem?_append_right (Nat.le_refl _), Nat.sub_self] at hp
      have hk : i = k := by simpa using hp
      subst hk
      rw [List.take_append_of_le_length (Nat.le_refl _), List.take_length]
      exact h4 d q hd
/-- the first queue -/
def rdy (l : List Cell) (k : Nat) : List Nat := (List.range k).filter fun j => cmb l j && (deps l j).isEmpty
theorem KI.init {l : List Cell} : KI l (rdy l l.length) [] := by
  refine ⟨fun j => ?_, List.Nodup.sublist List.filter_sublist List.nodup_range, fun p i hp d hd => ?_⟩
  · unfold rdy
    rw [List.mem_filter, List.mem_range, Bool.and_eq_true, List.isEmpty_iff]
    exact ⟨fun w => ⟨w.2.1, by rw [w.2.2]; rfl⟩, fun w => ⟨cmb_lt w.1, w.1, List.length_eq_zero_iff.mp w.2.symm⟩⟩
  · have := List.mem_of_getElem? hp
    unfold rdy at this
    rw [List.mem_filter, Bool.and_eq_true, List.isEmpty_iff] at this
    rw [this.2.2] at hd; cases hd
/-- the end of the queue -/
theorem KI.done {l : List Cell} {R : List Nat} (h : KI l R (R.flatMap (uz l))) {i : Nat} (hi : Mine.cmb l i = true) (hd : ∀ d ∈ deps l i, d ∈ R) : i ∈ R := by
  refine (h.m i).mpr ⟨hi, ?_⟩
  rw [cnt_flat h.nd, List.countP_eq_length]
  intro d hd'
  simpa using hd d hd'
theorem evs_next {l : List Cell} {R : List Nat} {T b : Nat} (hb : R[T]? = some b) : evs l R T (uz l b).length b = (R.take (T + 1)).flatMap (uz l) := by
  unfold evs
  rw [List.take_length, List.take_add_one, hb, List.flatMap_append]; simp
end Mine
open PySem PySem.W PyProof.Rows PySem.Calls
set_option Elab.async false
set_option maxRecDepth 4000
namespace Mine
abbrev ni (i : Nat) : V := .int (i : Nat)
/-- the dict of users: each key its own list -/
structure UD (b : Nat) (τ : List O) (m : List (Int × V)) (E : List (Nat × Nat)) : Prop where
  val : ∀ j : Nat, (lk m (j : Int) = none ∧ usr E j = []) ∨ ∃ q, lk m (j : Int) = some (.ref q) ∧ b + 3 ≤ q ∧ τ[q]? = some (.list ((usr E j).map ni))
  inj : ∀ (j j' q : Nat), lk m (j : Int) = some (.ref q) → lk m (j' : Int) = some (.ref q) → j = j'
structure OI (b τ : List O) (lw lu : Nat) (W : Nat → Option Int) (E : List (Nat × Nat)) (R : List Nat) : Prop where
  k : Keep b τ
  w : ∃ m, τ[b.length]? = some (.di m) ∧ (∀ j : Nat, lk m (j : Int) = (W j).map V.int) ∧ m.length ≤ lw
  u : ∃ m, τ[b.length + 1]? = some (.di m) ∧ UD b.length τ m E ∧ m.length ≤ lu
  r : τ[b.length + 2]? = some (.list (R.map ni))
section
variable {b τ : List O} {lw lw' lu lu' : Nat} {W W' : Nat → Option Int} {E E' : List (Nat × Nat)} {R R' : List Nat}
theorem UD.keep {b : Nat} {τ τ' : List O} {m : List (Int × V)} (h : UD b τ m E) (k : ∀ q o, b + 3 ≤ q → τ[q]? = some o → τ'[q]? = some o) : UD b τ' m E :=
  ⟨fun j => (h.val j).imp id fun ⟨q, x, y, z⟩ => ⟨q, x, y, k _ _ y z⟩, h.inj⟩
theorem OI.setW (h : OI b τ lw lu W E R) {m : List (Int × V)} (hm : ∀ j : Nat, lk m (j : Int) = (W' j).map V.int) (hl : m.length ≤ lw') : OI b (τ.set b.length (.di m)) lw' lu W' E R :=
  ⟨h.k.set (Nat.le_refl _), by obtain ⟨m', a, _⟩ := h.w; exact ⟨m, getS a, hm, hl⟩, by obtain ⟨m', a, u, c⟩ := h.u; exact ⟨m', getN (by omega) a, u.keep fun q o g e => getN (by omega) e, c⟩, getN (by omega) h.r⟩
theorem OI.setR (h : OI b τ lw lu W E R) : OI b (τ.set (b.length + 2) (.list (R'.map ni))) lw lu W E R' :=
  ⟨h.k.set (by omega), by obtain ⟨m', a, c⟩ := h.w; exact ⟨m', getN (by omega) a, c⟩, by obtain ⟨m', a, u, c⟩ := h.u; exact ⟨m', getN (by omega) a, u.keep fun q o g e => getN (by omega) e, c⟩, getS h.r⟩
theorem OI.app (h : OI b τ lw lu W E R) {l : List O} : OI b (τ ++ l) lw lu W E R :=
  ⟨h.k.trans (Keep.app _ _), by obtain ⟨m', a, c⟩ := h.w; exact ⟨m', getB a, c⟩, by obtain ⟨m', a, u, c⟩ := h.u; exact ⟨m', getB a, u.keep fun q o g e => getB e, c⟩, getB h.r⟩
theorem OI.big (h : OI b τ lw lu W E R) : b.length + 3 ≤ τ.length := (List.getElem?_eq_some_iff.mp h.r).1
/-- a new list for a key -/
theorem OI.useNew (h : OI b τ lw lu W E R) {m : List (Int × V)} {x : Nat} (hm : τ[b.length + 1]? = some (.di m)) (hn : lk m (x : Int) = none) :
    OI b ((τ ++ [O.list []]).set (b.length + 1) (.di (put m (x : Int) (.ref τ.length)))) lw (lu + 1) W E R := by
  have g := h.app (l := [O.list []])
  have hb := h.big
  refine ⟨g.k.set (i := b.length + 1) (by omega), by obtain ⟨m', a, c⟩ := g.w; exact ⟨m', getN (by omega) a, c⟩, ?_, getN (by omega) g.r⟩
  obtain ⟨m', a, u, c⟩ := h.u
  rw [hm] at a; cases a
  refine ⟨_, getS (getB hm), ⟨fun j => ?_, fun j j' q e1 e2 => ?_⟩, Nat.le_trans put_len (Nat.succ_le_succ c)⟩
  · rw [lk_put]
    by_cases e : (x : Int) = (j : Int)
    · have e' : x = j := by omega
      subst e'
      rw [if_pos rfl]
      rcases u.val x with ⟨_, w⟩ | ⟨q, w, _⟩
      · exact .inr ⟨_, rfl, by omega, by rw [w]; exact getN (by omega) getA⟩
      · rw [hn] at w; cases w
    · rw [if_neg e]
      exact (u.val j).imp id fun ⟨q, y1, y2, y3⟩ => ⟨q, y1, y2, getN (by omega) (getB y3)⟩
  · have old : ∀ {k : Nat} {r : Nat}, lk m (k : Int) = some (.ref r) → r < τ.length := fun {k r} e => by
      rcases u.val k with ⟨w, _⟩ | ⟨q, w, _, w3⟩
      · rw [w] at e; cases e
      · rw [w] at e; cases e; exact (List.getElem?_eq_some_iff.mp w3).1
    rw [lk_put] at e1 e2
    split at e1 <;> split at e2
    · omega
    · cases e1; exact absurd (old e2) (Nat.lt_irrefl _)
    · cases e2; exact absurd (old e1) (Nat.lt_irrefl _)
    · exact u.inj _ _ _ e1 e2
/-- an event is told -/
theorem OI.addU (h : OI b τ lw lu W E R) {m : List (Int × V)} {x i q : Nat} (hm : τ[b.length + 1]? = some (.di m)) (hq : lk m (x : Int) = some (.ref q)) :
    τ[q]? = some (.list ((usr E x).map ni)) ∧ OI b (τ.set q (.list ((usr E x).map ni ++ [ni i]))) lw lu W (E ++ [(x, i)]) R := by
  obtain ⟨m', a, u, c⟩ := h.u
  rw [hm] at a; cases a
  obtain ⟨w2, w3⟩ : b.length + 3 ≤ q ∧ τ[q]? = some (.list ((usr E x).map ni)) := by
    rcases u.val x with ⟨w, _⟩ | ⟨q', w, w2, w3⟩
    · rw [w] at hq; cases hq
    · rw [w] at hq; cases hq; exact ⟨w2, w3⟩
  refine ⟨w3, h.k.set (by omega), by obtain ⟨m', a, c⟩ := h.w; exact ⟨m', getN (by omega) a, c⟩, ⟨m, getN (by omega) hm, ⟨fun j => ?_, u.inj⟩, c⟩, getN (by omega) h.r⟩
  rw [usr_app, usr_one]
  by_cases e : x = j
  · subst e
    rw [if_pos rfl, List.map_append]
    exact .inr ⟨q, hq, w2, getS w3⟩
  · rw [if_neg e, List.append_nil]
    refine (u.val j).imp id fun ⟨q', y1, y2, y3⟩ => ⟨q', y1, y2, getN (fun z => ?_) y3⟩
    subst z
    exact e (u.inj _ _ _ hq y1)
end
theorem ev_succ {l : List Cell} {k : Nat} : ev l (k + 1) = ev l k ++ evOf k (deps l k) := by unfold ev; rw [List.range_succ, List.flatMap_append]; simp
theorem rdy_succ {l : List Cell} {k : Nat} : rdy l (k + 1) = rdy l k ++ if (cmb l k && (deps l k).isEmpty) = true then [k] else [] := by
  unfold rdy; rw [List.range_succ, List.filter_append]; simp [List.filter_cons]
def Wp (l : List Cell) (k j : Nat) : Option Int := if j < k ∧ cmb l j = true then some ((deps l j).length : Nat) else none
def Wq (l : List Cell) (E : List Nat) (j : Nat) : Option Int := bif cmb l j then some (((deps l j).length : Nat) - (E.count j : Nat)) else none
theorem Wp_end {l : List Cell} {j : Nat} : Wp l l.length j = Wq l [] j := by
  unfold Wp Wq
  cases h : cmb l j with
  | true => rw [if_pos ⟨cmb_lt h, rfl⟩]; simp
  | false => rw [if_neg (fun z => nomatch z.2)]; rfl
theorem cmb_at {l : List Cell} {i : Nat} {x : Cell} (h : l[i]? = some x) : cmb l i = !isSt x.k := by unfold cmb; rw [h]; rfl
theorem deps_at {l : List Cell} {i : Nat} {x : Cell} (h : l[i]? = some x) (q : isSt x.k = false) : deps l i = dep l x := by unfold deps; rw [h]; simp [q]
theorem deps_len {l : List Cell} {i : Nat} {x : Cell} (h : l[i]? = some x) : (deps l i).length ≤ x.i.length := by
  cases q : isSt x.k with
  | true => rw [deps_out (by rw [cmb_at h, q]; rfl)]; exact Nat.zero_le _
  | false => rw [deps_at h q]; exact List.length_filterMap_le _ _
theorem ev_len {l : List Cell} : ∀ {k : Nat}, k ≤ l.length → (ev l k).length ≤ ((l.take k).flatMap (·.i)).length
  | 0, _ => Nat.zero_le _
  | k + 1, h => by
    have hx := List.getElem?_eq_getElem (Nat.lt_of_succ_le h)
    rw [ev_succ, List.length_append, List.length_map, flat_take hx, List.length_append]
    exact Nat.add_le_add (ev_len (Nat.le_of_succ_le h)) (deps_len hx)
theorem put_len_mem {α β : Type} [DecidableEq α] {l : List (α × β)} {k : α} {v : β} (h : (lk l k).isSome = true) : (put l k v).length = l.length := by
  induction l with
  | nil => cases h
  | cons a l ih =>
    obtain ⟨k1, v1⟩ := a
    unfold put
    simp only [lk] at h
    split
    · rfl
    · rename_i q
      rw [if_neg q] at h
      rw [List.length_cons, ih h]; rfl
theorem ixOf_lt {l : List Cell} {x : Int} {b : Nat} (h : ixOf l x = some b) : ∃ c, l[b]? = some c ∧ c.o = x := by
  unfold ixOf at h
  rw [List.findIdx?_eq_some_iff_getElem] at h
  obtain ⟨h1, h2, _⟩ := h
  exact ⟨_, List.getElem?_eq_getElem h1, by simpa using h2⟩
section
variable {cx : Cx} {n : Nat} {sc : Scope} {loc : Loc} {σ : List O} {P : V → List O → Prop} {Q : Fl → Loc → List O → Prop} {pos : Pos} {N : Nat} {t : Net}
abbrev oL (b N dr e : Nat) : Loc := [(S "ready", .ref (b + 2)), (S "users", .ref (b + 1)), (S "waiting", .ref b), (S "cells", .ref e), (S "driven", .ref dr), (S "netlist", .ref N)]
theorem Sub.drop {l l' : Loc} {x : Str} {v : V} (h : Sub l' l) (n : (l'.map (·.1)).contains x = false := by decide +kernel) : Sub l' ((x, v) :: l) := fun y w e => by
  have hy : y ∈ l'.map (·.1) := lk_mem e
  rw [lk_ne (fun z => by subst z; rw [List.contains_iff_mem.mpr hy] at n; cases n)]
  exact h y w e
end
end Mine
open PySem PySem.W PyProof.Rows PySem.Calls
set_option Elab.async false
set_option maxRecDepth 4000
namespace Mine
section
variable {cx : Cx} {n : Nat} {sc : Scope} {loc : Loc} {σ : List O} {P : V → List O → Prop} {Q : Fl → Loc → List O → Prop} {pos : Pos} {N : Nat} {t : Net}
theorem upto_at {a : Nat} {i : Nat} {v : V} (hv : (upto 0 (a : Int))[i]? = some v) : i < a ∧ v = ni i := by
  have hi := (List.getElem?_eq_some_iff.mp hv).1
  rw [upto_len, Int.sub_zero, Int.toNat_natCast] at hi
  rw [upto, List.getElem?_map, List.getElem?_range (by omega)] at hv
  refine ⟨hi, ?_⟩
  rw [← Option.some.inj hv]; dsimp only; rw [Int.zero_add]
/-- what the queue's end says -/
structure OrdR (l : List Cell) (R : List Nat) : Prop where
  nd : R.Nodup
  isC : ∀ i ∈ R, cmb l i = true
  cl : ∀ i, cmb l i = true → (∀ d ∈ deps l i, d ∈ R) → i ∈ R
  ord : ∀ (p i : Nat), R[p]? = some i → ∀ d ∈ deps l i, d ∈ R.take p
theorem sOrd (c : TopOk cx) (hN : NetAt σ N t) (z : Sz2 t) {dr : Nat} {dm : List (Int × V)} (hd : σ[dr]? = some (.di dm)) (hdm : ∀ x, lk dm x = (ixOf t.cells x).map fun i => V.int (i : Nat))
    (p : ∀ r σ' R, Keep σ σ' → σ.length ≤ r → σ'[r]? = some (.list (R.map ni)) → OrdR t.cells R → P (.ref r) σ') : TF cx (n + 1) (fn 11) [.ref N, .ref dr] σ P := by
  have c' := c.toCxOk
  have hN' := hN
  obtain ⟨d, nm0, a, b, e, pi, po, h1, h2, h3, h4, h5, h6⟩ := hN'.ex
  have e1 : (σ ++ [O.di []]).length = σ.length + 1 := List.length_append
  have e2 : ((σ ++ [O.di []]) ++ [O.di []]).length = σ.length + 2 := by rw [List.length_append, e1]; rfl
  refine ⟨[S "netlist", S "driven"], bd2, rfl, TSs_cons (TS_assign (at_ c' (loc := [(S "netlist", .ref N), (S "driven", .ref dr)]) rfl h1 rfl (nxt (newD (nxt (newD (nxt (new0 (nxt ?_)))))))))⟩
  rw [e1, e2]
  have I0 : OI σ ((σ ++ [O.di []]) ++ [O.di []] ++ [O.list []]) 0 0 (fun _ => none) [] [] :=
    ⟨(Keep.app _ _).trans ((Keep.app _ _).trans (Keep.app _ _)), ⟨[], getB (getB getA), fun _ => rfl, Nat.le_refl _⟩, ⟨[], by rw [← e1]; exact getB getA, ⟨fun _ => .inl ⟨rfl, rfl⟩, fun _ _ _ h => nomatch h⟩, Nat.le_refl _⟩, by rw [← e2]; exact getA⟩
  generalize (σ ++ [O.di []]) ++ [O.di []] ++ [O.list []] = σ1 at I0
  have zc : t.cells.length ≤ 64 := by have := z.made; unfold made at this; simp only [List.length_cons, List.length_append, List.length_map] at this; omega
  have zi : (t.cells.flatMap (·.i)).length ≤ 64 := by have := z.used; unfold usedL at this; rw [List.length_append] at this; omega
  have hl6 : ∀ {τ}, Keep σ τ → τ[e]? = some (.list (t.cells.map Cell.v)) := fun k => k _ _ h6
  refine TS_for (src_rng (a := 0) (b := (t.cells.length : Int)) (by decide) (by decide) (by omega) (by omega)) (fun _ : Unit => oL σ.length N dr e)
    (fun i _ τ => OI σ τ i (ev t.cells i).length (Wp t.cells i) (ev t.cells i) (rdy t.cells i))
    (TE_callT c.rng (TEs_cons (TE_callB c.len (TEs_cons (TE_var rfl (TEs_nil (TO_lenL (hl6 I0.k) (TEs_nil ?_)))))))) (fun i _ τ' h => trivial) (fun i v _ τ hv h => ?_) fun _ τ h => ?_
  · rw [List.length_map]
    refine TO_range1 ⟨rfl, (), .cons rfl (.cons rfl (.cons rfl (.cons rfl (.cons rfl (.cons rfl .nil))))), ?_⟩
    have : (Wp t.cells 0) = fun _ => none := by funext j; unfold Wp; rw [if_neg (fun z => absurd z.1 (Nat.not_lt_zero _))]
    rw [this]; exact I0
  · -- a cell
    obtain ⟨hi, rfl⟩ := upto_at hv
    have hx := List.getElem?_eq_getElem hi
    generalize t.cells[i] = x at hx
    have sb0 : Sub (oL σ.length N dr e) ((S "index", ni i) :: oL σ.length N dr e) := .cons rfl (.cons rfl (.cons rfl (.cons rfl (.cons rfl (.cons rfl .nil)))))
    refine TA_name (TSs_cons (TS_if (TB_val (TE_callD ⟨c.fn' 7, rfl⟩ (TEs_cons (te_cell (k := 0) (i := i) (v := .str x.k) rfl rfl (hl6 h.k) hx (by decide) rfl (TEs_nil (sState c' ⟨_, rfl, br (fun q => ?_) fun q => ?_⟩))))))))
    · have hc : cmb t.cells i = false := by rw [cmb_at hx, q]; rfl
      have hw : Wp t.cells (i + 1) = Wp t.cells i := by
        funext j; unfold Wp
        by_cases e : j = i
        · subst e; rw [hc, if_neg (fun z => nomatch z.2), if_neg (fun z => nomatch z.2)]
        · simp only [show j < i + 1 ↔ j < i by omega]
      refine TSs_cons (TS_cont ⟨(), sb0, ?_⟩)
      rw [hw, ev_succ, rdy_succ, deps_out hc, hc]
      simp only [List.map_nil, List.append_nil, Bool.false_and, Bool.false_eq_true, if_false]
      exact ⟨h.k, by obtain ⟨m, a, b, c⟩ := h.w; exact ⟨m, a, b, Nat.le_succ_of_le c⟩, h.u, h.r⟩
    have hc : cmb t.cells i = true := by rw [cmb_at hx, q]; rfl
    have hD : deps t.cells i = x.i.filterMap (depN t.cells) := deps_at hx q
    have zx := flat_part (f := fun x : Cell => x.i) hx
    have zev := ev_len (l := t.cells) (k := i) (Nat.le_of_lt hi)
    refine TSs_nil (nxt (asg c' (v := ni 0) rfl (nxt ?_)))
    have fl : ∀ (j : Nat) (y : Int), x.i[j]? = some y → (x.i.take (j + 1)).filterMap (depN t.cells) = (x.i.take j).filterMap (depN t.cells) ++ (depN t.cells y).toList := fun j y hy => filterMap_take hy
    have fz : ∀ j, ((x.i.take j).filterMap (depN t.cells)).length ≤ x.i.length := fun j => Nat.le_trans (List.length_filterMap_le _ _) (by rw [List.length_take]; exact Nat.min_le_right _ _)
    refine TS_for (src_tup (l := x.i.map V.int)) (fun cnt : Nat => (S "count", ni cnt) :: (S "index", ni i) :: oL σ.length N dr e)
      (fun j cnt τ => cnt = ((x.i.take j).filterMap (depN t.cells)).length ∧ OI σ τ i ((ev t.cells i).length + cnt) (Wp t.cells i) (ev t.cells i ++ evOf i ((x.i.take j).filterMap (depN t.cells))) (rdy t.cells i))
      (te_cell (k := 2) (i := i) (v := .tup (x.i.map V.int)) rfl rfl (hl6 h.k) hx (by decide) rfl ⟨rfl, 0, Sub.refl _, rfl, by simpa using h⟩) (fun j cnt τ h => trivial) (fun j v cnt τ hv h => ?_) fun cnt τ h => ?_
    · -- a net of the cell
      rw [List.getElem?_map] at hv
      obtain ⟨y, hy, rfl⟩ := Option.map_eq_some_iff.mp hv
      obtain ⟨rfl, h⟩ := h
      generalize hcn : ((x.i.take j).filterMap (depN t.cells)).length = cnt at h
      have zj := fz j
      have sb1 : ∀ {u}, Sub ((S "count", ni cnt) :: (S "index", ni i) :: oL σ.length N dr e) ((S "before", u) :: (S "net", .int y) :: (S "count", ni cnt) :: (S "index", ni i) :: oL σ.length N dr e) := .cons rfl (.cons rfl (.cons rfl (.cons rfl (.cons rfl (.cons rfl (.cons rfl (.cons rfl .nil)))))))
      have no : depN t.cells y = none → ∀ {u}, ∃ cn, Sub ((S "count", ni cn) :: (S "index", ni i) :: oL σ.length N dr e) ((S "before", u) :: (S "net", .int y) :: (S "count", ni cnt) :: (S "index", ni i) :: oL σ.length N dr e) ∧ cn = ((x.i.take (j + 1)).filterMap (depN t.cells)).length ∧ OI σ τ i ((ev t.cells i).length + cn) (Wp t.cells i) (ev t.cells i ++ evOf i ((x.i.take (j + 1)).filterMap (depN t.cells))) (rdy t.cells i) := fun w u => ⟨cnt, sb1, by rw [fl j y hy, w]; simpa using hcn.symm, by rw [fl j y hy, w]; simpa using h⟩
      refine TA_name (TSs_cons (TS_assign (TE_meth PySem.F.plainAttrs_dict PySem.F.slot_dict_get PySem.F.type_dict_get (TE_var rfl ⟨ty_dict (D := dI cx) (h.k _ _ hd) dI_r, TEs_cons (TE_var (v := .int y) rfl (TEs_cons (TE_neg (TE_int ⟨1, rfl, TEs_nil (TO_get2 (dI cx) (h.k _ _ hd) dI_r ?_)⟩))))⟩))))
      rw [hdm]
      cases hix : ixOf t.cells y with
      | none =>
        have hdn : depN t.cells y = none := by unfold depN; rw [hix]; rfl
        refine nxt (TS_if (TB_op (TAll_and (tx c' (b := false) rfl (br (b := false) (fun q => nomatch q) fun _ => ?_)))))
        exact br (b := false) (fun q => nomatch q) fun _ => TSs_nil (TSs_nil (no hdn))
      | some bf =>
        obtain ⟨cb, hcb, hcy⟩ := ixOf_lt hix
        refine nxt (TS_if (TB_op (TAll_and (tx c' (b := decide ((bf : Int) ≥ 0)) rfl ?_))))
        rw [decide_eq_true (Int.natCast_nonneg bf)]
        refine br (b := true) (fun _ => ?_) fun q => nomatch q
        refine TAll_and (TB_not (TB_val (TE_callD ⟨c.fn' 7, rfl⟩ (TEs_cons (te_cell (k := 0) (i := bf) (v := .str cb.k) rfl rfl (hl6 h.k) hcb (by decide) rfl (TEs_nil (sState c' ⟨_, rfl, br (fun q2 => ?_) fun q2 => ?_⟩)))))))
        rotate_left
        · have q2' : isSt cb.k = true := by simpa using q2
          have hdn : depN t.cells y = none := by unfold depN; rw [hix]; simp [cmb_at hcb, q2']
          exact br (b := false) (fun q => nomatch q) fun _ => TSs_nil (TSs_nil (no hdn))
        have q2' : isSt cb.k = false := by simpa using q2
        have hdn : depN t.cells y = some bf := by unfold depN; rw [hix]; simp [cmb_at hcb, q2']
        refine TAll_andN (br (b := true) (fun _ => ?_) fun q => nomatch q)
        refine TSs_cons (TS_aug (v₀ := ni cnt) rfl (TE_int (TO_intI (fun k => PyProof.Rows.iadd_int k) ?_)))
        refine mid (fun τ' => OI σ τ' i ((ev t.cells i).length + cnt + 1) (Wp t.cells i) (ev t.cells i ++ evOf i ((x.i.take j).filterMap (depN t.cells))) (rdy t.cells i) ∧ ∃ m q, τ'[σ.length + 1]? = some (.di m) ∧ lk m (bf : Int) = some (.ref q)) ?_ fun τ' h' => ?_
        · obtain ⟨m, m1, m2, m3⟩ := h.u
          refine TS_if (TB_cmp (TE_var rfl (TE_var rfl (TO_ninD (dI cx) (k := (bf : Int)) m1 dI_r ⟨_, rfl, br (fun q3 => ?_) fun q3 => ?_⟩))))
          · have hn : lk m (bf : Int) = none := by
              cases w : lk m (bf : Int) with
              | none => rfl
              | some u => rw [w] at q3; cases q3
            have g := h.useNew m1 hn
            refine TSs_cons (TS_setSub (TE_list (TEs_nil ⟨Nat.zero_le _, TE_var rfl (TE_var rfl (TU_set (dI cx) (k := (bf : Int)) (getB m1) dI_r (TSs_nil ⟨rfl, rfl, g, _, τ.length, getS (getB m1), by rw [lk_put, if_pos rfl]⟩) (Nat.le_trans m3 (by unfold sizeLine; omega))))⟩)))
          · refine TSs_nil ⟨rfl, rfl, ⟨h.k, h.w, by obtain ⟨m', a, b, c⟩ := h.u; exact ⟨m', a, b, Nat.le_succ_of_le c⟩, h.r⟩, ?_⟩
            rcases m2.val bf with ⟨w, _⟩ | ⟨q', w, _⟩
            · rw [w] at q3; cases q3
            · exact ⟨m, q', m1, w⟩
        · obtain ⟨h', m, q', m1, hq⟩ := h'
          obtain ⟨hl, g⟩ := h'.addU (i := i) m1 hq
          have hz : ((usr (ev t.cells i ++ evOf i ((x.i.take j).filterMap (depN t.cells))) bf).map ni).length < sizeLine := by
            have h1 : (usr (ev t.cells i ++ evOf i ((x.i.take j).filterMap (depN t.cells))) bf).length ≤ (ev t.cells i ++ evOf i ((x.i.take j).filterMap (depN t.cells))).length := by unfold usr; rw [List.length_map]; exact List.length_filter_le _ _
            rw [List.length_append, List.length_map, hcn] at h1
            rw [List.length_map]; unfold sizeLine; omega
          refine TSs_cons (TS_expr (TE_meth PySem.F.plainAttrs_list PySem.F.slot_list_append PySem.F.type_list_append (TE_sub (TE_var rfl (TE_var rfl (TO_itemD (dI cx) m1 dI_r hq ⟨ty_list hl, TEs_cons (TE_var (v := ni i) rfl (TEs_nil (TO_append hl (TSs_nil (TSs_nil ⟨cnt + 1, ?_, ?_, ?_⟩)) hz)))⟩ fun _ _ => rfl))))))
          · exact .cons (lk_self.trans (congrArg (fun k => some (V.int k)) (Int.natCast_succ cnt).symm)) (.cons rfl (.cons rfl (.cons rfl (.cons rfl (.cons rfl (.cons rfl (.cons rfl .nil)))))))
          · rw [fl j y hy, hdn]; simp [hcn]
          · rw [fl j y hy, hdn]
            simpa [evOf, Nat.add_assoc] using g
    · -- the cell's count stands
      rw [List.length_map, List.take_length] at h
      obtain ⟨hcn, h⟩ := h
      rw [← hD] at h hcn
      have hz1 : cnt ≤ x.i.length := by rw [hcn]; exact deps_len hx
      have hrl : (rdy t.cells i).length ≤ i := by unfold rdy; exact Nat.le_trans (List.length_filter_le _ _) (by rw [List.length_range]; exact Nat.le_refl _)
      obtain ⟨m, m1, m2, m3⟩ := h.w
      have g := h.setW (m := put m (i : Int) (ni cnt)) (W' := Wp t.cells (i + 1)) (lw' := i + 1) (fun j => by
        rw [lk_put]
        by_cases e : (i : Int) = (j : Int)
        · have e' : i = j := by omega
          subst e'
          rw [if_pos rfl]; unfold Wp; rw [if_pos ⟨Nat.lt_succ_self _, hc⟩, hcn]; rfl
        · rw [if_neg e, m2]; unfold Wp
          simp only [show j < i + 1 ↔ j < i by omega]) (Nat.le_trans put_len (Nat.succ_le_succ m3))
      have hev : ev t.cells (i + 1) = ev t.cells i ++ evOf i (deps t.cells i) := ev_succ
      have hel : (ev t.cells (i + 1)).length = (ev t.cells i).length + cnt := by rw [hev, List.length_append, List.length_map, hcn]
      refine nxt (TS_setSub (TE_var rfl (TE_var rfl (TE_var rfl (TU_set (dI cx) (k := (i : Int)) m1 dI_r (nxt (iff' c' (b := (cnt : Int) == 0) rfl (fun q3 => ?_) fun q3 => ?_)) (Nat.le_trans m3 (by unfold sizeLine; omega)))))))
      · have h0 : deps t.cells i = [] := List.length_eq_zero_iff.mp (by rw [← hcn]; simpa using q3)
        refine TSs_cons (apd c' (v := ni i) rfl g.r rfl (by rw [List.length_map]; unfold sizeLine; omega) (TSs_nil (TSs_nil ⟨(), .cons rfl (.cons rfl (.cons rfl (.cons rfl (.cons rfl (.cons rfl .nil))))), ?_⟩)))
        have g' := g.setR (R' := rdy t.cells i ++ [i])
        rw [List.map_append] at g'
        have hr : rdy t.cells (i + 1) = rdy t.cells i ++ [i] := by rw [rdy_succ, hc, h0]; rfl
        rw [hr, hel, hev]
        exact g'
      · have h0 : (deps t.cells i).isEmpty = false := by
          cases w : deps t.cells i with
          | nil => rw [w] at hcn; subst hcn; cases q3
          | cons _ _ => rfl
        refine TSs_nil (TSs_nil ⟨(), .cons rfl (.cons rfl (.cons rfl (.cons rfl (.cons rfl (.cons rfl .nil))))), ?_⟩)
        rw [rdy_succ, hc, h0, hel, hev]
        simpa using g
  -- the queue
  rw [upto_len, Int.sub_zero, Int.toNat_natCast] at h
  have hW : Wp t.cells t.cells.length = Wq t.cells [] := by funext j; exact Wp_end
  rw [hW] at h
  refine nxt (asg c' (v := ni 0) rfl (nxt ?_))
  have zev := ev_len (l := t.cells) (k := t.cells.length) (Nat.le_refl _)
  rw [List.take_length] at zev
  refine TS_while (fun T : Nat => (S "turn", ni T) :: oL σ.length N dr e) (fun m T τ => m + T = t.cells.length + 1 ∧ ∃ R, T ≤ R.length ∧ KI t.cells R ((R.take T).flatMap (uz t.cells)) ∧ OI σ τ t.cells.length (ev t.cells t.cells.length).length (Wq t.cells ((R.take T).flatMap (uz t.cells))) (ev t.cells t.cells.length) R) (t.cells.length + 1) 0
    ⟨Sub.refl _, rfl, rdy t.cells t.cells.length, Nat.zero_le _, by simpa using KI.init, by simpa using h⟩ fun m T τ h => ?_
  obtain ⟨hm, R, hT, hK, h⟩ := h
  have hR := hK.len
  refine TB_cmp (TE_var rfl (TE_callB c.len (TEs_cons (TE_var rfl (TEs_nil (TO_lenL h.r (TO_intB (fun k => PyProof.Rows.lt_int k) ⟨_, rfl, br (fun q => ?_) fun q => ?_⟩)))))))
  · have hlt : T < R.length := by simpa using q
    have hb := List.getElem?_eq_getElem hlt
    generalize R[T] = bq at hb
    obtain ⟨mu, u1, u2, u3⟩ := h.u
    refine TSs_cons (TS_forE (fun _ : Unit => (S "turn", ni T) :: oL σ.length N dr e) (TE_meth PySem.F.plainAttrs_dict PySem.F.slot_dict_get PySem.F.type_dict_get (TE_var rfl ⟨ty_dict (D := dI cx) u1 dI_r, TEs_cons (TE_sub (TE_var rfl (TE_var rfl (TO_itemL h.r (Int.natCast_nonneg _) (v := ni bq) (by rw [Int.toNat_natCast, List.getElem?_map, hb]; rfl) (TEs_cons (TE_list (TEs_nil ⟨Nat.zero_le _, TEs_nil (TO_get2 (dI cx) (getB u1) dI_r ?_)⟩))) fun _ _ => rfl))))⟩)))
    have hq : ∃ q', (lk mu (bq : Int)).getD (.ref τ.length) = .ref q' ∧ σ.length + 3 ≤ q' ∧ (τ ++ [O.list []])[q']? = some (.list ((uz t.cells bq).map ni)) := by
      rcases u2.val bq with ⟨w, w2⟩ | ⟨q', w, w2, w3⟩
      · have w2 : uz t.cells bq = [] := w2
        exact ⟨τ.length, by rw [w]; rfl, h.big, by rw [w2]; exact getA⟩
      · exact ⟨q', by rw [w]; rfl, w2, getB w3⟩
    obtain ⟨q', hv, hq', hl⟩ := hq
    rw [hv]
    refine ⟨(uz t.cells bq).map ni, _, _, fun j _ τ' => (∃ R', R'[T]? = some bq ∧ KI t.cells R' (evs t.cells R' T j bq) ∧ OI σ τ' t.cells.length (ev t.cells t.cells.length).length (Wq t.cells (evs t.cells R' T j bq)) (ev t.cells t.cells.length) R') ∧ τ'[q']? = some (.list ((uz t.cells bq).map ni)), src_list (j := q'), ⟨(), Sub.refl _, ⟨R, hb, by simpa [evs] using hK, by simpa [evs] using h.app⟩, hl⟩, fun _ _ _ h => h.2, fun j v _ τ' hv h => ?_, fun _ τ' h => ?_⟩
    · rw [List.getElem?_map] at hv
      obtain ⟨i, hi, rfl⟩ := Option.map_eq_some_iff.mp hv
      obtain ⟨⟨R', hb', hK', h'⟩, hl'⟩ := h
      have hT' := (List.getElem?_eq_some_iff.mp hb').1
      have hR' := hK'.len
      obtain ⟨s1, s2, s3, s4⟩ := hK'.step hb' hi
      obtain ⟨mw, w1, w2, w3⟩ := h'.w
      have hwi : lk mw (i : Int) = some (.int (((deps t.cells i).length : Nat) - ((evs t.cells R' T j bq).count i : Nat))) := by rw [w2]; unfold Wq; rw [s1]; rfl
      generalize hcv : (((deps t.cells i).length : Nat) : Int) - ((evs t.cells R' T j bq).count i : Nat) = wv at hwi
      have g := h'.setW (m := put mw (i : Int) (.int (wv - 1))) (W' := Wq t.cells (evs t.cells R' T (j + 1) bq)) (lw' := t.cells.length) (fun k => by
        rw [lk_put]
        by_cases e : (i : Int) = (k : Int)
        · have e' : i = k := by omega
          subst e'
          have e4 : List.count i (evs t.cells R' T (j + 1) bq) = List.count i (evs t.cells R' T j bq) + 1 := by
            rw [s3]; refine List.count_append.trans ?_
            rw [List.count_singleton_self]
          rw [if_pos rfl]; unfold Wq; rw [s1, e4, ← hcv]
          simp only [cond_true, Option.map_some]
          congr 2; omega
        · rw [if_neg e, w2]; unfold Wq
          have e' : ¬ i = k := fun z => e (by rw [z])
          have e4 : List.count k (evs t.cells R' T (j + 1) bq) = List.count k (evs t.cells R' T j bq) := by
            rw [s3]; refine List.count_append.trans ?_
            rw [show List.count k [i] = 0 by simp [e'], Nat.add_zero]
          rw [e4]) (by rw [put_len_mem (by rw [hwi]; rfl)]; exact w3)
      refine TA_name (TSs_cons (TS_augSub (TE_var rfl (TE_var rfl (TO_getD (dI cx) w1 dI_r hwi (TE_int (TO_intI (fun k => PyProof.Rows.isub_int k) (TU_set (dI cx) (k := (i : Int)) w1 dI_r (nxt ?_) (Nat.le_trans w3 (by unfold sizeLine; omega))))))))))
      refine TS_if (TB_cmp (TE_sub (TE_var rfl (TE_var rfl (TO_itemD (dI cx) (k := (i : Int)) (getS w1) dI_r (v := .int (wv - 1)) (by rw [lk_put, if_pos rfl]) (TE_int (TO_intB (fun k => PyProof.Rows.eq_int k) ⟨_, rfl, br (fun q3 => ?_) fun q3 => ?_⟩)) fun _ _ => rfl)))))
      · have hq3 : (evs t.cells R' T j bq).count i + 1 = (deps t.cells i).length := by have := beq_iff_eq.mp q3; omega
        obtain ⟨g1, g2⟩ := hK'.yes hb' hi hq3
        refine TSs_cons (apd c' (v := ni i) rfl g.r rfl (by rw [List.length_map]; unfold sizeLine; omega) (TSs_nil (TSs_nil ⟨(), .cons rfl (.cons rfl (.cons rfl (.cons rfl (.cons rfl (.cons rfl (.cons rfl .nil)))))), ⟨R' ++ [i], g2, g1, ?_⟩, getN (by omega) (getN (by omega) hl')⟩)))
        have e3 : evs t.cells (R' ++ [i]) T (j + 1) bq = evs t.cells R' T (j + 1) bq := by unfold evs; rw [List.take_append_of_le_length (Nat.le_of_lt hT')]
        have g' := g.setR (R' := R' ++ [i])
        rw [List.map_append] at g'
        rw [e3]
        exact g'
      · have hq3 : (evs t.cells R' T j bq).count i + 1 ≠ (deps t.cells i).length := fun w => by have := beq_eq_false_iff_ne.mp q3; omega
        exact TSs_nil (TSs_nil ⟨(), .cons rfl (.cons rfl (.cons rfl (.cons rfl (.cons rfl (.cons rfl (.cons rfl .nil)))))), ⟨R', hb', hK'.no hb' hi hq3, g⟩, getN (by omega) hl'⟩)
    · rw [List.length_map] at h
      obtain ⟨⟨R', hb', hK', h'⟩, -⟩ := h
      have hT' := (List.getElem?_eq_some_iff.mp hb').1
      rw [evs_next hb'] at hK' h'
      refine nxt (TS_aug (v₀ := ni T) rfl (TE_int (TO_intI (fun k => PyProof.Rows.iadd_int k) (TSs_nil ⟨t.cells.length - T, by omega, T + 1, ?_, by omega, R', hT', hK', h'⟩))))
      exact .cons (lk_self.trans (congrArg (fun k => some (V.int k)) (Int.natCast_succ T).symm)) (.cons rfl (.cons rfl (.cons rfl (.cons rfl (.cons rfl (.cons rfl .nil))))))
  · have hlt : T = R.length := by
      have : ¬ T < R.length := by simpa using q
      omega
    subst hlt
    rw [List.take_length] at hK h
    exact nxt (rtn c' (v := .ref (σ.length + 2)) rfl (p _ _ R h.k (by omega) h.r ⟨hK.nd, fun i => hK.isC, fun i a b => hK.done a b, hK.ord⟩))
end
end Mine
open PySem PySem.W PyProof.Rows PySem.Calls
set_option Elab.async false
set_option maxRecDepth 4000
namespace Mine
def lf (l : List Cell) (R : List Nat) (i : Nat) : Option V := (l[i]?).bind fun c => bif cmb l i && !decide (i ∈ R) then some (flt (S "combinational_loop") c.o) else none
def loopF (l : List Cell) (R : List Nat) (k : Nat) : List V := (List.range k).filterMap (lf l R)
theorem loopF_succ {l : List Cell} {R : List Nat} {k : Nat} : loopF l R (k + 1) = loopF l R k ++ (lf l R k).toList := by
  unfold loopF
  rw [List.range_succ, List.filterMap_append]
  simp only [List.filterMap_cons, List.filterMap_nil]
  cases (lf l R k) <;> rfl
theorem mem_cast {R : List Nat} {i : Nat} : ((i : Int) ∈ R.map fun k : Nat => (k : Int)) ↔ i ∈ R := by
  rw [List.mem_map]
  exact ⟨fun ⟨a, h, e⟩ => by have : a = i := by omega
                             exact this ▸ h, fun h => ⟨i, h, rfl⟩⟩
section
variable {cx : Cx} {n : Nat} {sc : Scope} {loc : Loc} {σ : List O} {P : V → List O → Prop} {Q : Fl → Loc → List O → Prop} {pos : Pos} {N : Nat} {t : Net}
theorem sLoop (c : TopOk cx) (hN : NetAt σ N t) (z : Sz2 t) (nd : (made t).Nodup)
    (p : ∀ r σ' R, Keep σ σ' → OrdR t.cells R → σ'[r]? = some (.list (loopF t.cells R t.cells.length)) → P (.ref r) σ') : TF cx (n + 2) (fn 18) [.ref N] σ P := by
  have c' := c.toCxOk
  have zc : t.cells.length ≤ 64 := by have := z.made; unfold made at this; simp only [List.length_cons, List.length_append, List.length_map] at this; omega
  refine ⟨[S "netlist"], bd1, rfl, TSs_cons (newD (nxt ?_))⟩
  have k0 := Keep.app σ [.di []]
  refine TS_forE (fun _ : Unit => [(S "ordered", .ref σ.length), (S "netlist", .ref N)]) (TE_callD ⟨c.fn' 11, rfl⟩ (TEs_cons (TE_var rfl (TEs_cons (TE_callD ⟨c.fn' 10, rfl⟩ (TEs_cons (TE_var rfl (TEs_nil (sDrv c (hN.keep k0) z nd fun r1 σ1 m1 k1 l1 g1 g2 => TEs_nil (sOrd c (hN.keep (k0.trans k1)) z g1 g2 fun r2 σ2 R k2 l2 g3 g4 => ?_))))))))))
  have kk : Keep σ σ2 := k0.trans (k1.trans k2)
  have hR : R.length ≤ 64 := by
    have := nd_len (S := List.range t.cells.length) g4.nd fun i hi => List.mem_range.mpr (cmb_lt (g4.isC i hi))
    rw [List.length_range] at this; omega
  have l3 : σ.length + 1 ≤ r2 := by
    have := k1.len
    rw [List.length_append] at this
    simp only [List.length_cons, List.length_nil] at this; omega
  refine ⟨R.map ni, _, _, fun i _ τ => Keep σ τ ∧ UsAt τ σ.length ((R.take i).map fun k : Nat => (k : Int)) ∧ τ[r2]? = some (.list (R.map ni)), src_list (j := r2), ⟨(), Sub.refl _, kk, ⟨[], k2 _ _ (k1 _ _ getA), fun _ => rfl, Nat.le_refl _⟩, g3⟩, fun _ _ _ h => h.2.2, fun i v _ τ hv h => ?_, fun _ τ h => ?_⟩
  · rw [List.getElem?_map] at hv
    obtain ⟨x, hx, rfl⟩ := Option.map_eq_some_iff.mp hv
    obtain ⟨k, us, w⟩ := h
    refine TA_name (TSs_cons (setT c' (i := σ.length) (k := (x : Int)) rfl us rfl (by rw [List.length_map, List.length_take]; omega) fun m hm => TSs_nil ⟨(), .cons rfl (.cons rfl .nil), k.set (Nat.le_refl _), ?_, getN (by omega) w⟩))
    obtain ⟨m', a, _⟩ := us
    refine ⟨m, getS a, ?_⟩
    rw [List.take_add_one, hx, List.map_append]; exact hm
  rw [List.length_map, List.take_length] at h
  obtain ⟨k, us, -⟩ := h
  refine nxt (new0 (nxt ?_))
  have hN' := hN
  obtain ⟨d, nm0, a, b, e, pi, po, h1, h2, h3, h4, h5, h6⟩ := hN'.ex
  have hs : σ.length < τ.length := by obtain ⟨m, m1, _⟩ := us; exact (List.getElem?_eq_some_iff.mp m1).1
  refine TS_for (src_rng (a := 0) (b := (t.cells.length : Int)) (by decide) (by decide) (by omega) (by omega)) (fun _ : Unit => [(S "faults", .ref τ.length), (S "ordered", .ref σ.length), (S "netlist", .ref N)])
    (fun i _ τ' => Keep σ τ' ∧ UsAt τ' σ.length (R.map fun k : Nat => (k : Int)) ∧ τ'[τ.length]? = some (.list (loopF t.cells R i)))
    (TE_callT c.rng (TEs_cons (TE_callB c.len (TEs_cons (at_ c' (loc := [(S "faults", .ref τ.length), (S "ordered", .ref σ.length), (S "netlist", .ref N)]) rfl (h1.keep (k.trans (Keep.app _ _))) rfl (TEs_nil (TO_lenL (getB (k _ _ h6)) (TEs_nil ?_)))))))) (fun i _ τ' h => trivial) (fun i v _ τ' hv h => ?_) fun _ τ' h => ?_
  · rw [List.length_map]
    exact TO_range1 ⟨rfl, (), Sub.refl _, k.trans (Keep.app _ _), by obtain ⟨m, m1, r⟩ := us; exact ⟨m, getB m1, r⟩, getA⟩
  · obtain ⟨hi, rfl⟩ := upto_at hv
    have hx := List.getElem?_eq_getElem hi
    generalize t.cells[i] = x at hx
    obtain ⟨k, us, w⟩ := h
    have us' := us
    obtain ⟨m, m1, m2, m3⟩ := us'
    have sb : ∀ {u v}, Sub [(S "faults", .ref τ.length), (S "ordered", .ref σ.length), (S "netlist", .ref N)] ((S "cell", u) :: (S "index", v) :: [(S "faults", .ref τ.length), (S "ordered", .ref σ.length), (S "netlist", .ref N)]) := .cons rfl (.cons rfl (.cons rfl .nil))
    have hlf : lf t.cells R i = bif cmb t.cells i && !decide (i ∈ R) then some (flt (S "combinational_loop") x.o) else none := by unfold lf; rw [hx]; rfl
    have no : lf t.cells R i = none → ∀ {u v}, ∃ _ : Unit, Sub [(S "faults", .ref τ.length), (S "ordered", .ref σ.length), (S "netlist", .ref N)] ((S "cell", u) :: (S "index", v) :: [(S "faults", .ref τ.length), (S "ordered", .ref σ.length), (S "netlist", .ref N)]) ∧ Keep σ τ' ∧ UsAt τ' σ.length (R.map fun k : Nat => (k : Int)) ∧ τ'[τ.length]? = some (.list (loopF t.cells R (i + 1))) := fun q u v => ⟨(), sb, k, us, by rw [loopF_succ, q]; simpa using w⟩
    have hz : (loopF t.cells R i).length < sizeLine := lenR (by omega)
    refine TA_name (TSs_cons (TS_assign (TE_sub (at_ c' (loc := (S "index", ni i) :: [(S "faults", .ref τ.length), (S "ordered", .ref σ.length), (S "netlist", .ref N)]) rfl (h1.keep k) rfl (TE_var rfl (TO_itemL (k _ _ h6) (Int.natCast_nonneg _) (v := x.v) (by rw [Int.toNat_natCast, List.getElem?_map, hx]; rfl) (nxt ?_) fun _ _ => rfl))))))
    refine TS_if (TB_op (TAll_and (TB_not (TB_val (TE_callD ⟨c.fn' 7, rfl⟩ (TEs_cons (ex c' (v := .str x.k) rfl (TEs_nil (sState c' ⟨_, rfl, br (fun q => ?_) fun q => ?_⟩)))))))))
    · have q' : isSt x.k = false := by simpa using q
      refine TAll_and (TB_cmp (TE_var rfl (TE_var rfl (TO_ninD (dI cx) (k := (i : Int)) m1 dI_r ⟨_, rfl, ?_⟩))))
      rw [m2]
      have hc : cmb t.cells i = true := by rw [cmb_at hx, q']; rfl
      refine br (fun q2 => TAll_andN (br (b := true) (fun _ => ?_) fun q => nomatch q)) fun q2 => br (b := false) (fun q => nomatch q) fun _ => TSs_nil (TSs_nil (no ?_))
      · have hq : i ∉ R := fun z => by rw [decide_eq_true (mem_cast.mpr z)] at q2; cases q2
        refine TSs_cons (apd c' (v := flt (S "combinational_loop") x.o) rfl w rfl hz (TSs_nil (TSs_nil ⟨(), sb, k.set (Nat.le_of_lt hs), by obtain ⟨m, m1, r⟩ := us; exact ⟨m, getN (by omega) m1, r⟩, ?_⟩)))
        rw [loopF_succ, hlf, hc, decide_eq_false hq]; exact getS w
      · have hq : i ∈ R := by
          have : decide ((i : Int) ∈ R.map fun k : Nat => (k : Int)) = true := by simpa using q2
          exact mem_cast.mp (of_decide_eq_true this)
        rw [hlf, decide_eq_true hq]; simp
    · have q' : isSt x.k = true := by simpa using q
      exact br (b := false) (fun q => nomatch q) fun _ => TSs_nil (TSs_nil (no (by rw [hlf, cmb_at hx, q']; rfl)))
  · rw [upto_len, Int.sub_zero, Int.toNat_natCast] at h
    obtain ⟨k, us, w⟩ := h
    exact nxt (rtn c' (v := .ref τ.length) rfl (p _ _ R k g4 w))
end
end Mine
open PySem PySem.W PyProof.Rows PySem.Calls
set_option Elab.async false
set_option maxRecDepth 4000
namespace Mine
theorem hits_bools {l : List Bool} {x : Bool} : hits (l.map V.bool) (.bool x) = decide (x ∈ l) := by
  unfold hits
  rw [Bool.eq_iff_iff, List.any_eq_true, decide_eq_true_eq]
  constructor
  · rintro ⟨y, hy, e⟩
    obtain ⟨v, hv, rfl⟩ := List.mem_map.mp hy
    obtain ⟨a, ha, rfl⟩ := List.mem_map.mp hv
    simp only [py, PyData.eqv, beq_iff_eq] at e
    exact e ▸ ha
  · intro h
    exact ⟨_, List.mem_map_of_mem (List.mem_map_of_mem h), by simp [py, PyData.eqv]⟩
theorem oks_bools (l : List Bool) : oks (l.map V.bool) = true := List.all_eq_true.mpr fun x hx => by obtain ⟨a, _, rfl⟩ := List.mem_map.mp hx; rfl
theorem hits_st {k : Str} : hits [.str (S "flop"), .str (S "latch")] (.str k) = isSt k := by
  have := hits_strs (l := [S "flop", S "latch"]) (x := k)
  refine Eq.trans this ?_
  unfold isSt foldB
  by_cases h1 : k = S "flop"
  · subst h1; decide +kernel
  · by_cases h2 : k = S "latch"
    · subst h2; decide +kernel
    · rw [decide_eq_false (by simp [h1, h2])]; simp [h1, h2]
/-- what is known from the start; what can be worked out -/
def baseK (t : Net) : List Int := 0 :: 1 :: (t.ins.flatMap (·.2) ++ (t.cells.filter fun c => isSt c.k).map (·.o))
inductive Rch (t : Net) : Int → Prop
  | base {x : Int} : x ∈ baseK t → Rch t x
  | step {c : Cell} : c ∈ t.cells → (∀ y ∈ c.i, Rch t y) → Rch t c.o
def stuckF (l : List Cell) (K : List Int) : List V := l.filterMap fun c => bif decide (c.o ∈ K) then none else some (flt (S "combinational_loop") c.o)
def miss (l : List Cell) (K : List Int) : Nat := l.countP fun c => !decide (c.o ∈ K)
def FixK (l : List Cell) (K : List Int) : Prop := ∀ c ∈ l, c.o ∈ K ∨ ∃ y ∈ c.i, y ∉ K
theorem miss_mono {K : List Int} {x : Int} : ∀ {l : List Cell}, miss l (K ++ [x]) ≤ miss l K
  | [] => Nat.le_refl _
  | c :: l => by
    have := miss_mono (K := K) (x := x) (l := l)
    unfold miss at *
    rw [List.countP_cons, List.countP_cons]
    by_cases h : c.o ∈ K
    · simpa [h] using this
    · by_cases h2 : c.o = x
      · simp [h2]; rw [← h2] at this ⊢; simp [h]; simp at this; omega
      · simp [h, h2]; simpa using this
theorem miss_lt {K : List Int} {c : Cell} : ∀ {l : List Cell}, c ∈ l → c.o ∉ K → miss l (K ++ [c.o]) + 1 ≤ miss l K
  | [], h, _ => nomatch h
  | d :: l, h, k => by
    unfold miss
    rw [List.countP_cons, List.countP_cons]
    have m := miss_mono (K := K) (x := c.o) (l := l)
    unfold miss at m
    by_cases e : d.o = c.o
    · rw [e]; simp [k]; simpa using m
    · have hl : c ∈ l := by
        rcases List.mem_cons.mp h with z | z
        · exact absurd (z ▸ rfl) e
        · exact z
      have := miss_lt hl k
      unfold miss at this
      by_cases h : d.o ∈ K
      · simp [h]; simpa using this
      · simp [h, e]; simp at this; omega
theorem FixK.all {t : Net} {K : List Int} (h : FixK t.cells K) (b : ∀ x ∈ baseK t, x ∈ K) {x : Int} (r : Rch t x) : x ∈ K := by
  induction r with
  | base h => exact b _ h
  | step hc _ ih =>
    rcases h _ hc with q | ⟨y, hy, q⟩
    · exact q
    · exact absurd (ih y hy) q
section
variable {cx : Cx} {n : Nat} {sc : Scope} {loc : Loc} {σ : List O} {P : V → List O → Prop} {Q : Fl → Loc → List O → Prop} {pos : Pos} {N : Nat} {t : Net}
abbrev sL (M N : Nat) (b : Int) : Loc := [(S "before", .int b), (S "known", .ref M), (S "netlist", .ref N)]
theorem sStuck (c : TopOk cx) (hN : NetAt σ N t) (z : Sz2 t)
    (p : ∀ r σ' K, Keep σ σ' → (∀ x, x ∈ K ↔ Rch t x) → σ'[r]? = some (.list (stuckF t.cells K)) → P (.ref r) σ') : TF cx (n + 2) (fn 30) [.ref N] σ P := by
  have c' := c.toCxOk
  obtain ⟨d, nm0, a, b, e, pi, po, h1, h2, h3, h4, h5, h6⟩ := hN.ex
  have zm := z.made
  unfold made at zm
  simp only [List.length_cons, List.length_append, List.length_map] at zm
  refine ⟨[S "netlist"], bd1, rfl, TSs_cons (TS_assign (TE_list (TEs_cons (TE_int (TEs_cons (TE_int (TEs_nil ⟨(by decide : 2 ≤ sizeLine), nxt ?_⟩)))))))⟩
  refine TS_for (src_list (j := a) (l := pi)) (fun r : Nat => [(S "known", .ref r), (S "netlist", .ref N)]) (fun i r τ => Keep σ τ ∧ τ[r]? = some (.list ((0 :: 1 :: (t.ins.take i).flatMap (·.2)).map V.int)))
    (at_ c' (loc := [(S "known", .ref σ.length), (S "netlist", .ref N)]) rfl (h1.keep (Keep.app _ _)) rfl ⟨rfl, σ.length, Sub.refl _, Keep.app _ _, getA⟩) (fun i r τ h => h.1 _ _ h2) (fun i v r τ hv h => ?_) fun r τ h => ?_
  · obtain ⟨⟨nm, bits⟩, q, hi, rfl, hr⟩ := h3.get hv
    obtain ⟨k1, f1⟩ := h
    refine TA_tup (TAs_cons (TA_name (TAs_cons (TA_name (TAs_nil (TSs_cons (TS_assign (TE_bin (TE_var rfl (TE_var rfl (TO_addL f1 (k1 _ _ hr) (TSs_nil ⟨τ.length, .cons rfl (.cons rfl .nil), k1.trans (Keep.app _ _), ?_⟩) ?_)))))))))))
    · rw [flat_take hi, ← List.map_append]; exact getA
    · have := flat_part (f := fun x : Str × List Int => x.2) hi
      dsimp only at this
      simp only [List.length_map, List.length_cons]
      unfold sizeLine; omega
  · rw [h3.length, List.take_length] at h
    obtain ⟨k1, f1⟩ := h
    have hr := (List.getElem?_eq_some_iff.mp f1).1
    refine nxt (TS_assign (TE_bin (TE_var rfl (TE_comp (src_list (j := e) (l := t.cells.map Cell.v)) (fun k i acc τ' => (Keep σ τ' ∧ τ'[r]? = some (.list ((0 :: 1 :: t.ins.flatMap (·.2)).map V.int)) ∧ τ'[k]? = some (.list acc) ∧ σ.length ≤ k ∧ r ≠ k) ∧ acc = (((t.cells.take i).filter fun c => isSt c.k).map (·.o)).map V.int)
      (at_ c' rfl (h1.keep k1) rfl ⟨rfl, k1 _ _ h6, ⟨k1.trans (Keep.app _ _), getB f1, getA, k1.len, Nat.ne_of_lt hr⟩, rfl⟩) (fun k i acc τ' h => ⟨h.1.1 _ _ h6, h.1.2.2.1, ?_⟩) (fun k i acc τ' v hv h => ?_) fun k acc τ' h => ?_))))
    · rw [h.2, List.length_map, List.length_map]
      have := List.length_filter_le (fun c : Cell => isSt c.k) (t.cells.take i)
      rw [List.length_take] at this
      unfold sizeLine; omega
    · rw [List.getElem?_map] at hv
      obtain ⟨x, hx, rfl⟩ := Option.map_eq_some_iff.mp hv
      obtain ⟨⟨q1, q2, q3, q4, q5⟩, rfl⟩ := h
      have ft : (t.cells.take (i + 1)).filter (fun c => isSt c.k) = (t.cells.take i).filter (fun c => isSt c.k) ++ if isSt x.k = true then [x] else [] := by
        rw [List.take_add_one, hx, List.filter_append]; simp [List.filter_cons]
      refine TI_one (tx c' (b := hits [.str (S "flop"), .str (S "latch")] (.str x.k)) rfl (br (fun q => ?_) fun q => ?_))
      · rw [hits_st] at q
        exact ex c' (v := .int x.o) rfl ⟨q3, ⟨q1.set q4, getN q5.symm q2, getS q3, q4, q5⟩, by rw [ft, if_pos q, List.map_append, List.map_append]; rfl⟩
      · rw [hits_st] at q
        exact ⟨⟨q1, q2, q3, q4, q5⟩, by rw [ft, if_neg (by rw [q]; exact Bool.false_ne_true), List.append_nil]⟩
    · obtain ⟨⟨q1, q2, q3, q4, q5⟩, rfl⟩ := h
      rw [List.length_map, List.take_length] at q3
      have zf := List.length_filter_le (fun c : Cell => isSt c.k) t.cells
      refine TO_addL q2 q3 (nxt (asg c' (v := .int (-1)) rfl (nxt ?_))) (by simp only [List.length_map, List.length_cons]; unfold sizeLine; omega)
      have fM : (τ' ++ [O.list ((0 :: 1 :: t.ins.flatMap (·.2)).map V.int ++ ((t.cells.filter fun c => isSt c.k).map (·.o)).map V.int)])[τ'.length]? = some (.list ((baseK t).map V.int)) := by
        rw [show (baseK t).map V.int = (0 :: 1 :: t.ins.flatMap (·.2)).map V.int ++ ((t.cells.filter fun c => isSt c.k).map (·.o)).map V.int by unfold baseK; simp]; exact getA
      have kM := q1.trans (Keep.app τ' [O.list ((0 :: 1 :: t.ins.flatMap (·.2)).map V.int ++ ((t.cells.filter fun c => isSt c.k).map (·.o)).map V.int)])
      have hM : σ.length ≤ τ'.length := q1.len
      have zb : (baseK t).length ≤ 64 := by unfold baseK; simp only [List.length_cons, List.length_append, List.length_map]; omega
      generalize hσ1 : τ' ++ [O.list ((0 :: 1 :: t.ins.flatMap (·.2)).map V.int ++ ((t.cells.filter fun c => isSt c.k).map (·.o)).map V.int)] = σ1 at fM kM ⊢
      generalize τ'.length = M at fM hM ⊢
      have zq : miss t.cells (baseK t) ≤ 64 := Nat.le_trans List.countP_le_length (by omega)
      refine TS_while (sL M N) (fun m bf τ => Keep σ τ ∧ ∃ K : List Int, τ[M]? = some (.list (K.map V.int)) ∧ (∀ x ∈ K, Rch t x) ∧ (∀ x ∈ baseK t, x ∈ K) ∧ K.length + miss t.cells K ≤ 200 ∧ (bf < (K.length : Int) ∨ FixK t.cells K) ∧ m = miss t.cells K + if bf < (K.length : Int) then 1 else 0)
        (miss t.cells (baseK t) + 1) (-1) ⟨.cons rfl (.cons rfl (.cons rfl .nil)), kM, baseK t, fM, fun x hx => .base hx, fun x hx => hx, by omega, .inl (by omega), by rw [if_pos (by omega)]⟩ fun m bf τ h => ?_
      obtain ⟨k1, K, f1, r1, b1, s1, x1, rfl⟩ := h
      refine TB_cmp (TE_var rfl (TE_callB c.len (TEs_cons (TE_var rfl (TEs_nil (TO_lenL f1 (TO_intB (fun k => PyProof.Rows.lt_int k) ⟨_, rfl, br (fun q => ?_) fun q => ?_⟩)))))))
      · -- a round
        rw [List.length_map] at q
        have q := of_decide_eq_true q
        rw [if_pos q]
        refine TSs_cons (TS_assign (TE_callB c.len (TEs_cons (TE_var rfl (TEs_nil (TO_lenL f1 (nxt ?_)))))))
        rw [List.length_map]
        refine TS_for (src_list (j := e) (l := t.cells.map Cell.v)) (fun _ : Unit => sL M N K.length) (fun j _ τ => Keep σ τ ∧ ∃ B : List Int, τ[M]? = some (.list ((K ++ B).map V.int)) ∧ (∀ x ∈ K ++ B, Rch t x) ∧ miss t.cells (K ++ B) + B.length ≤ miss t.cells K ∧ (B = [] → FixK (t.cells.take j) K))
          (at_ c' rfl (h1.keep k1) rfl ⟨rfl, (), .cons rfl (.cons rfl (.cons rfl .nil)), k1, [], by rw [List.append_nil]; exact f1, by rw [List.append_nil]; exact r1, by rw [List.append_nil]; exact Nat.le_refl _, fun _ c hc => by simp at hc⟩) (fun j _ τ h => h.1 _ _ h6) (fun j v _ τ hv h => ?_) fun _ τ h => ?_
        · rw [List.getElem?_map] at hv
          obtain ⟨x, hx, rfl⟩ := Option.map_eq_some_iff.mp hv
          have hmem := List.mem_of_getElem? hx
          obtain ⟨k2, B, f2, r2, m2, x2⟩ := h
          have sb : Sub (sL M N K.length) ((S "cell", x.v) :: sL M N K.length) := .cons rfl (.cons rfl (.cons rfl .nil))
          have ft : ∀ {c}, c ∈ t.cells.take (j + 1) → c ∈ t.cells.take j ∨ c = x := fun {c} hc => by
            rw [List.take_add_one, hx, List.mem_append] at hc
            exact hc.imp id fun h => by simpa using h
          refine TA_name (TSs_cons (TS_if (TB_op (TAll_and (evb_ninL (x := x.o) (pev c' rfl) (pev c' rfl) f2 rfl _ (br (fun q2 => ?_) fun q2 => ?_))))))
          rotate_left
          · have hin : x.o ∈ K ++ B := by cases h : decide (x.o ∈ K ++ B) with
              | true => exact of_decide_eq_true h
              | false => rw [h] at q2; cases q2
            refine br (b := false) (fun q => nomatch q) fun _ => TSs_nil (TSs_nil ⟨(), sb, k2, B, f2, r2, m2, fun hB c hc => ?_⟩)
            rcases ft hc with hc | rfl
            · exact x2 hB c hc
            · subst hB; rw [List.append_nil] at hin; exact .inl hin
          have hno : x.o ∉ K ++ B := fun h => by rw [decide_eq_true h] at q2; cases q2
          refine TAll_and (TB_cmp (TE_bool (TE_comp (src_tup (l := x.i.map V.int)) (fun k i acc τ' => (Keep τ τ' ∧ τ'[k]? = some (.list acc) ∧ τ.length ≤ k) ∧ acc = ((x.i.take i).map fun y => decide (y ∈ K ++ B)).map V.bool)
            (ex c' (v := .tup (x.i.map V.int)) rfl ⟨rfl, trivial, ⟨Keep.app _ _, getA, Nat.le_refl _⟩, rfl⟩) (fun k i acc τ' h => ⟨trivial, h.1.2.1, ?_⟩) (fun k i acc τ' v hv h => TI_nil (br (b := true) (fun _ => ?_) fun q => nomatch q)) fun k acc τ' h => ?_)))
          · rw [h.2, List.length_map, List.length_map, List.length_take]
            have z1 := flat_part (f := fun x : Cell => x.i) hx
            have zu := z.used
            unfold usedL at zu
            rw [List.length_append] at zu
            unfold sizeLine; omega
          · rw [List.getElem?_map] at hv
            obtain ⟨y, hy, rfl⟩ := Option.map_eq_some_iff.mp hv
            obtain ⟨⟨g1, g2, g3⟩, rfl⟩ := h
            refine TE_cmp (TE_var rfl (TE_var (v := .ref M) rfl (TO_inL (g1 _ _ f2) (oks_ints _) rfl ?_)))
            rw [hits_ints]
            exact ⟨g2, ⟨g1.set g3, getS g2, g3⟩, by rw [map_take hy, List.map_append]; rfl⟩
          · obtain ⟨⟨g1, g2, g3⟩, rfl⟩ := h
            rw [List.length_map, List.take_length] at g2
            refine TO_ninL g2 (oks_bools _) rfl ⟨_, rfl, ?_⟩
            rw [hits_bools]
            refine br (fun q3 => TAll_andN (br (b := true) (fun _ => ?_) fun q => nomatch q)) fun q3 => br (b := false) (fun q => nomatch q) fun _ => TSs_nil (TSs_nil ⟨(), sb, k2.trans g1, B, g1 _ _ f2, r2, m2, fun hB c hc => ?_⟩)
            · have hall : ∀ y ∈ x.i, y ∈ K ++ B := fun y hy => Decidable.byContradiction fun hn => by
                have : false ∈ x.i.map fun y => decide (y ∈ K ++ B) := List.mem_map.mpr ⟨y, hy, decide_eq_false hn⟩
                rw [decide_eq_true this] at q3; cases q3
              have m3 := miss_lt (l := t.cells) hmem hno
              refine TSs_cons (apd c' (v := .int x.o) rfl (g1 _ _ f2) rfl ?_ (TSs_nil (TSs_nil ⟨(), sb, (k2.trans g1).set hM, B ++ [x.o], ?_, fun y hy => ?_, ?_, fun hB => by simp at hB⟩)))
              · simp only [List.length_map, List.length_append]; unfold sizeLine; omega
              · rw [show (K ++ (B ++ [x.o])).map V.int = (K ++ B).map V.int ++ [.int x.o] by rw [← List.append_assoc, List.map_append (l₁ := K ++ B)]; rfl]; exact getS (g1 _ _ f2)
              · rw [← List.append_assoc, List.mem_append] at hy
                rcases hy with hy | hy
                · exact r2 y hy
                · rw [List.mem_singleton.mp hy]; exact .step hmem fun y hy => r2 y (hall y hy)
              · rw [← List.append_assoc, List.length_append]
                simp only [List.length_cons, List.length_nil]; omega
            · rcases ft hc with hc | rfl
              · exact x2 hB c hc
              · subst hB
                rw [List.append_nil] at q3
                refine .inr ?_
                simpa using q3
        · rw [List.length_map, List.take_length] at h
          obtain ⟨k2, B, f2, r2, m2, x2⟩ := h
          refine TSs_nil ⟨_, ?_, (K.length : Int), Sub.refl _, k2, K ++ B, f2, r2, fun x hx => List.mem_append_left _ (b1 x hx), by rw [List.length_append]; omega, ?_, rfl⟩
          · cases B with
            | nil => rw [List.append_nil, if_neg (by omega)]; omega
            | cons y B => simp only [List.length_cons] at m2; split <;> omega
          · cases B with
            | nil => rw [List.append_nil]; exact .inr (x2 rfl)
            | cons y B => rw [List.length_append, List.length_cons]; exact .inl (by omega)
      · rw [List.length_map] at q
        have q := of_decide_eq_false q
        have fx : FixK t.cells K := x1.resolve_left q
        have mem : ∀ x, x ∈ K ↔ Rch t x := fun x => ⟨r1 x, fx.all b1⟩
        refine nxt (TS_ret (TE_comp (src_list (j := e) (l := t.cells.map Cell.v)) (fun k i acc τ' => (Keep τ τ' ∧ τ'[k]? = some (.list acc) ∧ τ.length ≤ k) ∧ acc = stuckF (t.cells.take i) K)
          (at_ c' rfl (h1.keep k1) rfl ⟨rfl, k1 _ _ h6, ⟨Keep.app _ _, getA, Nat.le_refl _⟩, rfl⟩) (fun k i acc τ' h => ⟨h.1.1 _ _ (k1 _ _ h6), h.1.2.1, ?_⟩) (fun k i acc τ' v hv h => ?_) fun k acc τ' h => ?_))
        · rw [h.2]; exact lenF (by omega)
        · rw [List.getElem?_map] at hv
          obtain ⟨x, hx, rfl⟩ := Option.map_eq_some_iff.mp hv
          obtain ⟨⟨g1, g2, g3⟩, rfl⟩ := h
          refine TI_one (evb_ninL (x := x.o) (l := K) (i := M) (pev c' rfl) (pev c' rfl) (g1 _ _ f1) rfl _ (br (fun q2 => ?_) fun q2 => ?_))
          · have hq : decide (x.o ∈ K) = false := by simpa using q2
            exact ex c' (v := flt (S "combinational_loop") x.o) rfl ⟨g2, ⟨g1.set g3, getS g2, g3⟩, by unfold stuckF; rw [filterMap_take hx, hq]; rfl⟩
          · have hq : decide (x.o ∈ K) = true := by simpa using q2
            exact ⟨⟨g1, g2, g3⟩, by unfold stuckF; rw [filterMap_take hx, hq]; simp⟩
        · obtain ⟨⟨g1, g2, g3⟩, rfl⟩ := h
          rw [List.length_map, List.take_length] at g2
          exact p _ _ K (k1.trans g1) mem g2
end
end Mine
open PySem PySem.W PyProof.Rows PySem.Calls
set_option Elab.async false
namespace Mine
/-! the plain law -/
theorem fm_id {α : Type} : ∀ l : List α, (List.range l.length).filterMap (fun j => l[j]?) = l
  | [] => rfl
  | a :: l => by
    rw [List.length_cons, List.range_succ_eq_map, List.filterMap_cons, List.filterMap_map]
    exact congrArg (a :: ·) (fm_id l)
theorem fm_range {α β : Type} (f : α → Option β) (l : List α) : (List.range l.length).filterMap (fun j => (l[j]?).bind f) = l.filterMap f := by
  conv => rhs; rw [← fm_id l, List.filterMap_filterMap]
theorem fm_two {α β : Type} (a b : α → Option β) : ∀ l : List α, (l.flatMap fun j => (a j).toList ++ (b j).toList).Perm (l.filterMap a ++ l.filterMap b)
  | [] => .refl _
  | j :: l => by
    have ih := fm_two a b l
    rw [List.flatMap_cons, List.filterMap_cons, List.filterMap_cons]
    cases a j with
    | none =>
      cases b j with
      | none => simpa using ih
      | some y => simpa using (ih.cons y).trans (List.perm_middle.symm)
    | some x =>
      cases b j with
      | none => simpa using ih
      | some y => simpa using (ih.cons y).trans (List.perm_middle.symm)
theorem lawC_perm {g : Cell → Bool} {l : List Cell} : (lawC g l l.length).Perm (cellF g l ++ dupN g l l.length) := by
  have h := fm_two (cq g l) (dq g l) (List.range l.length)
  have e1 : (List.range l.length).filterMap (cq g l) = cellF g l := fm_range _ l
  rw [e1] at h
  exact h
theorem mem_taken {t : Net} {x : Int} : x ∈ taken t ↔ x ∈ usedL t := by unfold taken usedL; rw [List.mem_append, List.mem_append]; exact Or.comm
theorem ins_or {t : Net} {x : Int} : (decide (x < 0) || decide (x ≥ t.cnt)) = !insideN t x := by
  unfold insideN
  by_cases h1 : x < 0
  · have : ¬ 0 ≤ x := by omega
    simp [h1, this]
  · have : 0 ≤ x := by omega
    by_cases h2 : x ≥ t.cnt
    · have : ¬ x < t.cnt := by omega
      simp [h2, this]
    · have : x < t.cnt := by omega
      simp [h1, h2, this]; omega
theorem nf_made {t : Net} {x : Int} (h : x ∈ made t) : nf t x = tf t x := by
  unfold nf tf
  rw [ins_or, decide_eq_true h]
  simp
theorem nf_used {t : Net} {x : Int} (h : x ∉ made t) (k : x ∈ taken t) : nf t x = uf t x := by
  unfold nf uf
  rw [decide_eq_false h, decide_eq_true k, List.count_eq_zero.mpr h]
  simp
theorem nf_no {t : Net} {x : Int} (h : x ∉ made t) (k : x ∉ taken t) : nf t x = none := by
  unfold nf
  rw [decide_eq_false h, decide_eq_false k, List.count_eq_zero.mpr h]
  simp
theorem fm_congr {α β : Type} {f g : α → Option β} : ∀ {l : List α}, (∀ x ∈ l, f x = g x) → l.filterMap f = l.filterMap g
  | [], _ => rfl
  | a :: l, h => by rw [List.filterMap_cons, List.filterMap_cons, h a (.head _), fm_congr fun x hx => h x (.tail _ hx)]
theorem lawN_perm {t : Net} {K : Nat} {ns us : List Int} (n1 : ns.Nodup) (n2 : ∀ x, x ∈ ns ↔ x ∈ made t) (u1 : us.Nodup) (u2 : ∀ x, x ∈ us ↔ x ∈ usedL t)
    (hb : ∀ x, x ∈ made t ∨ x ∈ usedL t → -2 ≤ x ∧ x < -2 + (K : Int)) : (lawN t K).Perm (ns.filterMap (tf t) ++ us.filterMap (uf t)) := by
  let M := (List.range K).map fun i : Nat => (-2 + (i : Int))
  have eM : lawN t K = M.filterMap (nf t) := by unfold lawN; rw [List.filterMap_map]; rfl
  let L := ns ++ us.filter fun x => !decide (x ∈ made t)
  have mL : ∀ x, x ∈ L ↔ x ∈ made t ∨ x ∈ usedL t := fun x => by
    show x ∈ ns ++ us.filter _ ↔ _
    rw [List.mem_append, List.mem_filter, n2, u2]
    by_cases h : x ∈ made t <;> simp [h]
  have nM : M.Nodup := List.pairwise_map.mpr (List.Pairwise.imp (fun {a b} h e => h (by omega)) List.nodup_range)
  have nL : L.Nodup := by
    rw [List.nodup_append]
    refine ⟨n1, u1.sublist List.filter_sublist, fun x hx y hy e => ?_⟩
    subst e
    rw [List.mem_filter, decide_eq_true ((n2 x).mp hx)] at hy
    exact absurd hy.2 (by decide)
  have mM : ∀ x, x ∈ M ↔ -2 ≤ x ∧ x < -2 + (K : Int) := fun x => by
    show x ∈ (List.range K).map _ ↔ _
    rw [List.mem_map]
    constructor
    · rintro ⟨i, hi, rfl⟩
      rw [List.mem_range] at hi
      omega
    · rintro ⟨h1, h2⟩
      exact ⟨(x + 2).toNat, by rw [List.mem_range]; omega, by omega⟩
  have pM : (M.filter fun x => decide (x ∈ L)).Perm L := by
    rw [List.perm_ext_iff_of_nodup (nM.sublist List.filter_sublist) nL]
    intro x
    rw [List.mem_filter, decide_eq_true_eq, mM]
    exact ⟨fun h => h.2, fun h => ⟨hb x ((mL x).mp h), h⟩⟩
  have e1 : M.filterMap (nf t) = (M.filter fun x => decide (x ∈ L)).filterMap (nf t) := by
    rw [List.filterMap_filter]
    refine fm_congr fun x _ => ?_
    by_cases h : x ∈ L
    · simp [h]
    · have h' := fun z => h ((mL x).mpr z)
      have := nf_no (fun z => h' (.inl z)) (fun z => h' (.inr (mem_taken.mp z)))
      simp [this]
  have e2 : L.filterMap (nf t) = ns.filterMap (tf t) ++ us.filterMap (uf t) := by
    show (ns ++ us.filter _).filterMap (nf t) = _
    rw [List.filterMap_append, List.filterMap_filter]
    congr 1
    · exact fm_congr fun x hx => nf_made ((n2 x).mp hx)
    · refine fm_congr fun x hx => ?_
      by_cases h : x ∈ made t
      · simp [h, uf]
      · simp [h, nf_used h (mem_taken.mpr ((u2 x).mp hx))]
  rw [eM, e1, ← e2]
  exact pM.filterMap _
/-- all of the one side, all of the other -/
theorem all_perm {g : Cell → Bool} {t : Net} {K : Nat} {ns us : List Int} (h : (lawN t K).Perm (ns.filterMap (tf t) ++ us.filterMap (uf t))) {pn : List V} :
    ((cellF g t.cells ++ (ns.filterMap (tf t) ++ us.filterMap (uf t))) ++ (pn ++ dupN g t.cells t.cells.length)).Perm ((lawC g t.cells t.cells.length ++ pn) ++ lawN t K) := by
  have h1 := lawC_perm (g := g) (l := t.cells)
  refine List.Perm.trans ?_ (((h1.append_right pn).append h).symm)
  generalize ns.filterMap (tf t) ++ us.filterMap (uf t) = X
  generalize cellF g t.cells = A
  generalize dupN g t.cells t.cells.length = B
  rw [List.append_assoc, List.append_assoc A B pn, List.append_assoc A]
  exact (List.perm_append_comm.trans (List.perm_append_comm.append_right X)).append_left A
end Mine
open PySem PySem.W PyProof.Rows PySem.Calls
set_option Elab.async false
namespace Mine
section
variable {t : Net} {R : List Nat} {K : List Int}
theorem outs_nd (nd : (made t).Nodup) : (t.cells.map (·.o)).Nodup := by
  unfold made at nd
  exact (nd.sublist ((List.sublist_append_right _ _).trans ((List.sublist_cons_self _ _).trans (List.sublist_cons_self _ _))))
/-- one driver, one place -/
theorem same_ix (nd : (made t).Nodup) {i j : Nat} {c d : Cell} (hc : t.cells[i]? = some c) (hd : t.cells[j]? = some d) (e : c.o = d.o) : i = j := by
  have n := outs_nd nd
  have h1 : (t.cells.map (·.o))[i]? = some c.o := by rw [List.getElem?_map, hc]; rfl
  have h2 : (t.cells.map (·.o))[j]? = some c.o := by rw [List.getElem?_map, hd, e]; rfl
  obtain ⟨l1, g1⟩ := List.getElem?_eq_some_iff.mp h1
  obtain ⟨l2, g2⟩ := List.getElem?_eq_some_iff.mp h2
  exact (List.getElem_inj n).mp (g1.trans g2.symm)
theorem ixOf_some {l : List Cell} {i : Nat} {c : Cell} (hc : l[i]? = some c) : ∃ b d, ixOf l c.o = some b ∧ l[b]? = some d ∧ d.o = c.o := by
  cases h : ixOf l c.o with
  | none =>
    unfold ixOf at h
    rw [List.findIdx?_eq_none_iff] at h
    have := h c (List.mem_of_getElem? hc)
    simp at this
  | some b =>
    obtain ⟨d, h1, h2⟩ := ixOf_lt h
    exact ⟨b, d, rfl, h1, h2⟩
theorem mem_deps {l : List Cell} {i b : Nat} {c : Cell} (hc : l[i]? = some c) (hs : isSt c.k = false) : b ∈ deps l i ↔ ∃ y ∈ c.i, ixOf l y = some b ∧ cmb l b = true := by
  rw [deps_at hc hs]
  unfold dep depN
  rw [List.mem_filterMap]
  constructor
  · rintro ⟨y, hy, e⟩
    obtain ⟨b', h1, h2⟩ := Option.bind_eq_some_iff.mp e
    cases q : cmb l b' with
    | true => rw [q] at h2; cases h2; exact ⟨y, hy, h1, q⟩
    | false => rw [q] at h2; cases h2
  · rintro ⟨y, hy, h1, h2⟩
    exact ⟨y, hy, by rw [h1]; simp [h2]⟩
/-- what the queue reached can be worked out -/
theorem ord_rch (tk : ∀ x ∈ taken t, x ∈ made t) (o : OrdR t.cells R) : ∀ (p i : Nat) (c : Cell), R[p]? = some i → t.cells[i]? = some c → Rch t c.o := by
  intro p
  induction p using Nat.strongRecOn with
  | _ p ih =>
    intro i c hp hc
    have hs : isSt c.k = false := by
      have := o.isC i (List.mem_of_getElem? hp)
      rw [cmb_at hc] at this
      simpa using this
    refine .step (List.mem_of_getElem? hc) fun y hy => ?_
    have hm := tk y (by unfold taken; exact List.mem_append_right _ (List.mem_flatMap.mpr ⟨c, List.mem_of_getElem? hc, hy⟩))
    unfold made at hm
    simp only [List.mem_cons, List.mem_append] at hm
    have bs : y = 0 ∨ y = 1 ∨ y ∈ t.ins.flatMap (·.2) → Rch t y := fun h => .base (by
      unfold baseK
      simp only [List.mem_cons, List.mem_append]
      rcases h with h | h | h
      · exact .inl h
      · exact .inr (.inl h)
      · exact .inr (.inr (.inl h)))
    rcases hm with h | h | h | h
    · exact bs (.inl h)
    · exact bs (.inr (.inl h))
    · exact bs (.inr (.inr h))
    · obtain ⟨d, hd, rfl⟩ := List.mem_map.mp h
      obtain ⟨j, hj⟩ := List.getElem?_of_mem hd
      obtain ⟨b, d', e1, e2, e3⟩ := ixOf_some hj
      rw [← e3]
      cases q : isSt d'.k with
      | true =>
        refine .base ?_
        unfold baseK
        refine .tail _ (.tail _ (List.mem_append_right _ (List.mem_map.mpr ⟨d', ?_, rfl⟩)))
        rw [List.mem_filter]
        exact ⟨List.mem_of_getElem? e2, q⟩
      | false =>
        have hb : b ∈ deps t.cells i := (mem_deps hc hs).mpr ⟨d.o, hy, e1, by rw [cmb_at e2, q]; rfl⟩
        have := o.ord p i hp b hb
        obtain ⟨r, hr⟩ := List.getElem?_of_mem this
        have hr' : r < p := by
          have := (List.getElem?_eq_some_iff.mp hr).1
          rw [List.length_take] at this; omega
        rw [List.getElem?_take] at hr
        rw [if_pos hr'] at hr
        exact ih r hr' b d' hr e2
/-- what can be worked out the queue reached -/
theorem rch_ord (nd : (made t).Nodup) (o : OrdR t.cells R) {x : Int} (h : Rch t x) : ∀ (i : Nat) (c : Cell), t.cells[i]? = some c → c.o = x → isSt c.k = true ∨ i ∈ R := by
  induction h with
  | base hx =>
    intro i c hc e
    unfold baseK at hx
    have hc' := List.mem_of_getElem? hc
    unfold made at nd
    have nd2 := (List.nodup_cons.mp nd)
    have nd3 := (List.nodup_cons.mp nd2.2)
    have nd4 := List.nodup_append.mp nd3.2
    have hco : c.o ∈ t.cells.map (·.o) := List.mem_map_of_mem hc'
    rcases List.mem_cons.mp hx with h | h
    · exact absurd (List.mem_cons_of_mem _ (List.mem_append_right _ (h ▸ e ▸ hco))) nd2.1
    · rcases List.mem_cons.mp h with h | h
      · exact absurd (List.mem_append_right _ (h ▸ e ▸ hco)) nd3.1
      · rcases List.mem_append.mp h with h | h
        · exact absurd rfl (nd4.2.2 _ h _ (e ▸ hco))
        · obtain ⟨d, hd, hde⟩ := List.mem_map.mp h
          rw [List.mem_filter] at hd
          obtain ⟨j, hj⟩ := List.getElem?_of_mem hd.1
          have : i = j := same_ix nd hc hj (e.trans hde.symm)
          subst this
          rw [hc] at hj; cases hj
          exact .inl hd.2
  | @step c' hc' hy ih =>
    intro i c hc e
    obtain ⟨j, hj⟩ := List.getElem?_of_mem hc'
    have : i = j := same_ix nd hc hj e
    subst this
    rw [hc] at hj
    obtain rfl := Option.some.inj hj
    cases q : isSt c.k with
    | true => exact .inl rfl
    | false =>
      refine .inr (o.cl i (by rw [cmb_at hc, q]; rfl) fun b hb => ?_)
      obtain ⟨y, hy', h1, h2⟩ := (mem_deps hc q).mp hb
      obtain ⟨d, h3, h4⟩ := ixOf_lt h1
      rcases ih y hy' b d h3 h4 with h | h
      · rw [cmb_at h3, h] at h2; cases h2
      · exact h
theorem loop_stuck (nd : (made t).Nodup) (tk : ∀ x ∈ taken t, x ∈ made t) (o : OrdR t.cells R) (k : ∀ x, x ∈ K ↔ Rch t x) : loopF t.cells R t.cells.length = stuckF t.cells K := by
  unfold loopF stuckF
  rw [← fm_range (l := t.cells)]
  refine fm_congr fun i hi => ?_
  rw [List.mem_range] at hi
  have hc := List.getElem?_eq_getElem hi
  generalize t.cells[i] = c at hc
  unfold lf
  rw [hc, Option.bind_some, Option.bind_some, cmb_at hc]
  have key : c.o ∈ K ↔ isSt c.k = true ∨ i ∈ R := by
    rw [k]
    constructor
    · exact fun h => rch_ord nd o h i c hc rfl
    · rintro (h | h)
      · refine .base ?_
        unfold baseK
        refine .tail _ (.tail _ (List.mem_append_right _ (List.mem_map.mpr ⟨c, ?_, rfl⟩)))
        rw [List.mem_filter]
        exact ⟨List.mem_of_getElem? hc, h⟩
      · obtain ⟨p, hp⟩ := List.getElem?_of_mem h
        exact ord_rch tk o p i c hp hc
  by_cases h : c.o ∈ K
  · rw [decide_eq_true h]
    rcases key.mp h with q | q
    · simp [q]
    · simp [q]
  · rw [decide_eq_false h]
    have h1 : isSt c.k = false := by cases q : isSt c.k with
      | true => exact absurd (key.mpr (.inl q)) h
      | false => rfl
    have h2 : i ∉ R := fun z => h (key.mpr (.inr z))
    simp [h1, h2]
/-- no fault of the nets: each driven once, all that is read is driven -/
theorem lawN_nil {t : Net} {k : Nat} (h : lawN t k = []) (hb : ∀ x, x ∈ made t ∨ x ∈ usedL t → -2 ≤ x ∧ x < -2 + (k : Int)) : (made t).Nodup ∧ ∀ x ∈ taken t, x ∈ made t := by
  unfold lawN at h
  rw [List.filterMap_eq_nil_iff] at h
  have h' : ∀ x, x ∈ made t ∨ x ∈ usedL t → nf t x = none := fun x hx => by
    obtain ⟨b1, b2⟩ := hb x hx
    have := h (x + 2).toNat (by rw [List.mem_range]; omega)
    rw [show (-2 + ((x + 2).toNat : Int)) = x by omega] at this
    exact this
  refine ⟨List.nodup_iff_count.mpr fun x => ?_, fun x hx => Decidable.byContradiction fun n => ?_⟩
  · by_cases hx : x ∈ made t
    · have := h' x (.inl hx)
      rw [nf_made hx] at this
      unfold tf at this
      cases q : (decide (x < 0) || decide (x ≥ t.cnt)) with
      | true => rw [q] at this; cases this
      | false =>
        rw [q] at this
        by_cases w : ((made t).count x : Int) > 1
        · rw [decide_eq_true w] at this; cases this
        · omega
    · rw [List.count_eq_zero.mpr hx]; exact Nat.zero_le _
  · have := h' x (.inr (mem_taken.mp hx))
    rw [nf_used n hx] at this
    unfold uf at this
    rw [decide_eq_false n] at this
    cases this
end
/-! the sorted lists -/
theorem plt_sorted {l l' m m' : List Pr} (h : l.Perm m) (h1 : l'.Perm l) (h2 : l'.Pairwise fun a b => plt b a = false) (h3 : m'.Perm m) (h4 : m'.Pairwise fun a b => plt b a = false) : l' = m' :=
  List.Perm.eq_of_pairwise (le := fun a b => plt b a = false) (fun _ _ _ _ h k => plt_anti k h) h2 h4 ((h1.trans h).trans h3.symm)
/-- a fault, as a pair -/
def unp (v : V) : Pr := match v with
  | .tup [.str s, .int k] => (s, k)
  | _ => (S "", 0)
def IsF (v : V) : Prop := ∃ s k, v = flt s k
theorem unp_map {l : List V} (h : ∀ v ∈ l, IsF v) : (l.map unp).map pv = l := by
  rw [List.map_map]
  refine (List.map_congr_left fun v hv => ?_).trans (List.map_id l)
  obtain ⟨s, k, rfl⟩ := h v hv
  rfl
theorem fm_isF {α : Type} {f : α → Option V} {l : List α} (h : ∀ x v, f x = some v → IsF v) : ∀ v ∈ l.filterMap f, IsF v := fun v hv => by
  obtain ⟨x, _, e⟩ := List.mem_filterMap.mp hv
  exact h x v e
end Mine
open PySem PySem.W PyProof.Rows PySem.Calls
set_option Elab.async false
set_option maxRecDepth 4000
namespace Mine
theorem isF_bif {b : Bool} {x y : Option V} {v : V} (hx : x = some v → IsF v) (hy : y = some v → IsF v) (e : (bif b then x else y) = some v) : IsF v := by
  cases b with
  | true => exact hx e
  | false => exact hy e
theorem isF_some {s : Str} {k : Int} {v : V} (e : some (flt s k) = some v) : IsF v := ⟨s, k, (Option.some.inj e).symm⟩
theorem isF_none {v : V} (e : (none : Option V) = some v) : IsF v := nomatch e
theorem isF_cellF {g : Cell → Bool} {l : List Cell} : ∀ v ∈ cellF g l, IsF v := fm_isF fun x v e => by
  obtain ⟨s, _, rfl⟩ := Option.map_eq_some_iff.mp e
  exact ⟨s, x.o, rfl⟩
theorem isF_dq {g : Cell → Bool} {l : List Cell} {j : Nat} {v : V} (e : dq g l j = some v) : IsF v := by
  obtain ⟨x, _, e⟩ := Option.bind_eq_some_iff.mp e
  obtain ⟨nm, _, e⟩ := Option.bind_eq_some_iff.mp e
  split at e
  · exact isF_some e
  · cases e
theorem isF_dupN {g : Cell → Bool} {l : List Cell} {k : Nat} : ∀ v ∈ dupN g l k, IsF v := fm_isF (f := dq g l) fun _ _ e => isF_dq e
theorem isF_portN {l : List (Str × List Int)} {k : Nat} : ∀ v ∈ portN l k, IsF v := fm_isF fun x v e => by
  obtain ⟨x, _, e⟩ := Option.bind_eq_some_iff.mp e
  split at e
  · exact isF_some e
  · cases e
theorem isF_tf {t : Net} {l : List Int} : ∀ v ∈ l.filterMap (tf t), IsF v := fm_isF fun _ _ e => isF_bif isF_some (isF_bif isF_some isF_none) e
theorem isF_uf {t : Net} {l : List Int} : ∀ v ∈ l.filterMap (uf t), IsF v := fm_isF fun _ _ e => isF_bif isF_none isF_some e
theorem isF_lawN {t : Net} {k : Nat} : ∀ v ∈ lawN t k, IsF v := fm_isF fun _ _ e => isF_bif isF_some (isF_bif isF_some (isF_bif isF_some isF_none)) e
theorem isF_loop {l : List Cell} {R : List Nat} {k : Nat} : ∀ v ∈ loopF l R k, IsF v := fm_isF fun x v e => by
  obtain ⟨x, _, e⟩ := Option.bind_eq_some_iff.mp e
  exact isF_bif isF_some isF_none e
theorem isF_stuck {l : List Cell} {K : List Int} : ∀ v ∈ stuckF l K, IsF v := fm_isF fun _ _ e => isF_bif isF_none isF_some e
theorem isF_lawC {g : Cell → Bool} {l : List Cell} : ∀ v ∈ lawC g l l.length, IsF v := fun v hv => by
  have := lawC_perm.mem_iff.mp hv
  rcases List.mem_append.mp this with h | h
  · exact isF_cellF v h
  · exact isF_dupN v h
/-- what the law's own look finds, before it looks for loops -/
def due1 (g : Cell → Bool) (t : Net) : List V := (lawC g t.cells t.cells.length ++ portN (t.ins ++ t.outs) (t.ins ++ t.outs).length) ++ lawN t (t.cnt + 6).toNat
theorem isF_due {g : Cell → Bool} {t : Net} : ∀ v ∈ due1 g t, IsF v := fun v hv => by
  unfold due1 at hv
  rcases List.mem_append.mp hv with h | h
  · rcases List.mem_append.mp h with h | h
    · exact isF_lawC v h
    · exact isF_portN v h
  · exact isF_lawN v h
/-- the sizes, the nets' bounds -/
structure Sz3 (t : Net) : Prop extends Sz2 t where
  sz : Sz t
  sum : 2 * t.cells.length + (t.ins ++ t.outs).length + (t.cnt + 6).toNat < 64
  bnd : ∀ x, x ∈ Mine.made t ∨ x ∈ usedL t → -2 ≤ x ∧ x < -2 + ((t.cnt + 6).toNat : Int)
theorem due_len {g : Cell → Bool} {t : Net} (z : Sz3 t) : (due1 g t).length < 64 := by
  have h1 := lawC_len (g := g) (l := t.cells) (k := t.cells.length)
  have h2 : (portN (t.ins ++ t.outs) (t.ins ++ t.outs).length).length ≤ (t.ins ++ t.outs).length := by
    unfold portN
    have := List.length_filterMap_le (fun j => ((t.ins ++ t.outs)[j]?).bind fun p => if p.1 ∈ ((t.ins ++ t.outs).take j).map (·.1) then some (flt (S "duplicate_port") (hd1 p.2)) else none) (List.range (t.ins ++ t.outs).length)
    rwa [List.length_range] at this
  have h3 : (lawN t (t.cnt + 6).toNat).length ≤ (t.cnt + 6).toNat := by
    unfold lawN
    have := List.length_filterMap_le (fun i : Nat => nf t (-2 + (i : Int))) (List.range (t.cnt + 6).toNat)
    rwa [List.length_range] at this
  have := z.sum
  unfold due1
  simp only [List.length_append] at *
  omega
/-- what check_netlist gives back -/
def ChkP (g : Cell → Bool) (t : Net) (l : List Pr) : Prop := (due1 g t ≠ [] ∧ l.Perm ((due1 g t).map unp)) ∨ (due1 g t = [] ∧ ∃ R, OrdR t.cells R ∧ l.Perm ((loopF t.cells R t.cells.length).map unp))
section
variable {cx : Cx} {n : Nat} {sc : Scope} {loc : Loc} {σ : List O} {P : V → List O → Prop} {Q : Fl → Loc → List O → Prop} {pos : Pos} {N : Nat} {t : Net}
theorem sChk (c : TopOk cx) (hN : NetAt σ N t) {g : Cell → Bool} (hg : ∀ x ∈ t.cells, WfC g x) (z : Sz3 t)
    (p : ∀ r σ' l, Keep σ σ' → σ'[r]? = some (.list (l.map pv)) → l.Pairwise (fun a b => plt b a = false) → ChkP g t l → P (.ref r) σ') : TF cx (n + 3) (fn 19) [.ref N] σ P := by
  have c' := c.toCxOk
  have zs := z.sum
  simp only [List.length_append] at zs
  refine ⟨[S "netlist"], bd1, rfl, TSs_cons (TS_assign (TE_bin (TE_bin (TE_callD ⟨c.fn' 15, rfl⟩ (TEs_cons (TE_var rfl (TEs_nil (sCellF c hN hg (by omega) fun r1 σ1 k1 f1 => ?_)))))))) ⟩
  refine TE_callD ⟨c.fn' 16, rfl⟩ (TEs_cons (TE_var rfl (TEs_nil (sNetF c (hN.keep k1) z.toSz2 fun r2 σ2 ns us k2 n1 n2 u1 u2 f2 => ?_))))
  have lp := lawN_perm n1 n2 u1 u2 z.bnd
  have ap := all_perm (g := g) lp (pn := portN (t.ins ++ t.outs) (t.ins ++ t.outs).length)
  have al := ap.length_eq
  have dl := due_len (g := g) z
  unfold due1 at dl
  rw [← al] at dl
  have s1 : 64 ≤ sizeLine := by decide
  simp only [List.length_append] at dl
  refine TO_addL (k2 _ _ f1) f2 (TE_callD ⟨c.fn' 17, rfl⟩ (TEs_cons (TE_var rfl (TEs_nil (sNameF c (hN.keep (k1.trans (k2.trans (Keep.app _ _)))) hg (by omega) (by simp only [List.length_append]; omega) fun r3 σ3 k3 f3 => ?_))))) (by simp only [List.length_append]; omega)
  have kA := k3 _ _ (getA (σ := σ2) (o := .list (cellF g t.cells ++ (ns.filterMap (tf t) ++ us.filterMap (uf t)))))
  refine TO_addL kA f3 (nxt ?_) (by simp only [List.length_append]; omega)
  have kk : Keep σ (σ3 ++ [O.list ((cellF g t.cells ++ (ns.filterMap (tf t) ++ us.filterMap (uf t))) ++ (portN (t.ins ++ t.outs) (t.ins ++ t.outs).length ++ dupN g t.cells t.cells.length))]) := k1.trans (k2.trans ((Keep.app _ _).trans (k3.trans (Keep.app _ _))))
  have fA := getA (σ := σ3) (o := .list ((cellF g t.cells ++ (ns.filterMap (tf t) ++ us.filterMap (uf t))) ++ (portN (t.ins ++ t.outs) (t.ins ++ t.outs).length ++ dupN g t.cells t.cells.length)))
  have isA : ∀ v ∈ (cellF g t.cells ++ (ns.filterMap (tf t) ++ us.filterMap (uf t))) ++ (portN (t.ins ++ t.outs) (t.ins ++ t.outs).length ++ dupN g t.cells t.cells.length), IsF v := fun v hv => isF_due v (ap.mem_iff.mp hv)
  have lA : ((cellF g t.cells ++ (ns.filterMap (tf t) ++ us.filterMap (uf t))) ++ (portN (t.ins ++ t.outs) (t.ins ++ t.outs).length ++ dupN g t.cells t.cells.length)).length < 64 := by simp only [List.length_append]; omega
  generalize (cellF g t.cells ++ (ns.filterMap (tf t) ++ us.filterMap (uf t))) ++ (portN (t.ins ++ t.outs) (t.ins ++ t.outs).length ++ dupN g t.cells t.cells.length) = A at kk fA isA lA ap ⊢
  have ap : A.Perm (due1 g t) := ap
  refine TS_if (TB_cmp (TE_callB c.len (TEs_cons (TE_var rfl (TEs_nil (TO_lenL fA (TE_int (TO_intB (fun k => PyProof.Rows.eq_int k) ⟨_, rfl, br (fun q => ?_) fun q => ?_⟩))))))))
  · have hA : A = [] := by
      cases A with
      | nil => rfl
      | cons a A =>
        have := beq_iff_eq.mp q
        simp only [List.length_cons] at this; omega
    have hd : due1 g t = [] := by rw [hA] at ap; exact (List.Perm.nil_eq ap).symm
    have hd' := hd
    unfold due1 at hd'
    obtain ⟨nd, tk⟩ := lawN_nil (List.append_eq_nil_iff.mp hd').2 z.bnd
    refine TSs_cons (TS_assign (TE_callD ⟨c.fn' 18, rfl⟩ (TEs_cons (TE_var rfl (TEs_nil (sLoop c (hN.keep kk) z.toSz2 nd fun r4 σ4 R k4 o4 f4 => TSs_nil (nxt (TS_ret (TE_callB c.srt (TEs_cons (TE_var rfl (TEs_nil (TO_sortT (l := (loopF t.cells R t.cells.length).map unp) (by rw [unp_map isF_loop]; exact f4) ?_ fun l' p1 p2 => p _ _ l' (kk.trans (k4.trans (Keep.app _ _))) getA p2 (.inr ⟨hd, R, o4, p1⟩))))))))))))))
    rw [List.length_map]
    unfold loopF
    have := List.length_filterMap_le (lf t.cells R) (List.range t.cells.length)
    rw [List.length_range] at this
    omega
  · have hA : due1 g t ≠ [] := fun h => by
      rw [h] at ap
      have := List.Perm.eq_nil ap
      subst this
      cases q
    exact TSs_nil (nxt (TS_ret (TE_callB c.srt (TEs_cons (TE_var rfl (TEs_nil (TO_sortT (l := A.map unp) (by rw [unp_map isA]; exact fA) (by rw [List.length_map]; exact lA) fun l' p1 p2 => p _ _ l' (kk.trans (Keep.app _ _)) getA p2 (.inl ⟨hA, p1.trans (ap.map unp)⟩))))))))
end
end Mine
open PySem PySem.W PyProof.Rows PySem.Calls
set_option Elab.async false
set_option maxRecDepth 4000
namespace Mine
theorem eqv_all {k : Nat} (ih : ∀ v, PyData.eqv (py k v) (py k v) = true) : ∀ l : List V, PyData.eqvAll (l.map (py k)) (l.map (py k)) = true
  | [] => rfl
  | v :: l => by
    rw [List.map_cons]
    simp only [PyData.eqvAll, ih v, eqv_all ih l, Bool.and_self]
theorem eqv_py : ∀ (k : Nat) (v : V), PyData.eqv (py k v) (py k v) = true
  | 0, v => by cases v <;> simp [py, PyData.eqv]
  | k + 1, v => by
    cases v with
    | tup l => simp only [py, PyData.eqv]; exact eqv_all (eqv_py k) l
    | none => simp [py, PyData.eqv]
    | bool b => simp [py, PyData.eqv]
    | int b => simp [py, PyData.eqv]
    | str b => simp [py, PyData.eqv]
    | rng a b => simp [py, PyData.eqv]
    | inp a => simp [py, PyData.eqv]
    | ref a => simp [py, PyData.eqv]
theorem eqv_pys (l : List V) : PyData.eqvAll (pys l) (pys l) = true := eqv_all (eqv_py 4) l
theorem oks_pv (l : List Pr) : oks (l.map pv) = true := List.all_eq_true.mpr fun x hx => by obtain ⟨a, _, rfl⟩ := List.mem_map.mp hx; rfl
theorem oks_isF {l : List V} (h : ∀ v ∈ l, IsF v) : oks l = true := by rw [← unp_map h]; exact oks_pv _
theorem ok_int {k : Nat} (l : List Int) : (l.map V.int).all (okV k) = true := List.all_eq_true.mpr fun x hx => by
  obtain ⟨a, _, rfl⟩ := List.mem_map.mp hx
  cases k <;> rfl
theorem oks_cells {l : List Cell} (h : ∀ x ∈ l, okV 3 x.p = true) : oks (l.map Cell.v) = true := List.all_eq_true.mpr fun v hv => by
  obtain ⟨x, hx, rfl⟩ := List.mem_map.mp hv
  show ([V.str x.k, .int x.o, .tup (x.i.map V.int), x.p]).all (okV 3) = true
  simp only [List.all_cons, List.all_nil, Bool.and_true, h x hx]
  exact ok_int (k := 2) x.i
/-- the law's own list -/
def dueV (g : Cell → Bool) (t : Net) (K : List Int) : List V := if due1 g t = [] then stuckF t.cells K else due1 g t
theorem chk_due {g : Cell → Bool} {t : Net} (z : Sz3 t) {K : List Int} {l m d : List Pr} (hd : due1 g t = [] → (∀ x, x ∈ K ↔ Rch t x) ∧ d = (stuckF t.cells K).map unp) (hn : due1 g t ≠ [] → d = (due1 g t).map unp)
    (h : ChkP g t l) (s : l.Pairwise fun a b => plt b a = false) (h' : m.Perm d) (s' : m.Pairwise fun a b => plt b a = false) : l = m := by
  rcases h with ⟨h1, h2⟩ | ⟨h1, R, o, h2⟩
  · rw [hn h1] at h'
    exact plt_sorted (.refl _) h2 s h' s'
  · obtain ⟨k, e⟩ := hd h1
    have h3 := h1
    unfold due1 at h3
    obtain ⟨nd, tk⟩ := lawN_nil (List.append_eq_nil_iff.mp h3).2 z.bnd
    rw [loop_stuck nd tk o k] at h2
    rw [e] at h'
    exact plt_sorted (.refl _) h2 s h' s'
section
variable {cx : Cx} {n : Nat} {sc : Scope} {loc : Loc} {σ : List O} {P : V → List O → Prop} {Q : Fl → Loc → List O → Prop} {pos : Pos} {N : Nat} {t : Net}
theorem sTail (c : TopOk cx) (hN : NetAt σ N t) {g : Cell → Bool} (hg : ∀ x ∈ t.cells, WfK g x) (hok : ∀ x ∈ t.cells, okV 3 x.p = true) (z : Sz3 t) {v : V} : TSs cx (n + 4) (fn 31).scope [(S "netlist", .ref N), (S "script", v)] σ (fn 31).body.tail (RetP fun v _ => v = .bool true) := by
  have c' := c.toCxOk
  have zs := z.sum
  simp only [List.length_append] at zs
  obtain ⟨d, nm0, a, b, e, pi, po, h1, h2, h3, h4, h5, h6⟩ := hN.ex
  have hg' : ∀ x ∈ t.cells, WfC g x := fun x hx => (hg x hx).toWfC
  refine TSs_cons (TS_assign (TE_callT c.lst (TEs_cons (at_ c' (loc := [(S "netlist", .ref N), (S "script", v)]) rfl h1 rfl (TEs_nil (TO_listL h6 (nxt ?_)))))))
  have k0 := Keep.app σ [O.list (t.cells.map Cell.v)]
  have e0 := getA (σ := σ) (o := O.list (t.cells.map Cell.v))
  refine TS_assign (TE_bin (TE_callD ⟨c.fn' 28, rfl⟩ (TEs_cons (TE_var rfl (TEs_nil (sLCells1 c (hN.keep k0) hg (by omega) (by simp only [List.length_append]; omega) fun r1 σ1 k1 f1 => ?_))))))
  refine TE_callD ⟨c.fn' 29, rfl⟩ (TEs_cons (TE_var rfl (TEs_nil (sLNets c (hN.keep (k0.trans k1)) z.sz fun r2 σ2 k2 f2 => ?_))))
  have dl := due_len (g := g) z
  unfold due1 at dl
  have s1 : 64 ≤ sizeLine := by decide
  refine TO_addL (k2 _ _ f1) f2 (nxt ?_) (by rw [List.length_append] at dl; omega)
  have dl := due_len (g := g) z
  have kk : Keep (σ ++ [O.list (t.cells.map Cell.v)]) (σ2 ++ [O.list (due1 g t)]) := k1.trans (k2.trans (Keep.app _ _))
  have fD : (σ2 ++ [O.list (due1 g t)])[σ2.length]? = some (.list (due1 g t)) := getA
  show TS cx (n + 4) (fn 31).scope _ (σ2 ++ [O.list (due1 g t)]) _ _
  have okD := oks_isF (isF_due (g := g) (t := t))
  generalize σ2 ++ [O.list (due1 g t)] = σ3 at kk fD
  generalize σ2.length = D at fD ⊢
  -- the end, with the list at r
  have fin : ∀ (r : Nat) (τ : List O) (X : List V) (K : List Int) (l : Loc), Keep (σ ++ [O.list (t.cells.map Cell.v)]) τ → τ[r]? = some (.list X) → (∀ v ∈ X, IsF v) → X.length < 64 → (due1 g t = [] → (∀ x, x ∈ K ↔ Rch t x) ∧ X = stuckF t.cells K) → (due1 g t ≠ [] → X = due1 g t) →
      Sub [(S "due", .ref r), (S "kept", .ref σ.length), (S "netlist", .ref N)] l → TSs cx (n + 4) (fn 31).scope l τ (fn 31).body.tail.tail.tail.tail (RetP fun v _ => v = .bool true) := fun r τ X K l k f iF zl hd hn sb => by
    have lk1 : lk l (S "due") = some (.ref r) := sb _ _ rfl
    have lk2 : lk l (S "kept") = some (.ref σ.length) := sb _ _ rfl
    have lk3 : lk l (S "netlist") = some (.ref N) := sb _ _ rfl
    refine TSs_cons (TS_ret (TE_op (TBo_and (TE_cmp (TE_callD ⟨c.fn' 19, rfl⟩ (TEs_cons (TE_var lk3 (TEs_nil (sChk c (hN.keep (k0.trans k)) hg' z fun r3 σ4 l3 k3 f3 p3 c3 => ?_)))))))))
    refine TE_callB c.srt (TEs_cons (TE_var lk1 (TEs_nil (TO_sortT (l := X.map unp) (by rw [unp_map iF]; exact k3 _ _ f) (by rw [List.length_map]; exact zl) fun m p1 p2 => ?_))))
    have e := chk_due (m := m) z (K := K) (d := X.map unp) (fun h => ⟨(hd h).1, by rw [(hd h).2]⟩) (fun h => by rw [hn h]) c3 p3 p1 p2
    subst e
    refine TO_eqL (getB f3) getA (oks_pv _) (oks_pv _) ⟨_, rfl, ?_⟩
    rw [eqv_pys]
    refine br (b := true) (fun _ => TBo_one ?_) fun q => nomatch q
    have k4 : Keep σ (σ4 ++ [O.list (l3.map pv)]) := k0.trans (k.trans (k3.trans (Keep.app _ _)))
    refine TE_cmp (at_ c' lk3 (h1.keep k4) rfl (TE_var lk2 (TO_eqL (k4 _ _ h6) ((k.trans (k3.trans (Keep.app _ _))) _ _ e0) (oks_cells hok) (oks_cells hok) ?_)))
    rw [eqv_pys]
    rfl
  refine TS_if (TB_cmp (TE_var rfl (TE_list (TEs_nil ⟨Nat.zero_le _, TO_eqL (getB fD) getA okD rfl ⟨_, rfl, br (fun q => ?_) fun q => ?_⟩⟩))))
  · have hd : due1 g t = [] := by
      cases w : due1 g t with
      | nil => rfl
      | cons a A => rw [w] at q; cases q
    have kk' := kk.trans (Keep.app σ3 [O.list []])
    refine TSs_cons (TS_assign (TE_callD ⟨c.fn' 30, rfl⟩ (TEs_cons (TE_var rfl (TEs_nil (sStuck c (hN.keep (k0.trans kk')) z.toSz2 fun r4 σ4 K k4 m4 f4 => TSs_nil (fin r4 σ4 _ K _ (kk'.trans k4) f4 isF_stuck ?_ (fun _ => ⟨m4, rfl⟩) (fun h => absurd hd h) (.cons rfl (.cons rfl (.cons rfl .nil))))))))))
    unfold stuckF
    exact Nat.lt_of_le_of_lt (List.length_filterMap_le _ _) (by omega)
  · have hd : due1 g t ≠ [] := fun h => by rw [h] at q; cases q
    exact TSs_nil (fin D _ _ [] _ (kk.trans (Keep.app _ _)) (getB fD) isF_due dl (fun h => absurd h hd) (fun _ => rfl) (.cons rfl (.cons rfl (.cons rfl .nil))))
end
end Mine
open PySem PySem.W PyProof.Rows PySem.Calls
set_option Elab.async false
set_option maxRecDepth 4000
namespace Mine
/-! the drawing: what may come -/
def StkAt (σ : List O) (s : Nat) : Prop := ∃ ns : List Int, σ[s]? = some (.list (ns.map V.int))
/-- all but the one object stands -/
def KeepX (s : Nat) (σ τ : List O) : Prop := ∀ (j : Nat) (o : O), j ≠ s → σ[j]? = some o → τ[j]? = some o
theorem KeepX.refl {s : Nat} {σ : List O} : KeepX s σ σ := fun _ _ _ e => e
theorem KeepX.trans {s : Nat} {σ τ υ : List O} (a : KeepX s σ τ) (b : KeepX s τ υ) : KeepX s σ υ := fun j o n e => b j o n (a j o n e)
theorem KeepX.of {s : Nat} {σ τ : List O} (k : Keep σ τ) : KeepX s σ τ := fun j o _ e => k j o e
theorem KeepX.set {s : Nat} {σ : List O} {o : O} : KeepX s σ (σ.set s o) := fun j o' n e => by rw [List.getElem?_set_ne (Ne.symm n)]; exact e
theorem map_snoc {ns : List Int} (h : ns ≠ []) : ∃ (ms : List Int) (k : Int), ns.map V.int = ms.map V.int ++ [V.int k] := by
  refine ⟨ns.dropLast, ns.getLast h, ?_⟩
  conv => lhs; rw [← List.dropLast_concat_getLast h, List.map_append]
  rfl
section
variable {cx : Cx} {n : Nat} {sc : Scope} {loc : Loc} {σ : List O} {P : V → List O → Prop} {Q : Fl → Loc → List O → Prop} {pos : Pos} {N : Nat} {t : Net}
theorem TO_mod {a b : Int} (hb : b ≠ 0) (h : P (.int (a.fmod b)) σ) : TO cx n sc loc σ (op2 (binaryOp .Mod)) [.int a, .int b] P :=
  TO2 fun _ _ _ _ _ _ _ _ S rx ry => by obtain ⟨_, rfl⟩ := rx.intE; obtain ⟨_, rfl⟩ := ry.intE; exact PyProof.Rows.mod_int' hb (stay S h (.int _ _))
theorem sNext (c : TopOk cx) {s : Nat} {m : Int} (hs : StkAt σ s) (hm : 0 < m) (p : ∀ x σ', 0 ≤ x → x < m → KeepX s σ σ' → StkAt σ' s → P (.int x) σ') : TF cx n (fn 22) [.ref s, .int m] σ P := by
  have c' := c.toCxOk
  obtain ⟨ns, hs⟩ := hs
  have k0 := Keep.app σ [O.list []]
  refine ⟨[S "stock", S "many"], bd2, rfl, TSs_cons (TS_if (TB_cmp (TE_var rfl (TE_list (TEs_nil ⟨Nat.zero_le _, TO_eqL (getB hs) getA (oks_ints _) rfl ⟨_, rfl, br (fun q => ?_) fun q => ?_⟩⟩)))))⟩
  · exact TSs_cons (rtn c' (v := .int 0) rfl (p 0 _ (Int.le_refl _) hm (.of k0) ⟨ns, getB hs⟩))
  · have hn : ns ≠ [] := fun z => by subst z; cases q
    obtain ⟨ms, k, e⟩ := map_snoc hn
    rw [e] at hs
    refine TSs_nil (nxt (TS_ret (TE_bin (TE_meth0 PySem.F.plainAttrs_list PySem.F.slot_list_pop PySem.F.type_list_pop (TE_var rfl ⟨ty_list (getB hs), TO_pop (getB hs) (TE_var rfl (TO_mod (by omega) ?_))⟩)))))
    exact p _ _ (Int.fmod_nonneg_of_pos _ hm) (Int.fmod_lt_of_pos _ hm) ((KeepX.of k0).trans .set) ⟨ms, getS (getB hs)⟩
theorem sStock (c : TopOk cx) {ns : List Int} (hz : ns.length ≤ 1000) (p : ∀ σ' r, r < σ'.length → StkAt σ' r → P (.ref r) σ') : TF cx n (fn 21) [.inp ns] σ P := by
  have c' := c.toCxOk
  refine ⟨[S "script"], bd1, rfl, TSs_cons (new0 (nxt ?_))⟩
  have k0 := Keep.app σ [O.list []]
  refine TS_forE (fun _ : Unit => [(S "stock", .ref σ.length), (S "script", .inp ns)]) (TE_upto (TE_var rfl ⟨_, .inl ⟨ns, rfl, rfl⟩, by rw [List.length_map]; exact Nat.le_trans hz (by decide), ?_⟩))
  have hl : (ns.map V.int).take (40 : Int).toNat = (ns.take 40).map V.int := by rw [List.map_take]; rfl
  rw [hl]
  have e1 : (σ ++ [O.list []]).length = σ.length + 1 := List.length_append
  rw [e1]
  have f1 : ((σ ++ [O.list []]) ++ [O.list ((ns.take 40).map V.int)])[σ.length + 1]? = some (.list ((ns.take 40).map V.int)) := by rw [← e1]; exact getA
  refine ⟨(ns.take 40).map V.int, _, _, fun i _ τ => (∃ ms : List Int, τ[σ.length]? = some (.list (ms.map V.int)) ∧ ms.length ≤ 16 * i) ∧ τ[σ.length + 1]? = some (.list ((ns.take 40).map V.int)), src_list (j := σ.length + 1), ⟨(), Sub.refl _, ⟨[], getB getA, Nat.le_refl _⟩, f1⟩, fun _ _ _ h => h.2, fun i v _ τ hv h => ?_, fun _ τ h => ?_⟩
  · have hi : i < 40 := by
      have := (List.getElem?_eq_some_iff.mp hv).1
      rw [List.length_map, List.length_take] at this; omega
    rw [List.getElem?_map] at hv
    obtain ⟨x, hx, rfl⟩ := Option.map_eq_some_iff.mp hv
    obtain ⟨⟨ms, w1, w2⟩, w3⟩ := h
    -- the rest of the number
    refine TA_name (TSs_cons (TS.mono (P := fun fl l τ' => fl = .next ∧ τ' = τ ∧ ∃ y : Int, l = (S "rest", .int y) :: (S "cell", .int x) :: [(S "stock", .ref σ.length), (S "script", .inp ns)]) (TS_assign (TE_ite (tx c' (b := decide (x ≥ 0)) rfl (br (fun q => ?_) fun q => ?_)))) fun fl l τ' q => ?_))
    · exact ex c' (v := .int x) rfl ⟨rfl, rfl, x, rfl⟩
    · refine TE_bin (TE_int (TE_bin (TE_int (ex c' (v := .int x) rfl (TO_mul ?_ (TO_intI (fun k => PyProof.Rows.sub_int' k) ⟨rfl, rfl, _, rfl⟩))))))
      exact .of_left (by decide)
    obtain ⟨rfl, rfl, y, rfl⟩ := q
    have zl : ∀ {k : Nat}, k ≤ 16 * i + 16 → k < sizeLine := fun h => by unfold sizeLine; omega
    refine nxt (TS_for (src_rng (a := 0) (b := 16) (by decide) (by decide) (by decide) (by decide)) (fun y : Int => [(S "rest", .int y), (S "stock", .ref σ.length), (S "script", .inp ns)])
      (fun j y τ => (∃ ms : List Int, τ[σ.length]? = some (.list (ms.map V.int)) ∧ ms.length ≤ 16 * i + j) ∧ τ[σ.length + 1]? = some (.list ((ns.take 40).map V.int)))
      (TE_callT c.rng (TEs_cons (TE_int (TEs_nil (TO_range1 ⟨rfl, y, .cons rfl (.cons rfl (.cons rfl .nil)), ⟨ms, w1, w2⟩, w3⟩))))) (fun _ _ _ _ => trivial) (fun j v y τ hv h => ?_) fun y τ h => ?_)
    · have hj : j < 16 := by
        have := (List.getElem?_eq_some_iff.mp hv).1
        rw [upto_len] at this; omega
      obtain ⟨⟨ms, w1, w2⟩, w3⟩ := h
      have hz : (ms.map V.int).length < sizeLine := zl (by rw [List.length_map]; omega)
      have fin : (∃ ms' : List Int, (τ.set σ.length (.list (ms.map V.int ++ [V.int (y.fmod 307)])))[σ.length]? = some (.list (ms'.map V.int)) ∧ ms'.length ≤ 16 * i + (j + 1)) ∧ (τ.set σ.length (.list (ms.map V.int ++ [V.int (y.fmod 307)])))[σ.length + 1]? = some (.list ((ns.take 40).map V.int)) :=
        ⟨⟨ms ++ [y.fmod 307], by rw [List.map_append]; exact getS w1, by rw [List.length_append]; simp only [List.length_cons, List.length_nil]; omega⟩, getN (by omega) w3⟩
      refine TA_name (TSs_cons (TS_expr (TE_meth PySem.F.plainAttrs_list PySem.F.slot_list_append PySem.F.type_list_append (TE_var rfl ⟨ty_list w1, TEs_cons (TE_bin (TE_var (v := .int y) rfl (TE_int (TO_mod (by decide) (TEs_nil (TO_append w1 (nxt ?_) hz))))))⟩))))
      refine TS_assign (TE_bin (TE_var (v := .int y) rfl (TE_int (TO_div (by decide) (by decide) (nxt (iff' c' (b := (y.fdiv 307) == 0) rfl (fun q => ?_) fun q => ?_))))))
      · exact TSs_cons (TS_brk (TSs_nil ⟨(), .cons rfl (.cons rfl .nil), by obtain ⟨⟨ms', a, b⟩, d⟩ := fin; exact ⟨ms', a, by omega⟩, fin.2⟩))
      · exact TSs_nil (TSs_nil ⟨y.fdiv 307, .cons rfl (.cons rfl (.cons rfl .nil)), fin⟩)
    · rw [upto_len] at h
      obtain ⟨⟨ms, w1, w2⟩, w3⟩ := h
      exact TSs_nil ⟨(), .cons rfl (.cons rfl .nil), ⟨ms, w1, by omega⟩, w3⟩
  · obtain ⟨⟨ms, w1, w2⟩, w3⟩ := h
    rw [List.length_map, List.length_take] at w2
    have hm : ms.length ≤ sizeLine := by unfold sizeLine; omega
    refine nxt (TS_assign (TE_upto (TE_var rfl ⟨_, .inr ⟨_, rfl, w1⟩, by rw [List.length_map]; exact hm, nxt ?_⟩)))
    refine TS_expr (TE_meth0 PySem.F.plainAttrs_list PySem.F.slot_list_reverse PySem.F.type_list_reverse (TE_var rfl ⟨ty_list getA, TO_reverse getA (nxt ?_)⟩))
    refine rtn c' (v := .ref τ.length) rfl (p _ _ ?_ ⟨((ms.take 90)).reverse, ?_⟩)
    · rw [List.length_set, List.length_append]; simp
    · rw [getS getA, List.map_reverse, List.map_take]; rfl
end
end Mine
open PySem PySem.W PyProof.Rows PySem.Calls
set_option Elab.async false
set_option maxRecDepth 4000
namespace Mine
section
variable {cx : Cx} {n : Nat} {sc : Scope} {loc : Loc} {σ : List O} {P : V → List O → Prop} {Q : Fl → Loc → List O → Prop} {pos : Pos} {N : Nat} {t : Net}
/-- _law_next(stock, ..) -/
theorem nxE (c : TopOk cx) {s : Nat} {e : Expr} {p1 p2 p4 : Pos} (hx : lk loc (S "stock") = some (.ref s)) (he : TE cx (n + 1) sc loc σ e fun v σ₁ => ∃ m : Int, 0 < m ∧ v = .int m ∧ StkAt σ₁ s ∧ ∀ x σ', 0 ≤ x → x < m → KeepX s σ₁ σ' → StkAt σ' s → P (.int x) σ')
    (hk : sc.names.lookup (S "_law_next") = some .globalImplicit := by rfl)
    (ha : ∀ env, starEach [e] env = (false, eval e env) :: starEach [] env := by intro; rfl) : TE cx (n + 1) sc loc σ (.Call (.Name (S "_law_next") p1) [.Name (S "stock") p2, e] [] p4) P :=
  TE_callD ⟨c.fn' 22, rfl⟩ (TEs_cons (TE_var hx (TEs_cons (fun f env ρ s₀ ok eo St => goE (he f env ρ s₀ ok eo St) fun x s' v σ' ρ' q k S' r => by
    obtain ⟨m, hm, rfl, h1, h2⟩ := q
    exact ⟨_, _, _, TEs_nil (sNext c h1 hm h2), k, S', r⟩) ha)) (fun env => by show starEach (Expr.Name _ _ :: [e]) env = _; rfl)) hk rfl (fun env => ⟨_, _, (by show backTo p4 ((false, eval (.Name (S "stock") p2) env) :: starEach [e] env) = _; rw [ha]; rfl), rfl⟩)
theorem nxC (c : TopOk cx) {s : Nat} {m : Int} {q : Nat} {p1 p2 p3 p4 : Pos} (hx : lk loc (S "stock") = some (.ref s)) (hs : StkAt σ s) (p : ∀ x σ', 0 ≤ x → x < m → KeepX s σ σ' → StkAt σ' s → P (.int x) σ') (hm : 0 < m := by decide)
    (hk : sc.names.lookup (S "_law_next") = some .globalImplicit := by rfl) : TE cx (n + 1) sc loc σ (.Call (.Name (S "_law_next") p1) [.Name (S "stock") p2, .Constant (.int m) q p3] [] p4) P :=
  nxE c hx (TE_int ⟨m, hm, rfl, hs, p⟩) hk
theorem te_pow (c : CxOk cx) {x : Str} {w : Nat} {q1 q2 : Nat} {p1 p2 p3 p4 : Pos} (hx : lk loc x = some (ni w)) (hw : w ≤ 10) (p : P (.int (2 ^ (2 ^ w))) σ) (hn : nameOk x = true := by rfl) :
    TE cx n sc loc σ (.BinOp (.Constant (.int 2) q1 p1) .Pow (.BinOp (.Constant (.int 2) q2 p2) .Pow (.Name x p3) p4) pos) P := by
  obtain ⟨w1, w2, w3⟩ := pow_small hw
  rw [Int.one_mul] at w1 w2 w3
  refine TE_bin (TE_int (TE_bin (TE_int (TE_var hx (TO_pow (Int.natCast_nonneg _) ?_ (TO_pow ?_ ?_ ?_)) hn))))
  · exact Int.le_trans (Int.mul_le_mul_of_nonneg_left (Int.ofNat_le.mpr hw) (by decide)) (by decide)
  · exact w2
  · exact Int.le_trans (Int.mul_le_mul_of_nonneg_left w1 (by decide)) (by decide)
  · simp only [Int.toNat_natCast, w3]; exact p
theorem hits01 {x : Int} (h0 : 0 ≤ x) (h1 : x < 2) : hits [.int 0, .int 1] (.int x) = true := by
  have : x = 0 ∨ x = 1 := by omega
  rcases this with rfl | rfl <;> decide +kernel
theorem sParam (c : TopOk cx) {s : Nat} {k nm : Str} {w : Nat} (hk : k ∈ kinds) (hs : StkAt σ s) (hw : w ≤ 2) (p : ∀ v σ', okV 3 v = true → (∀ W, ∃ b, PmB W k v b) → KeepX s σ σ' → StkAt σ' s → P v σ') : TF cx (n + 1) (fn 24) [.ref s, .str k, .str nm, ni w] σ P := by
  have c' := c.toCxOk
  refine ⟨[S "stock", S "kind", S "name", S "wide"], bd4, rfl, TSs_cons (TS_assign (TE_cmp (nxC c rfl hs fun x σ1 _ _ k1 s1 => TE_int (TO_intB (fun k => PyProof.Rows.eq_int k) (nxt ?_)))))⟩
  generalize (x == 8) = b
  refine iff' c' (b := k == S "lut") rfl (fun q => ?_) fun q1 => ?_
  · obtain rfl := beq_iff_eq.mp q
    refine TSs_cons (TS_ret (TE_ite (tx c' (b := b) rfl (br (fun _ => ex c' (v := .none) rfl (p _ _ rfl (fun W => ⟨_, .lutN⟩) k1 s1)) fun _ => ?_))))
    have pp : (0 : Int) < 2 ^ (2 ^ w) := Int.pow_pos (by decide)
    refine nxE c rfl (TE_bin (te_pow c' rfl (Nat.le_trans hw (by decide)) (TE_ite (TB_cmp (nxC c rfl s1 fun y σ2 _ _ k2 s2 => TE_int (TO_intB (fun k => PyProof.Rows.eq_int k) ⟨_, rfl, br (fun _ => TE_int (TO_intI (fun k => PyProof.Rows.add_int k) ?_)) fun _ => TE_int (TO_intI (fun k => PyProof.Rows.add_int k) ?_)⟩))))))
    · exact ⟨_, by omega, rfl, s2, fun u σ3 _ _ k3 s3 => p _ _ rfl (fun W => ⟨_, .lutI _⟩) ((k1.trans k2).trans k3) s3⟩
    · exact ⟨_, by omega, rfl, s2, fun u σ3 _ _ k3 s3 => p _ _ rfl (fun W => ⟨_, .lutI _⟩) ((k1.trans k2).trans k3) s3⟩
  refine TSs_nil (nxt (iff' c' (b := k == S "cell") rfl (fun q => ?_) fun q2 => ?_))
  · obtain rfl := beq_iff_eq.mp q
    refine TSs_cons (TS_ret (TE_ite (tx c' (b := b) rfl (br (fun _ => ex c' (v := .tup [.str (S "C")]) rfl (p _ _ rfl (fun W => ⟨_, .cellN _⟩) k1 s1)) fun _ => ?_))))
    refine TE_tup (TEs_cons (TE_str (TEs_cons (nxE c rfl (te_pow c' rfl (Nat.le_trans hw (by decide)) ⟨_, Int.pow_pos (by decide), rfl, s1, fun y σ2 _ _ k2 s2 => TEs_nil ⟨(by decide : 2 ≤ sizeLine), p _ _ rfl (fun W => ⟨_, .cellT _ _⟩) (k1.trans k2) s2⟩⟩)))))
  refine TSs_nil (nxt (iff' c' (b := k == S "flop") rfl (fun q => ?_) fun q3 => ?_))
  · obtain rfl := beq_iff_eq.mp q
    refine TSs_cons (TS_ret (TE_tup (TEs_cons (nxC c rfl s1 fun y σ2 y0 y1 k2 s2 => TEs_cons (TE_var rfl (TEs_cons (TE_ite (tx c' (b := b) rfl (br (fun _ => TE_int (TEs_nil ⟨(by decide : 3 ≤ sizeLine), ?_⟩)) fun _ => nxC c rfl s2 fun u σ3 u0 u1 k3 s3 => TEs_nil ⟨(by decide : 3 ≤ sizeLine), ?_⟩)))))))))
    · exact p _ _ rfl (fun W => ⟨_, .flop _ _ _ (hits01 y0 y1) (by decide +kernel)⟩) (k1.trans k2) s2
    · exact p _ _ rfl (fun W => ⟨_, .flop _ _ _ (hits01 y0 y1) (by rw [hits01 u0 u1, decide_eq_true u1])⟩) ((k1.trans k2).trans k3) s3
  refine TSs_nil (nxt (iff' c' (b := k == S "latch") rfl (fun q => ?_) fun q4 => ?_))
  · obtain rfl := beq_iff_eq.mp q
    refine TSs_cons (TS_ret (TE_ite (tx c' (b := b) rfl (br (fun _ => ex c' (v := .tup [.str nm, .int 1, .int 0]) rfl (p _ _ rfl (fun W => ⟨_, .latB _⟩) k1 s1)) fun _ => ?_))))
    exact TE_tup (TEs_cons (TE_var rfl (TEs_cons (nxC c rfl s1 fun y σ2 y0 y1 k2 s2 => TEs_nil ⟨(by decide : 2 ≤ sizeLine), p _ _ rfl (fun W => ⟨_, .latG _ _ (hits01 y0 y1)⟩) (k1.trans k2) s2⟩))))
  refine TSs_nil (nxt (TS_ret (TE_ite (tx c' (b := b) rfl (br (fun _ => ex c' (v := .int 3) rfl (p _ _ rfl (fun W => ⟨_, .nonI _ q1 q2 q3 q4⟩) k1 s1)) fun _ => ex c' (v := .none) rfl (p _ _ rfl (fun W => ⟨_, .nonN _ q1 q2 q3 q4 ?_⟩) k1 s1))))))
  have := hits_strs (l := [S "cell", S "flop", S "latch"]) (x := k)
  refine Eq.trans this (decide_eq_false fun h => ?_)
  simp only [List.mem_cons, List.not_mem_nil, or_false] at h
  rcases h with rfl | rfl | rfl
  · rw [beq_self_eq_true] at q2; cases q2
  · rw [beq_self_eq_true] at q3; cases q3
  · rw [beq_self_eq_true] at q4; cases q4
end
end Mine
open PySem PySem.W PyProof.Rows PySem.Calls
set_option Elab.async false
set_option maxRecDepth 4000
namespace Mine
theorem len5 {α : Type} {l : List α} (h : l.length = 5) : ∃ a b c d e, l = [a, b, c, d, e] := by
  cases l with
  | nil => cases h
  | cons a l => obtain ⟨b, c, d, e, rfl⟩ := len4 (Nat.succ.inj h); exact ⟨a, b, c, d, e, rfl⟩
theorem mb1 {m : MethRec} {a : Str} (h : ∀ qual pm code doc x, bindArgs (methDefD m.name qual m.params m.body m.scope pm code doc .none) ⟨[x], []⟩ = pure [(a, x)] := by intros; rfl) (o : scOk m.scope [a] = true := by rfl) (he : m.params.defaults = [] := by rfl) : MBindOk m [a] :=
  ⟨fun qual pm code doc dV s xs dk q => by obtain rfl := dk.none_of he; obtain ⟨x, rfl⟩ := len1 q; exact .of_eq (h qual pm code doc x), o⟩
theorem mb2 {m : MethRec} {a b : Str} (h : ∀ qual pm code doc x y, bindArgs (methDefD m.name qual m.params m.body m.scope pm code doc .none) ⟨[x, y], []⟩ = pure [(a, x), (b, y)] := by intros; rfl) (o : scOk m.scope [a, b] = true := by rfl) (he : m.params.defaults = [] := by rfl) : MBindOk m [a, b] :=
  ⟨fun qual pm code doc dV s xs dk q => by obtain rfl := dk.none_of he; obtain ⟨x, y, rfl⟩ := len2 q; exact .of_eq (h qual pm code doc x y), o⟩
theorem mb3 {m : MethRec} {a b c : Str} (h : ∀ qual pm code doc x y z, bindArgs (methDefD m.name qual m.params m.body m.scope pm code doc .none) ⟨[x, y, z], []⟩ = pure [(a, x), (b, y), (c, z)] := by intros; rfl) (o : scOk m.scope [a, b, c] = true := by rfl) (he : m.params.defaults = [] := by rfl) : MBindOk m [a, b, c] :=
  ⟨fun qual pm code doc dV s xs dk q => by obtain rfl := dk.none_of he; obtain ⟨x, y, z, rfl⟩ := len3 q; exact .of_eq (h qual pm code doc x y z), o⟩
theorem mb5 {m : MethRec} {a b c d e : Str} (h : ∀ qual pm code doc T x y z u w, ∃ k, bindArgs (methDefD m.name qual m.params m.body m.scope pm code doc (.ref T)) ⟨[x, y, z, u, w], []⟩ = seqItems? (.ref T) >>= k ∧ ∀ v, k (some #[v]) = pure [(a, x), (b, y), (c, z), (d, u), (e, w)])
    (hl : litsOf? m.params.defaults = some [.none] := by rfl) (o : scOk m.scope [a, b, c, d, e] = true := by rfl) : MBindOk m [a, b, c, d, e] :=
  ⟨fun qual pm code doc dV s xs dk q => by
    obtain ⟨x, y, z, u, w, rfl⟩ := len5 q
    obtain ⟨T, o', n, v1, rfl, h3, h5, _⟩ := dk.take1 hl
    obtain ⟨k, k1, k2⟩ := h qual pm code doc T x y z u w
    exact .of_defaults rfl h3 h5 k1 (k2 v1), o⟩
/-! a netlist while it is drawn: all its parts by place -/
abbrev nsOf (b : Nat) (cnt : Int) : List (Str × V) := [(S "name", .str (S "m")), (S "count", .int cnt), (S "inputs", .ref (b + 2)), (S "outputs", .ref (b + 3)), (S "cells", .ref (b + 4))]
abbrev PortsB (b hi : Nat) (σ : List O) (l : List (Str × List Int)) (vs : List V) : Prop := All2 (fun p v => ∃ r, v = .tup [.str p.1, .ref r] ∧ (b + 5 ≤ r ∧ r < hi) ∧ σ[r]? = some (.list (p.2.map V.int))) l vs
structure NB (s b hi : Nat) (σ : List O) (t : Net) : Prop where
  sl : s < b
  up : b + 5 ≤ hi
  stk : StkAt σ s
  inst : InI σ (b + 1) b (nsOf b t.cnt)
  ia : ∃ pi, σ[b + 2]? = some (.list pi) ∧ PortsB b hi σ t.ins pi
  ib : ∃ po, σ[b + 3]? = some (.list po) ∧ PortsB b hi σ t.outs po
  ic : σ[b + 4]? = some (.list (t.cells.map Cell.v))
section
variable {s b hi hi' : Nat} {σ σ' : List O} {t : Net}
theorem PortsB.keep {l : List (Str × List Int)} {vs : List V} (h : PortsB b hi σ l vs) (z : hi ≤ hi') (k : ∀ j o, b + 5 ≤ j → j < hi → σ[j]? = some o → σ'[j]? = some o) : PortsB b hi' σ' l vs := h.imp fun _ _ ⟨r, q, w, e⟩ => ⟨r, q, ⟨w.1, Nat.lt_of_lt_of_le w.2 z⟩, k _ _ w.1 w.2 e⟩
/-- what stands of a netlist at other objects -/
theorem NB.move (h : NB s b hi σ t) (z : hi ≤ hi') (q : StkAt σ' s) (k : ∀ j o, b ≤ j → j < hi → σ[j]? = some o → σ'[j]? = some o) : NB s b hi' σ' t :=
  have up := h.up
  ⟨h.sl, Nat.le_trans up z, q, ⟨k _ _ (by omega) (by omega) h.inst.obj, k _ _ (by omega) (by omega) h.inst.dict⟩, by obtain ⟨pi, a, r⟩ := h.ia; exact ⟨pi, k _ _ (by omega) (by omega) a, r.keep z fun j o g w e => k _ _ (by omega) w e⟩,
    by obtain ⟨pi, a, r⟩ := h.ib; exact ⟨pi, k _ _ (by omega) (by omega) a, r.keep z fun j o g w e => k _ _ (by omega) w e⟩, k _ _ (by omega) (by omega) h.ic⟩
theorem NB.next (h : NB s b hi σ t) (k : KeepX s σ σ') (q : StkAt σ' s) : NB s b hi σ' t := h.move (Nat.le_refl _) q fun j o g _ e => k _ _ (by have := h.sl; omega) e
theorem NB.app (h : NB s b hi σ t) {l : List O} : NB s b hi (σ ++ l) t := h.next (.of (Keep.app _ _)) (by obtain ⟨ns, e⟩ := h.stk; exact ⟨ns, getB e⟩)
theorem NB.upp (h : NB s b hi σ t) (z : hi ≤ hi') : NB s b hi' σ t := h.move z h.stk fun _ _ _ _ e => e
theorem NB.setX (h : NB s b hi σ t) {r : Nat} {o : O} (z : hi ≤ r) : NB s b hi (σ.set r o) t :=
  have up := h.up
  have sl := h.sl
  h.move (Nat.le_refl _) (by obtain ⟨ns, e⟩ := h.stk; exact ⟨ns, getN (by omega) e⟩) fun j o _ w e => getN (by omega) e
theorem NB.big (h : NB s b hi σ t) : b + 5 ≤ σ.length := (List.getElem?_eq_some_iff.mp h.ic).1
theorem NB.setC (h : NB s b hi σ t) {k : Int} : NB s b hi (σ.set b (.ns (nsOf b k))) { t with cnt := k } :=
  have sl := h.sl
  ⟨sl, h.up, by obtain ⟨ns, e⟩ := h.stk; exact ⟨ns, getN (by omega) e⟩, ⟨getN (by omega) h.inst.obj, getS h.inst.dict⟩, by obtain ⟨pi, a, r⟩ := h.ia; exact ⟨pi, getN (by omega) a, r.keep (Nat.le_refl _) fun j o g _ e => getN (by omega) e⟩,
    by obtain ⟨pi, a, r⟩ := h.ib; exact ⟨pi, getN (by omega) a, r.keep (Nat.le_refl _) fun j o g _ e => getN (by omega) e⟩, getN (by omega) h.ic⟩
theorem NB.addI (h : NB s b hi σ t) {pi : List V} (e : σ[b + 2]? = some (.list pi)) {nm : Str} {ns : List Int} {r : Nat} (hr : hi ≤ r) (hs : σ[r]? = some (.list (ns.map V.int))) : NB s b (r + 1) (σ.set (b + 2) (.list (pi ++ [.tup [.str nm, .ref r]]))) { t with ins := t.ins ++ [(nm, ns)] } :=
  have sl := h.sl
  have up := h.up
  ⟨sl, by omega, by obtain ⟨ns, e⟩ := h.stk; exact ⟨ns, getN (by omega) e⟩, ⟨getN (by omega) h.inst.obj, getN (by omega) h.inst.dict⟩, by
      obtain ⟨pi', a, w⟩ := h.ia
      rw [e] at a; cases a
      exact ⟨_, getS e, All2.append (w.keep (by omega) fun j o g _ e => getN (by omega) e) (.cons ⟨r, rfl, ⟨by omega, Nat.lt_succ_self _⟩, getN (by omega) hs⟩ .nil)⟩,
    by obtain ⟨pi, a, r⟩ := h.ib; exact ⟨pi, getN (by omega) a, r.keep (by omega) fun j o g _ e => getN (by omega) e⟩, getN (by omega) h.ic⟩
theorem NB.addO (h : NB s b hi σ t) {pi : List V} (e : σ[b + 3]? = some (.list pi)) {nm : Str} {ns : List Int} {r : Nat} (hr : hi ≤ r) (hs : σ[r]? = some (.list (ns.map V.int))) : NB s b (r + 1) (σ.set (b + 3) (.list (pi ++ [.tup [.str nm, .ref r]]))) { t with outs := t.outs ++ [(nm, ns)] } :=
  have sl := h.sl
  have up := h.up
  ⟨sl, by omega, by obtain ⟨ns, e⟩ := h.stk; exact ⟨ns, getN (by omega) e⟩, ⟨getN (by omega) h.inst.obj, getN (by omega) h.inst.dict⟩,
    by obtain ⟨pi, a, r⟩ := h.ia; exact ⟨pi, getN (by omega) a, r.keep (by omega) fun j o g _ e => getN (by omega) e⟩, by
      obtain ⟨pi', a, w⟩ := h.ib
      rw [e] at a; cases a
      exact ⟨_, getS e, All2.append (w.keep (by omega) fun j o g _ e => getN (by omega) e) (.cons ⟨r, rfl, ⟨by omega, Nat.lt_succ_self _⟩, getN (by omega) hs⟩ .nil)⟩, getN (by omega) h.ic⟩
theorem NB.addC (h : NB s b hi σ t) {x : Cell} : NB s b hi (σ.set (b + 4) (.list (t.cells.map Cell.v ++ [x.v]))) { t with cells := t.cells ++ [x] } :=
  have sl := h.sl
  ⟨sl, h.up, by obtain ⟨ns, e⟩ := h.stk; exact ⟨ns, getN (by omega) e⟩, ⟨getN (by omega) h.inst.obj, getN (by omega) h.inst.dict⟩,
    by obtain ⟨pi, a, r⟩ := h.ia; exact ⟨pi, getN (by omega) a, r.keep (Nat.le_refl _) fun j o g _ e => getN (by omega) e⟩, by obtain ⟨pi, a, r⟩ := h.ib; exact ⟨pi, getN (by omega) a, r.keep (Nat.le_refl _) fun j o g _ e => getN (by omega) e⟩, by
      rw [List.map_append]; exact getS h.ic⟩
theorem NB.net (h : NB s b hi σ t) : NetAt σ (b + 1) t := by
  obtain ⟨pi, a, r⟩ := h.ia
  obtain ⟨po, a', r'⟩ := h.ib
  exact ⟨b, _, _, _, _, pi, po, h.inst, a, r.imp fun _ _ ⟨r, q, _, e⟩ => ⟨r, q, e⟩, a', r'.imp fun _ _ ⟨r, q, _, e⟩ => ⟨r, q, e⟩, h.ic⟩
end
section
variable {cx : Cx} {n : Nat} {sc : Scope} {loc : Loc} {σ : List O} {P : V → List O → Prop} {Q : Fl → Loc → List O → Prop} {pos : Pos} {s b hi : Nat} {t : Net}
/-- the base of a call of a method -/
theorem NB.inM (c : TopOk cx) (h : NB s b hi σ t) (k : Nat) (hk : k < 9) (e : lk (nsOf b t.cnt) (mth k).name = none := by rfl) (h0 : k ≠ 0 := by decide) : InM cx σ (mth k).name (mth k) (.ref (b + 1)) := ⟨⟨_, _, _, rfl, h.inst, e⟩, c.mts k hk, c.mno k hk h0⟩
theorem setA (c : CxOk cx) {a : Str} {i d : Nat} {l : List (Str × V)} {v : V} {R : List O → Prop} (e : InI σ i d l) (p : R (σ.set d (.ns (put l a v)))) (hz : l.length ≤ sizeLine) (ha : attrNames.contains a = true := by rfl) : TU cx n sc loc σ (fun xs => setAttr (xs[0]?.getD .none) a (xs[1]?.getD .none)) [.ref i, v] R := by
  obtain ⟨w1, w2⟩ := c.attr a (List.contains_iff_mem.mp ha)
  exact TU_setAttr e w1 w2 p hz
theorem sNew (c : TopOk cx) (h : NB s b hi σ t) (p : ∀ σ', NB s b hi σ' { t with cnt := t.cnt + 1 } → (∀ j o, j ≠ b → σ[j]? = some o → σ'[j]? = some o) → P (.int t.cnt) σ') : TM cx n (mth 1) [.ref (b + 1)] σ P := by
  have c' := c.toCxOk
  refine ⟨[S "self"], mb1, rfl, TSs_cons (TS_assign (at_ c' (loc := [(S "self", .ref (b + 1))]) rfl h.inst rfl (nxt ?_)))⟩
  obtain ⟨w1, w2⟩ := c'.attr (S "count") (List.contains_iff_mem.mp rfl)
  refine TS_augAttr (TE_var rfl (TO_getAttr h.inst w1 w2 rfl (TE_int (TO_intI (fun k => PyProof.Rows.iadd_int k) (TU_setAttr h.inst w1 w2 (nxt (rtn c' (v := .int t.cnt) rfl (p _ h.setC fun j o n e => getN (Ne.symm n) e))) (by show 5 ≤ sizeLine; decide))))))
/-- a list of so many numbers from there on -/
def upI (a : Int) (k : Nat) : List Int := (List.range k).map fun i : Nat => a + (i : Int)
theorem upI_succ {a : Int} {k : Nat} : upI a (k + 1) = upI a k ++ [a + (k : Int)] := by unfold upI; rw [List.range_succ, List.map_append]; rfl
theorem sNews (c : TopOk cx) (h : NB s b hi σ t) (hh : hi ≤ σ.length) {k : Nat} (hk : k ≤ 1000) (p : ∀ r σ', NB s b hi σ' { t with cnt := t.cnt + k } → hi ≤ r → hi ≤ σ'.length → σ'[r]? = some (.list ((upI t.cnt k).map V.int)) → P (.ref r) σ') : TM cx (n + 1) (mth 2) [.ref (b + 1), ni k] σ P := by
  have c' := c.toCxOk
  refine ⟨[S "self", S "width"], mb2, rfl, TSs_cons (TS_ret (TE_comp (src_rng (a := 0) (b := (k : Int)) (by decide) (by decide) (by omega) (by omega)) (fun r i acc τ => NB s b hi τ { t with cnt := t.cnt + i } ∧ (hi ≤ r ∧ r < τ.length ∧ i ≤ k) ∧ τ[r]? = some (.list acc) ∧ acc = (upI t.cnt i).map V.int)
    (TE_callT c.rng (TEs_cons (TE_var rfl (TEs_nil (TO_range1 ⟨rfl, trivial, ?_, ⟨hh, by rw [List.length_append]; simp, Nat.zero_le _⟩, getA, rfl⟩))))) (fun r i acc τ h => ⟨trivial, h.2.2.1, ?_⟩) (fun r i acc τ v hv h => TI_nil (br (b := true) (fun _ => ?_) fun q => nomatch q)) fun r acc τ h => ?_))⟩
  · have := h.app (l := [O.list []])
    simpa using this
  · obtain ⟨_, ⟨_, _, h3⟩, _, h4⟩ := h
    rw [h4, List.length_map]; unfold upI; rw [List.length_map, List.length_range]; unfold sizeLine; omega
  · obtain ⟨hi', rfl⟩ := upto_at hv
    obtain ⟨h1, ⟨h2, h3, _⟩, h4, rfl⟩ := h
    refine TE_callMe0 (TE_var (v := .ref (b + 1)) rfl ⟨h1.inM c 1 (by decide), sNew c h1 fun σ' g1 g2 => ?_⟩)
    have hb := h1.up
    have e1 := g2 _ _ (by omega) h4
    refine ⟨e1, ?_, ⟨h2, by rw [List.length_set]; exact (List.getElem?_eq_some_iff.mp e1).1, hi'⟩, getS e1, by rw [upI_succ, List.map_append]; rfl⟩
    have g3 := g1.setX (r := r) (o := .list ((upI t.cnt i).map V.int ++ [V.int (t.cnt + (i : Int))])) h2
    rw [show t.cnt + ((i + 1 : Nat) : Int) = t.cnt + (i : Int) + 1 by omega]
    exact g3
  · obtain ⟨h1, ⟨h2, h3, _⟩, h4, rfl⟩ := h
    rw [upto_len, Int.sub_zero, Int.toNat_natCast] at h1 h4
    exact p _ _ h1 h2 (by omega) h4
theorem sAddI (c : TopOk cx) (h : NB s b hi σ t) (hh : hi ≤ σ.length) (hz : t.ins.length ≤ 100) {k : Nat} (hk : k ≤ 1000) {nm : Str} (p : ∀ hi' r σ', NB s b hi' σ' { t with cnt := t.cnt + k, ins := t.ins ++ [(nm, upI t.cnt k)] } → hi' ≤ σ'.length → P (.ref r) σ') : TM cx (n + 2) (mth 3) [.ref (b + 1), .str nm, ni k] σ P := by
  have c' := c.toCxOk
  refine ⟨[S "self", S "name", S "width"], mb3, rfl, TSs_cons (TS_assign (TE_callMe (TE_var rfl ⟨h.inM c 2 (by decide), TEs_cons (TE_var (v := ni k) rfl (TEs_nil (sNews c h hh hk fun r σ' h1 h2 h3 h4 => nxt ?_)))⟩)))⟩
  obtain ⟨pi, a1, a2⟩ := h1.ia
  have hl : pi.length < sizeLine := by have := a2.length; dsimp only at this; unfold sizeLine; omega
  have hb := h1.up
  have hr : r < σ'.length := (List.getElem?_eq_some_iff.mp h4).1
  refine TS_expr (TE_meth PySem.F.plainAttrs_list PySem.F.slot_list_append PySem.F.type_list_append (at_ c' (loc := [(S "nets", .ref r), (S "self", .ref (b + 1)), (S "name", .str nm), (S "width", ni k)]) rfl h1.inst rfl ⟨ty_list a1, TEs_cons (TE_tup (TEs_cons (TE_var rfl (TEs_cons (TE_callT c.lst ?_)))))⟩))
  refine TEs_cons (TE_var rfl (TEs_nil (TO_listL h4 (TEs_nil ⟨(by decide : 2 ≤ sizeLine), TEs_nil (TO_append (getB a1) (nxt ?_) hl)⟩))))
  exact rtn c' (v := .ref r) rfl (p _ _ _ (h1.app.addI (getB a1) h3 getA) (by rw [List.length_set, List.length_append]; exact Nat.le_refl _))
theorem sAddO (c : TopOk cx) (h : NB s b hi σ t) (hh : hi ≤ σ.length) (hz : t.outs.length ≤ 100) {nm : Str} {ns : List Int} {q : Nat} (hq : σ[q]? = some (.list (ns.map V.int))) (p : ∀ hi' σ', NB s b hi' σ' { t with outs := t.outs ++ [(nm, ns)] } → P .none σ') : TM cx n (mth 4) [.ref (b + 1), .str nm, .ref q] σ P := by
  have c' := c.toCxOk
  obtain ⟨pi, a1, a2⟩ := h.ib
  have hl : pi.length < sizeLine := by have := a2.length; unfold sizeLine; omega
  refine ⟨[S "self", S "name", S "nets"], mb3, rfl, TSs_cons ?_⟩
  refine TS_expr (TE_meth PySem.F.plainAttrs_list PySem.F.slot_list_append PySem.F.type_list_append (at_ c' (loc := [(S "self", .ref (b + 1)), (S "name", .str nm), (S "nets", .ref q)]) rfl h.inst rfl ⟨ty_list a1, TEs_cons (TE_tup (TEs_cons (TE_var rfl (TEs_cons (TE_callT c.lst ?_)))))⟩))
  refine TEs_cons (TE_var rfl (TEs_nil (TO_listL hq (TEs_nil ⟨(by decide : 2 ≤ sizeLine), TEs_nil (TO_append (getB a1) ?_ hl)⟩))))
  exact TSs_nil (p _ _ (h.app.addO (getB a1) hh getA))
theorem sDrive (c : TopOk cx) (h : NB s b hi σ t) (hz : t.cells.length ≤ 100) {x : Cell} {q : Nat} (hq : σ[q]? = some (.list (x.i.map V.int))) (p : NB s b hi (σ.set (b + 4) (.list (t.cells.map Cell.v ++ [x.v]))) { t with cells := t.cells ++ [x] } → P .none (σ.set (b + 4) (.list (t.cells.map Cell.v ++ [x.v])))) : TM cx n (mth 6) [.ref (b + 1), .int x.o, .str x.k, .ref q, x.p] σ P := by
  have c' := c.toCxOk
  refine ⟨[S "self", S "out", S "kind", S "ins", S "param"], mb5 (fun _ _ _ _ _ _ _ _ _ _ => ⟨_, rfl, fun _ => rfl⟩), rfl, TSs_cons ?_⟩
  refine TS_expr (TE_meth PySem.F.plainAttrs_list PySem.F.slot_list_append PySem.F.type_list_append (at_ c' (loc := [(S "self", .ref (b + 1)), (S "out", .int x.o), (S "kind", .str x.k), (S "ins", .ref q), (S "param", x.p)]) rfl h.inst rfl ⟨ty_list h.ic, TEs_cons (TE_tup (TEs_cons (TE_var rfl (TEs_cons (TE_var rfl (TEs_cons (TE_callT c.tup ?_)))))))⟩))
  refine TEs_cons (TE_var rfl (TEs_nil (TO_tupL hq (TEs_cons (TE_var rfl (TEs_nil ⟨(by decide : 4 ≤ sizeLine), TEs_nil (TO_append h.ic ?_ ?_)⟩))))))
  · exact TSs_nil (p h.addC)
  · rw [List.length_map]; unfold sizeLine; omega
/-- a netlist while __init__ fills it -/
structure Ini (s b j : Nat) (l : List (Str × V)) (τ : List O) : Prop where
  inst : InI τ (b + 1) b l
  stk : StkAt τ s
  sl : s < b
  len : τ.length = b + 2 + j
  at_ : ∀ i, i < j → τ[b + 2 + i]? = some (.list [])
theorem Ini.set {s b j : Nat} {l l' : List (Str × V)} {τ : List O} (h : Ini s b j l τ) : Ini s b j l' (τ.set b (.ns l')) :=
  have sl := h.sl
  ⟨⟨getN (by omega) h.inst.obj, getS h.inst.dict⟩, by obtain ⟨ns, e⟩ := h.stk; exact ⟨ns, getN (by omega) e⟩, sl, by rw [List.length_set]; exact h.len, fun i hi => getN (by omega) (h.at_ i hi)⟩
theorem Ini.app {s b j : Nat} {l : List (Str × V)} {τ : List O} (h : Ini s b j l τ) : Ini s b (j + 1) l (τ ++ [.list []]) :=
  ⟨⟨getB h.inst.obj, getB h.inst.dict⟩, by obtain ⟨ns, e⟩ := h.stk; exact ⟨ns, getB e⟩, h.sl, by rw [List.length_append, h.len]; rfl, fun i hi => by
    by_cases e : i < j
    · exact getB (h.at_ i e)
    · obtain rfl : i = j := by omega
      rw [← h.len]; exact getA⟩
/-- a new netlist -/
theorem sInit (c : TopOk cx) (hs : StkAt σ s) (p : ∀ σ', NB s σ.length (σ.length + 5) σ' ⟨2, [], [], []⟩ → σ.length + 5 ≤ σ'.length → P .none σ') : TM cx n (mth 0) [.ref (σ.length + 1), .str (S "m")] (σ ++ [.ns [], .inst σ.length]) P := by
  have c' := c.toCxOk
  have sl : s < σ.length := by obtain ⟨ns, e⟩ := hs; exact (List.getElem?_eq_some_iff.mp e).1
  have I0 : Ini s σ.length 0 [] (σ ++ [O.ns [], .inst σ.length]) := ⟨⟨by rw [List.getElem?_append_right (by omega), show σ.length + 1 - σ.length = 1 by omega]; rfl, by rw [List.getElem?_append_right (Nat.le_refl _), Nat.sub_self]; rfl⟩, by obtain ⟨ns, e⟩ := hs; exact ⟨ns, getB e⟩, sl, List.length_append, fun i h => nomatch h⟩
  have z : ∀ k : Nat, k ≤ 100 → k ≤ sizeLine := fun k h => Nat.le_trans h (by decide)
  generalize σ ++ [O.ns [], .inst σ.length] = σ0 at I0
  generalize hb : σ.length = b at *
  refine ⟨[S "self", S "name"], mb2, rfl, TSs_cons (TS_setAttr (TE_var (v := .str (S "m")) rfl (TE_var (v := .ref (b + 1)) rfl (setA c' I0.inst (nxt ?_) (z _ (Nat.zero_le _))))))⟩
  have I1 : Ini s b 0 [(S "name", .str (S "m"))] (σ0.set b (.ns (put [] (S "name") (.str (S "m"))))) := I0.set
  generalize σ0.set b (.ns (put [] (S "name") (.str (S "m")))) = σ1 at I1 ⊢
  refine TS_setAttr (TE_int (TE_var (v := .ref (b + 1)) rfl (setA c' I1.inst (nxt ?_) (z _ (by simp)))))
  have I2 : Ini s b 0 [(S "name", .str (S "m")), (S "count", .int 2)] (σ1.set b (.ns (put [(S "name", .str (S "m"))] (S "count") (.int 2)))) := I1.set
  generalize σ1.set b (.ns (put [(S "name", .str (S "m"))] (S "count") (.int 2))) = σ2 at I2 ⊢
  refine TS_setAttr (TE_list (TEs_nil ⟨Nat.zero_le _, TE_var (v := .ref (b + 1)) rfl (setA c' I2.app.inst (nxt ?_) (z _ (by simp)))⟩))
  rw [I2.len]
  have I3 : Ini s b 1 [(S "name", .str (S "m")), (S "count", .int 2), (S "inputs", .ref (b + 2))] ((σ2 ++ [O.list []]).set b (.ns (put [(S "name", .str (S "m")), (S "count", .int 2)] (S "inputs") (.ref (b + 2 + 0))))) := I2.app.set
  generalize (σ2 ++ [O.list []]).set b (.ns (put [(S "name", .str (S "m")), (S "count", .int 2)] (S "inputs") (.ref (b + 2 + 0)))) = σ3 at I3 ⊢
  refine TS_setAttr (TE_list (TEs_nil ⟨Nat.zero_le _, TE_var (v := .ref (b + 1)) rfl (setA c' I3.app.inst (nxt ?_) (z _ (by simp)))⟩))
  rw [I3.len]
  have I4 : Ini s b 2 [(S "name", .str (S "m")), (S "count", .int 2), (S "inputs", .ref (b + 2)), (S "outputs", .ref (b + 3))] ((σ3 ++ [O.list []]).set b (.ns (put [(S "name", .str (S "m")), (S "count", .int 2), (S "inputs", .ref (b + 2))] (S "outputs") (.ref (b + 2 + 1))))) := I3.app.set
  generalize (σ3 ++ [O.list []]).set b (.ns (put [(S "name", .str (S "m")), (S "count", .int 2), (S "inputs", .ref (b + 2))] (S "outputs") (.ref (b + 2 + 1)))) = σ4 at I4 ⊢
  refine TS_setAttr (TE_list (TEs_nil ⟨Nat.zero_le _, TE_var (v := .ref (b + 1)) rfl (setA c' I4.app.inst (TSs_nil ?_) (z _ (by simp)))⟩))
  rw [I4.len]
  have I5 : Ini s b 3 (nsOf b 2) ((σ4 ++ [O.list []]).set b (.ns (put [(S "name", .str (S "m")), (S "count", .int 2), (S "inputs", .ref (b + 2)), (S "outputs", .ref (b + 3))] (S "cells") (.ref (b + 2 + 2))))) := I4.app.set
  refine p _ ⟨sl, Nat.le_refl _, I5.stk, I5.inst, ⟨[], I5.at_ 0 (by decide), .nil⟩, ⟨[], I5.at_ 1 (by decide), .nil⟩, I5.at_ 2 (by decide)⟩ ?_
  rw [I5.len]; exact Nat.le_refl _
end
end Mine
open PySem PySem.W PyProof.Rows PySem.Calls
set_option Elab.async false
set_option maxRecDepth 4000
namespace Mine
structure Cok (cnt : Int) (x : Cell) : Prop where
  k : x.k ∈ kinds
  il : x.i.length ≤ 5
  ib : ∀ y ∈ x.i, 0 ≤ y ∧ y ≤ cnt + 1
  o : -1 ≤ x.o ∧ x.o ≤ cnt
  p : ∀ W, ∃ b, PmB W x.k x.p b
  okv : okV 3 x.p = true
/-- what is drawn, while cells come -/
structure Dok (t : Net) (lap : Nat) : Prop where
  ins : t.ins.length ≤ 2
  ib : ∀ p ∈ t.ins, p.2.length ≤ 2 ∧ ∀ y ∈ p.2, 0 ≤ y ∧ y < t.cnt
  outs : t.outs.length ≤ 1
  ob : ∀ p ∈ t.outs, p.2.length ≤ 2 ∧ ∀ y ∈ p.2, 0 ≤ y ∧ y < t.cnt
  cl : t.cells.length = lap
  ci : ∀ x ∈ t.cells, Cok t.cnt x
  cnt : 2 ≤ t.cnt ∧ t.cnt ≤ 20
theorem KeepX.len {s : Nat} {σ τ : List O} (k : KeepX s σ τ) (q : StkAt τ s) : σ.length ≤ τ.length := by
  obtain ⟨ns, e⟩ := q
  have hs := (List.getElem?_eq_some_iff.mp e).1
  by_cases h : σ.length = 0
  · omega
  · by_cases h2 : σ.length - 1 = s
    · omega
    · have h1 : σ.length - 1 < σ.length := by omega
      have := (List.getElem?_eq_some_iff.mp (k _ _ h2 (List.getElem?_eq_getElem h1))).1
      omega
theorem upI_mem {a y : Int} {k : Nat} : y ∈ upI a k ↔ a ≤ y ∧ y < a + k := by
  unfold upI
  rw [List.mem_map]
  constructor
  · rintro ⟨i, hi, rfl⟩
    rw [List.mem_range] at hi; omega
  · rintro ⟨h1, h2⟩
    exact ⟨(y - a).toNat, by rw [List.mem_range]; omega, by omega⟩
theorem upI_len {a : Int} {k : Nat} : (upI a k).length = k := by unfold upI; rw [List.length_map, List.length_range]
/-- an input more -/
theorem Dok.addI {t : Net} (h : Dok t 0) {k : Nat} {nm : Str} (hl : t.ins.length ≤ 1) (hk : k ≤ 2) (hc : t.cnt ≤ 10) : Dok { t with cnt := t.cnt + k, ins := t.ins ++ [(nm, upI t.cnt k)] } 0 := by
  have h1 := h.cnt
  refine ⟨?_, fun p hp => ?_, h.outs, fun p hp => ⟨(h.ob p hp).1, fun y hy => ?_⟩, h.cl, fun x hx => ?_, ?_⟩
  · show (t.ins ++ _).length ≤ 2
    rw [List.length_append]; simp; omega
  · rcases List.mem_append.mp hp with hp | hp
    · exact ⟨(h.ib p hp).1, fun y hy => by have := (h.ib p hp).2 y hy; show 0 ≤ y ∧ y < t.cnt + k; omega⟩
    · rw [List.mem_singleton.mp hp]
      exact ⟨by rw [upI_len]; exact hk, fun y hy => by have := upI_mem.mp hy; show 0 ≤ y ∧ y < t.cnt + k; omega⟩
  · have := (h.ob p hp).2 y hy; show 0 ≤ y ∧ y < t.cnt + k; omega
  · have := List.length_eq_zero_iff.mp h.cl
    rw [this] at hx; cases hx
  · show 2 ≤ t.cnt + k ∧ t.cnt + k ≤ 20; omega
section
variable {cx : Cx} {n : Nat} {sc : Scope} {loc : Loc} {σ : List O} {P : V → List O → Prop} {Q : Fl → Loc → List O → Prop} {pos : Pos} {s b hi : Nat} {t : Net}
theorem TSs.weak {r : List Stmt} {loc' : Loc} (h : TSs cx n sc loc' σ r Q) (sb : Sub loc' loc) : TSs cx n sc loc σ r Q := fun f env ρ s fo eo S => h f env ρ s fo eo (S.weak sb)
/-- a statement, and what is known behind it -/
theorem midS {st : Stmt} {r : List Stmt} (R : Loc → List O → Prop) (h : TS cx n sc loc σ st fun fl l τ => fl = .next ∧ R l τ) (k : ∀ l τ, R l τ → TSs cx n sc l τ r Q) : TSs cx n sc loc σ (st :: r) Q := TSs_cons (TS.mono h fun fl l τ q => by obtain ⟨rfl, q⟩ := q; exact k l τ q)
abbrev wL (s b : Nat) : Loc := [(S "netlist", .ref (b + 1)), (S "stock", .ref s)]
theorem strs_at {l : List Str} {x : Int} (h0 : 0 ≤ x) (h1 : x < l.length) : ∃ nm, nm ∈ l ∧ (l.map V.str)[x.toNat]? = some (.str nm) := by
  have : x.toNat < l.length := by omega
  exact ⟨l[x.toNat], List.getElem_mem this, by rw [List.getElem?_map, List.getElem?_eq_getElem this]; rfl⟩
/-- the statements behind the inputs -/
noncomputable def tail5 : List Stmt := (fn 25).body.drop 3
theorem sDrawn1 (c : TopOk cx) (hs : StkAt σ s) (k : ∀ b hi t τ, NB s b hi τ t → hi ≤ τ.length → Dok t 0 → t.outs = [] → t.cnt ≤ 5 → TSs cx (n + 3) (fn 25).scope (wL s b) τ tail5 (RetP P)) : TF cx (n + 3) (fn 25) [.ref s] σ P := by
  have c' := c.toCxOk
  refine ⟨[S "stock"], bd1, rfl, TSs_cons (TS_assign (TE_make (arg := .Constant (.str (S "m")) _ _) c.cls (c.mts 0 (by decide)) (TE_str ?_)))⟩
  refine (sInit (n := n + 1) c hs fun σ1 h hh => ⟨rfl, ?_⟩)
  have d0 : Dok ⟨2, [], [], []⟩ 0 := ⟨by decide, (fun _ h => nomatch h), by decide, (fun _ h => nomatch h), rfl, (fun _ h => nomatch h), by decide⟩
  refine nxt (TS_expr (TE_callMe (TE_var rfl ⟨h.inM c 3 (by decide), TEs_cons (TE_str (TEs_cons (TE_bin (TE_int (nxC c rfl h.stk fun x σ2 x0 x1 k2 s2 => ?_)))))⟩)))
  obtain ⟨j, rfl⟩ := Int.eq_ofNat_of_zero_le x0
  refine TO_intI (fun k => PyProof.Rows.add_int k) (TEs_nil ?_)
  rw [show (1 : Int) + (j : Int) = ((1 + j : Nat) : Int) by omega]
  refine sAddI c (h.next k2 s2) (h.next k2 s2).big (by decide) (by omega) fun hi1 r1 σ3 h3 hh3 => ?_
  have d1 := d0.addI (nm := S "a") (k := 1 + j) (by decide) (by omega) (by decide)
  refine mid (cx := cx) (fun τ => ∃ hi t, NB s σ.length hi τ t ∧ hi ≤ τ.length ∧ Dok t 0 ∧ t.outs = [] ∧ t.cnt ≤ 5) ?_ fun τ h4 => ?_
  · refine TS_if (TB_cmp (nxC c rfl h3.stk fun y σ4 y0 y1 k4 s4 => TE_int (TO_intB (fun k => PyProof.Rows.eq_int k) ⟨_, rfl, br (fun q => ?_) fun q => ?_⟩)))
    · have h5 := h3.next k4 s4
      have hb5 := h5.big
      refine TSs_cons (TS_expr (TE_callMe (TE_var rfl ⟨h5.inM c 3 (by decide), TEs_cons (TE_sub (TE_list (TEs_cons (TE_str (TEs_cons (TE_str (TEs_cons (TE_str (TEs_nil ⟨(by decide : 3 ≤ sizeLine), ?_⟩)))))))))⟩)))
      refine nxC c rfl h5.app.stk fun x σ5 x0 x1 k5 s5 => ?_
      have h6 := h5.app.next k5 s5
      obtain ⟨nm, _, hnm⟩ := strs_at (l := [S "b", S "b", S "a"]) x0 x1
      refine TO_itemL (k5 _ _ (by have := h5.sl; omega) getA) x0 hnm (TEs_cons (TE_int (TEs_nil ?_))) fun _ _ => rfl
      have l5 : hi1 ≤ σ5.length := by
        have := k4.len s4
        have := k5.len s5
        rw [List.length_append] at this
        omega
      refine sAddI c (k := 1) h6 l5 (by show 1 ≤ 100; decide) (by decide) fun hi2 r2 σ6 h7 hh7 => TSs_nil ⟨rfl, rfl, hi2, _, h7, hh7, d1.addI (k := 1) (by show 1 ≤ 1; decide) (by decide) (by show (2 : Int) + ((1 + j : Nat) : Int) ≤ 10; omega), rfl, by show (2 : Int) + ((1 + j : Nat) : Int) + ((1 : Nat) : Int) ≤ 5; omega⟩
    · have kl : hi1 ≤ σ4.length := Nat.le_trans hh3 (k4.len s4)
      exact TSs_nil ⟨rfl, rfl, hi1, _, h3.next k4 s4, kl, d1, rfl, by show (2 : Int) + ((1 + j : Nat) : Int) ≤ 5; omega⟩
  · obtain ⟨hi, t, g1, g2, g3, g4, g5⟩ := h4
    exact k _ _ _ _ g1 g2 g3 g4 g5
def strOf : Expr → Option Str
  | .Constant (.str s) _ _ => some s
  | _ => none
theorem strOf_eq {e : Expr} {x : Str} (h : strOf e = some x) : ∃ k p, e = .Constant (.str x) k p := by
  unfold strOf at h
  split at h
  · cases h; exact ⟨_, _, rfl⟩
  · cases h
/-- texts alone -/
theorem TEs_strs {l : List Str} : ∀ {es : List Expr} {P : List V → List O → Prop}, es.map strOf = l.map some → (l.all fun s => strL s) = true → P (l.map V.str) σ → TEs cx n sc loc σ es P := by
  induction l with
  | nil =>
    intro es P h _ p
    cases es with
    | nil => exact TEs_nil p
    | cons _ _ => cases h
  | cons a l ih =>
    intro es P h q p
    cases es with
    | nil => cases h
    | cons e es =>
      rw [List.map_cons, List.map_cons, List.cons.injEq] at h
      rw [List.all_cons, Bool.and_eq_true] at q
      obtain ⟨k, ps, rfl⟩ := strOf_eq h.1
      exact TEs_cons (TE_str (ih h.2 q.2 p) (strL_ok q.1))
/-- a text drawn from a list of texts -/
theorem te_pick (c : TopOk cx) {es : List Expr} {l : List Str} {m : Int} {q : Nat} {p1 p2 p3 p4 p5 : Pos} (hx : lk loc (S "stock") = some (.ref s)) (hs : StkAt σ s) (he : es.map strOf = l.map some) (hl : (l.all fun s => strL s) = true) (hz : l.length ≤ 100) (hm : 0 < m ∧ m ≤ l.length)
    (p : ∀ nm σ', nm ∈ l → KeepX s σ σ' → StkAt σ' s → P (.str nm) σ') (hk : sc.names.lookup (S "_law_next") = some .globalImplicit) :
    TE cx (n + 1) sc loc σ (.Subscript (.List es p5) (.Call (.Name (S "_law_next") p1) [.Name (S "stock") p2, .Constant (.int m) q p3] [] p4) pos) P := by
  have hs' : StkAt (σ ++ [O.list (l.map V.str)]) s := by obtain ⟨ns, e⟩ := hs; exact ⟨ns, getB e⟩
  have sl : s < σ.length := by obtain ⟨ns, e⟩ := hs; exact (List.getElem?_eq_some_iff.mp e).1
  refine TE_sub (TE_list (TEs_strs he hl ⟨by rw [List.length_map]; exact Nat.le_trans hz (by decide), nxC c hx hs' (fun x σ1 x0 x1 k1 s1 => ?_) hm.1 hk⟩))
  obtain ⟨k, hk, ek⟩ := strs_at (l := l) x0 (Int.lt_of_lt_of_le x1 hm.2)
  exact TO_itemL (k1 _ _ (by omega) getA) x0 ek (p k σ1 hk ((KeepX.of (Keep.app _ _)).trans k1) s1) fun _ _ => rfl
theorem ts_pick (c : TopOk cx) {es : List Expr} {l : List Str} {m : Int} {q : Nat} {x : Str} {p1 p2 p3 p4 p5 p6 p7 : Pos} (hx : lk loc (S "stock") = some (.ref s)) (hs : StkAt σ s) (he : es.map strOf = l.map some) (hl : (l.all fun s => strL s) = true) (hz : l.length ≤ 100) (hm : 0 < m ∧ m ≤ l.length)
    (p : ∀ nm σ', nm ∈ l → KeepX s σ σ' → StkAt σ' s → Q .next ((x, .str nm) :: loc) σ') (hk : sc.names.lookup (S "_law_next") = some .globalImplicit) (h1 : stores sc x = true) :
    TS cx (n + 1) sc loc σ (.Assign [.Name x p7] (.Subscript (.List es p5) (.Call (.Name (S "_law_next") p1) [.Name (S "stock") p2, .Constant (.int m) q p3] [] p4) p6) pos) Q :=
  TS_assign (te_pick c hx hs he hl hz hm p hk) h1 rfl
theorem wide10 {k : Str} (h : k ∈ kinds) : wideV k = .none ∨ ∃ w : Nat, w ≤ 4 ∧ wideV k = ni w := by
  simp only [kinds, List.mem_cons, List.not_mem_nil, or_false] at h
  rcases h with rfl | rfl | rfl | rfl | rfl | rfl | rfl | rfl | rfl | rfl
  · exact .inr ⟨2, by decide, by kernel_rfl⟩
  · exact .inr ⟨1, by decide, by kernel_rfl⟩
  · exact .inr ⟨3, by decide, by kernel_rfl⟩
  · exact .inl (by kernel_rfl)
  · exact .inl (by kernel_rfl)
  · exact .inr ⟨4, by decide, by kernel_rfl⟩
  · exact .inr ⟨4, by decide, by kernel_rfl⟩
  · exact .inr ⟨1, by decide, by kernel_rfl⟩
  · exact .inr ⟨2, by decide, by kernel_rfl⟩
  · exact .inl (by kernel_rfl)
theorem num10 : ∀ a : Nat, a < 10 → PyData.canLay0 (.str (toString (a : Int))) = true ∧ (S "q").length + (toString (a : Int) : Str).length ≤ sizeLine ∧ PyData.canLay0 (.str (S "q" ++ toString (a : Int))) = true := by
  have : ∀ a : Fin 10, PyData.canLay0 (.str (toString (a.val : Int))) = true ∧ (S "q").length + (toString (a.val : Int) : Str).length ≤ sizeLine ∧ PyData.canLay0 (.str (S "q" ++ toString (a.val : Int))) = true := by decide +kernel
  exact fun a h => this ⟨a, h⟩
def forBody : Stmt → List Stmt
  | .For _ _ body _ _ => body
  | _ => []
noncomputable def turnB : List Stmt := forBody (((fn 25).body[6]?).getD (.Pass ⟨0, 0, 0, 0⟩))
abbrev uL (s b : Nat) (F : Int) (m : Nat) : Loc := [(S "first", .int F), (S "many", ni m), (S "netlist", .ref (b + 1)), (S "stock", .ref s)]
/-- one cell is drawn -/
theorem sTurn (c : TopOk cx) {F : Int} {m lap : Nat} (h : NB s b hi σ t) (hh : hi ≤ σ.length) (d : Dok t lap) (hF : 2 ≤ F ∧ F ≤ 5) (hm : m ≤ 5) (hl : lap < m) (hc : t.cnt = F + m) {P : Fl → Loc → List O → Prop}
    (p : ∀ l τ hi' x, Sub (uL s b F m) l → NB s b hi' τ { t with cells := t.cells ++ [x] } → hi' ≤ τ.length → Cok t.cnt x → P .next l τ) : TSs cx (n + 3) (fn 25).scope ((S "lap", ni lap) :: uL s b F m) σ turnB P := by
  have c' := c.toCxOk
  have sl := h.sl
  have hb := h.up
  refine TSs_cons ?_
  refine @ts_pick _ _ _ _ _ _ _ _ c _ kinds _ _ _ _ _ _ _ _ _ _ rfl h.stk ?_ ?_ ?_ ?_ (fun k σ1 hk k1 s1 => ?_) ?_ ?_
  · rfl
  · decide +kernel
  · decide +kernel
  · decide +kernel
  rotate_left
  · rfl
  · rfl
  have h1 := h.next k1 s1
  have l1 : hi ≤ σ1.length := Nat.le_trans hh (k1.len s1)
  refine nxt ?_
  refine TS_assign (TE_callD ⟨c.fn' 23, rfl⟩ (TEs_cons (TE_var (v := .str k) rfl (TEs_nil (sWide c' ?_)))))
  refine midS (fun l τ => ∃ w : Nat, w ≤ 4 ∧ Sub ((S "wide", ni w) :: (S "kind", .str k) :: (S "lap", ni lap) :: uL s b F m) l ∧ NB s b hi τ t ∧ hi ≤ τ.length) ?_ fun l τ1 hq => ?_
  · refine TS_if (TB_cmp (TE_var rfl (TE_none (TO_is ⟨_, rfl, ?_⟩))))
    rcases wide10 hk with e | ⟨w, hw, e⟩
    · rw [e]
      refine br (b := true) (fun _ => ?_) fun q => nomatch q
      refine TSs_cons (TS_assign (nxC c rfl h1.stk fun y σ2 y0 y1 k2 s2 => TSs_nil ⟨rfl, y.toNat, by omega, ?_, h1.next k2 s2, Nat.le_trans l1 (k2.len s2)⟩))
      exact .cons (lk_self.trans (congrArg (fun k => some (V.int k)) (Int.toNat_of_nonneg y0).symm)) (.cons rfl (.cons rfl (.cons rfl (.cons rfl (.cons rfl (.cons rfl .nil))))))
    · rw [e]
      exact br (b := false) (fun q => nomatch q) fun _ => TSs_nil ⟨rfl, w, hw, Sub.refl _, h1, l1⟩
  obtain ⟨w, hw, sb, h3, l3⟩ := hq
  refine TSs.weak ?_ sb
  refine midS (fun l τ => ∃ w : Nat, w ≤ 5 ∧ Sub ((S "wide", ni w) :: (S "kind", .str k) :: (S "lap", ni lap) :: uL s b F m) l ∧ NB s b hi τ t ∧ hi ≤ τ.length) ?_ fun l' τ2 hq => ?_
  · refine TS_if (TB_cmp (nxC c rfl h3.stk fun y σ2 y0 y1 k2 s2 => TE_int (TO_intB (fun k => PyProof.Rows.eq_int k) ⟨_, rfl, br (fun _ => ?_) fun _ => ?_⟩)))
    · refine TSs_cons (TS_aug (v₀ := ni w) rfl (TE_int (TO_intI (fun k => PyProof.Rows.iadd_int k) (TSs_nil ⟨rfl, w + 1, by omega, ?_, h3.next k2 s2, Nat.le_trans l3 (k2.len s2)⟩))))
      exact .cons (lk_self.trans (congrArg (fun k => some (V.int k)) (Int.natCast_succ w).symm)) (.cons rfl (.cons rfl (.cons rfl (.cons rfl (.cons rfl (.cons rfl .nil))))))
    · exact TSs_nil ⟨rfl, w, by omega, Sub.refl _, h3.next k2 s2, Nat.le_trans l3 (k2.len s2)⟩
  obtain ⟨w', hw', sb', h4, l4⟩ := hq
  refine TSs.weak ?_ sb'
  refine TSs_cons (asg c' (v := .int (F + (lap : Int))) rfl ?_)
  refine midS (fun l τ => ∃ o : Int, (-1 ≤ o ∧ o ≤ t.cnt) ∧ Sub ((S "out", .int o) :: (S "wide", ni w') :: (S "kind", .str k) :: (S "lap", ni lap) :: uL s b F m) l ∧ NB s b hi τ t ∧ hi ≤ τ.length) ?_ fun l'' τ3 hq => ?_
  · refine TS_if (TB_cmp (nxC c rfl h4.stk fun y σ2 y0 y1 k2 s2 => TE_int (TO_intB (fun k => PyProof.Rows.eq_int k) ⟨_, rfl, br (fun _ => ?_) fun _ => ?_⟩)))
    · have h2 := h4.next k2 s2
      have hcn := d.cnt
      refine TSs_cons (TS_assign (TE_bin (nxE c rfl (TE_bin (at_ c' (loc := (S "out", .int (F + (lap : Int))) :: (S "wide", ni w') :: (S "kind", .str k) :: (S "lap", ni lap) :: uL s b F m) rfl h2.inst rfl (TE_int (TO_intI (fun k => PyProof.Rows.add_int k) ⟨t.cnt + 2, by omega, rfl, s2, fun z σ3 z0 z1 k3 s3 => ?_⟩)))))))
      refine TE_int (TO_intI (fun k => PyProof.Rows.sub_int' k) (TSs_nil ⟨rfl, z - 1, by omega, .cons rfl (.cons rfl (.cons rfl (.cons rfl (.cons rfl (.cons rfl (.cons rfl (.cons rfl .nil))))))), h2.next k3 s3, ?_⟩))
      exact Nat.le_trans l4 (Nat.le_trans (k2.len s2) (k3.len s3))
    · exact TSs_nil ⟨rfl, F + (lap : Int), by omega, Sub.refl _, h4.next k2 s2, Nat.le_trans l4 (k2.len s2)⟩
  obtain ⟨o, ho, sb'', h5, l5⟩ := hq
  refine TSs.weak ?_ sb''
  refine TSs_cons (new0 (nxt ?_))
  have h6 := h5.app (l := [O.list []])
  have f6 : (τ3 ++ [O.list []])[τ3.length]? = some (.list []) := getA
  have l6 : hi ≤ τ3.length := l5
  generalize τ3 ++ [O.list []] = τ4 at h6 f6
  generalize τ3.length = r at f6 l6 ⊢
  have hcn := d.cnt
  refine TS_for (src_rng (a := 0) (b := (w' : Int)) (by decide) (by decide) (by omega) (by omega)) (fun _ : Unit => (S "ins", .ref r) :: (S "out", .int o) :: (S "wide", ni w') :: (S "kind", .str k) :: (S "lap", ni lap) :: uL s b F m)
    (fun j _ τ => NB s b hi τ t ∧ ∃ is : List Int, τ[r]? = some (.list (is.map V.int)) ∧ is.length = j ∧ ∀ y ∈ is, 0 ≤ y ∧ y ≤ t.cnt + 1)
    (TE_callT c.rng (TEs_cons (TE_var rfl (TEs_nil (TO_range1 ⟨rfl, (), Sub.refl _, h6, [], f6, rfl, fun _ h => nomatch h⟩))))) (fun _ _ _ _ => trivial) (fun j v _ τ hv hj => ?_) fun _ τ hj => ?_
  · obtain ⟨hj', rfl⟩ := upto_at hv
    obtain ⟨g1, is, g2, g3, g4⟩ := hj
    have sb4 : Sub ((S "ins", .ref r) :: (S "out", .int o) :: (S "wide", ni w') :: (S "kind", .str k) :: (S "lap", ni lap) :: uL s b F m) ((S "spot", ni j) :: (S "ins", .ref r) :: (S "out", .int o) :: (S "wide", ni w') :: (S "kind", .str k) :: (S "lap", ni lap) :: uL s b F m) :=
      .cons rfl (.cons rfl (.cons rfl (.cons rfl (.cons rfl (.cons rfl (.cons rfl (.cons rfl (.cons rfl .nil))))))))
    have hz : (is.map V.int).length < sizeLine := by rw [List.length_map]; unfold sizeLine; omega
    have fin : ∀ (υ : List O) (y : Int), NB s b hi υ t → υ[r]? = some (.list (is.map V.int)) → 0 ≤ y → y ≤ t.cnt + 1 →
        NB s b hi (υ.set r (.list (is.map V.int ++ [V.int y]))) t ∧ ∃ is' : List Int, (υ.set r (.list (is.map V.int ++ [V.int y])))[r]? = some (.list (is'.map V.int)) ∧ is'.length = j + 1 ∧ ∀ y ∈ is', 0 ≤ y ∧ y ≤ t.cnt + 1 := fun υ y a e y0 y1 =>
      ⟨a.setX l6, is ++ [y], by rw [List.map_append]; exact getS e, by rw [List.length_append, g3]; rfl, fun z hz => by
        rcases List.mem_append.mp hz with hz | hz
        · exact g4 z hz
        · rw [List.mem_singleton.mp hz]; exact ⟨y0, y1⟩⟩
    refine TA_name (TSs_cons (TS_if (TB_cmp (nxC c rfl g1.stk fun y σ2 y0 y1 k2 s2 => TE_int (TO_intB (fun k => PyProof.Rows.eq_int k) ⟨_, rfl, br (fun _ => ?_) fun _ => ?_⟩)))))
    · have a2 := g1.next k2 s2
      have e2 := k2 _ _ (by omega) g2
      refine TSs_cons (TS_expr (TE_meth PySem.F.plainAttrs_list PySem.F.slot_list_append PySem.F.type_list_append (TE_var (v := .ref r) rfl ⟨ty_list e2, TEs_cons (TE_bin (at_ c' (loc := (S "spot", ni j) :: (S "ins", .ref r) :: (S "out", .int o) :: (S "wide", ni w') :: (S "kind", .str k) :: (S "lap", ni lap) :: uL s b F m) rfl a2.inst rfl ?_))⟩)))
      exact TE_int (TO_intI (fun k => PyProof.Rows.add_int k) (TEs_nil (TO_append e2 (TSs_nil (TSs_nil ⟨(), sb4, fin _ _ a2 e2 (by omega) (by omega)⟩)) hz)))
    · have a2 := g1.next k2 s2
      have e2 := k2 _ _ (by omega) g2
      refine TSs_cons (TS_expr (TE_meth PySem.F.plainAttrs_list PySem.F.slot_list_append PySem.F.type_list_append (TE_var (v := .ref r) rfl ⟨ty_list e2, TEs_cons (nxE c rfl (TE_bin (TE_var (v := .int F) rfl (TE_ite (TB_cmp (nxC c rfl a2.stk fun z σ3 z0 z1 k3 s3 => TE_int (TO_intB (fun k => PyProof.Rows.eq_int k) ⟨_, rfl, br (fun _ => ?_) fun _ => ?_⟩)))))))⟩)))
      · refine TE_var (v := ni m) rfl (TO_intI (fun k => PyProof.Rows.add_int k) ⟨F + (m : Int), by omega, rfl, s3, fun u σ4 u0 u1 k4 s4 => ?_⟩)
        have e4 := k4 _ _ (by omega) (k3 _ _ (by omega) e2)
        exact TEs_nil (TO_append e4 (TSs_nil (TSs_nil ⟨(), sb4, fin _ _ ((a2.next k3 s3).next k4 s4) e4 (by omega) (by omega)⟩)) hz)
      · refine TE_var (v := ni lap) rfl (TO_intI (fun k => PyProof.Rows.add_int k) ⟨F + (lap : Int), by omega, rfl, s3, fun u σ4 u0 u1 k4 s4 => ?_⟩)
        have e4 := k4 _ _ (by omega) (k3 _ _ (by omega) e2)
        exact TEs_nil (TO_append e4 (TSs_nil (TSs_nil ⟨(), sb4, fin _ _ ((a2.next k3 s3).next k4 s4) e4 (by omega) (by omega)⟩)) hz)
  rw [upto_len, Int.sub_zero, Int.toNat_natCast] at hj
  obtain ⟨g1, is, g2, g3, g4⟩ := hj
  have hr : r < τ.length := (List.getElem?_eq_some_iff.mp g2).1
  refine nxt (TS_expr (TE_callMe (TE_var rfl ⟨g1.inM c 6 (by decide), TEs_cons (TE_var (v := .int o) rfl (TEs_cons (TE_var (v := .str k) rfl (TEs_cons (TE_var (v := .ref r) rfl (TEs_cons ?_))))))⟩)))
  refine TE_callD ⟨c.fn' 24, rfl⟩ (TEs_cons (TE_var (v := .ref s) rfl (TEs_cons (TE_var (v := .str k) rfl (TEs_cons ?_)))))
  refine TE_bin (TE_str (TE_callT c.str (TEs_cons (TE_bin (nxC c rfl g1.stk fun y σ2 y0 y1 k2 s2 => TE_var (v := ni lap) rfl (TO_intI (fun k => PyProof.Rows.add_int k) (TEs_nil ?_)))))))
  have ha : y + (lap : Int) = ((y.toNat + lap : Nat) : Int) := by omega
  obtain ⟨n1, n2, n3⟩ := num10 (y.toNat + lap) (by omega)
  rw [ha]
  refine TO_strI ?_ (TO_addS ?_ n2 n3) n1
  · rw [Int.natAbs_natCast]
    exact Nat.lt_of_le_of_lt (Nat.log2_le_self _) (by omega)
  refine TEs_cons (TE_callB c.min (TEs_cons (TE_var (v := ni w') rfl (TEs_cons (TE_int (TEs_nil (TO_min ?_)))))))
  have hw : min (w' : Int) 2 = ((min w' 2 : Nat) : Int) := by omega
  rw [hw]
  refine TEs_nil (sParam c hk s2 (Nat.min_le_right _ _) fun v σ3 q1 q2 k3 s3 => TEs_nil ?_)
  have g5 := (g1.next k2 s2).next k3 s3
  have e5 := k3 _ _ (by omega) (k2 _ _ (by omega) g2)
  have l7 : hi ≤ σ3.length := Nat.le_trans (Nat.le_of_lt (Nat.lt_of_le_of_lt l6 hr)) (Nat.le_trans (k2.len s2) (k3.len s3))
  refine sDrive c g5 (by rw [d.cl]; omega) (x := ⟨k, o, is, v⟩) e5 fun g6 => TSs_nil (p _ _ hi ⟨k, o, is, v⟩ (.cons rfl (.cons rfl (.cons rfl (.cons rfl .nil)))) g6 ?_ ⟨hk, by rw [g3]; exact hw', g4, ho, q2, q1⟩)
  rw [List.length_set]; exact l7
end
end Mine
open PySem PySem.W PyProof.Rows PySem.Calls
set_option Elab.async false
set_option maxRecDepth 4000
namespace Mine
theorem Dok.cntUp {t : Net} (h : Dok t 0) {k : Int} (hk : t.cnt ≤ k ∧ k ≤ 20) : Dok { t with cnt := k } 0 := by
  refine ⟨h.ins, fun p hp => ⟨(h.ib p hp).1, fun y hy => ?_⟩, h.outs, fun p hp => ⟨(h.ob p hp).1, fun y hy => ?_⟩, h.cl, fun x hx => ?_, ?_⟩
  · have := (h.ib p hp).2 y hy; show 0 ≤ y ∧ y < k; omega
  · have := (h.ob p hp).2 y hy; show 0 ≤ y ∧ y < k; omega
  · have := List.length_eq_zero_iff.mp h.cl
    rw [this] at hx; cases hx
  · have := h.cnt; show 2 ≤ k ∧ k ≤ 20; omega
theorem Dok.addC {t : Net} {lap : Nat} (h : Dok t lap) {x : Cell} (c : Cok t.cnt x) : Dok { t with cells := t.cells ++ [x] } (lap + 1) := by
  refine ⟨h.ins, h.ib, h.outs, h.ob, ?_, fun y hy => ?_, h.cnt⟩
  · show (t.cells ++ [x]).length = _
    rw [List.length_append, h.cl]; rfl
  · rcases List.mem_append.mp hy with hy | hy
    · exact h.ci y hy
    · rw [List.mem_singleton.mp hy]; exact c
/-- what is drawn -/
def DokF (t : Net) : Prop := ∃ lap, lap ≤ 5 ∧ Dok t lap ∧ t.cnt ≤ 10
section
variable {cx : Cx} {n : Nat} {sc : Scope} {loc : Loc} {σ : List O} {P : V → List O → Prop} {Q : Fl → Loc → List O → Prop} {pos : Pos} {s b hi : Nat} {t : Net}
theorem sDrawn2 (c : TopOk cx) (h : NB s b hi σ t) (hh : hi ≤ σ.length) (d : Dok t 0) (ho : t.outs = []) (h5 : t.cnt ≤ 5) (p : ∀ σ' t, NetAt σ' (b + 1) t → DokF t → P (.ref (b + 1)) σ') : TSs cx (n + 3) (fn 25).scope (wL s b) σ tail5 (RetP P) := by
  have c' := c.toCxOk
  have dc := d.cnt
  refine TSs_cons ?_
  refine TS_assign (nxC c rfl h.stk fun x σ1 x0 x1 k1 s1 => ?_)
  obtain ⟨m, rfl⟩ := Int.eq_ofNat_of_zero_le x0
  have h1 := h.next k1 s1
  have l1 := Nat.le_trans hh (k1.len s1)
  refine nxt (TS_assign (at_ c' (loc := (S "many", ni m) :: wL s b) rfl h1.inst rfl (nxt ?_)))
  obtain ⟨w1, w2⟩ := c'.attr (S "count") (List.contains_iff_mem.mp rfl)
  refine TS_augAttr (TE_var rfl (TO_getAttr h1.inst w1 w2 rfl (TE_var (v := ni m) rfl (TO_intI (fun k => PyProof.Rows.iadd_int k) (TU_setAttr h1.inst w1 w2 ?_ (by show 5 ≤ sizeLine; decide))))))
  have h2 := h1.setC (k := t.cnt + (m : Int))
  have d2 := d.cntUp (k := t.cnt + (m : Int)) (by omega)
  have l2 : hi ≤ (σ1.set b (.ns (nsOf b (t.cnt + (m : Int))))).length := by rw [List.length_set]; exact l1
  show Then cx (n + 3) (fn 25).scope _ _ .next _ (σ1.set b (.ns (nsOf b (t.cnt + (m : Int)))))
  generalize σ1.set b (.ns (nsOf b (t.cnt + (m : Int)))) = σ2 at h2 l2
  refine nxt (TS_for (src_rng (a := 0) (b := (m : Int)) (by decide) (by decide) (by omega) (by omega)) (fun _ : Unit => uL s b t.cnt m)
    (fun lap _ τ => ∃ hi' t', NB s b hi' τ t' ∧ hi' ≤ τ.length ∧ Dok t' lap ∧ t'.outs = [] ∧ t'.cnt = t.cnt + (m : Int))
    (TE_callT c.rng (TEs_cons (TE_var rfl (TEs_nil (TO_range1 ⟨rfl, (), .cons rfl (.cons rfl (.cons rfl (.cons rfl .nil))), hi, _, h2, l2, d2, ho, rfl⟩))))) (fun _ _ _ _ => trivial) (fun lap v _ τ hv hq => ?_) fun _ τ hq => ?_)
  · obtain ⟨hl, rfl⟩ := upto_at hv
    obtain ⟨hi', t', g1, g2, g3, g4, g5⟩ := hq
    refine TA_name ?_
    refine @sTurn _ _ _ _ _ _ _ c _ _ _ g1 g2 g3 ⟨dc.1, h5⟩ (by omega) hl g5 _ fun l υ hi2 x sb q1 q2 ck => ?_
    exact ⟨(), sb, hi2, _, q1, q2, g3.addC ck, g4, g5⟩
  rw [upto_len, Int.sub_zero, Int.toNat_natCast] at hq
  obtain ⟨hi', t', g1, g2, g3, g4, g5⟩ := hq
  have c3 := g3.cnt
  refine nxt (TS_expr (TE_callMe (TE_var (v := .ref (b + 1)) rfl ⟨g1.inM c 4 (by decide), TEs_cons ?_⟩)))
  refine te_pick c (l := [S "o", S "o", S "o", S "a"]) rfl g1.stk rfl (by decide +kernel) (by decide) (by decide) (fun nm σ3 _ k3 s3 => ?_) rfl
  have h3 := g1.next k3 s3
  have l3 := Nat.le_trans g2 (k3.len s3)
  refine TEs_cons (TE_compE (TE_callT c.rng (TEs_cons (nxC c rfl h3.stk fun y σ4 y0 y1 k4 s4 => TEs_nil (TO_range1 ?_)))))
  obtain ⟨q, rfl⟩ := Int.eq_ofNat_of_zero_le y0
  have h4 := h3.next k4 s4
  have l4 := Nat.le_trans l3 (k4.len s4)
  refine ⟨upto 0 (q : Int), _, _, fun r i acc τ => NB s b hi' τ t' ∧ hi' ≤ r ∧ ∃ ys : List Int, acc = ys.map V.int ∧ τ[r]? = some (.list acc) ∧ (ys.length = i ∧ i ≤ q) ∧ ∀ y ∈ ys, 0 ≤ y ∧ y < t'.cnt, src_rng (a := 0) (b := (q : Int)) (by decide) (by decide) (by omega) (by omega), trivial,
    ⟨h4.app, l4, [], rfl, getA, ⟨rfl, Nat.zero_le _⟩, fun _ h => nomatch h⟩, fun r i acc τ h => ⟨trivial, ?_⟩, fun r i acc τ v hv h => TI_nil (br (b := true) (fun _ => ?_) fun q => nomatch q), fun r acc τ h => ?_⟩
  · obtain ⟨_, _, ys, rfl, e, w, _⟩ := h
    refine ⟨e, ?_⟩
    rw [List.length_map]; unfold sizeLine; omega
  · obtain ⟨hi2, rfl⟩ := upto_at hv
    obtain ⟨a1, a2, ys, rfl, e, w, bd⟩ := h
    have up := a1.up
    have sl := a1.sl
    refine nxE c rfl (at_ c' (x := S "netlist") (i := b + 1) (d := b) rfl a1.inst rfl ⟨t'.cnt, by omega, rfl, a1.stk, fun u σ5 u0 u1 k5 s5 => ?_⟩)
    have e5 := k5 _ _ (by omega) e
    refine ⟨e5, (a1.next k5 s5).setX a2, a2, ys ++ [u], by rw [List.map_append]; rfl, getS e5, ⟨by rw [List.length_append, w.1]; rfl, hi2⟩, fun z hz => ?_⟩
    rcases List.mem_append.mp hz with hz | hz
    · exact bd z hz
    · rw [List.mem_singleton.mp hz]; exact ⟨u0, u1⟩
  · obtain ⟨a1, a2, ys, rfl, e, w, bd⟩ := h
    rw [upto_len, Int.sub_zero, Int.toNat_natCast] at w
    refine TEs_nil (sAddO c a1 (Nat.le_trans a2 (Nat.le_of_lt (List.getElem?_eq_some_iff.mp e).1)) (by rw [g4]; decide) e fun hi3 σ6 g6 => nxt (rtn c' (v := .ref (b + 1)) rfl ?_))
    refine p _ _ g6.net ⟨m, by omega, ⟨g3.ins, g3.ib, ?_, fun pr hp => ?_, g3.cl, g3.ci, g3.cnt⟩, ?_⟩
    · show (t'.outs ++ _).length ≤ 1
      rw [g4]; exact Nat.le_refl _
    · have hp : pr ∈ t'.outs ++ [(nm, ys)] := hp
      rw [g4] at hp
      rw [List.mem_singleton.mp hp]
      exact ⟨by show ys.length ≤ 2; omega, bd⟩
    · show t'.cnt ≤ 10; omega
theorem sDrawn (c : TopOk cx) (hs : StkAt σ s) (p : ∀ N σ' t, NetAt σ' N t → DokF t → P (.ref N) σ') : TF cx (n + 3) (fn 25) [.ref s] σ P :=
  sDrawn1 c hs fun _ _ _ _ h1 h2 h3 h4 h5 => sDrawn2 c h1 h2 h3 h4 h5 fun σ' t a d => p _ _ _ a d
end
end Mine
open PySem PySem.W PyProof.Rows PySem.Calls
set_option Elab.async false
set_option maxRecDepth 4000
namespace Mine
noncomputable def gC (x : Cell) : Bool := @decide (PmB (x.i.map V.int).length x.k x.p true) (Classical.propDecidable _)
theorem Cok.wfk {cnt : Int} {x : Cell} (h : Cok cnt x) : WfK gC x := by
  refine ⟨⟨by rw [List.length_map]; exact Nat.le_trans h.il (by decide), ?_⟩, h.k⟩
  obtain ⟨b, hb⟩ := h.p (x.i.map V.int).length
  unfold gC
  by_cases q : PmB (x.i.map V.int).length x.k x.p true
  · rw [@decide_eq_true _ (Classical.propDecidable _) q]; exact q
  · rw [@decide_eq_false _ (Classical.propDecidable _) q]
    cases b with
    | true => exact absurd hb q
    | false => exact hb
theorem flat_le {α : Type} {f : α → List Int} {l : List α} {k : Nat} (h : ∀ x ∈ l, (f x).length ≤ k) : (l.flatMap f).length ≤ l.length * k := by
  have := flat_len (i := l.length) h
  rwa [List.take_length] at this
theorem DokF.sz {t : Net} (h : DokF t) : Sz3 t := by
  obtain ⟨lap, h5, d, hc⟩ := h
  have hn := d.cnt
  have li := d.ins
  have lo := d.outs
  have lc := d.cl
  have fi := flat_le (f := fun p : Str × List Int => p.2) (k := 2) fun p hp => (d.ib p hp).1
  have fo := flat_le (f := fun p : Str × List Int => p.2) (k := 2) fun p hp => (d.ob p hp).1
  have fc := flat_le (f := fun x : Cell => x.i) (k := 5) fun x hx => (d.ci x hx).il
  refine ⟨⟨?_, ?_⟩, ⟨by omega, by omega, by omega, fun p hp => Nat.le_trans (d.ib p hp).1 (by decide), fun p hp => Nat.le_trans (d.ob p hp).1 (by decide), fun x hx => Nat.le_trans (d.ci x hx).il (by decide), by omega, by omega⟩, ?_, fun x hx => ?_⟩
  · unfold made
    simp only [List.length_cons, List.length_append, List.length_map]; omega
  · unfold usedL
    simp only [List.length_append]; omega
  · rw [List.length_append]; omega
  · have e : ((t.cnt + 6).toNat : Int) = t.cnt + 6 := Int.toNat_of_nonneg (by omega)
    rw [e]
    rcases hx with hx | hx
    · unfold made at hx
      simp only [List.mem_cons, List.mem_append, List.mem_flatMap, List.mem_map] at hx
      rcases hx with rfl | rfl | ⟨p, hp, hy⟩ | ⟨c, hcc, rfl⟩
      · omega
      · omega
      · have := (d.ib p hp).2 x hy; omega
      · have := (d.ci c hcc).o; omega
    · unfold usedL at hx
      simp only [List.mem_append, List.mem_flatMap] at hx
      rcases hx with ⟨c, hcc, hy⟩ | ⟨p, hp, hy⟩
      · have := (d.ci c hcc).ib x hy; omega
      · have := (d.ob p hp).2 x hy; omega
section
variable {cx : Cx} {n : Nat} {sc : Scope} {loc : Loc} {σ : List O} {P : V → List O → Prop} {Q : Fl → Loc → List O → Prop} {pos : Pos}
theorem sLaw (c : TopOk cx) {ns : List Int} (hz : ns.length ≤ 1000) : TSs cx (n + 4) (fn 31).scope [(S "script", .inp ns)] σ (fn 31).body (RetP fun v _ => v = .bool true) := by
  refine TSs_cons (TS_assign (TE_callD ⟨c.fn' 25, rfl⟩ (TEs_cons (TE_callD ⟨c.fn' 21, rfl⟩ (TEs_cons (TE_var rfl (TEs_nil (sStock c hz fun σ1 r _ s1 => TEs_nil (sDrawn c s1 fun N σ2 t h d => ?_)))))))))
  obtain ⟨lap, h5, d', hc⟩ := d
  have d : DokF t := ⟨lap, h5, d', hc⟩
  exact sTail c h (fun x hx => (d'.ci x hx).wfk) (fun x hx => (d'.ci x hx).okv) d.sz
end
end Mine
open PySem PySem.W PyProof.Rows
set_option Elab.async false
set_option maxRecDepth 100000
namespace Mine
noncomputable def view : Program := { PySem.Challenge.pw_on0111_01 with main := { PySem.Challenge.pw_on0111_01.main with body := ((PySem.Challenge.pw_on0111_01.main.body.eraseIdx 20).eraseIdx 4).eraseIdx 1 } }
set_option maxHeartbeats 8000000 in
theorem hl : LeftO PySem.Challenge.pw_on0111_01 view [Str.ofString "GateloomError"] (fun s => xlAt view [] s && recOk (RowW.records (OpenRow.toRowW PySem.Challenge.rw_on0111_01.row)) s) (Hook.obs Hook.none) (Hook.val Hook.none) 3602 := by
  intro w
  unfold openEnds fencedOpening topFrom
  simp only [PySem.W.Fast.te10274390034422433532, PySem.W.Fast.te14082659384304107361, PySem.W.Fast.te14289696077712309145, PySem.W.Fast.te4187177175401517315, PySem.W.Fast.te5923862056798008813, PySem.W.Fast.te14364793385576792824]
  kernel_rfl
end Mine
open PySem PySem.W PyProof.Rows PySem.Calls
set_option Elab.async false
set_option maxRecDepth 100000
namespace Mine
abbrev lsN : List Str := [Str.ofString "GateloomError"]
noncomputable def cN : ClsRec := ((dclssOf view lsN)[0]?).getD ⟨"", none, [], [], 0, []⟩
theorem cN_mem : cN ∈ dclssOf view lsN := List.mem_of_getElem? (i := 0) (by kernel_rfl)
theorem cN_name : cN.name = S "Netlist" := by kernel_rfl
theorem recs_are : recsOf view = [fn 0, fn 7, fn 8, fn 10, fn 11, fn 12, fn 13, fn 14, fn 15, fn 16, fn 17, fn 18, fn 19, fn 21, fn 22, fn 23, fn 24, fn 25, fn 26, fn 27, fn 28, fn 29, fn 30, fn 31] := by kernel_rfl
section
variable {mg mb : Str → Option Value} {h : Heap} {mean : ExcName → Option Value} {C : Addr} {w : World} {G : Array GenState} {os : OsState}
noncomputable abbrev mkCx (w : World) (mean : ExcName → Option Value) (mg mb : Str → Option Value) (h : Heap) (G : Array GenState) (os : OsState) (C : Addr) : Cx := ⟨PySem.Challenge.pw_on0111_01, w, cN, view, looseW view lsN, mean, mg, mb, h, G, os, C⟩
theorem bi_of (T : Top view (looseW view lsN) mean mg mb h) {x : Str} {v : Value} (hv : bootBuiltins x = some v) (n : (x != Str.ofString "__name__") = true) (f : (!startupNames.contains x && !(looseW view lsN).contains x && !((recsOf view).map (·.name)).contains x && !((litsOf view).map (·.1)).contains x && !((clssOf view (looseW view lsN)).map (·.name)).contains x) = true) : mg x = none ∧ mb x = some v := by
  simp only [Bool.and_eq_true, Bool.not_eq_true', List.contains_eq_mem, decide_eq_false_iff_not] at f
  exact ⟨T.free x f.1.1.1.1 f.1.1.1.2 f.1.1.2 f.1.2 f.2, (T.builtins x (bne_iff_ne.mp n)).trans hv⟩
theorem int_of (T : Top view (looseW view lsN) mean mg mb h) {x : Str} {i : Int} (hv : valOf view x = some (.int i)) : ∃ t, mg x = some (.int i t) := by
  obtain ⟨v, e, r⟩ := T.const x _ hv
  have := r h
  cases this with
  | int _ t => exact ⟨t, e⟩
theorem mkTop (T : Top view (looseW view lsN) mean mg mb h) (hC : mg cN.name = some (.ref C)) : TopOk (mkCx w mean mg mb h G os C) where
  attr a ha := by
    simp only [attrNames, List.mem_cons, List.not_mem_nil, or_false] at ha
    rcases ha with rfl | rfl | rfl | rfl | rfl
    all_goals exact ⟨by show cN.statics.contains _ = true; decide +kernel, by rfl⟩
  len := bi_of T (by rfl) (by decide +kernel) (by decide +kernel)
  rng := bi_of T (by rfl) (by decide +kernel) (by decide +kernel)
  str := bi_of T (by rfl) (by decide +kernel) (by decide +kernel)
  lst := bi_of T (by rfl) (by decide +kernel) (by decide +kernel)
  tup := bi_of T (by rfl) (by decide +kernel) (by decide +kernel)
  min := bi_of T (by rfl) (by decide +kernel) (by decide +kernel)
  srt := bi_of T (by rfl) (by decide +kernel) (by decide +kernel)
  c0 := int_of T (by kernel_rfl)
  c1 := int_of T (by kernel_rfl)
  cls := by have := hC; rw [cN_name] at this; exact this
  fns k h1 h2 h3 h4 := by
    show fn k ∈ recsOf view
    rw [recs_are]
    have : k = 7 ∨ k = 8 ∨ k = 10 ∨ k = 11 ∨ k = 12 ∨ k = 13 ∨ k = 14 ∨ k = 15 ∨ k = 16 ∨ k = 17 ∨ k = 18 ∨ k = 19 ∨ k = 21 ∨ k = 22 ∨ k = 23 ∨ k = 24 ∨ k = 25 ∨ k = 26 ∨ k = 27 ∨ k = 28 ∨ k = 29 ∨ k = 30 ∨ k = 31 := by omega
    rcases this with rfl | rfl | rfl | rfl | rfl | rfl | rfl | rfl | rfl | rfl | rfl | rfl | rfl | rfl | rfl | rfl | rfl | rfl | rfl | rfl | rfl | rfl | rfl <;> simp only [List.mem_cons, true_or, or_true]
  mts k h1 := by
    show cN.meths.find? _ = _
    have : k = 0 ∨ k = 1 ∨ k = 2 ∨ k = 3 ∨ k = 4 ∨ k = 5 ∨ k = 6 ∨ k = 7 ∨ k = 8 := by omega
    rcases this with rfl | rfl | rfl | rfl | rfl | rfl | rfl | rfl | rfl
    all_goals kernel_rfl
  mno k h1 h0 := by
    have : k = 1 ∨ k = 2 ∨ k = 3 ∨ k = 4 ∨ k = 5 ∨ k = 6 ∨ k = 7 ∨ k = 8 := by omega
    rcases this with rfl | rfl | rfl | rfl | rfl | rfl | rfl | rfl
    all_goals rfl
end
end Mine
open PySem PySem.W PyProof.Rows PySem.Calls
set_option Elab.async false
set_option maxRecDepth 100000
namespace Mine
theorem sRun {w : World} {s₁ : Shared} {mean : ExcName → Option Value} {mg mb : Str → Option Value} {fa la C N : Addr} {o : Obj} {pm cd doc : Value} {mN : Str → Option Value} {vs : List Value} {ns : List Int}
    (T : Top view (looseW view lsN) mean mg mb s₁.heap) (hC : mg cN.name = some (.ref C)) (P : PlainAtD s₁.heap cN C N mN)
    (ho : s₁.heap.get? fa = some o) (hd : o.data = .func (docDef (fn 31).name (fn 31).params (fn 31).body (fn 31).scope pm cd doc)) (hcd : s₁.heap.CodeRec cd (fn 31).name)
    (hl : s₁.heap.IsList la vs.toArray) (hi : IntsAre vs ns) (hz : ns.length ≤ 1000)
    {R : Result → Shared → Prop} (hR : ∀ s', (∀ b o, s₁.heap.get? b = some o → s'.heap.get? b = some o) → s'.os = s₁.os → s'.gens = s₁.gens → R (.ok (.ret (.bool true))) s') :
    codeAny (model PySem.Challenge.pw_on0111_01 w) callerA (.call (.ref fa) ⟨[.ref la], []⟩) R s₁ := by
  have c := mkTop (w := w) (G := s₁.gens) (os := s₁.os) T hC
  refine call_fullW (dV := .none) (kV := .none) (binds := [(S "script", .ref la)]) (by decide) ho hd T.nolimit hcd (BindsTo.of_eq rfl) (fun x hx => ?_) fun h₁ F => ?_
  · rw [List.mem_singleton.mp hx]; rfl
  have nz : s₁.heap.get? s₁.heap.objs.size = none := fresh
  let env := envOf (fn 31).name (fn 31).scope s₁.heap.objs.size fa cd
  let f : Frm := { A := callerA.deeper env, h₀ := s₁.heap, L := s₁.heap.objs.size, fenv := env, outer := [] }
  have fo : FrOk (mkCx w mean mg mb s₁.heap s₁.gens s₁.os C) f 4 :=
  { below := ⟨callerA, below_caller s₁.heap⟩
    top := T
    cls := ⟨N, mN, P⟩
    frames := Around.frames_deeper (below_caller s₁.heap).stack
    fframe := rfl
    fkind := rfl
    handled := rfl
    depth := by show 301 + 1 + 4 * 4 + 4 < recursionLimit; decide
    units := by show callerA.units + 3 + 40 * 4 + 400 < cLine; decide +kernel }
  have eo : EnvOk env (fn 31).scope := ⟨rfl, rfl, rfl, rfl⟩
  have hc : ∀ x ∈ (fn 31).scope.names, x.2 ≠ .cell := by decide +kernel
  have S1 : St (mkCx w mean mg mb s₁.heap s₁.gens s₁.os C) f env [] [] [(S "script", .inp ns)] { s₁ with heap := h₁, toks := s₁.toks + 1 } :=
  { fr := ⟨_, F⟩
    lns := ⟨_, F.ns⟩
    big := fun i o a e => by cases e
    len := rfl
    nodup := List.nodup_nil
    out := fun a h => by cases h
    rep := fun i o a e => by cases e
    notL := fun h => by cases h
    notE := fun h => by cases h
    vars := fun x v e => by
      simp only [lk] at e
      split at e
      · rename_i q; subst q; cases e
        exact ⟨.ref la, ⟨_, F.ns, rfl⟩, .inp hl hi⟩
      · cases e
    cells := fun x c e => by cases e
    ckind := fun x e => absurd rfl (hc _ (mem_of_lookup_some e))
    cnot := fun x c e => by cases e
    cinj := fun x y c e => by cases e
    lout := nz
    gens := rfl
    os := rfl }
  refine wpAny_mono (sLaw c (n := 0) hz f env [] _ fo eo S1) (fun x s2 q => ?_) fun _ _ e => e.elim
  obtain ⟨fl, loc2, σ2, ρ2, hp, ks, S2, fr⟩ := q
  have kp : ∀ b o, s₁.heap.get? b = some o → s2.heap.get? b = some o := fun b o e => ks.all b o (fun h => by cases h) (fun z => by
    have z : b = s₁.heap.objs.size := z
    rw [z, nz] at e; cases e) (fun x e => by cases e) (F.keep b o e)
  cases fl with
  | ret v =>
    obtain rfl : v = .bool true := hp
    cases x <;> first | exact fr.elim | skip
    rw [VR.boolE fr]
    exact hR _ kp S2.os S2.gens
  | next => cases hp
  | brk => exact hp.elim
  | cont => exact hp.elim
end Mine
open PySem PySem.W PyProof.Rows PySem.Calls
set_option Elab.async false
set_option maxRecDepth 100000 in
set_option maxHeartbeats 8000000 in
theorem PySem.Challenge.cw_on0111_01_holds : PySem.Challenge.rw_on0111_01.Holds := by
  (w_on; o_law)
  refine holds_open (q := Mine.view) (loose := [Str.ofString "GateloomError"]) (Xt := fun s => xlAt Mine.view [] s && recOk (RowW.records (OpenRow.toRowW PySem.Challenge.rw_on0111_01.row)) s) (XP := XL Mine.view []) (Yf := Hook.obs Hook.none) (Ya := Hook.val Hook.none) (YP := Hook.says Hook.none) (N := 3602) Mine.hl (Hook.of Hook.none) (Hook.keeps Hook.none) (fun s e => xl_of s (Bool.and_eq_true_iff.mp e).1) XL.keeps (by rfl) (by rfl) (by rfl) (fun s e => recFacts_of (Bool.and_eq_true_iff.mp e).2) (by rfl) (by first | assumption | decide +kernel) (by decide +kernel) ⟨rfl, rfl, rfl, rfl, rfl, by decide +kernel⟩ ?hw ?hc
  case hw => w_witness2
  case hc =>
    intro w s₀ s₁ mg mb G Y fa o pm cd doc dV kV ho hd hcd hD hmg hg args vals as hpre hlay hrd hwl hlo
    have he := Dflts.none hD rfl
    subst he
    have he := Dflts.noKw hD
    subst he
    obtain ⟨C, N, mN, hC, P⟩ := G.TD _ Mine.cN_mem
    clear hmg hD
    wrow_args hpre hlay hrd hwl hlo
    rename_i ns _ _ _ _ _ _ _ la vs _ hL _ _ _ hI _ hz _
    refine enter_call ?_
    refine Mine.sRun G.T hC P ho hd hcd hL hI (by omega) fun s' k os gs => ?_
    refine GoodW.toG ⟨.inl ⟨.bool true, .bool true, [], rfl, fun cls => ?_, .bool true, ?_, fun _ => ⟨List.nodup_nil, fun a h => by cases h⟩⟩, k, os, gs.trans hg⟩
    · rfl
    · exact postW_of (by wrow_shape) (by wtm_val) (by w_fin)
