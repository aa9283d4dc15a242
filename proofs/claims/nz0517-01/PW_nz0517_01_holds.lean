import PyProof.Rows.All
import Wide.All
import OpenK.AllK
import Wide.FinOn
import PySem.Challenge.RW_nz0517_01
open PySem PySem.W PyProof.Rows PySem.Calls PySem.Spec
set_option Elab.async false
namespace Mine

/-- a value without its identity token -/
inductive V where
  | none
  | bool (b : Bool)
  | int (i : Int)
  | str (s : Str)
  | ref (a : Addr)
  | other

def er : Value → V
  | .none => .none
  | .bool b => .bool b
  | .int i _ => .int i
  | .str s _ => .str s
  | .ref a => .ref a
  | _ => .other

theorem er_none {v : Value} (h : er v = .none) : v = .none := by cases v <;> first | rfl | cases h
theorem er_bool {v : Value} {b : Bool} (h : er v = .bool b) : v = .bool b := by cases v <;> cases h; rfl
theorem er_int {v : Value} {i : Int} (h : er v = .int i) : ∃ t, v = .int i t := by cases v <;> cases h; exact ⟨_, rfl⟩
theorem er_str {v : Value} {i : Str} (h : er v = .str i) : ∃ t, v = .str i t := by cases v <;> cases h; exact ⟨_, rfl⟩
theorem er_ref {v : Value} {a : Addr} (h : er v = .ref a) : v = .ref a := by cases v <;> cases h; rfl

/-- what an object is, without tokens -/
inductive AO where
  | list (xs : List V)
  | tup (xs : List V)
  | sdict (kvs : List (Str × V)) (ep : Nat)
  | idict (kvs : List (Int × V)) (ep : Nat)
  | inst (C d : Addr)
  | attrs (kvs : List (Str × V))
  | range (n : Nat)

abbrev St := Addr → Option AO
abbrev Loc := Str → Option V

structure Base where
  prog : Program
  w : World
  s₀ : Shared
  K : Frag
  mg : Str → Option Value
  mb : Str → Option Value
  ro : Addr → Option AO
  C : Addr

def erP {α : Type} (p : α × Value) : α × V := (p.1, er p.2)

def RepO (B : Base) : AO → Obj → Prop
  | .list xs, o => ∃ items n, o = { cls := .type "list", dict := none, data := .seq items n, slots := #[] } ∧ items.toList.map er = xs
  | .tup xs, o => ∃ items n, o = { cls := .type "tuple", dict := none, data := .seq items n, slots := #[] } ∧ items.toList.map er = xs
  | .sdict kvs ep, o => ∃ es kvs', o.ExactDict ∧ o.data = .dict es ep ∧ KeysOf (strKind B.prog B.w) es ∧ Pairs (strKind B.prog B.w) es.toList kvs' ∧ (kvs'.map (·.1)).Nodup ∧ kvs'.map erP = kvs
  | .idict kvs ep, o => ∃ es kvs', o.ExactDict ∧ o.data = .dict es ep ∧ KeysOf (intKind B.prog B.w) es ∧ Pairs (intKind B.prog B.w) es.toList kvs' ∧ (kvs'.map (·.1)).Nodup ∧ kvs'.map erP = kvs
  | .inst C d, o => o = { cls := .ref C, dict := some d, data := .plain, slots := #[] }
  | .attrs kvs, o => ∃ es n, o = dictOf es n ∧ Paired (fun (e : DictEntry) (kv : Str × V) => (∃ t, e.key = .str kv.1 t) ∧ er e.val = kv.2) es kvs
  | .range k, o => ∃ t u v, o = { cls := .type "range", dict := none, data := .fields #[.int 0 t, .int k u, .int 1 v], slots := #[] }

/-- the defaults of a def -/
def DefOk (B : Base) (dV : Value) (dv : List V) : Prop := (dV = .none ∧ dv = []) ∨ ∃ T o items n, dV = .ref T ∧ B.s₀.heap.get? T = some o ∧ o.data = .seq items n ∧ items.toList.map er = dv ∧ dv ≠ []
/-- a def, at its address -/
structure FnA (B : Base) (fa : Addr) (name qual : Str) (params : Arguments) (body : List Stmt) (scope : Scope) (dv : List V) : Prop where
  at_ : ∃ oc od osl dV kV doc pm an cdv ct, B.s₀.heap.get? fa = some ⟨oc, od, .func (fnX name qual params body scope [] dV kV doc pm an cdv ct), osl⟩ ∧
    B.s₀.heap.CodeRec cdv qual ∧ DefOk B dV dv
  keepy : keepIn B.K (.ref fa) = true
/-- where the defs stand -/
structure FnAt (B : Base) (f : Str) (params : Arguments) (body : List Stmt) (scope : Scope) (dv : List V) : Prop where
  at_ : ∃ fa, B.mg f = some (.ref fa) ∧ FnA B fa f f params body scope dv

def bnames : List Str := ["len", "range", "max", "abs", "int", "str", "list", "isinstance", "dict"]
def anames : List Str := ["kind", "items", "attrs", "shared", "loose"]
/-- the class Vector -/
structure VecOk (B : Base) : Prop where
  g : B.mg "Vector" = some (.ref B.C)
  makes : makesIn B.K B.C = true
  keepC : keepIn B.K (.ref B.C) = true
  setattr : findIn B.K (.ref B.C) "__setattr__" = some (some (.builtin "object.__setattr__"))
  over : plainOver B.K B.C = true
  hasDict : hasDictIn B.K B.C = true
  get : plainGet B.K B.C "kind" = true
  attr : ∀ x, anames.contains x = true → findIn B.K (.ref B.C) x = some none
  taker : ∀ x, anames.contains x = true → takerIn B.K B.C x = some none
  inst : isIn B.K (.ref B.C) B.C = true
structure BOk (B : Base) : Prop where
  vec : VecOk B
  bn : ∀ x, bnames.contains x = true → B.mg x = none
  g : B.s₀.heap.Ns mainGlobals B.mg
  b : B.s₀.heap.Ns builtinsNs B.mb
  nolimit : B.s₀.heap.NoLimit
  builtins : ∀ x : Str, x ≠ "__name__" → B.mb x = bootBuiltins x
  kin : B.K.In B.s₀.heap
  ro : ∀ a o, B.ro a = some o → ∃ ob, B.s₀.heap.get? a = some ob ∧ RepO B o ob

structure Sh (B : Base) (σ : St) (s : Shared) : Prop where
  ok : BOk B
  same : ∃ h tk, s = { B.s₀ with heap := h, toks := tk }
  base : ∀ b o, B.s₀.heap.get? b = some o → s.heap.get? b = some o
  off : ∀ b, σ b ≠ none → B.s₀.heap.get? b = none
  hi : ∀ b, σ b ≠ none → cStatics < b
  objs : ∀ a o, σ a = some o → ∃ ob, s.heap.get? a = some ob ∧ RepO B o ob

structure Mv (σ σ' : St) (h h' : Heap) : Prop where
  keep : ∀ b o, h.get? b = some o → σ b = none → h'.get? b = some o
  fresh : ∀ b, σ' b ≠ none → σ b = none → h.get? b = none

theorem Mv.refl (σ : St) (h : Heap) : Mv σ σ h h := ⟨fun _ _ e _ => e, fun _ h1 h2 => absurd h2 h1⟩
theorem Mv.trans {σ σ₁ σ₂ : St} {h h₁ h₂ : Heap} (x : Mv σ σ₁ h h₁) (y : Mv σ₁ σ₂ h₁ h₂) : Mv σ σ₂ h h₂ := by
  have key : ∀ b o, h.get? b = some o → σ b = none → σ₁ b = none := fun b o e hn => by
    cases q : σ₁ b with
    | none => rfl
    | some v => have := x.fresh b (by rw [q]; exact Option.some_ne_none _) hn; rw [e] at this; cases this
  refine ⟨fun b o e hn => y.keep b o (x.keep b o e hn) (key b o e hn), fun b h2 hn => ?_⟩
  cases q : h.get? b with
  | none => rfl
  | some o =>
    have := y.fresh b h2 (key b o q hn)
    rw [x.keep b o q hn] at this
    cases this
theorem Mv.of_keeps {σ : St} {h h' : Heap} (k : ∀ b o, h.get? b = some o → h'.get? b = some o) : Mv σ σ h h' := ⟨fun b o e _ => k b o e, fun _ h1 h2 => absurd h2 h1⟩

def upd (σ : St) (a : Addr) (o : AO) : St := fun b => if b = a then some o else σ b
theorem upd_self (σ : St) (a : Addr) (o : AO) : upd σ a o a = some o := by simp [upd]
theorem upd_ne {σ : St} {a b : Addr} {o : AO} (h : b ≠ a) : upd σ a o b = σ b := by simp [upd, h]

/-- reading: of what was made, or of what stood before -/
def rd (B : Base) (σ : St) (a : Addr) (o : AO) : Prop := σ a = some o ∨ B.ro a = some o
theorem rd.of {B : Base} {σ : St} {a : Addr} {o : AO} (h : σ a = some o) : rd B σ a o := .inl h

section
variable {B : Base} {σ : St} {s : Shared}
theorem Sh.get (S : Sh B σ s) {a : Addr} {o : AO} (h : rd B σ a o) : ∃ ob, s.heap.get? a = some ob ∧ RepO B o ob := by
  rcases h with h | h
  · exact S.objs a o h
  · obtain ⟨ob, h1, h2⟩ := S.ok.ro a o h
    exact ⟨ob, S.base _ _ h1, h2⟩
theorem Sh.kin (S : Sh B σ s) : B.K.In s.heap := S.ok.kin.keeps S.base
theorem Sh.tk (S : Sh B σ s) (n : Nat) : Sh B σ { s with toks := n } := ⟨S.ok, by obtain ⟨h, tk, rfl⟩ := S.same; exact ⟨h, n, rfl⟩, S.base, S.off, S.hi, S.objs⟩
/-- a heap that keeps all -/
theorem Sh.keeps (S : Sh B σ s) {h : Heap} {n : Nat} (k : ∀ b o, s.heap.get? b = some o → h.get? b = some o) : Sh B σ { s with heap := h, toks := n } :=
  ⟨S.ok, by obtain ⟨_, _, rfl⟩ := S.same; exact ⟨h, n, rfl⟩, fun b o e => k b o (S.base b o e), S.off, S.hi, fun a o e => let ⟨ob, h1, h2⟩ := S.objs a o e; ⟨ob, k _ _ h1, h2⟩⟩
theorem Sh.none_of_fresh (S : Sh B σ s) {a : Addr} (h : s.heap.get? a = none) : σ a = none := by
  cases q : σ a with
  | none => rfl
  | some o => obtain ⟨ob, h1, _⟩ := S.objs a o q; rw [h] at h1; cases h1
theorem Sh.size_none (S : Sh B σ s) : σ s.heap.objs.size = none := by
  refine S.none_of_fresh ?_
  cases q : s.heap.get? s.heap.objs.size with
  | none => rfl
  | some o => exact absurd (Heap.lt_size q) (Nat.lt_irrefl _)
theorem Sh.hiSize (S : Sh B σ s) : cStatics < s.heap.objs.size := by
  obtain ⟨mc, hn, _⟩ := S.ok.nolimit.keeps S.base
  exact hn.lt
/-- one object more -/
theorem Sh.more (S : Sh B σ s) {h : Heap} {n : Nat} {a : Addr} {ob : Obj} {o : AO} (k : ∀ b o, s.heap.get? b = some o → h.get? b = some o) (hf : s.heap.get? a = none) (hc : cStatics < a)
    (ha : h.get? a = some ob) (hr : RepO B o ob) : Sh B (upd σ a o) { s with heap := h, toks := n } ∧ Mv σ (upd σ a o) s.heap h := by
  refine ⟨⟨S.ok, by obtain ⟨_, _, rfl⟩ := S.same; exact ⟨h, n, rfl⟩, fun b o e => k b o (S.base b o e), fun b hb => ?_, fun b hb => ?_, fun b o' e => ?_⟩, ⟨fun b o e _ => k b o e, fun b h1 h2 => ?_⟩⟩
  · by_cases e : b = a
    · subst e
      cases q : B.s₀.heap.get? b with
      | none => rfl
      | some o => have := S.base _ _ q; rw [hf] at this; cases this
    · rw [upd_ne e] at hb; exact S.off b hb
  · by_cases e : b = a
    · subst e; exact hc
    · rw [upd_ne e] at hb; exact S.hi b hb
  · by_cases q : b = a
    · subst q; rw [upd_self] at e; cases e; exact ⟨ob, ha, hr⟩
    · rw [upd_ne q] at e; obtain ⟨ob', h1, h2⟩ := S.objs b o' e; exact ⟨ob', k _ _ h1, h2⟩
  · by_cases e : b = a
    · subst e; exact hf
    · rw [upd_ne e] at h1; exact absurd h2 h1
theorem Sh.push (S : Sh B σ s) {n : Nat} {ob : Obj} {o : AO} (hr : RepO B o ob) (hfree : ob.isFreed = false) :
    Sh B (upd σ s.heap.objs.size o) { s with heap := s.heap.push ob, toks := n } ∧ Mv σ (upd σ s.heap.objs.size o) s.heap (s.heap.push ob) :=
  S.more (fun b o e => Heap.get?_push_of_some _ e) (by
    cases q : s.heap.get? s.heap.objs.size with
    | none => rfl
    | some o => exact absurd (Heap.lt_size q) (Nat.lt_irrefl _)) S.hiSize (Heap.get?_push_size _ hfree) hr
/-- one object turned -/
theorem Sh.turn (S : Sh B σ s) {h : Heap} {n : Nat} {a : Addr} {ob : Obj} {o : AO} (hin : σ a ≠ none) (k : ∀ b o, b ≠ a → s.heap.get? b = some o → h.get? b = some o)
    (ha : h.get? a = some ob) (hr : RepO B o ob) : Sh B (upd σ a o) { s with heap := h, toks := n } ∧ Mv σ (upd σ a o) s.heap h := by
  refine ⟨⟨S.ok, by obtain ⟨_, _, rfl⟩ := S.same; exact ⟨h, n, rfl⟩, fun b o e => k b o (fun q => ?_) (S.base b o e), fun b hb => ?_, fun b hb => ?_, fun b o' e => ?_⟩, ⟨fun b o e hn => k b o (fun q => hin (q ▸ hn)) e, fun b h1 h2 => ?_⟩⟩
  · have := S.off a hin; rw [← q, e] at this; cases this
  · by_cases e : b = a
    · subst e; exact S.off b hin
    · rw [upd_ne e] at hb; exact S.off b hb
  · by_cases e : b = a
    · subst e; exact S.hi b hin
    · rw [upd_ne e] at hb; exact S.hi b hb
  · by_cases q : b = a
    · subst q; rw [upd_self] at e; cases e; exact ⟨ob, ha, hr⟩
    · rw [upd_ne q] at e; obtain ⟨ob', h1, h2⟩ := S.objs b o' e; exact ⟨ob', k _ _ q h1, h2⟩
  · by_cases e : b = a
    · subst e; exact absurd h2 hin
    · rw [upd_ne e] at h1; exact absurd h2 h1
end

structure AOk (A : Around) (n : Nat) : Prop where
  hand : A.handled = none
  gu : A.guards = some []
  depth : A.depth + n < recursionLimit
  units : A.units + 10 * n + 200 < cLine

structure EnvOk (sc : Scope) (env : Env) : Prop where
  scp : env.scope = sc
  g : env.globals = mainGlobals
  b : env.builtins = builtinsNs
  k : sc.kind = .function

def kOf (sc : Scope) (x : Str) : Option NameKind := sc.names.lookup x

structure LocR (B : Base) (env : Env) (m : Loc) (σ : St) (h : Heap) : Prop where
  ns : ∃ mv, h.Ns env.locals mv ∧ ∀ x, env.kindOf x = some .local → (mv x).map er = m x
  lo : σ env.locals = none
  cell : ∀ x, env.kindOf x = some .cell → ∃ c vo, env.cells.lookup x = some c ∧ h.IsCell c vo ∧ vo.map er = m x ∧ σ c = none
  base : B.s₀.heap.get? env.locals = none
  cb : ∀ x c, env.cells.lookup x = some c → B.s₀.heap.get? c = none ∧ σ c = none ∧ c ≠ env.locals ∧ ∃ vo, h.IsCell c vo
  inj : ∀ x y c, env.cells.lookup x = some c → env.cells.lookup y = some c → x = y

theorem LocR.mv {B : Base} {env : Env} {m : Loc} {σ σ' : St} {h h' : Heap} (L : LocR B env m σ h) (x : Mv σ σ' h h') : LocR B env m σ' h' := by
  have key : ∀ b o, h.get? b = some o → σ b = none → σ' b = none := fun b o e hn => by
    cases q : σ' b with
    | none => rfl
    | some v => have := x.fresh b (by rw [q]; exact Option.some_ne_none _) hn; rw [e] at this; cases this
  obtain ⟨mv, ⟨o, es, ep, ho, r⟩, hm⟩ := L.ns
  refine ⟨⟨mv, ⟨o, es, ep, x.keep _ _ ho L.lo, r⟩, hm⟩, key _ _ ho L.lo, fun y hy => ?_, L.base, fun y c hc => ?_, L.inj⟩
  · obtain ⟨c, vo, h1, ⟨oc, h2, h3⟩, h4, h5⟩ := L.cell y hy
    exact ⟨c, vo, h1, ⟨oc, x.keep _ _ h2 h5, h3⟩, h4, key _ _ h2 h5⟩
  · obtain ⟨h1, h2, h3, vo, o, h4, h5⟩ := L.cb y c hc
    exact ⟨h1, key _ _ h4 h2, h3, vo, o, x.keep _ _ h4 h2, h5⟩

/-- a tree from a state: what was made is told by σ', the rest stands -/
structure J {α : Type} (B : Base) (A : Around) (tr : Sem α) (σ : St) (s : Shared) (Q : α → St → Shared → Prop) : Prop where
  run : wpAny (model B.prog B.w) A tr (fun a s' => ∃ σ', Sh B σ' s' ∧ Mv σ σ' s.heap s'.heap ∧ Q a σ' s') (fun _ _ => False) s

section
variable {α β : Type} {B : Base} {A : Around} {σ : St} {s : Shared}
theorem J.mono {t : Sem α} {Q Q' : α → St → Shared → Prop} (h : J B A t σ s Q) (hq : ∀ a σ' s', Sh B σ' s' → Mv σ σ' s.heap s'.heap → Q a σ' s' → Q' a σ' s') : J B A t σ s Q' :=
  ⟨wpAny_mono h.run (fun _ _ ⟨σ', S, M, q⟩ => ⟨σ', S, M, hq _ _ _ S M q⟩) fun _ _ e => e⟩
theorem J.to {t : Sem α} {Q : α → St → Shared → Prop} {T : α → Shared → Prop} (h : J B A t σ s Q) (k : ∀ a σ₁ s₁, Sh B σ₁ s₁ → Mv σ σ₁ s.heap s₁.heap → Q a σ₁ s₁ → T a s₁) : wpAny (model B.prog B.w) A t T (fun _ _ => False) s :=
  wpAny_mono h.run (fun _ _ ⟨_, S, M, q⟩ => k _ _ _ S M q) fun _ _ e => e
theorem J.up {t : Sem α} {Q : α → St → Shared → Prop} {σ₁ : St} {s₁ : Shared} (h : J B A t σ₁ s₁ Q) (M : Mv σ σ₁ s.heap s₁.heap) : wpAny (model B.prog B.w) A t (fun b s₂ => ∃ σ₂, Sh B σ₂ s₂ ∧ Mv σ σ₂ s.heap s₂.heap ∧ Q b σ₂ s₂) (fun _ _ => False) s₁ :=
  h.to fun _ _ _ S₂ M₂ q => ⟨_, S₂, M.trans M₂, q⟩
theorem J.pure {a : α} {Q : α → St → Shared → Prop} (S : Sh B σ s) (h : Q a σ s) : J B A (Pure.pure a) σ s Q := ⟨wpAny_pure ⟨σ, S, Mv.refl _ _, h⟩⟩
end

/-- what an expression gives -/
structure WE (B : Base) (n : Nat) (sc : Scope) (e : Expr) (m : Loc) (σ : St) (Q : V → St → Prop) : Prop where
  run : ∀ A env s, AOk A n → EnvOk sc env → Sh B σ s → LocR B env m σ s.heap → J B A (eval e env) σ s fun v σ' _ => Q (er v) σ'
/-- a test -/
structure WT (B : Base) (n : Nat) (sc : Scope) (e : Expr) (m : Loc) (σ : St) (Q : Bool → St → Prop) : Prop where
  run : ∀ A env s, AOk A n → EnvOk sc env → Sh B σ s → LocR B env m σ s.heap → J B A (isTrue e env (eval e env)) σ s fun v σ' _ => Q v σ'
/-- arguments in a row -/
structure WEs (B : Base) (n : Nat) (sc : Scope) (es : List Expr) (m : Loc) (σ : St) (Q : List V → St → Prop) : Prop where
  run : ∀ A env s pos, AOk A n → EnvOk sc env → Sh B σ s → LocR B env m σ s.heap → J B A (spliced (backTo pos (starEach es env))) σ s fun vs σ' _ => Q (vs.map er) σ'
/-- a def of the text, called -/
structure WCa (B : Base) (n : Nat) (fa : Addr) (vs : List V) (σ : St) (Q : V → St → Prop) : Prop where
  run : ∀ A s vals, AOk A n → Sh B σ s → vals.map er = vs → codeAny (model B.prog B.w) A (.call (.ref fa) ⟨vals, []⟩) (fun r s' => ∃ v, r = .ok (.ret v) ∧ ∃ σ', Sh B σ' s' ∧ Mv σ σ' s.heap s'.heap ∧ Q (er v) σ') s
structure WC (B : Base) (n : Nat) (f : Str) (vs : List V) (σ : St) (Q : V → St → Prop) : Prop where
  run : ∃ fa, B.mg f = some (.ref fa) ∧ WCa B n fa vs σ Q
/-- a step of the machine on values -/
structure WO (B : Base) (n : Nat) (t : List Value → Sem Value) (vs : List V) (σ : St) (Q : V → St → Prop) : Prop where
  run : ∀ A s vals, AOk A n → Sh B σ s → vals.map er = vs → J B A (t vals) σ s fun v σ' _ => Q (er v) σ'

section
variable {B : Base} {n : Nat} {sc : Scope} {m : Loc} {σ : St} {Q : V → St → Prop}
theorem WE.mono {e : Expr} {Q' : V → St → Prop} (h : WE B n sc e m σ Q) (hq : ∀ v σ', Q v σ' → Q' v σ') : WE B n sc e m σ Q' := ⟨fun A env s a b c d => (h.run A env s a b c d).mono fun _ _ _ _ _ q => hq _ _ q⟩
theorem WCa.mono {f : Addr} {vs : List V} {Q' : V → St → Prop} (h : WCa B n f vs σ Q) (hq : ∀ v σ', Q v σ' → Q' v σ') : WCa B n f vs σ Q' :=
  ⟨fun A s vals a b c => codeAny_mono (h.run A s vals a b c) fun _ _ ⟨v, e, σ', S, M, q⟩ => ⟨v, e, σ', S, M, hq _ _ q⟩⟩
theorem WC.mono {f : Str} {vs : List V} {Q' : V → St → Prop} (h : WC B n f vs σ Q) (hq : ∀ v σ', Q v σ' → Q' v σ') : WC B n f vs σ Q' :=
  let ⟨fa, h1, h2⟩ := h.run; ⟨fa, h1, h2.mono hq⟩
theorem WCa.J {f : Addr} {vs : List V} {A : Around} {s : Shared} {vals : List Value} (h : WCa B n f vs σ Q) (a : AOk A n) (S : Sh B σ s) (hv : vals.map er = vs) : J B A (call (.ref f) vals) σ s fun v σ' _ => Q (er v) σ' :=
  ⟨wpAny_call (codeAny_mono (h.run A s vals a S hv) fun r s' ⟨v, e, q⟩ => by rw [e]; exact q)⟩
theorem AOk.le {A : Around} {k : Nat} (h : AOk A n) (hk : k ≤ n) : AOk A k := ⟨h.hand, h.gu, Nat.lt_of_le_of_lt (Nat.add_le_add_left hk _) h.depth, by have := h.units; omega⟩

theorem WE.name {x : Str} {pos : Pos} {v : V} (hk : kOf sc x = some .local ∨ kOf sc x = some .cell) (hv : m x = some v) (h : Q v σ) (hd : (x == ("__debug__" : Str)) = false := by decide) : WE B n sc (.Name x pos) m σ Q := by
  refine ⟨fun A env s a b S L => ⟨?_⟩⟩
  have hf : env.scope.kind = .function := by rw [b.scp]; exact b.k
  rcases hk with hk | hk
  · have hk' : env.kindOf x = some .local := by rw [Env.kindOf, b.scp]; exact hk
    obtain ⟨mv, hn, hm⟩ := L.ns
    have := hm x hk'
    rw [hv] at this
    obtain ⟨v', h1, h2⟩ := Option.map_eq_some_iff.mp this
    exact wpAny_Name (wpAny_loadName_local hf hk' hn h1 ⟨σ, S, Mv.refl _ _, by show Q (er v') σ; rw [h2]; exact h⟩) hd
  · have hk' : env.kindOf x = some .cell := by rw [Env.kindOf, b.scp]; exact hk
    obtain ⟨c, vo, h1, h2, h3, _⟩ := L.cell x hk'
    rw [hv] at h3
    obtain ⟨v', rfl, h5⟩ := Option.map_eq_some_iff.mp h3
    exact wpAny_Name (wpAny_loadName_cell hf hk' h1 h2 ⟨σ, S, Mv.refl _ _, by show Q (er v') σ; rw [h5]; exact h⟩) hd
theorem WE.cInt {i : Int} {k : Nat} {pos : Pos} (h : Q (.int i) σ) : WE B n sc (.Constant (.int i) k pos) m σ Q := ⟨fun _ _ _ _ _ S _ => ⟨wpAny_Constant_int ⟨σ, S.tk _, Mv.refl _ _, h⟩⟩⟩
theorem WE.cStr {i : Str} {k : Nat} {pos : Pos} (h : Q (.str i) σ) : WE B n sc (.Constant (.str i) k pos) m σ Q := ⟨fun _ _ _ _ _ S _ => ⟨wpAny_Constant_str ⟨σ, S.tk _, Mv.refl _ _, h⟩⟩⟩
theorem WE.cNone {k : Nat} {pos : Pos} (h : Q .none σ) : WE B n sc (.Constant .none k pos) m σ Q := ⟨fun _ _ _ _ _ S _ => ⟨wpAny_Constant_none ⟨σ, S, Mv.refl _ _, h⟩⟩⟩
theorem WE.cBool {b : Bool} {k : Nat} {pos : Pos} (h : Q (.bool b) σ) : WE B n sc (.Constant (.bool b) k pos) m σ Q := ⟨fun _ _ _ _ _ S _ => ⟨wpAny_Constant_bool ⟨σ, S, Mv.refl _ _, h⟩⟩⟩

theorem WEs.nil {Q : List V → St → Prop} (h : Q [] σ) : WEs B n sc [] m σ Q := ⟨fun _ _ _ _ _ _ S _ => ⟨wpAny_pure ⟨σ, S, Mv.refl _ _, h⟩⟩⟩
theorem WEs.cons {e : Expr} {es : List Expr} {Q : List V → St → Prop} (h : WE B n sc e m σ fun v σ₁ => WEs B n sc es m σ₁ fun vs σ₂ => Q (v :: vs) σ₂)
    (he : ∀ env, starEach (e :: es) env = (false, eval e env) :: starEach es env := by intro _; rfl) : WEs B n sc (e :: es) m σ Q := by
  refine ⟨fun A env s pos a b S L => ⟨?_⟩⟩
  rw [he]
  exact Calls.spliced_cons ((h.run A env s a b S L).to fun v σ₁ s₁ S₁ M₁ q => (q.run A env s₁ pos a b S₁ (L.mv M₁)).to fun vs σ₂ s₂ S₂ M₂ q₂ => ⟨σ₂, S₂, M₁.trans M₂, q₂⟩)
end
end Mine

set_option linter.unusedVariables false
set_option linter.unusedSimpArgs false
namespace Mine

abbrev binT (op : Operator) : List Value → Sem Value
  | [x, y] => binaryOp op x y
  | _ => pure .none
abbrev ibinT (op : Operator) : List Value → Sem Value
  | [x, y] => inplaceOp op x y
  | _ => pure .none
abbrev cmpT (op : CmpOp) : List Value → Sem Value
  | [x, y] => compareOp op x y
  | _ => pure .none
abbrev uniT (op : UnaryOp) : List Value → Sem Value
  | [x] => unaryOp op x
  | _ => pure .none

theorem map_two {vals : List Value} {a b : V} (h : vals.map er = [a, b]) : ∃ x y, vals = [x, y] ∧ er x = a ∧ er y = b := by
  match vals, h with
  | [x, y], h => cases h; exact ⟨x, y, rfl, rfl, rfl⟩
theorem map_one {vals : List Value} {a : V} (h : vals.map er = [a]) : ∃ x, vals = [x] ∧ er x = a := by
  match vals, h with
  | [x], h => cases h; exact ⟨x, rfl, rfl⟩
theorem map_nil' {vals : List Value} (h : vals.map er = []) : vals = [] := by
  match vals, h with
  | [], _ => rfl

section
variable {B : Base} {n : Nat} {sc : Scope} {m : Loc} {σ : St} {Q : V → St → Prop}

theorem WE.bin {l r : Expr} {op : Operator} {pos : Pos} (h : WE B n sc l m σ fun a σ₁ => WE B n sc r m σ₁ fun b σ₂ => WO B n (binT op) [a, b] σ₂ Q) : WE B n sc (.BinOp l op r pos) m σ Q := by
  exact ⟨fun A env s a b S L => ⟨wpAny_BinOp ((h.run A env s a b S L).to fun x σ₁ s₁ S₁ M₁ q => (q.run A env s₁ a b S₁ (L.mv M₁)).to fun y σ₂ s₂ S₂ M₂ q₂ => (q₂.run A s₂ [x, y] a S₂ rfl).up (M₁.trans M₂))⟩⟩
theorem WE.cmp {l r : Expr} {op : CmpOp} {pos : Pos} (h : WE B n sc l m σ fun a σ₁ => WE B n sc r m σ₁ fun b σ₂ => WO B n (cmpT op) [a, b] σ₂ Q)
    (hm : behindInMarks op r = false := by rfl) : WE B n sc (.Compare l [op] [r] pos) m σ Q := by
  exact ⟨fun A env s a b S L => ⟨wpAny_Compare1 ((h.run A env s a b S L).to fun x σ₁ s₁ S₁ M₁ q => (q.run A env s₁ a b S₁ (L.mv M₁)).to fun y σ₂ s₂ S₂ M₂ q₂ => (q₂.run A s₂ [x, y] a S₂ rfl).up (M₁.trans M₂)) hm⟩⟩
theorem WE.neg {e : Expr} {pos : Pos} (h : WE B n sc e m σ fun a σ₁ => WO B n (uniT .USub) [a] σ₁ Q) : WE B n sc (.UnaryOp .USub e pos) m σ Q := by
  refine ⟨fun A env s a b S L => ⟨?_⟩⟩
  show wpAny _ A (do let v ← eval e env; standAt pos; holding [v] (unaryOp .USub v)) _ _ s
  exact wpAny_bind ((h.run A env s a b S L).to fun x σ₁ s₁ S₁ M₁ q => wpAny_bind (wpAny_standAt (wpAny_holding ((q.run A s₁ [x] a S₁ rfl).up M₁))))

-- ints
theorem WO.addInt {a b : Int} (h : Q (.int (a + b)) σ) : WO B n (binT .Add) [.int a, .int b] σ Q := by
  refine ⟨fun A s vals _ S hv => ⟨?_⟩⟩
  obtain ⟨x, y, rfl, hx, hy⟩ := map_two hv
  obtain ⟨t, rfl⟩ := er_int hx
  obtain ⟨u, rfl⟩ := er_int hy
  with_reducible refine P.add_int ?_
  exact ⟨σ, S.tk _, Mv.refl _ _, h⟩
theorem WO.iaddInt {a b : Int} (h : Q (.int (a + b)) σ) : WO B n (ibinT .Add) [.int a, .int b] σ Q := by
  refine ⟨fun A s vals _ S hv => ⟨?_⟩⟩
  obtain ⟨x, y, rfl, hx, hy⟩ := map_two hv
  obtain ⟨t, rfl⟩ := er_int hx
  obtain ⟨u, rfl⟩ := er_int hy
  with_reducible refine P.iadd_int ?_
  exact ⟨σ, S.tk _, Mv.refl _ _, h⟩
theorem WO.subInt {a b : Int} (h : Q (.int (a - b)) σ) : WO B n (binT .Sub) [.int a, .int b] σ Q := by
  refine ⟨fun A s vals _ S hv => ⟨?_⟩⟩
  obtain ⟨x, y, rfl, hx, hy⟩ := map_two hv
  obtain ⟨t, rfl⟩ := er_int hx
  obtain ⟨u, rfl⟩ := er_int hy
  with_reducible refine P.sub_int ?_
  exact ⟨σ, S.tk _, Mv.refl _ _, h⟩
theorem WO.mulInt {a b : Int} (hm : IntMulOk a b) (h : Q (.int (a * b)) σ) : WO B n (binT .Mult) [.int a, .int b] σ Q := by
  refine ⟨fun A s vals _ S hv => ⟨?_⟩⟩
  obtain ⟨x, y, rfl, hx, hy⟩ := map_two hv
  obtain ⟨t, rfl⟩ := er_int hx
  obtain ⟨u, rfl⟩ := er_int hy
  with_reducible refine P.mul_int ?_ hm
  exact ⟨σ, S.tk _, Mv.refl _ _, h⟩
theorem WO.modInt {a b : Int} (hb : b ≠ 0) (h : Q (.int (a.fmod b)) σ) : WO B n (binT .Mod) [.int a, .int b] σ Q := by
  refine ⟨fun A s vals _ S hv => ⟨?_⟩⟩
  obtain ⟨x, y, rfl, hx, hy⟩ := map_two hv
  obtain ⟨t, rfl⟩ := er_int hx
  obtain ⟨u, rfl⟩ := er_int hy
  with_reducible refine mod_int' hb ?_
  exact ⟨σ, S.tk _, Mv.refl _ _, h⟩
theorem WO.powInt {a b : Int} (h0 : 0 ≤ b) (h1 : b ≤ 1000) (ha : a.natAbs < 2 ^ 64) (h : Q (.int (a ^ b.toNat)) σ) : WO B n (binT .Pow) [.int a, .int b] σ Q := by
  refine ⟨fun A s vals _ S hv => ⟨?_⟩⟩
  obtain ⟨x, y, rfl, hx, hy⟩ := map_two hv
  obtain ⟨t, rfl⟩ := er_int hx
  obtain ⟨u, rfl⟩ := er_int hy
  with_reducible refine pow_int_small h0 (by omega) ha ?_
  exact ⟨σ, S.tk _, Mv.refl _ _, h⟩
theorem WO.negInt {a : Int} (h : Q (.int (-a)) σ) : WO B n (uniT .USub) [.int a] σ Q := by
  refine ⟨fun A s vals _ S hv => ⟨?_⟩⟩
  obtain ⟨x, rfl, hx⟩ := map_one hv
  obtain ⟨t, rfl⟩ := er_int hx
  with_reducible refine P.neg_int ?_
  exact ⟨σ, S.tk _, Mv.refl _ _, h⟩
theorem WO.eqInt {a b : Int} (h : Q (.bool (a == b)) σ) : WO B n (cmpT .Eq) [.int a, .int b] σ Q := by
  refine ⟨fun A s vals _ S hv => ⟨?_⟩⟩
  obtain ⟨x, y, rfl, hx, hy⟩ := map_two hv
  obtain ⟨t, rfl⟩ := er_int hx
  obtain ⟨u, rfl⟩ := er_int hy
  with_reducible refine P.eq_int ?_
  exact ⟨σ, S, Mv.refl _ _, h⟩
theorem WO.neInt {a b : Int} (h : Q (.bool (a != b)) σ) : WO B n (cmpT .NotEq) [.int a, .int b] σ Q := by
  refine ⟨fun A s vals _ S hv => ⟨?_⟩⟩
  obtain ⟨x, y, rfl, hx, hy⟩ := map_two hv
  obtain ⟨t, rfl⟩ := er_int hx
  obtain ⟨u, rfl⟩ := er_int hy
  with_reducible refine P.ne_int ?_
  exact ⟨σ, S, Mv.refl _ _, h⟩
theorem WO.ltInt {a b : Int} (h : Q (.bool (decide (a < b))) σ) : WO B n (cmpT .Lt) [.int a, .int b] σ Q := by
  refine ⟨fun A s vals _ S hv => ⟨?_⟩⟩
  obtain ⟨x, y, rfl, hx, hy⟩ := map_two hv
  obtain ⟨t, rfl⟩ := er_int hx
  obtain ⟨u, rfl⟩ := er_int hy
  with_reducible refine P.lt_int ?_
  exact ⟨σ, S, Mv.refl _ _, h⟩
theorem WO.leInt {a b : Int} (h : Q (.bool (decide (a ≤ b))) σ) : WO B n (cmpT .LtE) [.int a, .int b] σ Q := by
  refine ⟨fun A s vals _ S hv => ⟨?_⟩⟩
  obtain ⟨x, y, rfl, hx, hy⟩ := map_two hv
  obtain ⟨t, rfl⟩ := er_int hx
  obtain ⟨u, rfl⟩ := er_int hy
  with_reducible refine P.le_int ?_
  exact ⟨σ, S, Mv.refl _ _, h⟩
theorem WO.gtInt {a b : Int} (h : Q (.bool (decide (a > b))) σ) : WO B n (cmpT .Gt) [.int a, .int b] σ Q := by
  refine ⟨fun A s vals _ S hv => ⟨?_⟩⟩
  obtain ⟨x, y, rfl, hx, hy⟩ := map_two hv
  obtain ⟨t, rfl⟩ := er_int hx
  obtain ⟨u, rfl⟩ := er_int hy
  with_reducible refine P.gt_int ?_
  exact ⟨σ, S, Mv.refl _ _, h⟩
theorem WO.geInt {a b : Int} (h : Q (.bool (decide (a ≥ b))) σ) : WO B n (cmpT .GtE) [.int a, .int b] σ Q := by
  refine ⟨fun A s vals _ S hv => ⟨?_⟩⟩
  obtain ⟨x, y, rfl, hx, hy⟩ := map_two hv
  obtain ⟨t, rfl⟩ := er_int hx
  obtain ⟨u, rfl⟩ := er_int hy
  with_reducible refine P.ge_int ?_
  exact ⟨σ, S, Mv.refl _ _, h⟩

-- texts
theorem WO.addStr {a b : Str} (hl : a.length + b.length ≤ sizeLine) (h : Q (.str (a ++ b)) σ) : WO B n (binT .Add) [.str a, .str b] σ Q := by
  refine ⟨fun A s vals _ S hv => ⟨?_⟩⟩
  obtain ⟨x, y, rfl, hx, hy⟩ := map_two hv
  obtain ⟨t, rfl⟩ := er_str hx
  obtain ⟨u, rfl⟩ := er_str hy
  with_reducible refine add_str (fun t' tk => ?_) hl
  exact ⟨σ, S.tk _, Mv.refl _ _, h⟩
theorem WO.eqStr {a b : Str} (h : Q (.bool (a == b)) σ) : WO B n (cmpT .Eq) [.str a, .str b] σ Q := by
  refine ⟨fun A s vals _ S hv => ⟨?_⟩⟩
  obtain ⟨x, y, rfl, hx, hy⟩ := map_two hv
  obtain ⟨t, rfl⟩ := er_str hx
  obtain ⟨u, rfl⟩ := er_str hy
  with_reducible refine PyProof.Rows.eq_str ?_
  exact ⟨σ, S, Mv.refl _ _, h⟩

def isN : V → Bool
  | .none => true
  | _ => false
theorem beq_none (v : Value) : (v == Value.none) = isN (er v) := by cases v <;> rfl
theorem WO.isNone {a : V} (h : Q (.bool (isN a)) σ) : WO B n (cmpT .Is) [a, .none] σ Q := by
  refine ⟨fun A s vals _ S hv => ⟨?_⟩⟩
  obtain ⟨x, y, rfl, rfl, hy⟩ := map_two hv
  rw [er_none hy]
  with_reducible refine is_none ?_
  exact ⟨σ, S, Mv.refl _ _, by rw [beq_none]; exact h⟩
theorem WO.isNotNone {a : V} (h : Q (.bool (!isN a)) σ) : WO B n (cmpT .IsNot) [a, .none] σ Q := by
  refine ⟨fun A s vals _ S hv => ⟨?_⟩⟩
  obtain ⟨x, y, rfl, rfl, hy⟩ := map_two hv
  rw [er_none hy]
  with_reducible refine isNot_none ?_
  exact ⟨σ, S, Mv.refl _ _, by rw [beq_none]; exact h⟩

def flat : V → Bool
  | .none => true
  | .int _ => true
  | .str _ => true
  | _ => false
def eqV : V → V → Bool
  | .none, .none => true
  | .int a, .int b => a == b
  | .str a, .str b => a == b
  | _, _ => false
theorem eqV_self : ∀ {v : V}, flat v = true → eqV v v = true
  | .none, _ => rfl
  | .int a, _ => by simp [eqV]
  | .str a, _ => by simp [eqV]
theorem eqAt_flat {A : Around} {s : Shared} {x y : Value} (hx : flat (er x) = true) (hy : flat (er y) = true) : SeqAt.EqAt A s x y (eqV (er x) (er y)) := by
  cases x <;> (try (simp [er, flat] at hx; done)) <;> cases y <;> (try (simp [er, flat] at hy; done))
  · exact SeqAt.EqAt.same _
  · exact SeqAt.EqAt.none_int _ _
  · exact SeqAt.EqAt.none_str _ _
  · exact SeqAt.EqAt.int_none _ _
  · exact SeqAt.EqAt.int_int _ _ _ _
  · exact SeqAt.EqAt.int_str _ _ _ _
  · exact SeqAt.EqAt.str_none _ _
  · exact SeqAt.EqAt.str_int _ _ _ _
  · exact SeqAt.EqAt.str_str _ _ _ _

/-- two flat values, not equal? -/
theorem rcNe_flat {A : Around} {s : Shared} {x y : Value} (hx : flat (er x) = true) (e : er x = er y) : SeqAt.RcNeAt A s x y false := by
  cases x <;> (try (simp [er, flat] at hx; done))
  · obtain rfl := er_none e.symm
    exact SeqAt.RcNeAt.none_none
  · obtain ⟨u, rfl⟩ := er_int e.symm
    intro prog w E Q h
    exact SeqAt.RcNeAt.int_int _ _ _ _ prog w E Q (by simpa using h)
  · obtain ⟨u, rfl⟩ := er_str e.symm
    intro prog w E Q h
    exact SeqAt.RcNeAt.str_str _ _ _ _ prog w E Q (by simpa using h)
theorem WO.neFlat {a : V} (ha : flat a = true) (h : Q (.bool false) σ) : WO B n (cmpT .NotEq) [a, a] σ Q := by
  refine ⟨fun A s vals _ S hv => ⟨?_⟩⟩
  obtain ⟨x, y, rfl, rfl, hy⟩ := map_two hv
  exact rcNe_flat ha hy.symm _ _ _ _ ⟨σ, S, Mv.refl _ _, h⟩

theorem Sh.list {s : Shared} (S : Sh B σ s) {l : Addr} {xs : List V} (h : rd B σ l (.list xs)) : ∃ items k, IsL s.heap l items k ∧ items.toList.map er = xs := by
  obtain ⟨ob, h1, items, k, rfl, h2⟩ := S.get h
  exact ⟨items, k, h1, h2⟩
theorem Sh.tup {s : Shared} (S : Sh B σ s) {l : Addr} {xs : List V} (h : rd B σ l (.tup xs)) : ∃ items k, s.heap.get? l = some { cls := .type "tuple", dict := none, data := .seq items k, slots := #[] } ∧ items.toList.map er = xs := by
  obtain ⟨ob, h1, items, k, rfl, h2⟩ := S.get h
  exact ⟨items, k, h1, h2⟩
theorem len_er {items : Array Value} {xs : List V} (h : items.toList.map er = xs) : items.size = xs.length := by rw [← h]; simp
theorem get_er {items : Array Value} {xs : List V} (h : items.toList.map er = xs) {i : Nat} {v : V} (hv : xs[i]? = some v) : ∃ x, items[i]? = some x ∧ er x = v := by
  rw [← h, List.getElem?_map] at hv
  obtain ⟨x, h1, h2⟩ := Option.map_eq_some_iff.mp hv
  exact ⟨x, by simpa using h1, h2⟩
theorem units_room {A : Around} (a : AOk A n) : A.units < cLine := by have := a.units; omega

/-- two lists of the same flat values -/
theorem WO.neList {l b : Addr} {xs : List V} (hl : rd B σ l (.list xs)) (hb : rd B σ b (.list xs)) (hf : ∀ x ∈ xs, flat x = true) (h : Q (.bool false) σ) : WO B n (cmpT .NotEq) [.ref l, .ref b] σ Q := by
  refine ⟨fun A s vals a S hv => ⟨?_⟩⟩
  obtain ⟨x, y, rfl, hx, hy⟩ := map_two hv
  rw [er_ref hx, er_ref hy]
  obtain ⟨i1, k1, L1, e1⟩ := S.list hl
  obtain ⟨i2, k2, L2, e2⟩ := S.list hb
  have hsz : i1.size = i2.size := by rw [len_er e1, len_er e2]
  refine SeqAt.RcNeAt.lists (e := fun _ => true) L1.isList L2.isList hsz (units_room a) (fun j h1 h2 => ?_) _ _ _ _ ⟨σ, S, Mv.refl _ _, ?_⟩
  · have h3 : er i1[j] = er i2[j] := by
      have := congrArg (·[j]?) (e1.trans e2.symm)
      simpa [h1, h2] using this
    have h4 : flat (er i1[j]) = true := hf _ (by rw [← e1]; exact List.mem_map_of_mem (Array.mem_toList_iff.mpr (Array.getElem_mem h1)))
    have := eqAt_flat (A := A.in1) (s := s) (x := i1[j]) (y := i2[j]) h4 (h3 ▸ h4)
    rw [← h3, eqV_self h4] at this
    exact this
  · have e : (!((List.range i1.size).all fun _ => true)) = false := by simp
    show Q (er (.bool (!((List.range i1.size).all fun _ => true)))) σ
    rw [e]; exact h

/-- two lists of lists of the same flat values -/
theorem WO.neLists {l b : Addr} {as bs : List Addr} {xss : List (List V)} (hl : rd B σ l (.list (as.map V.ref))) (hb : rd B σ b (.list (bs.map V.ref))) (ha : as.length = xss.length) (hb' : bs.length = xss.length)
    (h1 : ∀ (i : Nat) (a : Addr) (xs : List V), as[i]? = some a → xss[i]? = some xs → rd B σ a (.list xs)) (h2 : ∀ (i : Nat) (a : Addr) (xs : List V), bs[i]? = some a → xss[i]? = some xs → rd B σ a (.list xs)) (hf : ∀ xs ∈ xss, ∀ x ∈ xs, flat x = true) (h : Q (.bool false) σ) :
    WO B n (cmpT .NotEq) [.ref l, .ref b] σ Q := by
  refine ⟨fun A s vals a S hv => ⟨?_⟩⟩
  obtain ⟨x, y, rfl, hx, hy⟩ := map_two hv
  rw [er_ref hx, er_ref hy]
  obtain ⟨i1, k1, L1, e1⟩ := S.list hl
  obtain ⟨i2, k2, L2, e2⟩ := S.list hb
  have hz1 : i1.size = xss.length := by rw [len_er e1, List.length_map, ha]
  have hz2 : i2.size = xss.length := by rw [len_er e2, List.length_map, hb']
  have hsz : i1.size = i2.size := by rw [hz1, hz2]
  refine SeqAt.RcNeAt.lists (e := fun _ => true) L1.isList L2.isList hsz (units_room a) (fun j q1 q2 => ?_) _ _ _ _ ⟨σ, S, Mv.refl _ _, ?_⟩
  · have hj : j < xss.length := by omega
    have g1 : i1[j] = .ref (as[j]'(by omega)) := by
      have := congrArg (·[j]?) e1
      simp [q1, show j < as.length by omega] at this
      exact er_ref this
    have g2 : i2[j] = .ref (bs[j]'(by omega)) := by
      have := congrArg (·[j]?) e2
      simp [q2, show j < bs.length by omega] at this
      exact er_ref this
    rw [g1, g2]
    have r1 := h1 j _ xss[j] (List.getElem?_eq_getElem (by omega)) (List.getElem?_eq_getElem hj)
    have r2 := h2 j _ xss[j] (List.getElem?_eq_getElem (by omega)) (List.getElem?_eq_getElem hj)
    have hfl := hf xss[j] (List.getElem_mem hj)
    by_cases hab : as[j]'(by omega) = bs[j]'(by omega)
    · rw [hab]; exact SeqAt.EqAt.same _
    · obtain ⟨j1, c1, M1, f1⟩ := S.list r1
      obtain ⟨j2, c2, M2, f2⟩ := S.list r2
      refine SeqAt.EqAt.of_refs hab ?_
      have := SeqAt.RcAt.lists (A := A.in1) (s := s) (e := fun _ => true) M1.isList M2.isList (by rw [len_er f1, len_er f2]) (by have := a.units; rw [Around.in1_units]; omega) (fun i p1 p2 => by
        have h3 : er j1[i] = er j2[i] := by
          have := congrArg (·[i]?) (f1.trans f2.symm)
          simpa [p1, p2] using this
        have h4 : flat (er j1[i]) = true := hfl _ (by rw [← f1]; exact List.mem_map_of_mem (Array.mem_toList_iff.mpr (Array.getElem_mem p1)))
        have := eqAt_flat (A := A.in1.in1) (s := s) (x := j1[i]) (y := j2[i]) h4 (h3 ▸ h4)
        rw [← h3, eqV_self h4] at this
        exact this)
      have e : ((List.range j1.size).all fun _ => true) = true := by simp
      rw [e] at this; exact this
  · have e : (!((List.range i1.size).all fun _ => true)) = false := by simp
    show Q (er (.bool (!((List.range i1.size).all fun _ => true)))) σ
    rw [e]; exact h

theorem any_er {items : Array Value} {xs : List V} (h : items.toList.map er = xs) (p : V → Bool) : items.any (fun y => p (er y)) = xs.any p := by
  rw [← h, List.any_map, ← Array.any_toList]; rfl
theorem WO.inList {l : Addr} {xs : List V} {x : V} (hl : rd B σ l (.list xs)) (hf : ∀ y ∈ xs, flat y = true) (hx : flat x = true) (h : Q (.bool (xs.any fun y => eqV y x)) σ) : WO B n (cmpT .In) [x, .ref l] σ Q := by
  refine ⟨fun A s vals a S hv => ⟨?_⟩⟩
  obtain ⟨x', y, rfl, rfl, hy⟩ := map_two hv
  rw [er_ref hy]
  obtain ⟨i1, k1, L1, e1⟩ := S.list hl
  refine SeqAt.in_listAt (fun y => eqV (er y) (er x')) L1.isList (fun y hy => eqAt_flat (hf _ (by rw [← e1]; exact List.mem_map_of_mem (Array.mem_toList_iff.mpr hy))) hx) ⟨σ, S, Mv.refl _ _, ?_⟩
  rw [any_er e1 (fun v => eqV v (er x'))]; exact h
theorem WO.inTup {l : Addr} {xs : List V} {x : V} (hl : rd B σ l (.tup xs)) (hf : ∀ y ∈ xs, flat y = true) (hx : flat x = true) (h : Q (.bool (xs.any fun y => eqV y x)) σ) : WO B n (cmpT .In) [x, .ref l] σ Q := by
  refine ⟨fun A s vals a S hv => ⟨?_⟩⟩
  obtain ⟨x', y, rfl, rfl, hy⟩ := map_two hv
  rw [er_ref hy]
  obtain ⟨i1, k1, L1, e1⟩ := S.tup hl
  refine SeqAt.in_tupleAt (fun y => eqV (er y) (er x')) ⟨_, L1, rfl, k1, rfl⟩ (fun y hy => eqAt_flat (hf _ (by rw [← e1]; exact List.mem_map_of_mem (Array.mem_toList_iff.mpr hy))) hx) ⟨σ, S, Mv.refl _ _, ?_⟩
  rw [any_er e1 (fun v => eqV v (er x'))]; exact h
theorem WO.notInTup {l : Addr} {xs : List V} {x : V} (hl : rd B σ l (.tup xs)) (hf : ∀ y ∈ xs, flat y = true) (hx : flat x = true) (h : Q (.bool (!xs.any fun y => eqV y x)) σ) : WO B n (cmpT .NotIn) [x, .ref l] σ Q := by
  refine ⟨fun A s vals a S hv => ⟨?_⟩⟩
  obtain ⟨x', y, rfl, rfl, hy⟩ := map_two hv
  rw [er_ref hy]
  obtain ⟨i1, k1, L1, e1⟩ := S.tup hl
  refine SeqAt.notIn_tupleAt (fun y => eqV (er y) (er x')) ⟨_, L1, rfl, k1, rfl⟩ (fun y hy => eqAt_flat (hf _ (by rw [← e1]; exact List.mem_map_of_mem (Array.mem_toList_iff.mpr hy))) hx) ⟨σ, S, Mv.refl _ _, ?_⟩
  rw [any_er e1 (fun v => eqV v (er x'))]; exact h

theorem WO.addList {l b : Addr} {xs ys : List V} (hl : rd B σ l (.list xs)) (hb : rd B σ b (.list ys)) (hz : xs.length + ys.length ≤ sizeLine) (h : ∀ a, σ a = none → Q (.ref a) (upd σ a (.list (xs ++ ys)))) :
    WO B n (binT .Add) [.ref l, .ref b] σ Q := by
  refine ⟨fun A s vals a S hv => ⟨?_⟩⟩
  obtain ⟨x', y, rfl, hx, hy⟩ := map_two hv
  rw [er_ref hx, er_ref hy]
  obtain ⟨i1, k1, L1, e1⟩ := S.list hl
  obtain ⟨i2, k2, L2, e2⟩ := S.list hb
  have := S.push (n := s.toks) (ob := { cls := .type "list", data := .seq (i1 ++ i2) }) (o := .list (xs ++ ys)) ⟨_, _, rfl, by rw [← e1, ← e2]; simp⟩ rfl
  exact P.add_list L1 L2 ⟨_, this.1, this.2, h _ S.size_none⟩ (by rw [len_er e1, len_er e2]; exact hz)
theorem flat_rep {α β : Type} (f : α → β) (l : List α) : ∀ k, ((List.foldl (fun (x1 x2 : Array α) => x1 ++ x2) #[] (List.replicate k l.toArray))).toList.map f = (List.replicate k (l.map f)).flatten := by
  have gen : ∀ k (acc : Array α), ((List.foldl (fun (x1 x2 : Array α) => x1 ++ x2) acc (List.replicate k l.toArray))).toList.map f = acc.toList.map f ++ (List.replicate k (l.map f)).flatten := by
    intro k
    induction k with
    | zero => intro acc; simp
    | succ k ih => intro acc; rw [List.replicate_succ, List.foldl_cons, ih]; simp [List.replicate_succ]
  intro k; rw [gen]; simp
end
end Mine

namespace Mine

abbrev callT (f : Value) : List Value → Sem Value := fun vs => call f vs

def starred : Expr → Bool
  | .Starred .. => true
  | _ => false
theorem starEach_cons {e : Expr} {es : List Expr} {env : Env} (h : starred e = false) : starEach (e :: es) env = (false, eval e env) :: starEach es env := by
  cases e <;> first | rfl | cases h

section
variable {B : Base} {n : Nat} {sc : Scope} {m : Loc} {σ : St} {Q : V → St → Prop}

def Keepy (B : Base) (f : Value) : Prop := ∀ h, B.K.In h → ∃ k, (k = Keeper.frame ∨ k = Keeper.machine ∨ k = Keeper.boundFrame) ∧ Looks (model B.prog B.w) h (keeperOf f) k
theorem keepy_builtin (id : String) : Keepy B (.builtin id) := fun _ _ => ⟨.machine, .inr (.inl rfl), Looks.now⟩
theorem keepy_type (id : String) : Keepy B (.type id) := fun _ _ => ⟨.machine, .inr (.inl rfl), Looks.now⟩
theorem keepy_ref {a : Addr} (h : keepIn B.K (.ref a) = true) : Keepy B (.ref a) := keeps_K h

theorem any_backTo {pos : Pos} {env : Env} : ∀ {es : List Expr}, es.any starred = false → (backTo pos (starEach es env)).any (·.1) = false
  | [], _ => rfl
  | e :: es, h => by
    rw [List.any_cons, Bool.or_eq_false_iff] at h
    rw [starEach_cons h.1]
    show (false || (backTo pos (starEach es env)).any (·.1)) = false
    rw [any_backTo h.2]; rfl
theorem evalArgs_empty {M : Model} {A : Around} {E : Value → Shared → Prop} {s : Shared} {f : Value} {Q : Args → Shared → Prop} (h : wpAny M A (spliced []) (fun vs s' => Q ⟨vs, []⟩ s') E s) : wpAny M A (evalArgs f true [] []) Q E s := by
  unfold evalArgs
  show wpAny M A (spliced [] >>= _) Q E s
  refine wpAny_bind (wpAny_mono h (fun vs s' h' => ?_) fun _ _ x => x)
  refine wpAny_bind (wpAny_pure (wpAny_holding ?_))
  exact wpAny_bind (wpAny_pure (wpAny_bind (wpAny_pure (wpAny_pure h'))))
theorem callWith_J {A : Around} {env : Env} {s : Shared} {f : Value} {first : List Value} {es : List Expr} {pos : Pos} {Q : Value → St → Shared → Prop} (hk : Keepy B f) (hs : es.any starred = false)
    (h : J B A (spliced (backTo pos (starEach es env))) σ s fun vs σ₁ s₁ => Sh B σ₁ s₁ → J B A (call f (first ++ vs)) σ₁ s₁ Q) : J B A (callWith pos f first (backTo pos (starEach es env)) []) σ s Q := by
  refine ⟨callWith_of (P := B.K.In) (by rw [any_backTo hs]; rfl) hk ?_⟩
  have h' := h.to (T := fun vs s₁ => B.K.In s₁.heap ∧ wpAny (model B.prog B.w) A (call f (first ++ vs)) (fun a s' => ∃ σ', Sh B σ' s' ∧ Mv σ σ' s.heap s'.heap ∧ Q a σ' s') (fun _ _ => False) s₁) fun vs σ₁ s₁ S₁ M₁ q => ⟨S₁.kin, (q S₁).up M₁⟩
  cases es with
  | nil => exact evalArgs_empty h'
  | cons e es =>
    rw [List.any_cons, Bool.or_eq_false_iff] at hs
    rw [starEach_cons hs.1] at h' ⊢
    exact Calls.evalArgs_plain h'

theorem gName {A : Around} {env : Env} {s : Shared} {x : Str} {fp : Pos} {v : Value} {E : Value → Shared → Prop} {Q : Value → Shared → Prop} (S : Sh B σ s) (b : EnvOk sc env) (hx : B.mg x = some v) (hk : kOf sc x = some .globalImplicit)
    (hd : (x == ("__debug__" : Str)) = false) (h : Q v s) : wpAny (model B.prog B.w) A (eval (.Name x fp) env) Q E s :=
  Name_function_global (by rw [b.scp]; exact b.k) (by rw [Env.kindOf, b.scp]; exact hk) (loadGlobal_global (by rw [b.g]; exact S.ok.g.keeps S.base) hx h) hd
theorem gBoot {A : Around} {env : Env} {s : Shared} {x : Str} {fp : Pos} {v : Value} {E : Value → Shared → Prop} {Q : Value → Shared → Prop} (S : Sh B σ s) (b : EnvOk sc env) (hx : bnames.contains x = true) (hv : bootBuiltins x = some v) (hk : kOf sc x = some .globalImplicit)
    (hd : (x == ("__debug__" : Str)) = false) (hn : x ≠ "__name__") (h : Q v s) : wpAny (model B.prog B.w) A (eval (.Name x fp) env) Q E s :=
  Name_function_global (by rw [b.scp]; exact b.k) (by rw [Env.kindOf, b.scp]; exact hk) (loadGlobal_builtin (by rw [b.g]; exact S.ok.g.keeps S.base) (S.ok.bn x hx) (by rw [b.b]; exact S.ok.b.keeps S.base) ((S.ok.builtins x hn).trans hv) h) hd

theorem eval_CallName {x : Str} {fp pos : Pos} {es : List Expr} {env : Env} : eval (.Call (.Name x fp) es [] pos) env = (eval (.Name x fp) env >>= fun f => callWith pos f [] (backTo pos (starEach es env)) []) := rfl

theorem WE.callB {x : Str} {fp pos : Pos} {es : List Expr} {fv : Value} (hx : bnames.contains x = true) (hv : bootBuiltins x = some fv) (hkp : Keepy B fv) (hk : kOf sc x = some .globalImplicit) (hs : es.any starred = false)
    (h : WEs B n sc es m σ fun vs σ₁ => WO B n (callT fv) vs σ₁ Q) (hd : (x == ("__debug__" : Str)) = false := by decide) (hn : x ≠ "__name__" := by decide) : WE B n sc (.Call (.Name x fp) es [] pos) m σ Q := by
  refine ⟨fun A env s a b S L => ⟨?_⟩⟩
  rw [eval_CallName]
  refine wpAny_bind (gBoot S b hx hv hk hd hn ?_)
  exact (callWith_J (first := []) (Q := fun v σ' _ => Q (er v) σ') hkp hs ((h.run A env s pos a b S L).mono fun vs σ₁ s₁ S₁ M₁ q _ => q.run A s₁ vs a S₁ rfl)).run

theorem WE.call {f : Str} {ps : Arguments} {bd : List Stmt} {fs : Scope} {dv : List V} {fp pos : Pos} {es : List Expr} (hf : FnAt B f ps bd fs dv) (hk : kOf sc f = some .globalImplicit) (hs : es.any starred = false)
    (h : WEs B n sc es m σ fun vs σ₁ => WC B n f vs σ₁ Q) (hd : (f == ("__debug__" : Str)) = false := by decide) : WE B n sc (.Call (.Name f fp) es [] pos) m σ Q := by
  obtain ⟨fa, hm, hfa⟩ := hf.at_
  refine ⟨fun A env s a b S L => ⟨?_⟩⟩
  rw [eval_CallName]
  refine wpAny_bind (gName S b hm hk hd ?_)
  refine (callWith_J (first := []) (Q := fun v σ' _ => Q (er v) σ') (keepy_ref hfa.keepy) hs ((h.run A env s pos a b S L).mono fun vs σ₁ s₁ S₁ M₁ q _ => ?_)).run
  obtain ⟨fa', hm', q'⟩ := q.run
  rw [hm] at hm'; cases hm'
  exact q'.J a S₁ rfl

theorem AOk.make {A : Around} {C : Addr} {vals : List Value} (a : AOk A (n + 1)) : AOk (A.under (.builtin "type.__call__" ⟨.ref C :: vals, []⟩)) n :=
  ⟨a.hand, a.gu, by show A.depth + 1 + n < recursionLimit; have := a.depth; omega, by show A.units + 1 + 10 * n + 200 < cLine; have := a.units; omega⟩

/-- the class Vector called: a new object, then its __init__ -/
theorem WE.newV {fp pos : Pos} {es : List Expr} {fI : Addr} (hi : findIn B.K (.ref B.C) "__init__" = some (some (.ref fI))) (ht : typeIn B.K (.ref fI) = some (.type "function")) (hk : kOf sc "Vector" = some .globalImplicit) (hs : es.any starred = false)
    (h : WEs B (n + 1) sc es m σ fun vs σ₁ => ∀ x d, x ≠ d → σ₁ x = none → σ₁ d = none → WCa B n fI (.ref x :: vs) (upd (upd σ₁ d (.attrs [])) x (.inst B.C d)) fun r σ₂ => r = .none ∧ Q (.ref x) σ₂) :
    WE B (n + 1) sc (.Call (.Name "Vector" fp) es [] pos) m σ Q := by
  refine ⟨fun A env s a b S L => ⟨?_⟩⟩
  rw [eval_CallName]
  refine wpAny_bind (gName S b S.ok.vec.g hk (by decide) ?_)
  refine (callWith_J (first := []) (Q := fun v σ' _ => Q (er v) σ') (keepy_ref S.ok.vec.keepC) hs ((h.run A env s pos a b S L).mono fun vs σ₁ s₁ S₁ M₁ q _ => ⟨?_⟩)).run
  have X := S₁.kin
  have P1 := S₁.push (n := s₁.toks) (ob := emptyDict) (o := .attrs []) ⟨[], 0, rfl, .nil⟩ rfl
  have P2 := P1.1.push (n := s₁.toks) (ob := instObj B.C s₁.heap.objs.size) (o := .inst B.C s₁.heap.objs.size) rfl rfl
  simp only [Heap.size_push] at P2
  have hx : σ₁ (s₁.heap.objs.size + 1) = none := by
    have := P1.1.size_none
    simp only [Heap.size_push] at this
    rwa [upd_ne (Nat.succ_ne_self _)] at this
  have q' := q (s₁.heap.objs.size + 1) s₁.heap.objs.size (Nat.succ_ne_self _) hx S₁.size_none
  obtain ⟨hh, g, d, t, os⟩ := s₁
  refine wpAny_call (make_core (makes_of X S.ok.vec.makes) (looks_findIn X hi) (fun self => bind_fn X self ht) (.inl rfl) ?_)
  refine codeAny_mono (q'.run _ _ (.ref (hh.objs.size + 1) :: vs) a.make P2.1 rfl) fun r s' hr => ?_
  obtain ⟨v, rfl, σ', S', M', e, hq⟩ := hr
  exact ⟨er_none e, σ', S', (P1.2.trans P2.2).trans M', hq⟩

-- attributes
def lookA (kvs : List (Str × V)) (x : Str) : Option V := (kvs.find? fun p => p.1 == x).map (·.2)
def putA (kvs : List (Str × V)) (x : Str) (v : V) : List (Str × V) := match kvs with
  | [] => [(x, v)]
  | p :: r => if p.1 == x then (p.1, v) :: r else p :: putA r x v
def good : V → Bool
  | .other => false
  | _ => true
/-- the value v is an object of the class Vector whose attribute a is u -/
def Has (B : Base) (σ : St) (v : V) (a : Str) (u : V) : Prop := ∃ x d kvs, v = .ref x ∧ σ x = some (.inst B.C d) ∧ σ d = some (.attrs kvs) ∧ lookA kvs a = some u

theorem isStr_key {e : DictEntry} {k x : Str} {t : Tok} (h : e.key = .str k t) : e.key.isStr x = (k == x) := by rw [h]; rfl
theorem getL_paired {es : List DictEntry} {kvs : List (Str × V)} (h : Paired (fun (e : DictEntry) (kv : Str × V) => (∃ t, e.key = .str kv.1 t) ∧ er e.val = kv.2) es kvs) (x : Str) : ∃ o, getL x es = some o ∧ o.map er = lookA kvs x := by
  have key : ∃ o : Option DictEntry, es.find? (·.key.isStr x) = o ∧ o.map (fun e => er e.val) = lookA kvs x ∧ es.any (·.refKey) = false := by
    induction h with
    | nil => exact ⟨none, rfl, rfl, rfl⟩
    | @cons e kv es kvs h1 _ ih =>
      obtain ⟨⟨t, h1⟩, h2⟩ := h1
      obtain ⟨o, i1, i2, i3⟩ := ih
      have hr : e.refKey = false := by unfold DictEntry.refKey; rw [h1]
      rw [List.find?_cons, isStr_key h1, List.any_cons, hr, i3]
      unfold lookA
      rw [List.find?_cons]
      cases kv.1 == x with
      | true => exact ⟨some e, rfl, by simp [h2], rfl⟩
      | false => exact ⟨o, i1, i2, rfl⟩
  obtain ⟨o, h1, h2, h3⟩ := key
  unfold getL
  rw [h1]
  cases o with
  | none => rw [h3]; exact ⟨none, rfl, h2⟩
  | some e => exact ⟨some e.val, rfl, h2⟩
theorem putL_paired {es : List DictEntry} {kvs : List (Str × V)} (h : Paired (fun (e : DictEntry) (kv : Str × V) => (∃ t, e.key = .str kv.1 t) ∧ er e.val = kv.2) es kvs) (x : Str) (hs : Int) (t : Tok) (v : Value) :
    Paired (fun (e : DictEntry) (kv : Str × V) => (∃ t, e.key = .str kv.1 t) ∧ er e.val = kv.2) (putL x hs (.str x t) v es) (putA kvs x (er v)) := by
  induction h with
  | nil => exact .cons ⟨⟨t, rfl⟩, rfl⟩ .nil
  | @cons e kv es kvs h1 hr ih =>
    obtain ⟨⟨t', h1⟩, h2⟩ := h1
    unfold putL putA
    rw [isStr_key h1]
    cases kv.1 == x with
    | true => exact .cons ⟨⟨t', h1⟩, rfl⟩ hr
    | false => exact .cons ⟨⟨t', h1⟩, h2⟩ ih
theorem Paired.len {α β : Type} {F : α → β → Prop} {a : List α} {b : List β} (h : Paired F a b) : a.length = b.length := h.length

theorem Sh.inst {s : Shared} (S : Sh B σ s) {x d : Addr} {kvs : List (Str × V)} (hx : σ x = some (.inst B.C d)) (hd : σ d = some (.attrs kvs)) :
    ∃ es k, s.heap.get? d = some (dictOf es k) ∧ Paired (fun (e : DictEntry) (kv : Str × V) => (∃ t, e.key = .str kv.1 t) ∧ er e.val = kv.2) es kvs ∧ PySem.W.InstAt s.heap x { cls := .ref B.C, dict := some d, data := .plain, slots := #[] } B.C (some (dictOf es k)) := by
  obtain ⟨ob, h1, h2⟩ := S.objs _ _ hx
  obtain ⟨ob', h3, es, k, h4, h5⟩ := S.objs _ _ hd
  subst h4
  rw [h2] at h1
  exact ⟨es, k, h3, h5, ⟨h1, rfl, rfl, h3⟩⟩

theorem getAttr_J {A : Around} {s : Shared} {v : Value} {a : Str} {u : V} {ex : Bool} {Q : V → St → Prop} (S : Sh B σ s) (h : Has B σ (er v) a u) (ha : anames.contains a = true) (hg : good u = true) (hq : Q u σ) :
    J B A (getAttr v a ex) σ s fun r σ' _ => Q (er r) σ' := by
  obtain ⟨x, d, kvs, hv, hx, hd, hl⟩ := h
  rw [er_ref hv]
  obtain ⟨es, k, h1, h2, I⟩ := S.inst hx hd
  obtain ⟨o, g1, g2⟩ := getL_paired h2 a
  rw [hl] at g2
  obtain ⟨w, rfl, hw⟩ := Option.map_eq_some_iff.mp g2
  have hand : handedIn w = true := by cases w <;> first | rfl | (rw [← hw] at hg; cases hg)
  have vk := S.ok.vec
  exact ⟨PySem.W.get_value S.kin I (plainGet_of vk.get).1 (findObj_own vk.hasDict (vk.attr a ha) rfl (by rw [lookIn_dict]; exact g1)) hand ⟨σ, S.tk _, Mv.refl _ _, by rw [hw]; exact hq⟩⟩

theorem WE.attr {e : Expr} {a : Str} {pos : Pos} (ha : anames.contains a = true) (h : WE B n sc e m σ fun v σ₁ => ∃ u, Has B σ₁ v a u ∧ good u = true ∧ Q u σ₁)
    (he : ∀ env, eval (.Attribute e a pos) env = (do
      let o ← eval e env
      standAt pos.atName
      let r ← holding [o] (getAttr o a true)
      letTemporaryGo e o r
      pure r) := by intro _; rfl) : WE B n sc (.Attribute e a pos) m σ Q := by
  refine ⟨fun A env s a' b S L => ⟨?_⟩⟩
  refine Attribute_any_ ((h.run A env s a' b S L).to fun v σ₁ s₁ S₁ M₁ q => ?_) (he env)
  obtain ⟨u, h1, h2, h3⟩ := q
  exact (getAttr_J (Q := Q) S₁ h1 ha h2 h3).up M₁
end
end Mine

namespace Mine

section
variable {B : Base} {n : Nat} {sc : Scope} {m : Loc} {σ : St} {Q : V → St → Prop}

theorem Sh.dnot {s : Shared} (S : Sh B σ s) {d : Addr} (h : σ d ≠ none) : (d == sysModules) = false := by
  have := S.hi d h
  refine beq_eq_false_iff_ne.mpr fun e => ?_
  rw [e] at this
  revert this; decide
theorem Sh.sdict {s : Shared} (S : Sh B σ s) {d : Addr} {kvs : List (Str × V)} {ep : Nat} (h : σ d = some (.sdict kvs ep)) : ∃ kvs', s.heap.DictAt (strKind B.prog B.w) d kvs' ep ∧ kvs'.map erP = kvs := by
  obtain ⟨ob, h1, es, kvs', h2, h3, h4, h5, h6, h7⟩ := S.objs _ _ h
  exact ⟨kvs', ⟨ob, es, h1, h2, h3, h4, h5, h6⟩, h7⟩
theorem Sh.idict {s : Shared} (S : Sh B σ s) {d : Addr} {kvs : List (Int × V)} {ep : Nat} (h : σ d = some (.idict kvs ep)) : ∃ kvs', s.heap.DictAt (intKind B.prog B.w) d kvs' ep ∧ kvs'.map erP = kvs := by
  obtain ⟨ob, h1, es, kvs', h2, h3, h4, h5, h6, h7⟩ := S.objs _ _ h
  exact ⟨kvs', ⟨ob, es, h1, h2, h3, h4, h5, h6⟩, h7⟩

def lkS (kvs : List (Str × V)) (k : Str) : Option V := (kvs.find? fun p => decide (p.1 = k)).map (·.2)
def lkI (kvs : List (Int × V)) (k : Int) : Option V := (kvs.find? fun p => decide (p.1 = k)).map (·.2)
theorem valueAt_er {K : Type} [DecidableEq K] (kvs : List (K × Value)) (k : K) : (valueAt kvs k).map er = ((kvs.map erP).find? fun p => decide (p.1 = k)).map (·.2) := by
  unfold valueAt
  induction kvs with
  | nil => rfl
  | cons p r ih =>
    rw [List.map_cons, List.find?_cons, List.find?_cons]
    show _ = (match decide (p.1 = k) with | true => some (erP p) | false => _).map _
    cases decide (p.1 = k) with
    | true => rfl
    | false => exact ih
def stS (kvs : List (Str × V)) (k : Str) (v : V) : List (Str × V) := if kvs.any (fun kv => kv.1 = k) then kvs.map (fun kv => if kv.1 = k then (kv.1, v) else kv) else kvs ++ [(k, v)]
def stI (kvs : List (Int × V)) (k : Int) (v : V) : List (Int × V) := if kvs.any (fun kv => kv.1 = k) then kvs.map (fun kv => if kv.1 = k then (kv.1, v) else kv) else kvs ++ [(k, v)]
theorem stored_er {K : Type} [DecidableEq K] (kvs : List (K × Value)) (k : K) (v : Value) :
    (stored kvs k v).map erP = if (kvs.map erP).any (fun kv => kv.1 = k) then (kvs.map erP).map (fun kv => if kv.1 = k then (kv.1, er v) else kv) else kvs.map erP ++ [(k, er v)] := by
  unfold stored
  have e : (kvs.map erP).any (fun kv => decide (kv.1 = k)) = kvs.any fun kv => decide (kv.1 = k) := by rw [List.any_map]; rfl
  rw [e]
  split
  · rw [List.map_map, List.map_map]
    refine List.map_congr_left fun p _ => ?_
    show erP (if p.1 = k then (p.1, v) else p) = if p.1 = k then (p.1, er v) else erP p
    split <;> rfl
  · rw [List.map_append]; rfl

-- builtins on values
theorem WO.lenList {l : Addr} {xs : List V} (hl : rd B σ l (.list xs)) (hz : xs.length < 2 ^ 60) (h : Q (.int xs.length) σ) : WO B n (callT (.builtin "len")) [.ref l] σ Q := by
  refine ⟨fun A s vals a S hv => ⟨?_⟩⟩
  obtain ⟨x, rfl, hx⟩ := map_one hv
  rw [er_ref hx]
  obtain ⟨items, k, h1, h2⟩ := S.list hl
  with_reducible refine call_len_list h1.isList (by rw [len_er h2]; omega) ?_
  exact ⟨σ, S.tk _, Mv.refl _ _, by rw [← len_er h2] at h; exact h⟩
theorem WO.lenIdict {l : Addr} {kvs : List (Int × V)} {ep : Nat} (hl : σ l = some (.idict kvs ep)) (hz : kvs.length < 2 ^ 60) (h : Q (.int kvs.length) σ) : WO B n (callT (.builtin "len")) [.ref l] σ Q := by
  refine ⟨fun A s vals a S hv => ⟨?_⟩⟩
  obtain ⟨x, rfl, hx⟩ := map_one hv
  rw [er_ref hx]
  obtain ⟨kvs', h1, h2⟩ := S.idict hl
  have e : kvs'.length = kvs.length := by rw [← h2, List.length_map]
  with_reducible refine call_len_dict (S.dnot (by rw [hl]; exact Option.some_ne_none _)) h1.dictOf (by rw [e]; omega) ?_
  exact ⟨σ, S.tk _, Mv.refl _ _, by rw [← e] at h; exact h⟩
theorem WO.lenSdict {l : Addr} {kvs : List (Str × V)} {ep : Nat} (hl : σ l = some (.sdict kvs ep)) (hz : kvs.length < 2 ^ 60) (h : Q (.int kvs.length) σ) : WO B n (callT (.builtin "len")) [.ref l] σ Q := by
  refine ⟨fun A s vals a S hv => ⟨?_⟩⟩
  obtain ⟨x, rfl, hx⟩ := map_one hv
  rw [er_ref hx]
  obtain ⟨kvs', h1, h2⟩ := S.sdict hl
  have e : kvs'.length = kvs.length := by rw [← h2, List.length_map]
  with_reducible refine call_len_dict (S.dnot (by rw [hl]; exact Option.some_ne_none _)) h1.dictOf (by rw [e]; omega) ?_
  exact ⟨σ, S.tk _, Mv.refl _ _, by rw [← e] at h; exact h⟩
theorem WO.range {k : Nat} (h : ∀ a, σ a = none → Q (.ref a) (upd σ a (.range k))) : WO B n (callT (.type "range")) [.int k] σ Q := by
  refine ⟨fun A s vals a S hv => ⟨?_⟩⟩
  obtain ⟨x, rfl, hx⟩ := map_one hv
  obtain ⟨t, rfl⟩ := er_int hx
  with_reducible refine call_range_1 ?_
  have := S.push (n := s.toks + 1 + 1) (ob := { cls := .type "range", data := .fields #[.int 0 s.toks, .int k t, .int 1 (s.toks + 1)] }) (o := .range k) ⟨_, _, _, rfl⟩ rfl
  exact ⟨_, this.1, this.2, h _ S.size_none⟩
theorem WO.max {x y : Int} (h : Q (.int (if y > x then y else x)) σ) : WO B n (callT (.builtin "max")) [.int x, .int y] σ Q := by
  refine ⟨fun A s vals a S hv => ⟨?_⟩⟩
  obtain ⟨x', y', rfl, hx, hy⟩ := map_two hv
  obtain ⟨t, rfl⟩ := er_int hx
  obtain ⟨u, rfl⟩ := er_int hy
  with_reducible refine max_two_ints a.hand fun h' tk hk => ?_
  refine ⟨σ, S.keeps hk, Mv.of_keeps hk, ?_⟩
  split
  · rename_i c; rw [if_pos c] at h; exact h
  · rename_i c; rw [if_neg c] at h; exact h
theorem WO.abs {x : Int} (h : Q (.int (if x < 0 then -x else x)) σ) : WO B n (callT (.builtin "abs")) [.int x] σ Q := by
  refine ⟨fun A s vals a S hv => ⟨?_⟩⟩
  obtain ⟨x', rfl, hx⟩ := map_one hv
  obtain ⟨t, rfl⟩ := er_int hx
  with_reducible refine PyProof.Rows.call_abs_int fun u tk => ?_
  exact ⟨σ, S.tk _, Mv.refl _ _, h⟩
theorem WO.int {x : Int} (h : Q (.int x) σ) : WO B n (callT (.type "int")) [.int x] σ Q := by
  refine ⟨fun A s vals a S hv => ⟨?_⟩⟩
  obtain ⟨x', rfl, hx⟩ := map_one hv
  obtain ⟨t, rfl⟩ := er_int hx
  with_reducible refine PySem.call_int_int ?_
  exact ⟨σ, S, Mv.refl _ _, h⟩
theorem WO.str {x : Int} (hx : x.natAbs.log2 < 1920) (h : Q (.str (toString x)) σ) : WO B n (callT (.type "str")) [.int x] σ Q := by
  refine ⟨fun A s vals a S hv => ⟨?_⟩⟩
  obtain ⟨x', rfl, hx'⟩ := map_one hv
  obtain ⟨t, rfl⟩ := er_int hx'
  with_reducible refine P.str_of_int hx ?_
  exact ⟨σ, S.tk _, Mv.refl _ _, h⟩
theorem WO.listOf {l : Addr} {xs : List V} (hl : rd B σ l (.list xs)) (hz : xs.length ≤ sizeLine) (h : ∀ a, σ a = none → Q (.ref a) (upd σ a (.list xs))) : WO B n (callT (.type "list")) [.ref l] σ Q := by
  refine ⟨fun A s vals a S hv => ⟨?_⟩⟩
  obtain ⟨x, rfl, hx⟩ := map_one hv
  rw [er_ref hx]
  obtain ⟨items, k, h1, h2⟩ := S.list hl
  with_reducible refine call_list_seq l (.inl rfl) h1 rfl rfl (fun h' c' k' hn => ?_) (by rw [len_er h2]; exact hz)
  have := S.more (n := s.toks) (o := .list xs) k' (Heap.get?_none_of_le (Nat.le_refl _)) S.hiSize hn ⟨_, _, rfl, h2⟩
  exact ⟨_, this.1, this.2, h _ S.size_none⟩
theorem sdict_new {s : Shared} {d : Addr} {kvs : List (Str × Value)} (h : s.heap.DictOf (strKind B.prog B.w) d kvs) : ∃ ob ep, s.heap.get? d = some ob ∧ RepO B (.sdict (kvs.map erP) ep) ob :=
  let ⟨o, es, ep, ho, r1, r2, r3, r4, r5⟩ := h; ⟨o, ep, ho, es, kvs, r1, r2, r3, r4, r5, rfl⟩
theorem idict_new {s : Shared} {d : Addr} {kvs : List (Int × Value)} (h : s.heap.DictOf (intKind B.prog B.w) d kvs) : ∃ ob ep, s.heap.get? d = some ob ∧ RepO B (.idict (kvs.map erP) ep) ob :=
  let ⟨o, es, ep, ho, r1, r2, r3, r4, r5⟩ := h; ⟨o, ep, ho, es, kvs, r1, r2, r3, r4, r5, rfl⟩
theorem WO.dictOf {l : Addr} {kvs : List (Str × V)} {ep : Nat} (hl : σ l = some (.sdict kvs ep)) (hz : kvs.length ≤ sizeLine) (h : ∀ a ep', σ a = none → Q (.ref a) (upd σ a (.sdict kvs ep'))) : WO B n (callT (.type "dict")) [.ref l] σ Q := by
  refine ⟨fun A s vals a S hv => ⟨?_⟩⟩
  obtain ⟨x, rfl, hx⟩ := map_one hv
  rw [er_ref hx]
  obtain ⟨kvs', h1, h2⟩ := S.sdict hl
  have e : kvs'.length = kvs.length := by rw [← h2, List.length_map]
  with_reducible refine kt_call_dict (S.dnot (by rw [hl]; exact Option.some_ne_none _)) h1.dictOf (by rw [e]; exact hz) fun h' hn hs => ?_
  obtain ⟨ob, ep', g1, g2⟩ := sdict_new (B := B) (s := { s with heap := h' }) hn
  rw [h2] at g2
  have := S.more (n := s.toks) (o := .sdict kvs ep') (fun b o e' => hs.extBut b o (Nat.ne_of_lt (Heap.lt_size e')) (Heap.get?_push_of_some _ e')) (Heap.get?_none_of_le (Nat.le_refl _)) S.hiSize g1 g2
  exact ⟨_, this.1, this.2, h _ _ S.size_none⟩
theorem WO.isVec {x d : Addr} {kvs : List (Str × V)} (hx : σ x = some (.inst B.C d)) (hd : σ d = some (.attrs kvs)) (h : Q (.bool true) σ) : WO B n (callT (.builtin "isinstance")) [.ref x, .ref B.C] σ Q := by
  refine ⟨fun A s vals a S hv => ⟨?_⟩⟩
  obtain ⟨x', y', rfl, h1, h2⟩ := map_two hv
  rw [er_ref h1, er_ref h2]
  obtain ⟨es, k, g1, g2, I⟩ := S.inst hx hd
  exact PySem.W.isi_call S.kin (fun M => I.type) S.ok.vec.inst (by intro e; cases e) ⟨σ, S, Mv.refl _ _, h⟩
/-- the name Vector as a value -/
theorem WE.vecName {fp : Pos} (hk : kOf sc "Vector" = some .globalImplicit) (h : Q (.ref B.C) σ) : WE B n sc (.Name "Vector" fp) m σ Q :=
  ⟨fun A env s a b S L => ⟨gName S b S.ok.vec.g hk (by decide) ⟨σ, S, Mv.refl _ _, h⟩⟩⟩

-- subscripts
abbrev subT (e i : Expr) : List Value → Sem Value
  | [o, k] => subscriptTail e i o k
  | _ => pure .none
theorem WE.sub {e i : Expr} {pos : Pos} (h : WE B n sc e m σ fun a σ₁ => WE B n sc i m σ₁ fun b σ₂ => WO B n (subT e i) [a, b] σ₂ Q) : WE B n sc (.Subscript e i pos) m σ Q :=
  ⟨fun A env s a b S L => ⟨Subscript_ ((h.run A env s a b S L).to fun x σ₁ s₁ S₁ M₁ q => (q.run A env s₁ a b S₁ (L.mv M₁)).to fun y σ₂ s₂ S₂ M₂ q₂ => (q₂.run A s₂ [x, y] a S₂ rfl).up (M₁.trans M₂))⟩⟩
def notSlice : Expr → Bool
  | .Slice .. => false
  | _ => true
theorem subscripted_plain {i : Expr} {o k : Value} (h : notSlice i = true) : subscripted i false o k = operate [o, k] (getItem o k) := by cases i <;> first | rfl | cases h
theorem WO.subList {e i : Expr} {l : Addr} {xs : List V} {k : Int} {v : V} (hl : rd B σ l (.list xs)) (h0 : 0 ≤ k) (hk : k < 2 ^ 62) (hv : xs[k.toNat]? = some v) (h : Q v σ) (hs : notSlice i = true := by rfl) : WO B n (subT e i) [.ref l, .int k] σ Q := by
  refine ⟨fun A s vals a S hv' => ⟨?_⟩⟩
  obtain ⟨x', y', rfl, h1, h2⟩ := map_two hv'
  obtain ⟨t, rfl⟩ := er_int h2
  rw [er_ref h1]
  obtain ⟨items, j, g1, g2⟩ := S.list hl
  obtain ⟨x, q1, q2⟩ := get_er g2 hv
  with_reducible refine PyProof.Rows.tail_any g1.isList.typeIs slot_list_getitem.lookup (wpAny_getItem_list g1.isList h0 (by omega) q1 ?_) (subscripted_plain hs)
  exact ⟨σ, S, Mv.refl _ _, by rw [q2]; exact h⟩
theorem WO.subTup {e i : Expr} {l : Addr} {xs : List V} {k : Int} {v : V} (hl : rd B σ l (.tup xs)) (h0 : 0 ≤ k) (hk : k < 2 ^ 62) (hv : xs[k.toNat]? = some v) (h : Q v σ) (hs : notSlice i = true := by rfl) : WO B n (subT e i) [.ref l, .int k] σ Q := by
  refine ⟨fun A s vals a S hv' => ⟨?_⟩⟩
  obtain ⟨x', y', rfl, h1, h2⟩ := map_two hv'
  obtain ⟨t, rfl⟩ := er_int h2
  rw [er_ref h1]
  obtain ⟨items, j, g1, g2⟩ := S.tup hl
  obtain ⟨x, q1, q2⟩ := get_er g2 hv
  have hlt : k.toNat < xs.length := (List.getElem?_eq_some_iff.mp hv).1
  have ht : PyProof.Rows.IsTup s.heap l items := ⟨_, g1, rfl, j, rfl⟩
  with_reducible refine PyProof.Rows.tail_any ht.typeIs slot_tuple_getitem.lookup (getItem_tuple ht (by omega) (by omega) (seqIndex_of h0 (by rw [len_er g2]; omega)) q1 ?_) (subscripted_plain hs)
  exact ⟨σ, S, Mv.refl _ _, by rw [q2]; exact h⟩
theorem strKey {w : World} {prog : Program} {x : Value} {k : Str} (h : er x = .str k) : (strKind prog w).is k x = true := by
  obtain ⟨t, rfl⟩ := er_str h
  show Value.isStrOf k (.str k t) = true
  simp [Value.isStrOf]
theorem intKey {w : World} {prog : Program} {x : Value} {k : Int} (h : er x = .int k) : (intKind prog w).is k x = true := by
  obtain ⟨t, rfl⟩ := er_int h
  show Value.isInt k (.int k t) = true
  simp [Value.isInt]
theorem WO.subSdict {e i : Expr} {l : Addr} {kvs : List (Str × V)} {ep : Nat} {k : Str} {v : V} (hl : σ l = some (.sdict kvs ep)) (hv : lkS kvs k = some v) (h : Q v σ) (hs : notSlice i = true := by rfl) : WO B n (subT e i) [.ref l, .str k] σ Q := by
  refine ⟨fun A s vals a S hv' => ⟨?_⟩⟩
  obtain ⟨x', y', rfl, h1, h2⟩ := map_two hv'
  rw [er_ref h1]
  obtain ⟨kvs', g1, g2⟩ := S.sdict hl
  have hva := valueAt_er kvs' k
  rw [g2] at hva
  replace hva := hva.trans hv
  obtain ⟨u, q1, q2⟩ := Option.map_eq_some_iff.mp hva
  with_reducible refine PyProof.Rows.tail_any g1.dictOf.typeIs slot_dict_getitem.lookup (wpAny_getItem_of (strKey h2) g1.dictOf.mapOf q1 ?_) (subscripted_plain hs)
  exact ⟨σ, S.tk _, Mv.refl _ _, by rw [q2]; exact h⟩
theorem WO.subIdict {e i : Expr} {l : Addr} {kvs : List (Int × V)} {ep : Nat} {k : Int} {v : V} (hl : σ l = some (.idict kvs ep)) (hv : lkI kvs k = some v) (h : Q v σ) (hs : notSlice i = true := by rfl) : WO B n (subT e i) [.ref l, .int k] σ Q := by
  refine ⟨fun A s vals a S hv' => ⟨?_⟩⟩
  obtain ⟨x', y', rfl, h1, h2⟩ := map_two hv'
  rw [er_ref h1]
  obtain ⟨kvs', g1, g2⟩ := S.idict hl
  have hva := valueAt_er kvs' k
  rw [g2] at hva
  replace hva := hva.trans hv
  obtain ⟨u, q1, q2⟩ := Option.map_eq_some_iff.mp hva
  with_reducible refine PyProof.Rows.tail_any g1.dictOf.typeIs slot_dict_getitem.lookup (wpAny_getItem_of (intKey h2) g1.dictOf.mapOf q1 ?_) (subscripted_plain hs)
  exact ⟨σ, S.tk _, Mv.refl _ _, by rw [q2]; exact h⟩
/-- e[:k] -/
theorem WE.upto {e : Expr} {k : Nat} {kk : Nat} {p1 p2 pos : Pos} (h : WE B n sc e m σ fun v σ₁ => ∃ l xs, v = .ref l ∧ rd B σ₁ l (.list xs) ∧ xs.length ≤ sizeLine ∧ ∀ a, σ₁ a = none → Q (.ref a) (upd σ₁ a (.list (xs.take k)))) :
    WE B n sc (.Subscript e (.Slice none (some (.Constant (.int k) kk p1)) none p2) pos) m σ Q := by
  refine ⟨fun A env s a b S L => ⟨Subscript_ ((h.run A env s a b S L).to fun x σ₁ s₁ S₁ M₁ q => ?_)⟩⟩
  obtain ⟨l, xs, hx, hl, hz, hq⟩ := q
  rw [er_ref hx]
  refine wpAny_Slice ?_
  show wpAny _ A (pure Value.none) _ _ _
  refine wpAny_pure ?_
  show wpAny _ A (eval (.Constant (.int k) kk p1) env) _ _ _
  refine wpAny_Constant_int ?_
  show wpAny _ A (pure Value.none) _ _ _
  refine wpAny_pure ?_
  obtain ⟨items, j, g1, g2⟩ := S₁.list hl
  have S₂ := S₁.keeps (n := s₁.toks + 1) (h := s₁.heap.push { cls := .type "slice", data := .fields #[.none, .int k s₁.toks, .none] }) fun b o e => Heap.get?_push_of_some _ e
  have hL := g1.isList.push { cls := .type "slice", data := .fields #[.none, .int k s₁.toks, .none] }
  with_reducible refine PyProof.Rows.tail_any hL.typeIs slot_list_getitem.lookup (ops := [.ref s₁.heap.objs.size, .ref l]) (wpAny_getItem_list_slice hL (Heap.IsSliceOf.new _ _ _ _) .none (.int k _) .none (by decide) ?_ (by rw [len_er g2]; exact hz)) rfl
  have P := S₂.push (n := s₁.toks + 1) (ob := { cls := .type "list", data := .seq (slicePick items none (some (k : Int)) none) }) (o := .list (xs.take k)) ⟨_, _, rfl, by rw [slicePick_upto']; simp [← g2]⟩ rfl
  exact ⟨_, P.1, M₁.trans ((Mv.of_keeps fun b o e => Heap.get?_push_of_some _ e).trans P.2), hq _ (by
    have := S₂.size_none
    exact this)⟩
end
end Mine

namespace Mine

section
variable {B : Base} {n : Nat} {sc : Scope} {m : Loc} {σ : St} {Q : V → St → Prop} {P : Bool → St → Prop}

/-- a value that is a bool -/
def QB (P : Bool → St → Prop) (v : V) (σ : St) : Prop := ∃ b, v = .bool b ∧ P b σ
theorem QB.mk {b : Bool} (h : P b σ) : QB P (.bool b) σ := ⟨b, rfl, h⟩

theorem WT.mono {e : Expr} {P' : Bool → St → Prop} (h : WT B n sc e m σ P) (hq : ∀ v σ', P v σ' → P' v σ') : WT B n sc e m σ P' := ⟨fun A env s a b c d => (h.run A env s a b c d).mono fun _ _ _ _ _ q => hq _ _ q⟩
theorem WT.val {e : Expr} (h : WE B n sc e m σ (QB P)) (he : ∀ env whole, isTrue e env whole = (do let v ← whole; standAt e.pos; holding [v] (truthy v)) := by intro _ _; rfl) : WT B n sc e m σ P := by
  refine ⟨fun A env s a b S L => ⟨isTrue_plain ((h.run A env s a b S L).to fun v σ₁ s₁ S₁ M₁ q => ?_) (he env _)⟩⟩
  obtain ⟨c, hv, hq⟩ := q
  rw [er_bool hv]
  exact wpAny_truthy_bool ⟨σ₁, S₁, M₁, hq⟩
theorem WT.not {e : Expr} {pos : Pos} (h : WT B n sc e m σ fun b σ₁ => P (!b) σ₁) : WT B n sc (.UnaryOp .Not e pos) m σ P :=
  ⟨fun A env s a b S L => ⟨isTrue_not (h.run A env s a b S L).run⟩⟩
theorem WT.cmp {l r : Expr} {op : CmpOp} {pos : Pos} (h : WE B n sc l m σ fun a σ₁ => WE B n sc r m σ₁ fun b σ₂ => WO B n (cmpT op) [a, b] σ₂ (QB P))
    (hm : behindInMarks op r = false := by rfl) : WT B n sc (.Compare l [op] [r] pos) m σ P := by
  refine ⟨fun A env s a b S L => ⟨wpAny_isTrue_Compare1 ((h.run A env s a b S L).to fun x σ₁ s₁ S₁ M₁ q => (q.run A env s₁ a b S₁ (L.mv M₁)).to fun y σ₂ s₂ S₂ M₂ q₂ => (q₂.run A s₂ [x, y] a S₂ rfl).to fun z σ₃ s₃ S₃ M₃ q₃ => ?_) hm⟩⟩
  obtain ⟨c, hv, hq⟩ := q₃
  rw [er_bool hv]
  exact wpAny_truthy_bool ⟨σ₃, S₃, M₁.trans (M₂.trans M₃), hq⟩
theorem WT.chain {l r₁ r₂ : Expr} {op₁ op₂ : CmpOp} {pos : Pos} (h : WE B n sc l m σ fun a σ₁ => WE B n sc r₁ m σ₁ fun b σ₂ => WO B n (cmpT op₁) [a, b] σ₂ (QB fun t σ₃ =>
      if t = true then WE B n sc r₂ m σ₃ fun c σ₄ => WO B n (cmpT op₂) [b, c] σ₄ (QB P) else P false σ₃)) (hm : lastMarks [op₁, op₂] [r₁, r₂] = false := by rfl) : WT B n sc (.Compare l [op₁, op₂] [r₁, r₂] pos) m σ P := by
  refine ⟨fun A env s a b S L => ⟨isTrue_chain ((h.run A env s a b S L).to fun x σ₁ s₁ S₁ M₁ q => ?_) hm⟩⟩
  show wpAny _ A (do
    let rv ← holding [x] (eval r₁ env)
    standAt pos
    let c ← holding [x, rv] (compareOp op₁ x rv)
    release [x, rv] [c]
    if ← holding [c, rv] (truthy c) then testChain pos rv [op₂] [eval r₂ env] else pure false) _ _ s₁
  refine wpAny_bind (wpAny_holding ((q.run A env s₁ a b S₁ (L.mv M₁)).to fun y σ₂ s₂ S₂ M₂ q₂ => wpAny_bind (wpAny_standAt (wpAny_bind (wpAny_holding ((q₂.run A s₂ [x, y] a S₂ rfl).to fun z σ₃ s₃ S₃ M₃ q₃ => ?_))))))
  obtain ⟨c, hv, hq⟩ := q₃
  rw [er_bool hv]
  have M13 := M₁.trans (M₂.trans M₃)
  refine wpAny_bind (fun Γ p hΓ => ?_)
  rw [Sem.wp_release]
  show wpAny _ A _ _ _ s₃
  refine wpAny_bind (wpAny_holding (wpAny_truthy_bool ?_))
  cases c with
  | false => exact wpAny_pure ⟨σ₃, S₃, M13, hq⟩
  | true =>
    show wpAny _ A (do
      let rv ← holding [y] (eval r₂ env)
      standAt pos
      let c ← operate [y, rv] (compareOp op₂ y rv)
      holding [c] (truthy c)) _ _ s₃
    have hq' : WE B n sc r₂ m σ₃ fun c σ₄ => WO B n (cmpT op₂) [er y, c] σ₄ (QB P) := hq
    refine wpAny_bind (wpAny_holding ((hq'.run A env s₃ a b S₃ (L.mv M13)).to fun u σ₄ s₄ S₄ M₄ q₄ => wpAny_bind (wpAny_standAt (wpAny_bind (wpAny_operating ((q₄.run A s₄ [y, u] a S₄ rfl).to fun z σ₅ s₅ S₅ M₅ q₅ => ?_))))))
    obtain ⟨c', hv', hq'⟩ := q₅
    rw [er_bool hv']
    exact wpAny_holding (wpAny_truthy_bool ⟨σ₅, S₅, M13.trans (M₄.trans M₅), hq'⟩)
theorem WT.andNil {pos : Pos} (h : P true σ) : WT B n sc (.BoolOp .And [] pos) m σ P := ⟨fun A env s a b S L => ⟨isTrue_and_nil ⟨σ, S, Mv.refl _ _, h⟩⟩⟩
theorem WT.orNil {pos : Pos} (h : P false σ) : WT B n sc (.BoolOp .Or [] pos) m σ P := ⟨fun A env s a b S L => ⟨isTrue_or_nil ⟨σ, S, Mv.refl _ _, h⟩⟩⟩
theorem WT.and {e : Expr} {es : List Expr} {pos : Pos} (h : WT B n sc e m σ fun b σ₁ => if b = true then WT B n sc (.BoolOp .And es pos) m σ₁ P else P false σ₁) : WT B n sc (.BoolOp .And (e :: es) pos) m σ P := by
  refine ⟨fun A env s a b S L => ⟨isTrue_and ((h.run A env s a b S L).to fun c σ₁ s₁ S₁ M₁ q => ?_)⟩⟩
  cases c with
  | false => exact ⟨σ₁, S₁, M₁, q⟩
  | true =>
    have q' : WT B n sc (.BoolOp .And es pos) m σ₁ P := q
    exact (q'.run A env s₁ a b S₁ (L.mv M₁)).up M₁
theorem WT.or {e : Expr} {es : List Expr} {pos : Pos} (h : WT B n sc e m σ fun b σ₁ => if b = true then P true σ₁ else WT B n sc (.BoolOp .Or es pos) m σ₁ P) : WT B n sc (.BoolOp .Or (e :: es) pos) m σ P := by
  refine ⟨fun A env s a b S L => ⟨isTrue_or ((h.run A env s a b S L).to fun c σ₁ s₁ S₁ M₁ q => ?_)⟩⟩
  cases c with
  | true => exact ⟨σ₁, S₁, M₁, q⟩
  | false =>
    have q' : WT B n sc (.BoolOp .Or es pos) m σ₁ P := q
    exact (q'.run A env s₁ a b S₁ (L.mv M₁)).up M₁

theorem WE.ifExp {t b o : Expr} {pos : Pos} (h : WT B n sc t m σ fun c σ₁ => if c = true then WE B n sc b m σ₁ Q else WE B n sc o m σ₁ Q) : WE B n sc (.IfExp t b o pos) m σ Q := by
  refine ⟨fun A env s a b' S L => ⟨IfExp_ ((h.run A env s a b' S L).to fun c σ₁ s₁ S₁ M₁ q => ?_)⟩⟩
  cases c with
  | true =>
    have q' : WE B n sc b m σ₁ Q := q
    exact (q'.run A env s₁ a b' S₁ (L.mv M₁)).up M₁
  | false =>
    have q' : WE B n sc o m σ₁ Q := q
    exact (q'.run A env s₁ a b' S₁ (L.mv M₁)).up M₁
/-- e and e' as a value, both bools -/
theorem WE.and2 {e e' : Expr} {pos : Pos} (h : WE B n sc e m σ (QB fun b σ₁ => if b = true then WE B n sc e' m σ₁ Q else Q (.bool false) σ₁)) : WE B n sc (.BoolOp .And [e, e'] pos) m σ Q := by
  refine ⟨fun A env s a b S L => ⟨BoolOp_and ((h.run A env s a b S L).to fun v σ₁ s₁ S₁ M₁ q => ?_)⟩⟩
  obtain ⟨c, hv, hq⟩ := q
  rw [er_bool hv]
  refine wpAny_truthy_bool ?_
  cases c with
  | false => exact ⟨σ₁, S₁, M₁, hq⟩
  | true =>
    have q' : WE B n sc e' m σ₁ Q := hq
    exact BoolOp_one ((q'.run A env s₁ a b S₁ (L.mv M₁)).up M₁)

-- displays
theorem WE.list {es : List Expr} {pos : Pos} (h : WEs B n sc es m σ fun vs σ₁ => vs.length ≤ 1000 ∧ ∀ a, σ₁ a = none → Q (.ref a) (upd σ₁ a (.list vs))) : WE B n sc (.List es pos) m σ Q := by
  refine ⟨fun A env s a b S L => ⟨List_ ((h.run A env s pos a b S L).to fun vs σ₁ s₁ S₁ M₁ q => ?_)⟩⟩
  have P := S₁.push (n := s₁.toks) (ob := { cls := .type "list", data := .seq vs.toArray }) (o := .list (vs.map er)) ⟨_, _, rfl, rfl⟩ rfl
  have hz : vs.length ≤ 1000 := by have := q.1; rwa [List.length_map] at this
  exact wpAny_newObj_type ⟨_, P.1, M₁.trans P.2, q.2 _ S₁.size_none⟩ (by show vs.toArray.size ≤ sizeLine; rw [List.size_toArray, sizeLine_eq]; omega)
theorem WE.tuple {es : List Expr} {k : Nat} {pos : Pos} (h : WEs B n sc es m σ fun vs σ₁ => vs.length ≤ 1000 ∧ ∀ a, σ₁ a = none → Q (.ref a) (upd σ₁ a (.tup vs))) : WE B n sc (.Tuple es k pos) m σ Q := by
  refine ⟨fun A env s a b S L => ⟨Tuple_ ((h.run A env s pos a b S L).to fun vs σ₁ s₁ S₁ M₁ q => ?_)⟩⟩
  have P := S₁.push (n := s₁.toks) (ob := { cls := .type "tuple", data := .seq vs.toArray }) (o := .tup (vs.map er)) ⟨_, _, rfl, rfl⟩ rfl
  have hz : vs.length ≤ 1000 := by have := q.1; rwa [List.length_map] at this
  exact wpAny_newObj_type ⟨_, P.1, M₁.trans P.2, q.2 _ S₁.size_none⟩ (by show vs.toArray.size ≤ sizeLine; rw [List.size_toArray, sizeLine_eq]; omega)
theorem WE.dict0s {pos : Pos} (h : ∀ a ep, σ a = none → Q (.ref a) (upd σ a (.sdict [] ep))) : WE B n sc (.Dict [] [] pos) m σ Q := by
  refine ⟨fun A env s a b S L => ⟨wpAny_Dict_empty ?_⟩⟩
  obtain ⟨ob, ep, h1, h2⟩ := sdict_new (B := B) (s := { s with heap := s.heap.push { cls := .type "dict", data := .dict #[] } }) (d := s.heap.objs.size) (kvs := []) (Heap.DictOf.new s.heap)
  have P := S.more (n := s.toks) (h := s.heap.push { cls := .type "dict", data := .dict #[] }) (fun b o e => Heap.get?_push_of_some _ e) (Heap.get?_none_of_le (Nat.le_refl _)) S.hiSize h1 h2
  exact ⟨_, P.1, P.2, h _ _ S.size_none⟩
theorem WE.dict0i {pos : Pos} (h : ∀ a ep, σ a = none → Q (.ref a) (upd σ a (.idict [] ep))) : WE B n sc (.Dict [] [] pos) m σ Q := by
  refine ⟨fun A env s a b S L => ⟨wpAny_Dict_empty ?_⟩⟩
  obtain ⟨ob, ep, h1, h2⟩ := idict_new (B := B) (s := { s with heap := s.heap.push { cls := .type "dict", data := .dict #[] } }) (d := s.heap.objs.size) (kvs := []) (Heap.DictOf.new s.heap)
  have P := S.more (n := s.toks) (h := s.heap.push { cls := .type "dict", data := .dict #[] }) (fun b o e => Heap.get?_push_of_some _ e) (Heap.get?_none_of_le (Nat.le_refl _)) S.hiSize h1 h2
  exact ⟨_, P.1, P.2, h _ _ S.size_none⟩
/-- {k1: e1, k2: e2} -/
theorem WE.dict2 {k1 k2 : Str} {i1 i2 : Nat} {p1 p2 pos : Pos} {e1 e2 : Expr} (hne : k1 ≠ k2) (h : WE B n sc e1 m σ fun v1 σ₁ => WE B n sc e2 m σ₁ fun v2 σ₂ => ∀ a ep, σ₂ a = none → σ a = none → Q (.ref a) (upd σ₂ a (.sdict [(k1, v1), (k2, v2)] ep))) :
    WE B n sc (.Dict [some (.Constant (.str k1) i1 p1), some (.Constant (.str k2) i2 p2)] [e1, e2] pos) m σ Q := by
  refine ⟨fun A env s a b S L => ⟨?_⟩⟩
  refine wpAny_Dict_pairs (knd := strKind B.prog B.w) (pairs := [(eval (.Constant (.str k1) i1 p1) env, do let x ← eval e1 env; standAt pos; pure x), (eval (.Constant (.str k2) i2 p2) env, do let x ← eval e2 env; standAt pos; pure x)]) rfl (by simp) (by simp) ?_
  have k0 : ∀ b o, s.heap.get? b = some o → (s.heap.push { cls := .type "dict", data := .dict #[] }).get? b = some o := fun b o e => Heap.get?_push_of_some _ e
  have S₀ := S.keeps (n := s.toks) k0
  have M₀ : Mv σ σ s.heap (s.heap.push { cls := .type "dict", data := .dict #[] }) := Mv.of_keeps k0
  have hd0 : σ s.heap.objs.size = none := S.size_none
  refine evalPairs_cons (wpAny_Constant_str ?_)
  refine wpAny_bind ((h.run A env _ a b (S₀.tk _) (L.mv M₀)).to fun v1 σ₁ s₁ S₁ M₁ q => wpAny_bind (wpAny_standAt (wpAny_pure ?_)))
  refine evalPairs_cons (wpAny_Constant_str ?_)
  refine wpAny_bind ((q.run A env { s₁ with toks := s₁.toks + 1 } a b (S₁.tk _) (L.mv (M₀.trans M₁))).to fun v2 σ₂ s₂ S₂ M₂ q₂ => wpAny_bind (wpAny_standAt (wpAny_pure (evalPairs_nil ?_))))
  have M₁' : Mv σ σ₁ (s.heap.push { cls := .type "dict", data := .dict #[] }) s₁.heap := M₁
  have M₂' : Mv σ₁ σ₂ s₁.heap s₂.heap := M₂
  have M12 := M₁'.trans M₂'
  have hdo : (s.heap.push { cls := .type "dict", data := .dict #[] }).DictOf (strKind B.prog B.w) s.heap.objs.size [] := Heap.DictOf.new s.heap
  have hd2 : s₂.heap.DictOf (strKind B.prog B.w) s.heap.objs.size [] := by
    obtain ⟨o, es, ep, ho, r⟩ := hdo
    exact ⟨o, es, ep, M12.keep _ _ ho hd0, r⟩
  have hnone2 : σ₂ s.heap.objs.size = none := by
    cases q : σ₂ s.heap.objs.size with
    | none => rfl
    | some o =>
      obtain ⟨o', es, ep, ho, r⟩ := hdo
      have := M12.fresh _ (by rw [q]; exact Option.some_ne_none _) hd0
      rw [ho] at this; cases this
  refine ⟨[(k1, v1), (k2, v2)], ⟨strKey rfl, rfl, strKey rfl, rfl, trivial⟩, hd2, fun h' hm hs => ?_⟩
  have e : merged [] [(k1, v1), (k2, v2)] = [(k1, v1), (k2, v2)] := by
    unfold merged
    simp [stored, hne]
  rw [e] at hm
  obtain ⟨ob, ep, g1, g2⟩ := sdict_new (B := B) (s := { s₂ with heap := h' }) hm
  have hfr : s.heap.get? s.heap.objs.size = none := Heap.get?_none_of_le (Nat.le_refl _)
  have hoff : B.s₀.heap.get? s.heap.objs.size = none := by
    cases q : B.s₀.heap.get? s.heap.objs.size with
    | none => rfl
    | some o => have := S.base _ _ q; rw [hfr] at this; cases this
  have SF : Sh B (upd σ₂ s.heap.objs.size (.sdict [(k1, er v1), (k2, er v2)] ep)) { s₂ with heap := h', toks := s₂.toks + [((Value.str k1 s.toks), v1), ((Value.str k2 s₁.toks), v2)].length } := by
    refine ⟨S₂.ok, by obtain ⟨_, _, rfl⟩ := S₂.same; exact ⟨_, _, rfl⟩, fun b o e => (hs.2 b (fun q => by rw [q, hoff] at e; cases e)).trans (S₂.base b o e), fun b hb => ?_, fun b hb => ?_, fun b o' e => ?_⟩
    · by_cases e : b = s.heap.objs.size
      · rw [e]; exact hoff
      · rw [upd_ne e] at hb; exact S₂.off b hb
    · by_cases e : b = s.heap.objs.size
      · rw [e]; exact S.hiSize
      · rw [upd_ne e] at hb; exact S₂.hi b hb
    · by_cases q : b = s.heap.objs.size
      · subst q; rw [upd_self] at e; cases e; exact ⟨ob, g1, g2⟩
      · rw [upd_ne q] at e; obtain ⟨ob', h1, h2⟩ := S₂.objs b o' e; exact ⟨ob', (hs.2 b q).trans h1, h2⟩
  refine ⟨_, SF, ⟨fun b o e hn => ?_, fun b h1 h2 => ?_⟩, q₂ _ _ hnone2 hd0⟩
  · have hb : b ≠ s.heap.objs.size := fun q => by rw [q, hfr] at e; cases e
    exact (hs.2 b hb).trans ((M₀.trans M12).keep b o e hn)
  · by_cases e : b = s.heap.objs.size
    · rw [e]; exact hfr
    · rw [upd_ne e] at h1; exact (M₀.trans M12).fresh b h1 h2

theorem WO.eqList {l b : Addr} {xs : List V} (hl : rd B σ l (.list xs)) (hb : rd B σ b (.list xs)) (hf : ∀ x ∈ xs, flat x = true) (h : Q (.bool true) σ) : WO B n (cmpT .Eq) [.ref l, .ref b] σ Q := by
  refine ⟨fun A s vals a S hv => ⟨?_⟩⟩
  obtain ⟨x, y, rfl, hx, hy⟩ := map_two hv
  rw [er_ref hx, er_ref hy]
  obtain ⟨i1, k1, L1, e1⟩ := S.list hl
  obtain ⟨i2, k2, L2, e2⟩ := S.list hb
  have hsz : i1.size = i2.size := by rw [len_er e1, len_er e2]
  refine SeqAt.RcAt.lists (e := fun _ => true) L1.isList L2.isList hsz (units_room a) (fun j h1 h2 => ?_) _ _ _ _ ⟨σ, S, Mv.refl _ _, ?_⟩
  · have h3 : er i1[j] = er i2[j] := by
      have := congrArg (·[j]?) (e1.trans e2.symm)
      simpa [h1, h2] using this
    have h4 : flat (er i1[j]) = true := hf _ (by rw [← e1]; exact List.mem_map_of_mem (Array.mem_toList_iff.mpr (Array.getElem_mem h1)))
    have := eqAt_flat (A := A.in1) (s := s) (x := i1[j]) (y := i2[j]) h4 (h3 ▸ h4)
    rw [← h3, eqV_self h4] at this
    exact this
  · have e : ((List.range i1.size).all fun _ => true) = true := by simp
    show Q (er (.bool ((List.range i1.size).all fun _ => true))) σ
    rw [e]; exact h
theorem lk_some {K : Type} [DecidableEq K] (kvs : List (K × Value)) (k : K) : (valueAt kvs k).isSome = (((kvs.map erP).find? fun p => decide (p.1 = k)).map (·.2)).isSome := by
  rw [← valueAt_er, Option.isSome_map]
theorem WO.inSdict {l : Addr} {kvs : List (Str × V)} {ep : Nat} {k : Str} (hl : σ l = some (.sdict kvs ep)) (h : Q (.bool (lkS kvs k).isSome) σ) : WO B n (cmpT .In) [.str k, .ref l] σ Q := by
  refine ⟨fun A s vals a S hv' => ⟨?_⟩⟩
  obtain ⟨x', y', rfl, h1, h2⟩ := map_two hv'
  rw [er_ref h2]
  obtain ⟨kvs', g1, g2⟩ := S.sdict hl
  refine wpAny_in_of (strKey h1) (S.dnot (by rw [hl]; exact Option.some_ne_none _)) g1.dictOf.mapOf ⟨σ, S.tk _, Mv.refl _ _, ?_⟩
  rw [lk_some, g2]; exact h
theorem WO.inIdict {l : Addr} {kvs : List (Int × V)} {ep : Nat} {k : Int} (hl : σ l = some (.idict kvs ep)) (h : Q (.bool (lkI kvs k).isSome) σ) : WO B n (cmpT .In) [.int k, .ref l] σ Q := by
  refine ⟨fun A s vals a S hv' => ⟨?_⟩⟩
  obtain ⟨x', y', rfl, h1, h2⟩ := map_two hv'
  rw [er_ref h2]
  obtain ⟨kvs', g1, g2⟩ := S.idict hl
  refine wpAny_in_of (intKey h1) (S.dnot (by rw [hl]; exact Option.some_ne_none _)) g1.dictOf.mapOf ⟨σ, S.tk _, Mv.refl _ _, ?_⟩
  rw [lk_some, g2]; exact h
theorem WO.notInSdict {l : Addr} {kvs : List (Str × V)} {ep : Nat} {k : Str} (hl : σ l = some (.sdict kvs ep)) (h : Q (.bool !(lkS kvs k).isSome) σ) : WO B n (cmpT .NotIn) [.str k, .ref l] σ Q := by
  refine ⟨fun A s vals a S hv' => ⟨?_⟩⟩
  obtain ⟨x', y', rfl, h1, h2⟩ := map_two hv'
  obtain ⟨kvs', g1, g2⟩ := S.sdict hl
  rw [er_ref h2]
  refine PySem.wpAny_notIn_of (strKey h1) (S.dnot (by rw [hl]; exact Option.some_ne_none _)) g1.dictOf.mapOf ⟨σ, S.tk _, Mv.refl _ _, ?_⟩
  rw [lk_some, g2]; exact h
end
end Mine

namespace Mine

section
variable {B : Base} {n : Nat} {sc : Scope} {m : Loc} {σ : St} {Q : V → St → Prop}

theorem Sh.turnU {s : Shared} (S : Sh B σ s) {f : Obj → Obj} {n : Nat} {a : Addr} {ob : Obj} {o : AO} (hin : σ a ≠ none) (ho : s.heap.get? a = some ob) (hf : (f ob).isFreed = false) (hr : RepO B o (f ob)) :
    Sh B (upd σ a o) { s with heap := s.heap.update a f, toks := n } ∧ Mv σ (upd σ a o) s.heap (s.heap.update a f) :=
  S.turn hin (fun b o hb e => (Heap.get?_update_ne _ _ _ _ hb).trans e) (Heap.get?_update_self _ ho hf) hr
theorem Sh.listO {s : Shared} (S : Sh B σ s) {l : Addr} {xs : List V} (h : σ l = some (.list xs)) : ∃ items k, IsL s.heap l items k ∧ items.toList.map er = xs := S.list (.inl h)

-- setItem
theorem setItem_list {A : Around} {s : Shared} {l : Addr} {xs : List V} {i v : Value} {k : Int} {P : St → Prop} (S : Sh B σ s) (hl : σ l = some (.list xs)) (hi : er i = .int k) (h0 : 0 ≤ k) (hk : k < xs.length) (hk' : xs.length < 2 ^ 60) (h : P (upd σ l (.list (xs.set k.toNat (er v))))) :
    J B A (setItem (.ref l) i v) σ s fun _ σ' _ => P σ' := by
  obtain ⟨t, rfl⟩ := er_int hi
  obtain ⟨items, j, g1, g2⟩ := S.listO hl
  have e := len_er g2
  refine ⟨?_⟩
  obtain ⟨hh, hg, hd, htk, hos⟩ := s
  obtain ⟨o, ho, hc, ne, hd'⟩ := g1.isList
  unfold setItem
  try with_reducible refine wpAny_holding ?_
  first | refine wpAny_bind (wpAny_pure ?_) | skip
  refine wpAny_bind (wpAny_sequenceKey g1.isList.typeIs (by decide) ?_)
  refine wpAny_bind (wpAny_callSpecial?_slot (name := Str.ofString "__setitem__") g1.isList.typeIs slot_list_setitem
    (wpAny_call_entry slot_list_setitem g1.isList.typeIs entry_list_setitem ?_ (args_list_setitem _ _ _)))
  show wpAny _ _ (Builtin.List.listSubscript? (.int k t) >>= _) _ _ _
  refine wpAny_bind (wpAny_listSubscript_int (fitsIndex_of h0 (by omega)) ?_)
  obtain ⟨j', rfl⟩ := Int.eq_ofNat_of_zero_le h0
  have hj : j' < items.size := by omega
  have hx' : items[j']? = some items[j'] := Array.getElem?_eq_getElem hj
  show wpAny _ _ ((seqItemAt l j' >>= fun r => pure (r.map (j', ·))) >>= _) _ _ _
  refine wpAny_bind (wpAny_bind (wpAny_seqItemAt g1 rfl (wpAny_pure ?_)))
  rw [hx']
  show wpAny _ _ (setSeqItemAt l j' v >>= _) _ _ _
  have P := S.turnU (n := htk) (f := Obj.mapSeq (·.setIfInBounds j' v)) (o := .list (xs.set j' (er v))) (by rw [hl]; exact Option.some_ne_none _) g1 rfl ⟨_, _, rfl, by
    rw [Array.toList_setIfInBounds, List.map_set, g2]⟩
  refine wpAny_bind (wpAny_setSeqItemAt g1 rfl ?_)
  first
    | exact wpAny_bind (wpAny_pure (wpAny_pure ⟨.none, rfl, wpAny_pure ⟨_, P.1, P.2, h⟩⟩))
    | exact wpAny_pure ⟨.none, rfl, wpAny_pure ⟨_, P.1, P.2, h⟩⟩
theorem turnD {s : Shared} (S : Sh B σ s) {d : Addr} {h' : Heap} {n : Nat} {o : AO} {ob : Obj} (hin : σ d ≠ none) (hs : Heap.SameBut d s.heap h') (ho : h'.get? d = some ob) (hr : RepO B o ob) :
    Sh B (upd σ d o) { s with heap := h', toks := n } ∧ Mv σ (upd σ d o) s.heap h' := S.turn hin (fun b o hb e => (hs.2 b hb).trans e) ho hr
theorem setItem_sdict {A : Around} {s : Shared} {d : Addr} {kvs : List (Str × V)} {ep : Nat} {i v : Value} {k : Str} {P : St → Prop} (S : Sh B σ s) (hl : σ d = some (.sdict kvs ep)) (hi : er i = .str k) (hz : kvs.length ≤ sizeLine)
    (h : ∀ ep', P (upd σ d (.sdict (stS kvs k (er v)) ep'))) : J B A (setItem (.ref d) i v) σ s fun _ σ' _ => P σ' := by
  obtain ⟨kvs', g1, g2⟩ := S.sdict hl
  have e : kvs'.length = kvs.length := by rw [← g2, List.length_map]
  refine ⟨?_⟩
  with_reducible refine wpAny_setItem_pairs (strKey hi) g1.dictOf (fun h' hn hs => ?_) (by rw [e]; exact hz)
  obtain ⟨ob, ep', q1, q2⟩ := sdict_new (B := B) (s := { s with heap := h' }) hn
  rw [stored_er, g2] at q2
  have P := turnD (n := s.toks + 1) S (by rw [hl]; exact Option.some_ne_none _) hs q1 q2
  exact ⟨_, P.1, P.2, h ep'⟩
theorem setItem_idict {A : Around} {s : Shared} {d : Addr} {kvs : List (Int × V)} {ep : Nat} {i v : Value} {k : Int} {P : St → Prop} (S : Sh B σ s) (hl : σ d = some (.idict kvs ep)) (hi : er i = .int k) (hz : kvs.length ≤ sizeLine)
    (h : ∀ ep', P (upd σ d (.idict (stI kvs k (er v)) ep'))) : J B A (setItem (.ref d) i v) σ s fun _ σ' _ => P σ' := by
  obtain ⟨kvs', g1, g2⟩ := S.idict hl
  have e : kvs'.length = kvs.length := by rw [← g2, List.length_map]
  refine ⟨?_⟩
  with_reducible refine wpAny_setItem_pairs (intKey hi) g1.dictOf (fun h' hn hs => ?_) (by rw [e]; exact hz)
  obtain ⟨ob, ep', q1, q2⟩ := idict_new (B := B) (s := { s with heap := h' }) hn
  rw [stored_er, g2] at q2
  have P := turnD (n := s.toks + 1) S (by rw [hl]; exact Option.some_ne_none _) hs q1 q2
  exact ⟨_, P.1, P.2, h ep'⟩

-- attributes stored
theorem setAttr_J {A : Around} {s : Shared} {x d : Addr} {kvs : List (Str × V)} {a : Str} {v : Value} {P : St → Prop} (S : Sh B σ s) (hx : σ x = some (.inst B.C d)) (hd : σ d = some (.attrs kvs)) (hz : kvs.length ≤ 1000) (ha : anames.contains a = true)
    (h : P (upd σ d (.attrs (putA kvs a (er v))))) : J B A (setAttr (.ref x) a v) σ s fun _ σ' _ => P σ' := by
  obtain ⟨hh, gg, dr, tt, oo⟩ := s
  obtain ⟨es, k, h1, h2, I⟩ := S.inst hx hd
  have vk := S.ok.vec
  have X : B.K.In hh := S.kin
  dsimp only at h1 I
  refine ⟨set_plain X I vk.setattr ?_⟩
  refine osa_open X I vk.over (vk.taker a ha) fun b => ?_
  obtain ⟨cd, hc, hd'⟩ := any_some vk.hasDict
  obtain ⟨hxo, hcl, hn, -⟩ := I
  refine wpAny_bind (wpAny_pure (wpAny_bind (wpAny_bind (wpAny_loadPart hxo (wpAny_bind ((looks_clsIn X hc).here ?_))))))
  rw [hd']
  refine wpAny_pure (a := some d) (wpAny_bind (wpAny_pure (wpAny_bind ?_)))
  unfold nsSet
  refine wpAny_bind (wpAny_bind (wpAny_askSetting (wpAny_pure (wpAny_bind (wpAny_mkText (wpAny_bind (wpAny_loadPart h1 ?_)))))))
  show wpAny _ _ (if _ then _ else _) _ _ _
  have hrk : es.any (·.refKey) = false := by
    clear h1 hz h hd
    induction h2 with
    | nil => rfl
    | @cons e kv es kvs g1 _ ih =>
      obtain ⟨⟨t, g1⟩, g2⟩ := g1
      rw [List.any_cons, ih, Bool.or_false]
      unfold DictEntry.refKey; rw [g1]
  have c : (!es.toArray.any (·.key.isStr a) && es.toArray.any (·.refKey)) = false := by
    rw [List.any_toArray, List.any_toArray, hrk, Bool.and_false]
  rw [aRefKeyMayBeTheName_at, c]
  refine wpAny_updatePart h1 ?_
  have e' := putName_dict a (PyData.keyHash B.w.params a) (.str a (tt + 1)) v es k
  have P1 := putL_paired h2 a (PyData.keyHash B.w.params a) (tt + 1) v
  have P := S.turnU (n := tt + 1 + 1) (f := Obj.putName a (PyData.keyHash B.w.params a) (.str a (tt + 1)) v) (o := .attrs (putA kvs a (er v))) (by rw [hd]; exact Option.some_ne_none _) h1 (by rw [e']; rfl) (by rw [e']; exact ⟨_, _, rfl, P1⟩)
  have hl : (putA kvs a (er v)).length ≤ kvs.length + 1 := by
    clear h1 h2 hz h hd P1 P
    induction kvs with
    | nil => exact Nat.le_refl _
    | cons p r ih => unfold putA; split <;> simp only [List.length_cons] <;> omega
  refine wpAny_bind (wpAny_lookBehind (Heap.get?_update_self _ h1 ((congrArg Obj.isFreed e').trans rfl)) ((congrArg (fun o : Obj => o.data.pastItsLine) e').trans (pastItsLine_dict (by rw [List.size_toArray, P1.length, sizeLine_eq]; omega))) ?_)
  exact wpAny_pure ⟨_, P.1, P.2, h⟩
end
end Mine

namespace Mine

section
variable {B : Base} {n : Nat} {sc : Scope} {m : Loc} {σ : St} {Q : V → St → Prop}

def PlainT (B : Base) (σ : St) (v : V) (T : String) : Prop := ∀ s, Sh B σ s → ∀ x, er x = v → s.TypeIs x T ∧ ∀ a, x = .ref a → ∃ o, s.heap.get? a = some o ∧ o.dict = none
theorem plainT_list {l : Addr} {xs : List V} (h : rd B σ l (.list xs)) : PlainT B σ (.ref l) "list" := fun s S x hx => by
  obtain ⟨items, k, g1, g2⟩ := S.list h
  rw [er_ref hx]
  exact ⟨g1.isList.typeIs, fun a e => by cases e; exact ⟨_, g1, rfl⟩⟩
theorem plainT_sdict {l : Addr} {kvs : List (Str × V)} {ep : Nat} (h : σ l = some (.sdict kvs ep)) : PlainT B σ (.ref l) "dict" := fun s S x hx => by
  obtain ⟨ob, h1, es, kvs', h2, h3, h4, h5, h6, h7⟩ := S.objs _ _ h
  obtain ⟨kvs', g1, g2⟩ := S.sdict h
  rw [er_ref hx]
  exact ⟨g1.dictOf.typeIs, fun a e => by cases e; exact ⟨_, h1, h2.2.1⟩⟩

theorem WE.meth {o : Expr} {name : Str} {id : String} {T : String} {apos pos : Pos} {es : List Expr} {pl : Env → Sem Bool} (pa : PlainAttrs T) (slot : Slot T name id) (hty : typeOf (.builtin id) = pure (.type "method_descriptor")) (hs : es.any starred = false)
    (h : WE B n sc o m σ fun v σ₁ => PlainT B σ₁ v T ∧ WEs B n sc es m σ₁ fun vs σ₂ => WO B n (callT (.builtin id)) (v :: vs) σ₂ Q)
    (he : ∀ env, eval (.Call (.Attribute o name apos) es [] pos) env = (do
      let ov ← eval o env
      standAt apos.atName
      let (f, first) ← holding [ov] (getMethod ov name (pl env))
      callWith pos f first (backTo pos (starEach es env)) (backToKw pos (keywordEach [] env))) := by intro _; rfl) : WE B n sc (.Call (.Attribute o name apos) es [] pos) m σ Q := by
  refine ⟨fun A env s a b S L => ⟨?_⟩⟩
  refine methodCall_KW ((h.run A env s a b S L).to fun x σ₁ s₁ S₁ M₁ q => ?_) (he env)
  obtain ⟨q1, q2⟩ := q
  obtain ⟨t1, t2⟩ := q1 s₁ S₁ x rfl
  refine getMethod_builtin t1 pa slot hty t2 ?_
  exact (callWith_J (first := [x]) (Q := fun v σ' _ => Q (er v) σ') (keepy_builtin id) hs ((q2.run A env s₁ pos a b S₁ (L.mv M₁)).mono fun vs σ₂ s₂ S₂ M₂ q _ => q.run A s₂ (x :: vs) a S₂ rfl)).run |> fun h => wpAny_mono h (fun _ _ ⟨σ₂, S₂, M₂, q⟩ => ⟨σ₂, S₂, M₁.trans M₂, q⟩) fun _ _ e => e

theorem WE.append {o e : Expr} {apos pos : Pos} {pl : Env → Sem Bool}
    (h : WE B n sc o m σ fun v σ₁ => ∃ l, v = .ref l ∧ (∃ xs, σ₁ l = some (.list xs)) ∧ WE B n sc e m σ₁ fun u σ₂ => ∃ xs, σ₂ l = some (.list xs) ∧ xs.length < sizeLine ∧ Q .none (upd σ₂ l (.list (xs ++ [u]))))
    (hs : starred e = false := by rfl)
    (he : ∀ env, eval (.Call (.Attribute o "append" apos) [e] [] pos) env = (do
      let ov ← eval o env
      standAt apos.atName
      let (f, first) ← holding [ov] (getMethod ov "append" (pl env))
      callWith pos f first (backTo pos (starEach [e] env)) (backToKw pos (keywordEach [] env))) := by intro _; rfl) : WE B n sc (.Call (.Attribute o "append" apos) [e] [] pos) m σ Q := by
  refine WE.meth F.plainAttrs_list F.slot_list_append F.type_list_append (by rw [List.any_cons, hs]; rfl) (h.mono fun v σ₁ q => ?_) he
  obtain ⟨l, rfl, ⟨xs₀, h1⟩, q⟩ := q
  refine ⟨plainT_list (.inl h1), WEs.cons (q.mono fun u σ₂ q₂ => WEs.nil ⟨fun A s vals a S hv => ⟨?_⟩⟩) fun env => starEach_cons hs⟩
  obtain ⟨xs, g1, g2, g3⟩ := q₂
  obtain ⟨x, y, rfl, hx, hy⟩ := map_two hv
  rw [er_ref hx]
  obtain ⟨items, k, L1, e1⟩ := S.listO g1
  refine call_meets F.slot_list_append L1.isList.typeIs F.entry_list_append (F.args_list_append_2 _ _) (list_append l items k y (by rw [len_er e1]; omega)) ⟨L1, ?_⟩
  have P := S.turnU (n := s.toks) (f := Obj.mapSeq (·.push y)) (o := .list (xs ++ [u])) (by rw [g1]; exact Option.some_ne_none _) L1 rfl ⟨_, _, rfl, by rw [Array.toList_push, List.map_append, e1, ← hy]; rfl⟩
  exact ⟨_, P.1, P.2, g3⟩
theorem WO.pop {l : Addr} {xs : List V} {v : V} (hl : σ l = some (.list (xs ++ [v]))) (hz : xs.length < sizeLine) (h : Q v (upd σ l (.list xs))) : WO B n (callT (.builtin "list.pop")) [.ref l] σ Q := by
  refine ⟨fun A s vals a S hv => ⟨?_⟩⟩
  obtain ⟨x, rfl, hx⟩ := map_one hv
  rw [er_ref hx]
  obtain ⟨items, k, L1, e1⟩ := S.listO hl
  have hsz : items.size = xs.length + 1 := by rw [len_er e1]; simp
  obtain ⟨y, hy1, hy2⟩ := get_er e1 (i := xs.length) (v := v) (by simp)
  refine call_meets F.slot_list_pop L1.isList.typeIs F.entry_list_pop (F.args_list_pop_1 _) (MeetsSeq.list_pop_last l items k y (by rw [hsz]; exact hy1) (by omega)) ⟨L1, ?_⟩
  have P := S.turnU (n := s.toks) (f := Obj.mapSeq fun ys => ys.eraseIdxIfInBounds (items.size - 1)) (o := .list xs) (by rw [hl]; exact Option.some_ne_none _) L1 rfl ⟨_, _, rfl, by
    rw [hsz, Nat.add_sub_cancel]
    have h1 : (items.eraseIdxIfInBounds xs.length).toList = items.toList.eraseIdx xs.length := by
      rw [Array.eraseIdxIfInBounds_eq, dif_pos (by omega), Array.toList_eraseIdx]
    rw [h1, List.eraseIdx_eq_take_drop_succ, List.map_append, List.map_take, List.map_drop, e1]
    simp⟩
  exact ⟨_, P.1, P.2, by show Q (er y) _; rw [hy2]; exact h⟩
theorem WO.reverse {l : Addr} {xs : List V} (hl : σ l = some (.list xs)) (hz : xs.length < sizeLine) (h : Q .none (upd σ l (.list xs.reverse))) : WO B n (callT (.builtin "list.reverse")) [.ref l] σ Q := by
  refine ⟨fun A s vals a S hv => ⟨?_⟩⟩
  obtain ⟨x, rfl, hx⟩ := map_one hv
  rw [er_ref hx]
  obtain ⟨items, k, L1, e1⟩ := S.listO hl
  refine call_meets F.slot_list_reverse L1.isList.typeIs F.entry_list_reverse (F.args_list_reverse_1 _) (AutoSeq1.list_reverse_list_0 l items k (by rw [len_er e1]; omega)) ⟨L1, ?_⟩
  have P := S.turnU (n := s.toks) (f := Obj.mapSeq fun ys => ys.reverse) (o := .list xs.reverse) (by rw [hl]; exact Option.some_ne_none _) L1 rfl ⟨_, _, rfl, by rw [Array.toList_reverse, List.map_reverse, e1]⟩
  exact ⟨_, P.1, P.2, h⟩
theorem WO.index {l : Addr} {is : List Int} {k : Int} (hl : rd B σ l (.list (is.map V.int))) (hm : k ∈ is) (hz : is.length < 2 ^ 60) (h : Q (.int (is.idxOf k)) σ) : WO B n (callT (.builtin "list.index")) [.ref l, .int k] σ Q := by
  refine ⟨fun A s vals a S hv => ⟨?_⟩⟩
  obtain ⟨x, y, rfl, hx, hy⟩ := map_two hv
  obtain ⟨t, rfl⟩ := er_int hy
  rw [er_ref hx]
  obtain ⟨items, j, L1, e1⟩ := S.list hl
  have hlt := List.idxOf_lt_length_of_mem hm
  have hsz : items.size = is.length := by rw [len_er e1, List.length_map]
  have at_ : ∀ i (h1 : i < items.size) (h2 : i < is.length), er items[i] = .int is[i] := fun i h1 h2 => by
    have := congrArg (·[i]?) e1
    simpa [h1, h2] using this
  refine call_meets F.slot_list_index L1.isList.typeIs F.entry_list_index (F.args_list_index_2 _ _) (SeqAt.list_indexAt l items j none #[] (.int k t) (fun y => eqV (er y) (.int k)) (is.idxOf k) (by omega) (by omega) ?_ ?_) ⟨L1, fun y hy => ?_, ?_⟩
  · show eqV (er items[is.idxOf k]) (.int k) = true
    rw [at_ _ (by omega) hlt]
    simp [eqV]
  · intro i h1 h2
    show eqV (er items[i]) (.int k) = false
    rw [at_ _ h1 (by omega)]
    have := List.not_of_lt_findIdx (p := (· == k)) (xs := is) (i := i) h2
    simpa [eqV] using this
  · obtain ⟨i, hi, rfl⟩ := Array.mem_iff_getElem.mp hy
    refine eqAt_flat ?_ rfl
    rw [at_ i hi (by omega)]; rfl
  · exact ⟨σ, S.tk _, Mv.refl _ _, h⟩
theorem WO.dget {l : Addr} {kvs : List (Str × V)} {ep : Nat} {k : Str} (hl : σ l = some (.sdict kvs ep)) (h : Q ((lkS kvs k).getD .none) σ) : WO B n (callT (.builtin "dict.get")) [.ref l, .str k] σ Q := by
  refine ⟨fun A s vals a S hv => ⟨?_⟩⟩
  obtain ⟨x, y, rfl, hx, hy⟩ := map_two hv
  rw [er_ref hx]
  obtain ⟨kvs', g1, g2⟩ := S.sdict hl
  refine call_meetsIn F.slot_dict_get g1.dictOf.typeIs F.entry_dict_get (F.args_dict_get_2 _ _) (meets_dict_get (strKind B.prog B.w) l (strKey hy) (S.dnot (by rw [hl]; exact Option.some_ne_none _))) ⟨_, g1.dictOf.mapOf, σ, S.tk _, Mv.refl _ _, ?_⟩
  have := valueAt_er kvs' k
  rw [g2] at this
  show Q (er ((valueAt kvs' k).getD .none)) σ
  have e : er ((valueAt kvs' k).getD .none) = (lkS kvs k).getD .none := by
    show _ = (((kvs.find? fun p => decide (p.1 = k)).map (·.2)).getD .none)
    rw [← this]
    cases valueAt kvs' k <;> rfl
  rw [e]; exact h
/-- l * k, k whole -/
theorem WO.mulList {l : Addr} {xs : List V} {k : Int} (hl : rd B σ l (.list xs)) (h1 : xs.length = 1) (h0 : 0 ≤ k) (hk : k < 1000) (h : ∀ a, σ a = none → Q (.ref a) (upd σ a (.list (List.replicate k.toNat xs).flatten))) : WO B n (binT .Mult) [.ref l, .int k] σ Q := by
  refine ⟨fun A s vals a S hv => ⟨?_⟩⟩
  obtain ⟨x, y, rfl, hx, hy⟩ := map_two hv
  obtain ⟨t, rfl⟩ := er_int hy
  rw [er_ref hx]
  obtain ⟨items, j, L1, e1⟩ := S.list hl
  have hsz : items.size = 1 := by rw [len_er e1, h1]
  have S' : Sh B (upd σ s.heap.objs.size (.list (List.replicate k.toNat xs).flatten)) { s with heap := s.heap.push { cls := .type "list", data := .seq (List.foldl (fun x1 x2 => x1 ++ x2) #[] (List.replicate (if items.isEmpty = true then 0 else k.toNat) items)) } } ∧
      Mv σ (upd σ s.heap.objs.size (.list (List.replicate k.toNat xs).flatten)) s.heap (s.heap.push { cls := .type "list", data := .seq (List.foldl (fun x1 x2 => x1 ++ x2) #[] (List.replicate (if items.isEmpty = true then 0 else k.toNat) items)) }) := by
    refine S.push (n := s.toks) ⟨_, _, rfl, ?_⟩ rfl
    have hne : items.isEmpty = false := by simp [Array.isEmpty, hsz]
    have := flat_rep er items.toList k.toNat
    rw [Array.toArray_toList, e1] at this
    rw [hne]; exact this
  refine wpAny_binaryOp_repeat_ref (T := "list") (U := "int") (by decide) ⟨_, L1, rfl⟩ (fun s' => typeIs_int s' k t) noFill_list_mul F.fills_int_mul F.slot_int_rmul repeat_list F.slot_int_index.lookup
    (call_meets F.slot_int_rmul (typeIs_int s k t) F.entry_int_rmul (F.args_int_rmul_2 _ _) (int___rmul___int_list k t l items j)
      ⟨L1, rfl, ⟨_, L1, rfl⟩, call_meets F.slot_list_mul ⟨_, L1, rfl⟩ F.entry_list_mul (F.args_list_mul_2 _ _)
        (AutoListH.list___mul___list_int_3 l items j k t (by simp [Builtin.List.listFitsIndex]; omega) (by rw [hsz]; omega) (by simp only [Builtin.List.listTooLong, hsz]; simp [sizeLine]; omega)) ⟨L1, ?_⟩⟩)
  exact ⟨_, S'.1, S'.2, h _ S.size_none⟩
end
end Mine

namespace Mine

def isLC : Option NameKind → Bool
  | some .local => true
  | some .cell => true
  | _ => false
def upL (m : Loc) (x : Str) (v : V) : Loc := fun y => if y = x then some v else m y
theorem isLC_or {o : Option NameKind} (h : isLC o = true) : o = some .local ∨ o = some .cell := by
  unfold isLC at h; split at h <;> first | exact .inl rfl | exact .inr rfl | cases h

section
variable {B : Base} {n : Nat} {sc : Scope} {m : Loc} {σ : St} {Q : V → St → Prop}
theorem WE.nm {x : Str} {pos : Pos} {v : V} (hv : m x = some v) (h : Q v σ) (hk : isLC (kOf sc x) = true := by rfl) (hd : (x == ("__debug__" : Str)) = false := by decide) : WE B n sc (.Name x pos) m σ Q :=
  WE.name (isLC_or hk) hv h hd
end

def OwnA (env : Env) (b : Addr) : Prop := b = env.locals ∨ ∃ x, env.cells.lookup x = some b

abbrev FrR := LocR
theorem LocR.loc {B : Base} {env : Env} {m : Loc} {σ : St} {h : Heap} (F : LocR B env m σ h) : LocR B env m σ h := F

structure MvS (env : Env) (σ σ' : St) (h h' : Heap) : Prop where
  keep : ∀ b o, h.get? b = some o → σ b = none → ¬ OwnA env b → h'.get? b = some o
  live : ∀ b o, h.get? b = some o → σ b = none → ∃ o', h'.get? b = some o'
  fresh : ∀ b, σ' b ≠ none → σ b = none → h.get? b = none

section
variable {B : Base} {σ σ' σ₁ : St} {h h' h₁ : Heap} {env : Env} {m : Loc} {s : Shared} {sc : Scope}
theorem MvS.refl : MvS env σ σ h h := ⟨fun _ _ e _ _ => e, fun _ o e _ => ⟨o, e⟩, fun _ h1 h2 => absurd h2 h1⟩
theorem MvS.of (x : Mv σ σ' h h') : MvS env σ σ' h h' := ⟨fun b o e hn _ => x.keep b o e hn, fun b o e hn => ⟨o, x.keep b o e hn⟩, x.fresh⟩
theorem MvS.trans (x : MvS env σ σ₁ h h₁) (y : MvS env σ₁ σ' h₁ h') : MvS env σ σ' h h' := by
  have key : ∀ b o, h.get? b = some o → σ b = none → σ₁ b = none := fun b o e hn => by
    cases q : σ₁ b with
    | none => rfl
    | some v => have := x.fresh b (by rw [q]; exact Option.some_ne_none _) hn; rw [e] at this; cases this
  refine ⟨fun b o e hn ho => y.keep b o (x.keep b o e hn ho) (key b o e hn) ho, fun b o e hn => ?_, fun b h2 hn => ?_⟩
  · obtain ⟨o', e'⟩ := x.live b o e hn
    exact y.live b o' e' (key b o e hn)
  · cases e : h.get? b with
    | none => rfl
    | some o =>
      obtain ⟨o', e'⟩ := x.live b o e hn
      have := y.fresh b h2 (key b o e hn)
      rw [e'] at this; cases this
/-- a change beside all that is told -/
theorem Sh.aside (S : Sh B σ s) {a : Addr} {n : Nat} (hb : B.s₀.heap.get? a = none) (ha : σ a = none) (hs : Heap.SameBut a s.heap h') : Sh B σ { s with heap := h', toks := n } :=
  ⟨S.ok, by obtain ⟨_, _, rfl⟩ := S.same; exact ⟨h', n, rfl⟩, fun b o e => (hs.2 b (fun q => by rw [q, hb] at e; cases e)).trans (S.base b o e), S.off, S.hi, fun b o e => by
    obtain ⟨ob, h1, h2⟩ := S.objs b o e
    exact ⟨ob, (hs.2 b (fun q => by rw [q, ha] at e; cases e)).trans h1, h2⟩⟩
theorem MvS.aside {a : Addr} {o : Obj} (hs : Heap.SameBut a h h') (ho : OwnA env a) (hl : h'.get? a = some o) : MvS env σ σ h h' :=
  ⟨fun b o e _ hw => (hs.2 b fun q => hw (q ▸ ho)).trans e, fun b o' e _ => by
    by_cases q : b = a
    · exact ⟨o, q ▸ hl⟩
    · exact ⟨o', (hs.2 b q).trans e⟩, fun _ h1 h2 => absurd h2 h1⟩

theorem storeA {A : Around} {E : Value → Shared → Prop} {x : Str} {v : Value} {Q : Unit → Shared → Prop} (S : Sh B σ s) (F : FrR B env m σ s.heap) (b : EnvOk sc env) (hk : isLC (kOf sc x) = true)
    (h : ∀ s' a, (a = env.locals ∨ env.cells.lookup x = some a) → Heap.SameBut a s.heap s'.heap → (∃ o, s'.heap.get? a = some o) → Sh B σ s' → FrR B env (upL m x (er v)) σ s'.heap → Q () s') : wpAny (model B.prog B.w) A (storeName env x v) Q E s := by
  have hf : env.scope.kind = .function := by rw [b.scp]; exact b.k
  obtain ⟨mv, hn, hm⟩ := F.ns
  rcases isLC_or hk with hk | hk
  · have hk' : env.kindOf x = some .local := by rw [Env.kindOf, b.scp]; exact hk
    refine wpAny_storeName_local hk' hn (fun h' hn' hs => ?_) (by rw [hf]; rfl)
    obtain ⟨ol, _, _, hol, _⟩ := id hn'
    refine h _ env.locals (.inl rfl) hs ⟨_, hol⟩ (S.aside F.base F.lo hs) ⟨⟨_, hn', fun y hy => ?_⟩, F.lo, fun y hy => ?_, F.base, fun y c hc => ?_, F.inj⟩
    · unfold upL
      by_cases e : y = x
      · subst e; simp
      · simp only [if_neg e]; exact hm y hy
    · obtain ⟨c, vo, h1, h2, h3, h4⟩ := F.cell y hy
      have e : y ≠ x := by rintro rfl; rw [hk'] at hy; cases hy
      refine ⟨c, vo, h1, h2.sameBut hs (F.cb y c h1).2.2.1, ?_, h4⟩
      unfold upL; rw [if_neg e]; exact h3
    · obtain ⟨h1, h2, h3, vo, h4⟩ := F.cb y c hc
      exact ⟨h1, h2, h3, vo, h4.sameBut hs h3⟩
  · have hk' : env.kindOf x = some .cell := by rw [Env.kindOf, b.scp]; exact hk
    obtain ⟨c, vo, h1, h2, h3, h4⟩ := F.cell x hk'
    obtain ⟨g1, g2, g3, _⟩ := F.cb x c h1
    refine wpAny_storeName_cell hf hk' h1 h2 fun h' hc' hs => ?_
    obtain ⟨oc, hoc, _⟩ := id hc'
    refine h _ c (.inr h1) hs ⟨_, hoc⟩ (S.aside g1 g2 hs) ⟨⟨mv, hn.sameBut hs (Ne.symm g3), fun y hy => ?_⟩, F.lo, fun y hy => ?_, F.base, fun y c' hc => ?_, F.inj⟩
    · have e : y ≠ x := by rintro rfl; rw [hk'] at hy; cases hy
      unfold upL; rw [if_neg e]; exact hm y hy
    · by_cases e : y = x
      · subst e; exact ⟨c, _, h1, hc', by unfold upL; simp, h4⟩
      · obtain ⟨c', vo', k1, k2, k3, k4⟩ := F.cell y hy
        have ne : c' ≠ c := by rintro rfl; exact e (F.inj _ _ _ k1 h1)
        exact ⟨c', vo', k1, k2.sameBut hs ne, by unfold upL; rw [if_neg e]; exact k3, k4⟩
    · obtain ⟨k1, k2, k3, vo', k4⟩ := F.cb y c' hc
      by_cases e : c' = c
      · subst e; exact ⟨k1, k2, k3, _, hc'⟩
      · exact ⟨k1, k2, k3, vo', k4.sameBut hs e⟩
theorem storeJ {A : Around} {E : Value → Shared → Prop} {x : Str} {v : Value} {Q : Unit → Shared → Prop} (S : Sh B σ s) (F : FrR B env m σ s.heap) (b : EnvOk sc env) (hk : isLC (kOf sc x) = true)
    (h : ∀ s', Sh B σ s' → MvS env σ σ s.heap s'.heap → FrR B env (upL m x (er v)) σ s'.heap → Q () s') : wpAny (model B.prog B.w) A (storeName env x v) Q E s :=
  storeA S F b hk fun s' a ha hs ⟨o, ho⟩ S' F' => h s' S' (MvS.aside hs (ha.imp id fun q => ⟨x, q⟩) ho) F'
end

def FlowQ (B : Base) (env : Env) (σ : St) (h : Heap) (N : Loc → St → Prop) (R : V → St → Prop) : Flow → Shared → Prop
  | .next, s' => ∃ m' σ', Sh B σ' s' ∧ MvS env σ σ' h s'.heap ∧ FrR B env m' σ' s'.heap ∧ N m' σ'
  | .ret v, s' => ∃ σ', Sh B σ' s' ∧ MvS env σ σ' h s'.heap ∧ R (er v) σ'
  | _, _ => False
/-- a statement -/
structure WS (B : Base) (n : Nat) (sc : Scope) (st : Stmt) (m : Loc) (σ : St) (N : Loc → St → Prop) (R : V → St → Prop) : Prop where
  run : ∀ A env s, AOk A n → EnvOk sc env → Sh B σ s → FrR B env m σ s.heap → wpAny (model B.prog B.w) A (exec st env) (FlowQ B env σ s.heap N R) (fun _ _ => False) s
structure WSs (B : Base) (n : Nat) (sc : Scope) (ss : List Stmt) (m : Loc) (σ : St) (N : Loc → St → Prop) (R : V → St → Prop) : Prop where
  run : ∀ A env s, AOk A n → EnvOk sc env → Sh B σ s → FrR B env m σ s.heap → wpAny (model B.prog B.w) A (execs ss env) (FlowQ B env σ s.heap N R) (fun _ _ => False) s

section
variable {B : Base} {n : Nat} {sc : Scope} {m : Loc} {σ : St} {N N' : Loc → St → Prop} {R R' : V → St → Prop}
theorem FlowQ.up {env : Env} {σ₁ : St} {h h₁ : Heap} (M : MvS env σ σ₁ h h₁) : ∀ {f : Flow} {s' : Shared}, FlowQ B env σ₁ h₁ N R f s' → FlowQ B env σ h N R f s'
  | .next, _, ⟨m', σ', S, M', F, q⟩ => ⟨m', σ', S, M.trans M', F, q⟩
  | .ret _, _, ⟨σ', S, M', q⟩ => ⟨σ', S, M.trans M', q⟩
  | .brk, _, h => h
  | .cont, _, h => h
theorem FlowQ.mono {env : Env} {h : Heap} (hn : ∀ m σ, N m σ → N' m σ) (hr : ∀ v σ, R v σ → R' v σ) : ∀ {f : Flow} {s' : Shared}, FlowQ B env σ h N R f s' → FlowQ B env σ h N' R' f s'
  | .next, _, ⟨m', σ', S, M', F, q⟩ => ⟨m', σ', S, M', F, hn _ _ q⟩
  | .ret _, _, ⟨σ', S, M', q⟩ => ⟨σ', S, M', hr _ _ q⟩
  | .brk, _, h => h
  | .cont, _, h => h
theorem WSs.mono {ss : List Stmt} (h : WSs B n sc ss m σ N R) (hn : ∀ m σ, N m σ → N' m σ) (hr : ∀ v σ, R v σ → R' v σ) : WSs B n sc ss m σ N' R' :=
  ⟨fun A env s a b S F => wpAny_mono (h.run A env s a b S F) (fun _ _ q => q.mono hn hr) fun _ _ e => e⟩
theorem WSs.nil (h : N m σ) : WSs B n sc [] m σ N R := ⟨fun A env s a b S F => wpAny_execs_nil ⟨m, σ, S, .refl, F, h⟩⟩
theorem WSs.cons {st : Stmt} {ss : List Stmt} (h : WS B n sc st m σ (fun m' σ' => WSs B n sc ss m' σ' N R) R) : WSs B n sc (st :: ss) m σ N R := by
  refine ⟨fun A env s a b S F => wpAny_execs_cons (wpAny_mono (h.run A env s a b S F) (fun f s' q => ?_) fun _ _ e => e)⟩
  cases f with
  | next =>
    obtain ⟨m', σ', S', M', F', q⟩ := q
    exact wpAny_mono (q.run A env s' a b S' F') (fun _ _ z => z.up M') fun _ _ e => e
  | ret v => exact q
  | brk => exact q
  | cont => exact q

def notComp : Expr → Bool
  | .ListComp .. => false
  | .SetComp .. => false
  | .DictComp .. => false
  | _ => true
theorem swaps_no {e : Expr} {t : Option Expr} {l : Nat} {env : Env} (h : notComp e = true) : swapsWith e t l env = pure false := by cases e <;> first | rfl | cases h
theorem WS.assign {x : Str} {xp pos : Pos} {e : Expr} (h : WE B n sc e m σ fun v σ₁ => N (upL m x v) σ₁) (hk : isLC (kOf sc x) = true := by rfl) (hc : notComp e = true := by rfl) : WS B n sc (.Assign [.Name x xp] e pos) m σ N R := by
  refine ⟨fun A env s a b S F => wpAny_Assign_Name ((h.run A env s a b S F.loc).to fun v σ₁ s₁ S₁ M₁ q => storeJ S₁ (F.mv M₁) b hk fun s' S' M' F' => ?_) (swaps_no hc)⟩
  exact ⟨_, σ₁, S', (MvS.of M₁).trans M', F', q⟩
theorem WS.ret {e : Expr} {pos : Pos} (h : WE B n sc e m σ R) : WS B n sc (.Return (some e) pos) m σ N R :=
  ⟨fun A env s a b S F => wpAny_Return_some ((h.run A env s a b S F.loc).to fun v σ₁ s₁ S₁ M₁ q => ⟨σ₁, S₁, MvS.of M₁, q⟩)⟩
theorem WS.expr {e : Expr} {pos : Pos} (h : WE B n sc e m σ fun _ σ₁ => N m σ₁) (hc : notComp e = true := by rfl) : WS B n sc (.Expr e pos) m σ N R := by
  refine ⟨fun A env s a b S F => wpAny_Expr_any ((h.run A env s a b S F.loc).to fun v σ₁ s₁ S₁ M₁ q => ⟨m, σ₁, S₁, MvS.of M₁, F.mv M₁, q⟩) ?_ (swaps_no hc)⟩
  unfold interactive; rw [b.scp, b.k]; rfl
theorem WS.if {t : Expr} {bd or_ : List Stmt} {pos : Pos} (h : WT B n sc t m σ fun c σ₁ => if c = true then WSs B n sc bd m σ₁ N R else WSs B n sc or_ m σ₁ N R) : WS B n sc (.If t bd or_ pos) m σ N R := by
  refine ⟨fun A env s a b S F => wpAny_If ((h.run A env s a b S F.loc).to fun c σ₁ s₁ S₁ M₁ q => ?_)⟩
  cases c with
  | true =>
    have q' : WSs B n sc bd m σ₁ N R := q
    exact wpAny_mono (q'.run A env s₁ a b S₁ (F.mv M₁)) (fun _ _ z => z.up (MvS.of M₁)) fun _ _ e => e
  | false =>
    have q' : WSs B n sc or_ m σ₁ N R := q
    exact wpAny_mono (q'.run A env s₁ a b S₁ (F.mv M₁)) (fun _ _ z => z.up (MvS.of M₁)) fun _ _ e => e
/-- o.a = e -/
theorem WS.attr {o e : Expr} {a : Str} {ap pos : Pos} (ha : anames.contains a = true) (h : WE B n sc e m σ fun v σ₁ => WE B n sc o m σ₁ fun u σ₂ => ∃ x d kvs, u = .ref x ∧ σ₂ x = some (.inst B.C d) ∧ σ₂ d = some (.attrs kvs) ∧ kvs.length ≤ 1000 ∧ N m (upd σ₂ d (.attrs (putA kvs a v))))
    (hc : notComp e = true := by rfl) : WS B n sc (.Assign [.Attribute o a ap] e pos) m σ N R := by
  refine ⟨fun A env s a b S F => plainObj_wpAny_Assign_Attribute ((h.run A env s a b S F.loc).to fun v σ₁ s₁ S₁ M₁ q => (q.run A env s₁ a b S₁ (F.loc.mv M₁)).to fun u σ₂ s₂ S₂ M₂ q₂ => ?_) (swaps_no hc)⟩
  obtain ⟨x, d, kvs, h1, h2, h3, h4, h5⟩ := q₂
  rw [er_ref h1]
  exact (setAttr_J S₂ h2 h3 h4 ha h5).to fun _ σ₃ s₃ S₃ M₃ q₃ => ⟨m, σ₃, S₃, MvS.of (M₁.trans (M₂.trans M₃)), F.mv (M₁.trans (M₂.trans M₃)), q₃⟩
abbrev SItem (B : Base) (n : Nat) (o k v : V) (σ : St) (P : St → Prop) : Prop := ∀ A s x y z, AOk A n → Sh B σ s → er x = o → er y = k → er z = v → J B A (setItem x y z) σ s fun _ σ' _ => P σ'
/-- o[i] = e -/
theorem WS.item {o i e : Expr} {ap pos : Pos} (h : WE B n sc e m σ fun v σ₁ => WE B n sc o m σ₁ fun u σ₂ => WE B n sc i m σ₂ fun k σ₃ => SItem B n u k v σ₃ (N m))
    (hc : notComp e = true := by rfl) : WS B n sc (.Assign [.Subscript o i ap] e pos) m σ N R := by
  refine ⟨fun A env s a b S F => wpAny_Assign_Subscript ((h.run A env s a b S F.loc).to fun v σ₁ s₁ S₁ M₁ q => (q.run A env s₁ a b S₁ (F.loc.mv M₁)).to fun u σ₂ s₂ S₂ M₂ q₂ => (q₂.run A env s₂ a b S₂ (F.loc.mv (M₁.trans M₂))).to fun k σ₃ s₃ S₃ M₃ q₃ => ?_) (swaps_no hc)⟩
  exact (q₃ A s₃ u k v a S₃ rfl rfl rfl).to fun _ σ₄ s₄ S₄ M₄ q₄ => ⟨m, σ₄, S₄, MvS.of (M₁.trans (M₂.trans (M₃.trans M₄))), F.mv (M₁.trans (M₂.trans (M₃.trans M₄))), q₄⟩
theorem SItem.list {l : Addr} {xs : List V} {k : Int} {v : V} {P : St → Prop} (hl : σ l = some (.list xs)) (h0 : 0 ≤ k) (hk : k < xs.length) (hk' : xs.length < 2 ^ 60) (h : P (upd σ l (.list (xs.set k.toNat v)))) : SItem B n (.ref l) (.int k) v σ P :=
  fun A s x y z a S hx hy hz => by rw [er_ref hx]; exact setItem_list S hl hy h0 hk hk' (by rw [hz]; exact h)
theorem SItem.sdict {d : Addr} {kvs : List (Str × V)} {ep : Nat} {k : Str} {v : V} {P : St → Prop} (hl : σ d = some (.sdict kvs ep)) (hz : kvs.length ≤ sizeLine) (h : ∀ ep', P (upd σ d (.sdict (stS kvs k v) ep'))) : SItem B n (.ref d) (.str k) v σ P :=
  fun A s x y z a S hx hy hz' => by rw [er_ref hx]; exact setItem_sdict S hl hy hz (by rw [hz']; exact h)
theorem SItem.idict {d : Addr} {kvs : List (Int × V)} {ep : Nat} {k : Int} {v : V} {P : St → Prop} (hl : σ d = some (.idict kvs ep)) (hz : kvs.length ≤ sizeLine) (h : ∀ ep', P (upd σ d (.idict (stI kvs k v) ep'))) : SItem B n (.ref d) (.int k) v σ P :=
  fun A s x y z a S hx hy hz' => by rw [er_ref hx]; exact setItem_idict S hl hy hz (by rw [hz']; exact h)
/-- x op= e -/
theorem WS.aug {x : Str} {xp pos : Pos} {op : Operator} {e : Expr} {u : V} (hv : m x = some u) (h : WE B n sc e m σ fun v σ₁ => WO B n (ibinT op) [u, v] σ₁ fun r σ₂ => N (upL m x r) σ₂) (hk : isLC (kOf sc x) = true := by rfl) : WS B n sc (.AugAssign (.Name x xp) op e pos) m σ N R := by
  refine ⟨fun A env s a b S F => wpAny_AugAssign_Name ?_⟩
  have go : ∀ old, er old = u → wpAny (model B.prog B.w) A (eval e env) (fun v s₂ => wpAny (model B.prog B.w) A (inplaceOp op old v) (fun r s₃ => wpAny (model B.prog B.w) A (storeName env x r) (fun _ => FlowQ B env σ s.heap N R .next) (fun _ _ => False) s₃) (fun _ _ => False) s₂) (fun _ _ => False) s := fun old ho =>
    (h.run A env s a b S F.loc).to fun v σ₁ s₁ S₁ M₁ q => (q.run A s₁ [old, v] a S₁ (by rw [← ho]; rfl)).to fun r σ₂ s₂ S₂ M₂ q₂ => storeJ S₂ (F.mv (M₁.trans M₂)) b hk fun s' S' M' F' => ⟨_, σ₂, S', (MvS.of (M₁.trans M₂)).trans M', F', q₂⟩
  have hf : env.scope.kind = .function := by rw [b.scp]; exact b.k
  rcases isLC_or hk with hk | hk
  · have hk' : env.kindOf x = some .local := by rw [Env.kindOf, b.scp]; exact hk
    obtain ⟨mv, hn, hm⟩ := F.loc.ns
    have := hm x hk'
    rw [hv] at this
    obtain ⟨v', h1, h2⟩ := Option.map_eq_some_iff.mp this
    exact wpAny_loadName_local hf hk' hn h1 (go v' h2)
  · have hk' : env.kindOf x = some .cell := by rw [Env.kindOf, b.scp]; exact hk
    obtain ⟨c, vo, h1, h2, h3, _⟩ := F.loc.cell x hk'
    rw [hv] at h3
    obtain ⟨v', rfl, h5⟩ := Option.map_eq_some_iff.mp h3
    exact wpAny_loadName_cell hf hk' h1 h2 (go v' h5)

def upLs : Loc → List (Str × Pos) → List V → Loc
  | m, (x, _) :: xs, v :: vs => upLs (upL m x v) xs vs
  | m, _, _ => m
/-- x, y, z = e, e a tuple -/
theorem WS.unpack {xs : List (Str × Pos)} {k : Nat} {tp pos : Pos} {e : Expr} (hk : ∀ x ∈ xs, isLC (kOf sc x.1) = true) (h : WE B n sc e m σ fun v σ₁ => ∃ l vs, v = .ref l ∧ rd B σ₁ l (.tup vs) ∧ vs.length = xs.length ∧ N (upLs m xs vs) σ₁)
    (hc : notComp e = true := by rfl) (hsw : ∀ env, swappedStores [.Tuple (xs.map fun x => .Name x.1 x.2) k tp] e env = pure none := by intro _; rfl) : WS B n sc (.Assign [.Tuple (xs.map fun x => .Name x.1 x.2) k tp] e pos) m σ N R := by
  refine ⟨fun A env s a b S F => Assign_Tuple ((h.run A env s a b S F.loc).to fun v σ₁ s₁ S₁ M₁ q => ?_) (by clear h hsw; cases e <;> first | rfl | cases hc) (hsw env)⟩
  obtain ⟨l, vs, hv, hl, hlen, hq⟩ := q
  rw [er_ref hv]
  obtain ⟨items, j, g1, g2⟩ := S₁.tup hl
  have hE : ∀ ys : List (Str × Pos), assignEach (ys.map fun x => Expr.Name x.1 x.2) env = ys.map fun x => (false, PySem.assign (.Name x.1 x.2) env) := by
    intro ys
    induction ys with
    | nil => rfl
    | cons y ys ih => rw [List.map_cons, List.map_cons, ← ih]; rfl
  refine wpAny_assign_Tuple a.hand ⟨_, g1, rfl, j, rfl⟩ ?_ ?_ fun h' he => ?_
  · rw [hE, List.length_map, len_er g2, hlen]
  · rw [hE]
    clear hE h hk hsw hlen hq
    induction xs with
    | nil => rfl
    | cons y ys ih => rw [List.map_cons, List.findIdx?_cons]; simp [ih]
  · have hk₀ : ∀ b o, s₁.heap.get? b = some o → h'.get? b = some o := fun b o e => he b o (Nat.ne_of_lt (Heap.lt_size e)) e
    have S₂ := S₁.keeps (n := s₁.toks) hk₀
    have M₂ : Mv σ σ₁ s.heap h' := M₁.trans (Mv.of_keeps hk₀)
    rw [hE]
    have go : ∀ (ys : List (Str × Pos)) (zs : List Value) (us : List V) (m' : Loc) (s' : Shared), (∀ x ∈ ys, isLC (kOf sc x.1) = true) → zs.map er = us → us.length = ys.length → N (upLs m' ys us) σ₁ → Sh B σ₁ s' → MvS env σ σ₁ s.heap s'.heap → FrR B env m' σ₁ s'.heap →
        wpAny (model B.prog B.w) A (assignInOrder ((ys.map fun x => (false, PySem.assign (.Name x.1 x.2) env)).map (·.2)) zs) (fun _ => FlowQ B env σ s.heap N R .next) (fun _ _ => False) s' := by
      intro ys
      induction ys with
      | nil =>
        intro zs us m' s' _ h1 h2 h3 S' M' F'
        cases us with
        | nil =>
          cases zs with
          | nil => exact wpAny_pure ⟨m', σ₁, S', M', F', h3⟩
          | cons _ _ => cases h1
        | cons _ _ => cases h2
      | cons y ys ih =>
        intro zs us m' s' h0 h1 h2 h3 S' M' F'
        cases us with
        | nil => cases h2
        | cons u us =>
          cases zs with
          | nil => cases h1
          | cons z zs =>
            injection h1 with h1 h1'
            show wpAny _ A (do holding zs (PySem.assign (.Name y.1 y.2) env z); assignInOrder _ zs) _ _ s'
            refine wpAny_bind (wpAny_holding (PySem.wpAny_assign_Name (storeJ S' F' b (h0 y (.head _)) fun s'' S'' M'' F'' => ?_)))
            exact ih zs us _ s'' (fun x hx => h0 x (.tail _ hx)) h1' (by simpa using h2) (by rw [h1]; exact h3) S'' (M'.trans M'') F''
    exact go xs items.toList vs m _ hk g2 hlen hq S₂ (MvS.of M₂) (F.mv M₂)
end
end Mine

namespace Mine

/-- an iterator at I over the values vs -/
structure Iter (B : Base) (A : Around) (I : Addr) (vs : List V) (G : St → Prop) (P : Nat → Heap → Prop) : Prop where
  frame : ∀ i h h', P i h → (∀ o, h.get? I = some o → h'.get? I = some o) → P i h'
  live : ∀ i h, P i h → ∃ o, h.get? I = some o
  item : ∀ i v (s : Shared) (σ : St) (Q : Option Value → Shared → Prop), vs[i]? = some v → P i s.heap → Sh B σ s → G σ → σ I = none →
    (∀ x h' tk, er x = v → P (i + 1) h' → Heap.SameBut I s.heap h' → Q (some x) { s with heap := h', toks := tk }) → wpAny (model B.prog B.w) A (pyNext (.ref I)) Q (fun _ _ => False) s
  done : ∀ (s : Shared) (σ : St) (Q : Option Value → Shared → Prop), P vs.length s.heap → Sh B σ s → G σ →
    (∀ h', Heap.ExtBut I s.heap h' → Q none { s with heap := h' }) → wpAny (model B.prog B.w) A (pyNext (.ref I)) Q (fun _ _ => False) s
  self : ∀ i (s : Shared) (Q : Value → Shared → Prop), P i s.heap → Q (.ref I) s → wpAny (model B.prog B.w) A (pyIter (.ref I)) Q (fun _ _ => False) s

structure IterOk (B : Base) (v : V) (vs : List V) (G : St → Prop) (σ : St) : Prop where
  run : ∀ (A : Around) (s : Shared) (x : Value) (Q : Value → Shared → Prop), A.handled = none → Sh B σ s → er x = v →
    (∀ ob P, ob.isFreed = false → Iter B A s.heap.objs.size vs G P → P 0 (s.heap.push ob) → Q (.ref s.heap.objs.size) { s with heap := s.heap.push ob }) → wpAny (model B.prog B.w) A (pyIter x) Q (fun _ _ => False) s

section
variable {B : Base} {n : Nat} {sc : Scope} {m : Loc} {σ : St} {N : Loc → St → Prop} {R : V → St → Prop}

theorem IterOk.list {l : Addr} {vs : List V} (hl : rd B σ l (.list vs)) : IterOk B (.ref l) vs (fun σ => rd B σ l (.list vs)) σ := by
  refine ⟨fun A s x Q hh S hx hQ => ?_⟩
  rw [er_ref hx]
  obtain ⟨items, k, g1, g2⟩ := S.list hl
  refine wpAny_pyIter_list g1.isList (hQ _ (fun i h => h.IsListIter s.heap.objs.size l i) rfl ⟨fun i h h' p e => p.at e, fun i h ⟨o, p, _⟩ => ⟨o, p⟩, fun i v s' σ' Q hv p S' G hI h => ?_, fun s' σ' Q p S' G h => ?_, fun i s' Q p h => wpAny_pyIter_listiter p h⟩ ⟨_, Heap.get?_push_size _ rfl, rfl, rfl⟩)
  · obtain ⟨items', k', q1, q2⟩ := S'.list G
    obtain ⟨y, hy1, hy2⟩ := get_er q2 hv
    exact wpAny_pyNext_list_item p q1.isList hy1 fun h' p' hs => h y h' s'.toks hy2 p' hs
  · obtain ⟨items', k', q1, q2⟩ := S'.list G
    exact wpAny_pyNext_list_end hh p q1.isList (by rw [Array.getElem?_eq_none]; rw [len_er q2]; exact Nat.le_refl _) h
theorem IterOk.tup {l : Addr} {vs : List V} (hl : rd B σ l (.tup vs)) : IterOk B (.ref l) vs (fun σ => rd B σ l (.tup vs)) σ := by
  refine ⟨fun A s x Q hh S hx hQ => ?_⟩
  rw [er_ref hx]
  have T : ∀ {s : Shared} {items : Array Value} {k : Nat}, s.heap.get? l = some { cls := .type "tuple", dict := none, data := .seq items k, slots := #[] } → s.heap.IsTuple l items := fun g => ⟨_, g, rfl, _, rfl⟩
  obtain ⟨items, k, g1, g2⟩ := S.tup hl
  refine wpAny_pyIter_tuple (T g1) (hQ _ (fun i h => h.IsTupleIter s.heap.objs.size l i) rfl ⟨fun i h h' p e => p.at e, fun i h ⟨o, p, _⟩ => ⟨o, p⟩, fun i v s' σ' Q hv p S' G hI h => ?_, fun s' σ' Q p S' G h => ?_, fun i s' Q p h => wpAny_pyIter_tupleiter p h⟩ ⟨_, Heap.get?_push_size _ rfl, rfl, rfl⟩)
  · obtain ⟨items', k', q1, q2⟩ := S'.tup G
    obtain ⟨y, hy1, hy2⟩ := get_er q2 hv
    exact wpAny_pyNext_tuple_item p (T q1) hy1 fun h' p' hs => h y h' s'.toks hy2 p' hs
  · obtain ⟨items', k', q1, q2⟩ := S'.tup G
    exact wpAny_pyNext_tuple_end hh p (T q1) (by rw [Array.getElem?_eq_none]; rw [len_er q2]; exact Nat.le_refl _) h
def natsV (k : Nat) : List V := (List.range k).map fun (i : Nat) => V.int i
theorem natsV_len (k : Nat) : (natsV k).length = k := by simp [natsV]
theorem IterOk.range {l : Addr} {k : Nat} (hl : σ l = some (.range k)) (hk : k < 2 ^ 60) : IterOk B (.ref l) (natsV k) (fun _ => True) σ := by
  refine ⟨fun A s x Q hh S hx hQ => ?_⟩
  rw [er_ref hx]
  obtain ⟨ob, g1, t, u, v, rfl⟩ := S.objs _ _ hl
  have hr : IsRange s.heap l 0 k 1 t u v := g1
  have hs : Builtin.Range.rangeSize 0 (k : Int) 1 = k := by
    unfold Builtin.Range.rangeSize
    simp
    omega
  refine wpAny_pyIter_range hr (small_one (by omega) (by omega) (by omega) (by omega)) (hQ _ (fun i h => IsRangeIter h s.heap.objs.size ((i : Nat) : Int) ((k : Int) - (i : Nat)) 1) rfl
    ⟨fun i h h' p e => e _ p, fun i h p => ⟨_, p⟩, fun i v s' σ' Q hv p S' G hI h => ?_, fun s' σ' Q p S' G h => ?_, fun i s' Q p h => ?_⟩ ?_)
  · have hi : i < k := by
      have := (List.getElem?_eq_some_iff.mp hv).1
      rwa [natsV_len] at this
    have hv' : v = .int i := by
      unfold natsV at hv
      rw [List.getElem?_map, List.getElem?_range hi] at hv
      simpa using hv.symm
    refine wpAny_pyNext_range_item p (by omega) fun h' p' hs => h _ h' _ ?_ ?_ hs
    · rw [hv']; rfl
    · show IsRangeIter h' _ (((i + 1 : Nat) : Int)) _ 1
      have e1 : ((i + 1 : Nat) : Int) = (i : Int) + 1 := by omega
      have e2 : (k : Int) - ((i + 1 : Nat) : Int) = (k : Int) - (i : Int) - 1 := by omega
      rw [e1, show (k : Int) - ((i : Int) + 1) = (k : Int) - (i : Int) - 1 by omega]
      exact p'
  · rw [natsV_len] at p
    exact wpAny_pyNext_range_end hh p (by omega) h
  · have hT : s'.TypeIs (.ref s.heap.objs.size) "range_iterator" := ⟨_, p, rfl⟩
    exact (Walks.range (w := B.w) (prog := B.prog) hh s.heap.objs.size 0 1 k).self i s' Q _ (by
      show IsRangeIter _ _ (0 + (i : Nat) * 1) _ 1
      rw [Int.zero_add, Int.mul_one]; exact p) h
  · rw [hs]
    have := Heap.get?_push_size s.heap (o := { cls := .type "range_iterator", data := .fields #[rawInt 0, rawInt (k : Int), rawInt 1] }) rfl
    simpa using this
theorem IterOk.keys {l : Addr} {kvs : List (Str × V)} {ep : Nat} (hl : σ l = some (.sdict kvs ep)) : IterOk B (.ref l) (kvs.map fun p => V.str p.1) (fun σ => σ l = some (.sdict kvs ep)) σ := by
  refine ⟨fun A s x Q hh S hx hQ => ?_⟩
  rw [er_ref hx]
  obtain ⟨kvs', g1, g2⟩ := S.sdict hl
  have e : kvs'.length = kvs.length := by rw [← g2, List.length_map]
  have hd := S.dnot (d := l) (by rw [hl]; exact Option.some_ne_none _)
  refine wpAny_pyIter_dict hd g1 (hQ _ (fun i h => h.IsKeyIter s.heap.objs.size l i kvs.length ep) rfl ⟨fun i h h' p e => p.at e, fun i h ⟨o, p, _⟩ => ⟨o, p⟩, fun i v s' σ' Q hv p S' G hI h => ?_, fun s' σ' Q p S' G h => ?_, fun i s' Q p h => wpAny_pyIter_keyiter p h⟩ ?_)
  · obtain ⟨kvs'', q1, q2⟩ := S'.sdict G
    have e' : kvs''.length = kvs.length := by rw [← q2, List.length_map]
    rw [List.getElem?_map] at hv
    obtain ⟨⟨k, u⟩, h1, h2⟩ := Option.map_eq_some_iff.mp hv
    rw [← q2, List.getElem?_map] at h1
    obtain ⟨⟨k', u'⟩, h3, h4⟩ := Option.map_eq_some_iff.mp h1
    cases h4
    refine wpAny_pyNext_dict_item (by rw [e']; exact p) q1 h3 fun key h' hkey p' hs => h key h' s'.toks ?_ (by rw [e'] at p'; exact p') hs
    rw [← h2]
    have : Value.isStrOf k' key = true := hkey
    unfold Value.isStrOf at this
    split at this
    · rename_i y t
      have : y = k' := by simpa using this
      rw [this]; rfl
    · cases this
  · obtain ⟨kvs'', q1, q2⟩ := S'.sdict G
    have e' : kvs''.length = kvs.length := by rw [← q2, List.length_map]
    rw [List.length_map] at p
    exact wpAny_pyNext_dict_end hh (by rw [e']; exact p) q1 (List.getElem?_eq_none (by rw [e']; exact Nat.le_refl _)) h
  · rw [e]
    exact ⟨_, Heap.get?_push_size _ rfl, rfl, rfl⟩

theorem LocR.beside {env : Env} {h h' : Heap} {a : Addr} (F : FrR B env m σ h) (hs : Heap.ExtBut a h h') (ha : ¬ OwnA env a) : FrR B env m σ h' := by
  obtain ⟨mv, hn, hm⟩ := F.loc.ns
  have hL : env.locals ≠ a := fun e => ha (.inl e.symm)
  have hc : ∀ {x c vo}, env.cells.lookup x = some c → h.IsCell c vo → h'.IsCell c vo := fun {x c vo} hx ⟨o, h1, h2⟩ => ⟨o, hs c o (fun e => ha (.inr ⟨x, e ▸ hx⟩)) h1, h2⟩
  obtain ⟨o, es, ep, ho, r⟩ := hn
  refine ⟨⟨mv, ⟨o, es, ep, hs _ _ hL ho, r⟩, hm⟩, F.lo, fun y hy => ?_, F.base, fun y c hy => ?_, F.inj⟩
  · obtain ⟨c, vo, h1, h2, h3, h4⟩ := F.loc.cell y hy
    exact ⟨c, vo, h1, hc h1 h2, h3, h4⟩
  · obtain ⟨h1, h2, h3, vo, h4⟩ := F.cb y c hy
    exact ⟨h1, h2, h3, vo, hc hy h4⟩
theorem MvS.beside {env : Env} {σ' : St} {h h₁ h' : Heap} {a : Addr} (M : MvS env σ σ' h h₁) (hs : Heap.ExtBut a h₁ h') (ha : h.get? a = none) : MvS env σ σ' h h' := by
  have ne : ∀ b o, h.get? b = some o → b ≠ a := fun b o e q => by rw [q, ha] at e; cases e
  exact ⟨fun b o e hn hw => hs _ _ (ne b o e) (M.keep b o e hn hw), fun b o e hn => let ⟨o', e'⟩ := M.live b o e hn; ⟨o', hs _ _ (ne b o e) e'⟩, M.fresh⟩
theorem Sh.beside {s : Shared} (S : Sh B σ s) {a : Addr} {h' : Heap} {n : Nat} (hb : B.s₀.heap.get? a = none) (ha : σ a = none) (hs : Heap.ExtBut a s.heap h') : Sh B σ { s with heap := h', toks := n } :=
  ⟨S.ok, by obtain ⟨_, _, rfl⟩ := S.same; exact ⟨h', n, rfl⟩, fun b o e => hs _ _ (fun q => by rw [q, hb] at e; cases e) (S.base b o e), S.off, S.hi, fun b o e => by
    obtain ⟨ob, h1, h2⟩ := S.objs b o e
    exact ⟨ob, hs _ _ (fun q => by rw [q, ha] at e; cases e) h1, h2⟩⟩
theorem get_size (h : Heap) : h.get? h.objs.size = none := Heap.get?_none_of_le (Nat.le_refl _)
theorem LocR.own_live {env : Env} {h : Heap} (F : FrR B env m σ h) {a : Addr} (ha : OwnA env a) : ∃ o, h.get? a = some o := by
  rcases ha with rfl | ⟨x, hx⟩
  · obtain ⟨mv, ⟨o, _, _, ho, _⟩, _⟩ := F.loc.ns; exact ⟨o, ho⟩
  · obtain ⟨_, _, _, vo, o, ho, _⟩ := F.cb x a hx; exact ⟨o, ho⟩
theorem Sh.off_none {s : Shared} (S : Sh B σ s) {a : Addr} (h : s.heap.get? a = none) : B.s₀.heap.get? a = none := by
  cases q : B.s₀.heap.get? a with
  | none => rfl
  | some o => have := S.base _ _ q; rw [h] at this; cases this

theorem WS.for {x : Str} {xp pos : Pos} {iter : Expr} {body : List Stmt} (h : WE B n sc iter m σ fun v σ₁ => ∃ vs G, IterOk B v vs G σ₁ ∧ ∃ I : Nat → Loc → St → Prop, I 0 m σ₁ ∧ (∀ i m' σ', I i m' σ' → G σ') ∧
      (∀ i u m' σ', vs[i]? = some u → I i m' σ' → WSs B n sc body (upL m' x u) σ' (I (i + 1)) R) ∧ ∀ m' σ', I vs.length m' σ' → N m' σ')
    (hk : isLC (kOf sc x) = true := by rfl) (hs : ∀ env x, foldedSetIterable iter env x = pure x := by intro _ _; rfl) : WS B n sc (.For (.Name x xp) iter body [] pos) m σ N R := by
  refine ⟨fun A env s a b S F => wpAny_For ((h.run A env s a b S F.loc).to fun v σ₁ s₁ S₁ M₁ q => ?_) (hs env)⟩
  obtain ⟨vs, G, hI, I, i0, iG, step, fin⟩ := q
  refine hI.run A s₁ v _ a.hand S₁ rfl fun ob P hfr It p0 => ?_
  have F₁ := F.mv M₁
  have hIa := get_size s₁.heap
  have hbI := S₁.off_none hIa
  have hoI : ¬ OwnA env s₁.heap.objs.size := fun ho => by obtain ⟨o, e⟩ := F₁.own_live ho; rw [hIa] at e; cases e
  have k0 : ∀ b o, s₁.heap.get? b = some o → (s₁.heap.push ob).get? b = some o := fun b o e => Heap.get?_push_of_some _ e
  have J : ∀ i m' σ' s', i ≤ vs.length → Sh B σ' s' → MvS env σ₁ σ' s₁.heap s'.heap → FrR B env m' σ' s'.heap → I i m' σ' → P i s'.heap → σ' s₁.heap.objs.size = none → ∀ k, k = vs.length - i →
      (fun (k : Nat) (s' : Shared) => ∃ i m' σ', k = vs.length - i ∧ i ≤ vs.length ∧ Sh B σ' s' ∧ MvS env σ₁ σ' s₁.heap s'.heap ∧ FrR B env m' σ' s'.heap ∧ I i m' σ' ∧ P i s'.heap ∧ σ' s₁.heap.objs.size = none) k s' :=
    fun i m' σ' s' h1 h2 h3 h4 h5 h6 h7 k hk => ⟨i, m', σ', hk, h1, h2, h3, h4, h5, h6, h7⟩
  refine codeAny_forLoop_any (fun (k : Nat) (s' : Shared) => ∃ i m' σ', k = vs.length - i ∧ i ≤ vs.length ∧ Sh B σ' s' ∧ MvS env σ₁ σ' s₁.heap s'.heap ∧ FrR B env m' σ' s'.heap ∧ I i m' σ' ∧ P i s'.heap ∧ σ' s₁.heap.objs.size = none)
    (fun k s' hJ => ?_) vs.length (J 0 m σ₁ _ (Nat.zero_le _) (S₁.keeps (n := s₁.toks) k0) (MvS.of (Mv.of_keeps k0)) (F₁.mv (Mv.of_keeps k0)) i0 p0 S₁.size_none _ rfl)
  obtain ⟨i, m', σ', rfl, hle, S', M', F', hi, hp, hn⟩ := hJ
  refine wpAny_mono (E := fun _ _ => False) ?_ (fun _ _ q => q) fun _ _ e => e.elim
  by_cases hlt : i < vs.length
  · obtain ⟨u, hu⟩ : ∃ u, vs[i]? = some u := ⟨vs[i], by simp [hlt]⟩
    refine It.item i u s' σ' _ hu hp S' (iG _ _ _ hi) hn fun y h' tk hy p' hsb => ?_
    refine wpAny_pure ?_
    have S₂ : Sh B σ' { s' with heap := h', toks := tk } := S'.aside hbI hn hsb
    refine wpAny_mono (E := fun _ _ => False) (PySem.wpAny_assign_Name (storeJ S₂ (F'.beside hsb.extBut hoI) b hk fun s₃ S₃ M₃ F₃ => wpAny_mono (E := fun _ _ => False) ((step i u m' σ' hu hi).run A env s₃ a b S₃ (by rw [← hy]; exact F₃)) (fun f s₄ q => ?_) fun _ _ e => e.elim)) (fun _ _ q => q) fun _ _ e => e.elim
    have M₂ : MvS env σ₁ σ' s₁.heap h' := M'.beside hsb.extBut hIa
    cases f with
    | next =>
      obtain ⟨m₄, σ₄, S₄, M₄, F₄, q⟩ := q
      have M34 := M₃.trans M₄
      obtain ⟨oI, hoI'⟩ := It.live _ _ p'
      refine ⟨vs.length - (i + 1), by omega, J (i + 1) m₄ σ₄ s₄ hlt S₄ (M₂.trans M34) F₄ q (It.frame _ _ _ p' fun o e => M34.keep _ _ e hn hoI) ?_ _ rfl⟩
      cases q' : σ₄ s₁.heap.objs.size with
      | none => rfl
      | some _ => have := M34.fresh _ (by rw [q']; exact Option.some_ne_none _) hn; rw [hoI'] at this; cases this
    | ret r =>
      obtain ⟨σ₄, S₄, M₄, q⟩ := q
      exact ⟨σ₄, S₄, (MvS.of M₁).trans (M₂.trans (M₃.trans M₄)), q⟩
    | brk => exact q.elim
    | cont => exact q.elim
  · have e : i = vs.length := by omega
    subst e
    refine It.done s' σ' _ hp S' (iG _ _ _ hi) fun h' he => ?_
    refine wpAny_execs_nil ?_
    exact ⟨m', σ', S'.beside hbI hn he, (MvS.of M₁).trans (M'.beside he hIa), F'.beside he hoI, fin _ _ hi⟩

theorem WS.while {test : Expr} {body : List Stmt} {pos : Pos} (I : Nat → Loc → St → Prop) (k : Nat) (h0 : I k m σ)
    (h : ∀ k m' σ', I k m' σ' → WT B n sc test m' σ' fun c σ₁ => if c = true then WSs B n sc body m' σ₁ (fun m₂ σ₂ => ∃ j, j < k ∧ I j m₂ σ₂) R else N m' σ₁) : WS B n sc (.While test body [] pos) m σ N R := by
  refine ⟨fun A env s a b S F => wpAny_While ?_⟩
  refine codeAny_whileLoop (fun k s' => ∃ m' σ', Sh B σ' s' ∧ MvS env σ σ' s.heap s'.heap ∧ FrR B env m' σ' s'.heap ∧ I k m' σ') (fun k s' hJ => ?_) k ⟨m, σ, S, .refl, F, h0⟩
  obtain ⟨m', σ', S', M', F', hi⟩ := hJ
  refine wpAny_mono (E := fun _ _ => False) (((h k m' σ' hi).run A env s' a b S' F'.loc).to fun c σ₁ s₁ S₁ M₁ q => ?_) (fun _ _ q => q) fun _ _ e => e.elim
  have M₂ := M'.trans (MvS.of M₁)
  cases c with
  | true =>
    have q' : WSs B n sc body m' σ₁ (fun m₂ σ₂ => ∃ j, j < k ∧ I j m₂ σ₂) R := q
    refine wpAny_mono (E := fun _ _ => False) (q'.run A env s₁ a b S₁ (F'.mv M₁)) (fun f s₂ q₂ => ?_) fun _ _ e => e.elim
    cases f with
    | next =>
      obtain ⟨m₂, σ₂, S₂, M₂', F₂, j, hj, q₂⟩ := q₂
      exact ⟨j, hj, m₂, σ₂, S₂, M₂.trans M₂', F₂, q₂⟩
    | ret r =>
      obtain ⟨σ₂, S₂, M₂', q₂⟩ := q₂
      exact ⟨σ₂, S₂, M₂.trans M₂', q₂⟩
    | brk => exact q₂.elim
    | cont => exact q₂.elim
  | false => exact wpAny_execs_nil ⟨m', σ₁, S₁, M₂, F'.mv M₁, q⟩
end
end Mine

namespace Mine

def mOf : List (Str × V) → Loc → Loc
  | [], m => m
  | b :: r, m => mOf r (upL m b.1 b.2)
theorem bindL_er (kindOf : Str → Option NameKind) : ∀ (binds : List (Str × Value)) (m : Str → Option Value) (m' : Loc) (x : Str), kindOf x = some .local → (m x).map er = m' x → (bindL kindOf binds m x).map er = mOf (binds.map erP) m' x
  | [], m, m', x, _, h => h
  | (y, v) :: r, m, m', x, hk, h => by
    unfold bindL
    show _ = mOf (r.map erP) (upL m' y (er v)) x
    refine bindL_er kindOf r _ _ x hk ?_
    unfold upL
    by_cases e : x = y
    · subst e; rw [if_pos hk, if_pos rfl, if_pos rfl]; rfl
    · rw [if_neg e]
      split
      · exact (congrArg (Option.map er) (if_neg e)).trans h
      · exact h
theorem bindC_er (kindOf : Str → Option NameKind) : ∀ (binds : List (Str × Value)) (m : Str → Option Value) (m' : Loc) (x : Str), kindOf x ≠ some .local → (m x).map er = m' x → (bindC kindOf binds m x).map er = mOf (binds.map erP) m' x
  | [], m, m', x, _, h => h
  | (y, v) :: r, m, m', x, hk, h => by
    unfold bindC
    show _ = mOf (r.map erP) (upL m' y (er v)) x
    refine bindC_er kindOf r _ _ x hk ?_
    unfold upL
    by_cases e : x = y
    · subst e; rw [if_neg hk, if_pos rfl, if_pos rfl]; rfl
    · rw [if_neg e]
      split
      · exact h
      · exact (congrArg (Option.map er) (if_neg e)).trans h

section
variable {B : Base} {n : Nat} {σ : St} {Q : V → St → Prop}
theorem AOk.deep {A : Around} (a : AOk A (n + 1)) (env : Env) : AOk (A.deeper env) n :=
  ⟨a.hand, a.gu, by show A.depth + 1 + n < recursionLimit; have := a.depth; omega, by show A.units + 3 + 10 * n + 200 < cLine; have := a.units; omega⟩

abbrev BindsOk (B : Base) (name qual : Str) (ps : Arguments) (body : List Stmt) (sc : Scope) (dv : List V) (vs : List V) (bs : List (Str × V)) : Prop :=
  ∀ (s : Shared) (vals : List Value) (dV kV doc pm : Value) (an : Option Addr) (cdv ct : Value), vals.map er = vs → (∀ b o, B.s₀.heap.get? b = some o → s.heap.get? b = some o) → DefOk B dV dv →
    ∃ binds, BindsTo s (fnX name qual ps body sc [] dV kV doc pm an cdv ct) ⟨vals, []⟩ binds ∧ binds.map erP = bs

theorem WCa.enter {fa : Addr} {name qual : Str} {ps : Arguments} {body : List Stmt} {sc : Scope} {dv vs : List V} {bs : List (Str × V)} (hf : FnA B fa name qual ps body sc dv) (hb : BindsOk B name qual ps body sc dv vs bs)
    (hk : (bs.all fun b => isLC (sc.names.lookup b.1)) = true) (hsc : (sc.kind == .function && !sc.isCoroutine && !sc.isGenerator) = true)
    (h : WSs B n sc body (mOf bs fun _ => none) σ (fun _ σ' => Q .none σ') Q) : WCa B (n + 1) fa vs σ Q := by
  refine ⟨fun A s vals a S hv => ?_⟩
  obtain ⟨oc, od, osl, dV, kV, doc, pm, an, cdv, ct, h1, h2, h3⟩ := hf.at_
  obtain ⟨binds, b1, b2⟩ := hb s vals dV kV doc pm an cdv ct hv S.base h3
  rw [Bool.and_eq_true, Bool.and_eq_true] at hsc
  obtain ⟨⟨k1, k2⟩, k3⟩ := hsc
  have k1 : sc.kind = .function := beq_iff_eq.mp k1
  have kinds : ∀ x ∈ binds, sc.names.lookup x.1 = some .local ∨ sc.names.lookup x.1 = some .cell := fun x hx => by
    refine isLC_or ?_
    have := List.all_eq_true.mp hk (erP x) (by rw [← b2]; exact List.mem_map_of_mem hx)
    exact this
  refine codeAny_call_function (fd := fnX name qual ps body sc [] dV kV doc pm an cdv ct) (Nat.lt_of_le_of_lt (Nat.le_add_right _ _) a.depth) (S.base _ _ h1) rfl (by simpa using k2) (by simpa using k3) rfl (h2.keeps S.base) (b1 _ _ _ _ ?_)
  refine wpAny_newFunctionEnv_cells k1 (fun x hx => (kinds x hx).imp id fun q => ⟨q, cellsFrom_some _ _ _ (.inl q)⟩) fun env he s' x => ?_
  subst he
  refine ⟨(S.ok.nolimit.keeps S.base).keeps x.toInCall.keep, codeAny_func ?_⟩
  have hke : ∀ b o, s.heap.get? b = some o → s'.heap.get? b = some o := x.toInCall.keep
  have hL : s.heap.get? s.heap.objs.size = none := get_size _
  have hcl : ∀ y c, (cellsFrom (s.heap.objs.size + 1) sc.names []).lookup y = some c → s.heap.get? c = none := fun y c hc =>
    Heap.get?_none_of_le (Nat.le_of_lt (x.above y c (mem_of_lookup hc)))
  have S' : Sh B σ s' := by
    obtain ⟨h', tk, e⟩ := x.toInCall.same
    have := S.keeps (n := tk) (h := h') (by rw [e] at hke; exact hke)
    rw [e]; exact this
  have F' : FrR B (newEnv sc s.heap.objs.size mainGlobals (cellsFrom (s.heap.objs.size + 1) sc.names []) (qual ++ ".<locals>.") (some fa) cdv none builtinsNs) (mOf bs fun _ => none) σ s'.heap := by
    refine ⟨⟨_, x.toInCall.ns, fun y hy => ?_⟩, S.size_none, fun y hy => ?_, S.off_none hL, fun y c hc => ?_, fun y z c hy hz => ?_⟩
    · rw [← b2]; exact bindL_er _ binds _ _ y hy rfl
    · obtain ⟨c, hc⟩ := Option.isSome_iff_exists.mp (cellsFrom_some (x := y) sc.names (s.heap.objs.size + 1) [] (.inl hy))
      refine ⟨c, _, hc, x.cell y c hc, ?_, S.none_of_fresh (hcl y c hc)⟩
      rw [← b2]; exact bindC_er _ binds _ _ y (by rw [hy]; decide) rfl
    · exact ⟨S.off_none (hcl y c hc), S.none_of_fresh (hcl y c hc), Nat.ne_of_gt (x.above y c (mem_of_lookup hc)), _, x.cell y c hc⟩
    · exact name_of_addr x.apart (mem_of_lookup hy) (mem_of_lookup hz)
  have e' : EnvOk sc (newEnv sc s.heap.objs.size mainGlobals (cellsFrom (s.heap.objs.size + 1) sc.names []) (qual ++ ".<locals>.") (some fa) cdv none builtinsNs) := ⟨rfl, rfl, rfl, k1⟩
  refine wpAny_mono (E := fun _ _ => False) (h.run _ _ s' (a.deep _) e' S' F') (fun f s₂ q => ?_) fun _ _ e => e.elim
  have mv : ∀ {σ₂ : St} {h₂ : Heap}, MvS (newEnv sc s.heap.objs.size mainGlobals (cellsFrom (s.heap.objs.size + 1) sc.names []) (qual ++ ".<locals>.") (some fa) cdv none builtinsNs) σ σ₂ s'.heap h₂ → Mv σ σ₂ s.heap h₂ := fun {σ₂ h₂} M => by
    refine ⟨fun b o e hn => M.keep b o (hke b o e) hn fun hw => ?_, fun b h1 h2 => ?_⟩
    · rcases hw with rfl | ⟨y, hy⟩
      · have : s.heap.get? s.heap.objs.size = some o := e
        rw [hL] at this; cases this
      · rw [hcl y b hy] at e; cases e
    · cases e : s.heap.get? b with
      | none => rfl
      | some o => have := M.fresh b h1 h2; rw [hke b o e] at this; cases this
  cases f with
  | next =>
    obtain ⟨m', σ', S₂, M₂, F₂, q⟩ := q
    exact ⟨.none, rfl, σ', S₂, mv M₂, q⟩
  | ret v =>
    obtain ⟨σ', S₂, M₂, q⟩ := q
    exact ⟨v, rfl, σ', S₂, mv M₂, q⟩
  | brk => exact q.elim
  | cont => exact q.elim

section
variable {name qual : Str} {ps : Arguments} {body : List Stmt} {sc : Scope} {a b c d : V} {p1 p2 p3 p4 : Str}
theorem DefOk.nil {dV : Value} (h : DefOk B dV []) : dV = .none := by
  rcases h with ⟨h, _⟩ | ⟨T, o, items, n, h1, h2, h3, h4, h5⟩
  · exact h
  · exact absurd rfl h5
theorem DefOk.one {dV : Value} (h : DefOk B dV [.none]) (s : Shared) (hk : ∀ b o, B.s₀.heap.get? b = some o → s.heap.get? b = some o) : ∃ T o n, dV = .ref T ∧ s.heap.get? T = some o ∧ o.data = .seq #[.none] n := by
  rcases h with ⟨_, h⟩ | ⟨T, o, items, n, h1, h2, h3, h4, _⟩
  · cases h
  · obtain ⟨l⟩ := items
    obtain ⟨x, rfl, hx⟩ := map_one h4
    rw [er_none hx] at h3
    exact ⟨T, o, n, h1, hk _ _ h2, h3⟩
theorem map_three {vals : List Value} {a b c : V} (h : vals.map er = [a, b, c]) : ∃ x y z, vals = [x, y, z] ∧ er x = a ∧ er y = b ∧ er z = c := by
  match vals, h with
  | [x, y, z], h => cases h; exact ⟨x, y, z, rfl, rfl, rfl, rfl⟩
theorem map_four {vals : List Value} {a b c d : V} (h : vals.map er = [a, b, c, d]) : ∃ x y z u, vals = [x, y, z, u] ∧ er x = a ∧ er y = b ∧ er z = c ∧ er u = d := by
  match vals, h with
  | [x, y, z, u], h => cases h; exact ⟨x, y, z, u, rfl, rfl, rfl, rfl, rfl⟩
abbrev fd0 (name qual : Str) (ps : Arguments) (body : List Stmt) (sc : Scope) (dV kV doc pm : Value) (an : Option Addr) (cdv ct : Value) : FuncData := fnX name qual ps body sc [] dV kV doc pm an cdv ct
/-- what bindArgs gives, the defaults read -/
structure BindsBy (name qual : Str) (ps : Arguments) (body : List Stmt) (sc : Scope) (ds : List Value) (vals : List Value) (binds : List (Str × Value)) : Prop where
  run : ∀ (dV kV doc pm : Value) (an : Option Addr) (cdv ct : Value), ∃ k : Option (Array Value) → Sem (List (Str × Value)), bindArgs (fnX name qual ps body sc [] dV kV doc pm an cdv ct) ⟨vals, []⟩ = seqItems? dV >>= k ∧ k (some ds.toArray) = pure binds
theorem BindsBy.to {s : Shared} {ds vals : List Value} {binds : List (Str × Value)} (h : BindsBy name qual ps body sc ds vals binds) {T : Addr} {o : Obj} {n : Nat} {kV doc pm : Value} {an : Option Addr} {cdv ct : Value} (ho : s.heap.get? T = some o) (hd : o.data = .seq ds.toArray n) :
    BindsTo s (fnX name qual ps body sc [] (.ref T) kV doc pm an cdv ct) ⟨vals, []⟩ binds :=
  let ⟨k, h1, h2⟩ := h.run (.ref T) kV doc pm an cdv ct
  BindsTo.of_defaults rfl ho hd h1 h2
end

theorem WC.enter1 {f p1 : Str} {ps : Arguments} {body : List Stmt} {sc : Scope} {a : V} (hf : FnAt B f ps body sc []) (h : WSs B n sc body (mOf [(p1, a)] fun _ => none) σ (fun _ σ' => Q .none σ') Q)
    (hb : ∀ x, ∀ (kV doc pm : Value) (an : Option Addr) (cdv ct : Value), bindArgs (fnX f f ps body sc [] .none kV doc pm an cdv ct) ⟨[x], []⟩ = pure [(p1, x)] := by intros; rfl)
    (hk : isLC (sc.names.lookup p1) = true := by rfl) (hsc : (sc.kind == .function && !sc.isCoroutine && !sc.isGenerator) = true := by rfl) : WC B (n + 1) f [a] σ Q := by
  obtain ⟨fa, h1, h2⟩ := hf.at_
  refine ⟨fa, h1, WCa.enter h2 (fun s vals dV kV doc pm an cdv ct hv hs hd => ?_) (by simpa using hk) hsc h⟩
  obtain ⟨x, rfl, hx⟩ := map_one hv
  refine ⟨[(p1, x)], ?_, by rw [← hx]; rfl⟩
  obtain rfl := hd.nil
  exact BindsTo.of_eq (hb x ..)
theorem WC.enter2 {f p1 p2 : Str} {ps : Arguments} {body : List Stmt} {sc : Scope} {a b : V} (hf : FnAt B f ps body sc []) (h : WSs B n sc body (mOf [(p1, a), (p2, b)] fun _ => none) σ (fun _ σ' => Q .none σ') Q)
    (hb : ∀ x y, ∀ (kV doc pm : Value) (an : Option Addr) (cdv ct : Value), bindArgs (fnX f f ps body sc [] .none kV doc pm an cdv ct) ⟨[x, y], []⟩ = pure [(p1, x), (p2, y)] := by intros; rfl)
    (hk : (isLC (sc.names.lookup p1) && isLC (sc.names.lookup p2)) = true := by rfl) (hsc : (sc.kind == .function && !sc.isCoroutine && !sc.isGenerator) = true := by rfl) : WC B (n + 1) f [a, b] σ Q := by
  obtain ⟨fa, h1, h2⟩ := hf.at_
  refine ⟨fa, h1, WCa.enter h2 (fun s vals dV kV doc pm an cdv ct hv hs hd => ?_) (by simpa using hk) hsc h⟩
  obtain ⟨x, y, rfl, hx, hy⟩ := map_two hv
  refine ⟨[(p1, x), (p2, y)], ?_, by rw [← hx, ← hy]; rfl⟩
  obtain rfl := hd.nil
  exact BindsTo.of_eq (hb x y ..)
theorem WC.enter3 {f p1 p2 p3 : Str} {ps : Arguments} {body : List Stmt} {sc : Scope} {a b c : V} (hf : FnAt B f ps body sc []) (h : WSs B n sc body (mOf [(p1, a), (p2, b), (p3, c)] fun _ => none) σ (fun _ σ' => Q .none σ') Q)
    (hb : ∀ x y z, ∀ (kV doc pm : Value) (an : Option Addr) (cdv ct : Value), bindArgs (fnX f f ps body sc [] .none kV doc pm an cdv ct) ⟨[x, y, z], []⟩ = pure [(p1, x), (p2, y), (p3, z)] := by intros; rfl)
    (hk : (isLC (sc.names.lookup p1) && isLC (sc.names.lookup p2) && isLC (sc.names.lookup p3)) = true := by rfl) (hsc : (sc.kind == .function && !sc.isCoroutine && !sc.isGenerator) = true := by rfl) : WC B (n + 1) f [a, b, c] σ Q := by
  obtain ⟨fa, h1, h2⟩ := hf.at_
  refine ⟨fa, h1, WCa.enter h2 (fun s vals dV kV doc pm an cdv ct hv hs hd => ?_) (by simpa [and_assoc] using hk) hsc h⟩
  obtain ⟨x, y, z, rfl, hx, hy, hz⟩ := map_three hv
  refine ⟨[(p1, x), (p2, y), (p3, z)], ?_, by rw [← hx, ← hy, ← hz]; rfl⟩
  obtain rfl := hd.nil
  exact BindsTo.of_eq (hb x y z ..)
theorem WC.enter4 {f p1 p2 p3 p4 : Str} {ps : Arguments} {body : List Stmt} {sc : Scope} {a b c d : V} (hf : FnAt B f ps body sc []) (h : WSs B n sc body (mOf [(p1, a), (p2, b), (p3, c), (p4, d)] fun _ => none) σ (fun _ σ' => Q .none σ') Q)
    (hb : ∀ x y z u, ∀ (kV doc pm : Value) (an : Option Addr) (cdv ct : Value), bindArgs (fnX f f ps body sc [] .none kV doc pm an cdv ct) ⟨[x, y, z, u], []⟩ = pure [(p1, x), (p2, y), (p3, z), (p4, u)] := by intros; rfl)
    (hk : (isLC (sc.names.lookup p1) && isLC (sc.names.lookup p2) && isLC (sc.names.lookup p3) && isLC (sc.names.lookup p4)) = true := by rfl) (hsc : (sc.kind == .function && !sc.isCoroutine && !sc.isGenerator) = true := by rfl) : WC B (n + 1) f [a, b, c, d] σ Q := by
  obtain ⟨fa, h1, h2⟩ := hf.at_
  refine ⟨fa, h1, WCa.enter h2 (fun s vals dV kV doc pm an cdv ct hv hs hd => ?_) (by simpa [and_assoc] using hk) hsc h⟩
  obtain ⟨x, y, z, u, rfl, hx, hy, hz, hu⟩ := map_four hv
  refine ⟨[(p1, x), (p2, y), (p3, z), (p4, u)], ?_, by rw [← hx, ← hy, ← hz, ← hu]; rfl⟩
  obtain rfl := hd.nil
  exact BindsTo.of_eq (hb x y z u ..)
-- with a default None
theorem WC.enterD2 {f p1 p2 : Str} {ps : Arguments} {body : List Stmt} {sc : Scope} {a b : V} (hf : FnAt B f ps body sc [.none]) (h : WSs B n sc body (mOf [(p1, a), (p2, b)] fun _ => none) σ (fun _ σ' => Q .none σ') Q)
    (hb' : ∀ x y, BindsBy f f ps body sc [.none] [x, y] [(p1, x), (p2, y)] := by intro _ _; exact ⟨fun _ _ _ _ _ _ _ => ⟨_, rfl, rfl⟩⟩)
    (hk : (isLC (sc.names.lookup p1) && isLC (sc.names.lookup p2)) = true := by rfl) (hsc : (sc.kind == .function && !sc.isCoroutine && !sc.isGenerator) = true := by rfl) : WC B (n + 1) f [a, b] σ Q := by
  obtain ⟨fa, h1, h2⟩ := hf.at_
  refine ⟨fa, h1, WCa.enter h2 (fun s vals dV kV doc pm an cdv ct hv hs hd => ?_) (by simpa using hk) hsc h⟩
  obtain ⟨x, y, rfl, hx, hy⟩ := map_two hv
  obtain ⟨T, o, n, rfl, g1, g2⟩ := hd.one s hs
  exact ⟨[(p1, x), (p2, y)], (hb' x y).to g1 g2, by rw [← hx, ← hy]; rfl⟩
theorem WC.enterD3 {f p1 p2 p3 : Str} {ps : Arguments} {body : List Stmt} {sc : Scope} {a b c : V} (hf : FnAt B f ps body sc [.none]) (h : WSs B n sc body (mOf [(p1, a), (p2, b), (p3, c)] fun _ => none) σ (fun _ σ' => Q .none σ') Q)
    (hb' : ∀ x y z, BindsBy f f ps body sc [.none] [x, y, z] [(p1, x), (p2, y), (p3, z)] := by intro _ _ _; exact ⟨fun _ _ _ _ _ _ _ => ⟨_, rfl, rfl⟩⟩)
    (hk : (isLC (sc.names.lookup p1) && isLC (sc.names.lookup p2) && isLC (sc.names.lookup p3)) = true := by rfl) (hsc : (sc.kind == .function && !sc.isCoroutine && !sc.isGenerator) = true := by rfl) : WC B (n + 1) f [a, b, c] σ Q := by
  obtain ⟨fa, h1, h2⟩ := hf.at_
  refine ⟨fa, h1, WCa.enter h2 (fun s vals dV kV doc pm an cdv ct hv hs hd => ?_) (by simpa [and_assoc] using hk) hsc h⟩
  obtain ⟨x, y, z, rfl, hx, hy, hz⟩ := map_three hv
  obtain ⟨T, o, n, rfl, g1, g2⟩ := hd.one s hs
  exact ⟨[(p1, x), (p2, y), (p3, z)], (hb' x y z).to g1 g2, by rw [← hx, ← hy, ← hz]; rfl⟩
theorem WCa.enterD4 {fa : Addr} {f q p1 p2 p3 p4 : Str} {ps : Arguments} {body : List Stmt} {sc : Scope} {a b c d : V} (hf : FnA B fa f q ps body sc [.none]) (h : WSs B n sc body (mOf [(p1, a), (p2, b), (p3, c), (p4, d)] fun _ => none) σ (fun _ σ' => Q .none σ') Q)
    (hb' : ∀ x y z u, BindsBy f q ps body sc [.none] [x, y, z, u] [(p1, x), (p2, y), (p3, z), (p4, u)] := by intro _ _ _ _; exact ⟨fun _ _ _ _ _ _ _ => ⟨_, rfl, rfl⟩⟩)
    (hk : (isLC (sc.names.lookup p1) && isLC (sc.names.lookup p2) && isLC (sc.names.lookup p3) && isLC (sc.names.lookup p4)) = true := by rfl) (hsc : (sc.kind == .function && !sc.isCoroutine && !sc.isGenerator) = true := by rfl) : WCa B (n + 1) fa [a, b, c, d] σ Q := by
  refine WCa.enter hf (fun s vals dV kV doc pm an cdv ct hv hs hd => ?_) (by simpa [and_assoc] using hk) hsc h
  obtain ⟨x, y, z, u, rfl, hx, hy, hz, hu⟩ := map_four hv
  obtain ⟨T, o, n, rfl, g1, g2⟩ := hd.one s hs
  exact ⟨[(p1, x), (p2, y), (p3, z), (p4, u)], (hb' x y z u).to g1 g2, by rw [← hx, ← hy, ← hz, ← hu]; rfl⟩
theorem WCa.enterD43 {fa : Addr} {f q p1 p2 p3 p4 : Str} {ps : Arguments} {body : List Stmt} {sc : Scope} {a b c : V} (hf : FnA B fa f q ps body sc [.none]) (h : WSs B n sc body (mOf [(p1, a), (p2, b), (p3, c), (p4, .none)] fun _ => none) σ (fun _ σ' => Q .none σ') Q)
    (hb' : ∀ x y z, BindsBy f q ps body sc [.none] [x, y, z] [(p1, x), (p2, y), (p3, z), (p4, .none)] := by intro _ _ _; exact ⟨fun _ _ _ _ _ _ _ => ⟨_, rfl, rfl⟩⟩)
    (hk : (isLC (sc.names.lookup p1) && isLC (sc.names.lookup p2) && isLC (sc.names.lookup p3) && isLC (sc.names.lookup p4)) = true := by rfl) (hsc : (sc.kind == .function && !sc.isCoroutine && !sc.isGenerator) = true := by rfl) : WCa B (n + 1) fa [a, b, c] σ Q := by
  refine WCa.enter hf (fun s vals dV kV doc pm an cdv ct hv hs hd => ?_) (by simpa [and_assoc] using hk) hsc h
  obtain ⟨x, y, z, rfl, hx, hy, hz⟩ := map_three hv
  obtain ⟨T, o, n, rfl, g1, g2⟩ := hd.one s hs
  exact ⟨[(p1, x), (p2, y), (p3, z), (p4, .none)], (hb' x y z).to g1 g2, by rw [← hx, ← hy, ← hz]; rfl⟩
theorem WCa.enter1 {fa : Addr} {f q p1 : Str} {ps : Arguments} {body : List Stmt} {sc : Scope} {a : V} (hf : FnA B fa f q ps body sc []) (h : WSs B n sc body (mOf [(p1, a)] fun _ => none) σ (fun _ σ' => Q .none σ') Q)
    (hb : ∀ x, ∀ (kV doc pm : Value) (an : Option Addr) (cdv ct : Value), bindArgs (fnX f q ps body sc [] .none kV doc pm an cdv ct) ⟨[x], []⟩ = pure [(p1, x)] := by intros; rfl)
    (hk : isLC (sc.names.lookup p1) = true := by rfl) (hsc : (sc.kind == .function && !sc.isCoroutine && !sc.isGenerator) = true := by rfl) : WCa B (n + 1) fa [a] σ Q := by
  refine WCa.enter hf (fun s vals dV kV doc pm an cdv ct hv hs hd => ?_) (by simpa using hk) hsc h
  obtain ⟨x, rfl, hx⟩ := map_one hv
  refine ⟨[(p1, x)], ?_, by rw [← hx]; rfl⟩
  obtain rfl := hd.nil
  exact BindsTo.of_eq (hb x ..)
end
end Mine

namespace Mine

/-- the scope of a comprehension inside sc -/
def relab (scope sc : Scope) : Scope :=
  { scope with names := scope.names.map fun (n, k) => if (k == .free && sc.kind == .function && sc.names.lookup n == some .cell) then (n, .cell) else (n, k) }
theorem relab_lookup (sc : Scope) : ∀ (l : List (Str × NameKind)) (y : Str), (l.map fun (n, k) => if (k == NameKind.free && sc.kind == .function && sc.names.lookup n == some .cell) then (n, NameKind.cell) else (n, k)).lookup y =
    (l.lookup y).map fun k => if (k == NameKind.free && sc.kind == .function && sc.names.lookup y == some .cell) then NameKind.cell else k
  | [], _ => rfl
  | (z, k) :: r, y => by
    have ih := relab_lookup sc r y
    show List.lookup y ((if (k == NameKind.free && sc.kind == .function && sc.names.lookup z == some .cell) = true then (z, NameKind.cell) else (z, k)) :: _) = _
    cases w : y == z with
    | true =>
      have e := beq_iff_eq.mp w
      subst e
      by_cases c : (k == NameKind.free && sc.kind == .function && sc.names.lookup y == some .cell) = true
      · rw [if_pos c, List.lookup_cons, w, List.lookup_cons, w]; simp only [Option.map_some, if_pos c]
      · rw [if_neg c, List.lookup_cons, w, List.lookup_cons, w]; simp only [Option.map_some, if_neg c]
    | false =>
      by_cases c : (k == NameKind.free && sc.kind == .function && sc.names.lookup z == some .cell) = true
      · rw [if_pos c, List.lookup_cons, w, List.lookup_cons, w]; exact ih
      · rw [if_neg c, List.lookup_cons, w, List.lookup_cons, w]; exact ih
theorem relabel_eq {scope sc : Scope} {env : Env} (b : EnvOk sc env) : relabel scope env = relab scope sc := by unfold relabel relab Env.kindOf; rw [b.scp]
def mC (scope : Scope) (m : Loc) : Loc := fun y => if scope.names.lookup y = some .free then m y else none
def nodupB : List (Str × NameKind) → Bool
  | [] => true
  | (x, _) :: r => !(r.any fun y => y.1 == x) && nodupB r
/-- the names of a comprehension's scope are as they should be -/
def scopeOk (scope sc : Scope) : Bool := scope.kind == .function && nodupB scope.names && scope.names.all fun x => x.2 != .free || (sc.kind == .function && sc.names.lookup x.1 == some .cell)

theorem lookup_of_mem : ∀ {l : List (Str × NameKind)} {x : Str} {k : NameKind}, nodupB l = true → (x, k) ∈ l → l.lookup x = some k
  | (y, j) :: r, x, k, hn, hm => by
    rw [nodupB, Bool.and_eq_true] at hn
    rw [List.lookup_cons]
    rcases List.mem_cons.mp hm with e | hm
    · cases e; simp
    · have : (x == y) = false := by
        have h1 : (r.any fun z => z.1 == y) = false := by simpa using hn.1
        have := List.any_eq_false.mp h1 _ hm
        simpa using this
      rw [this]
      exact lookup_of_mem hn.2 hm

def clF (env : Env) : List (Str × NameKind) → List (Str × Addr) → List (Str × Addr)
  | [], acc => acc
  | (y, k) :: r, acc => if k == .free then clF env r ((y, (env.cells.lookup y).getD 0) :: acc) else clF env r acc
theorem cellOf_pure {env : Env} {y : Str} {c : Addr} (h : env.cells.lookup y = some c) : cellOf env y = pure c := by unfold cellOf; rw [h]
theorem closureFor_eq {scope : Scope} {env : Env} (h : ∀ x ∈ scope.names, x.2 = .free → (env.cells.lookup x.1).isSome = true) : closureFor scope env = pure (clF env scope.names []) := by
  have go : ∀ (l : List (Str × NameKind)) (acc : List (Str × Addr)), (∀ x ∈ l, x.2 = .free → (env.cells.lookup x.1).isSome = true) →
      (forIn l acc fun x (cs : List (Str × Addr)) => match x with
        | (name, kind) => if (kind == NameKind.free) = true then (do let c ← cellOf env name; pure (ForInStep.yield ((name, c) :: cs))) else pure (ForInStep.yield cs)) = (pure (clF env l acc) : Sem _) := by
    intro l
    induction l with
    | nil => intro acc _; rw [List.forIn_nil]; rfl
    | cons x r ih =>
      intro acc h
      obtain ⟨y, k⟩ := x
      rw [List.forIn_cons]
      have hr : ∀ x ∈ r, x.2 = .free → (env.cells.lookup x.1).isSome = true := fun x hx => h x (.tail _ hx)
      unfold clF
      by_cases hk : (k == NameKind.free) = true
      · obtain ⟨c, hc⟩ := Option.isSome_iff_exists.mp (h (y, k) (.head _) (beq_iff_eq.mp hk))
        have hc : env.cells.lookup y = some c := hc
        simp only [hk, if_true, cellOf_pure hc, pure_bind, hc, Option.getD_some]
        exact ih _ hr
      · simp only [hk, if_false, pure_bind]
        exact ih _ hr
  unfold closureFor
  have := go scope.names [] h
  simp only [bind_pure] at this ⊢
  rw [← this]
theorem clF_sound {env : Env} : ∀ {l : List (Str × NameKind)} {acc : List (Str × Addr)}, (∀ x ∈ l, x.2 = .free → (env.cells.lookup x.1).isSome = true) → (∀ y c, acc.lookup y = some c → env.cells.lookup y = some c) →
    ∀ y c, (clF env l acc).lookup y = some c → env.cells.lookup y = some c
  | [], acc, _, h, y, c, e => h y c e
  | (z, k) :: r, acc, hl, h, y, c, e => by
    unfold clF at e
    have hr : ∀ x ∈ r, x.2 = .free → (env.cells.lookup x.1).isSome = true := fun x hx => hl x (.tail _ hx)
    split at e
    · rename_i hk
      obtain ⟨c', hc⟩ := Option.isSome_iff_exists.mp (hl (z, k) (.head _) (beq_iff_eq.mp hk))
      refine clF_sound hr (fun y' d hd => ?_) y c e
      rw [List.lookup_cons] at hd
      cases q : y' == z with
      | true =>
        have hc : env.cells.lookup z = some c' := hc
        rw [q] at hd; simp only [hc, Option.getD_some] at hd
        rw [beq_iff_eq.mp q, hc]; exact hd
      | false => rw [q] at hd; exact h _ _ hd
    · exact clF_sound hr h y c e
theorem clF_keys {env : Env} : ∀ {l : List (Str × NameKind)} {acc : List (Str × Addr)} {y : Str} {c : Addr}, (clF env l acc).lookup y = some c → (acc.lookup y).isSome = true ∨ (y, NameKind.free) ∈ l
  | [], acc, y, c, e => .inl (by rw [show acc.lookup y = some c from e]; rfl)
  | (z, k) :: r, acc, y, c, e => by
    unfold clF at e
    split at e
    · rename_i hk
      rcases clF_keys e with q | q
      · rw [List.lookup_cons] at q
        cases w : y == z with
        | true => exact .inr (by rw [beq_iff_eq.mp w, ← beq_iff_eq.mp hk]; exact .head _)
        | false => rw [w] at q; exact .inl q
      · exact .inr (.tail _ q)
    · rcases clF_keys e with q | q
      · exact .inl q
      · exact .inr (.tail _ q)
theorem clF_some {env : Env} : ∀ {l : List (Str × NameKind)} {acc : List (Str × Addr)} {y : Str}, (y, NameKind.free) ∈ l ∨ (acc.lookup y).isSome = true → ((clF env l acc).lookup y).isSome = true
  | [], acc, y, h => h.elim (fun e => by cases e) id
  | (z, k) :: r, acc, y, h => by
    unfold clF
    have key : ∀ a : Addr, (List.lookup y ((z, a) :: acc)).isSome = true ↔ (y = z ∨ (acc.lookup y).isSome = true) := fun a => by
      rw [List.lookup_cons]
      cases q : y == z with
      | true => simp [beq_iff_eq.mp q]
      | false =>
        have : y ≠ z := beq_eq_false_iff_ne.mp q
        simp [this]
    split
    · refine clF_some ?_
      rw [key]
      rcases h with h | h
      · rcases List.mem_cons.mp h with e | h
        · cases e; exact .inr (.inl rfl)
        · exact .inl h
      · exact .inr (.inr h)
    · rename_i hk
      refine clF_some ?_
      rcases h with h | h
      · rcases List.mem_cons.mp h with e | h
        · cases e; exact absurd rfl hk
        · exact .inl h
      · exact .inr h

theorem cellsFrom_append : ∀ (names : List (Str × NameKind)) (n : Nat) (acc : List (Str × Addr)), cellsFrom n names acc = cellsFrom n names [] ++ acc
  | [], _, _ => rfl
  | (y, k) :: r, n, acc => by
    unfold cellsFrom
    split
    · rw [cellsFrom_append r (n + 1) ((y, n) :: acc), cellsFrom_append r (n + 1) [(y, n)], List.append_assoc]; rfl
    · exact cellsFrom_append r n acc
theorem cellsFrom_keys : ∀ {names : List (Str × NameKind)} {n : Nat} {acc : List (Str × Addr)} {y : Str} {c : Addr}, (cellsFrom n names acc).lookup y = some c → (y, NameKind.cell) ∈ names ∨ (acc.lookup y).isSome = true
  | [], _, acc, y, c, h => .inr (by rw [show acc.lookup y = some c from h]; rfl)
  | (z, k) :: r, n, acc, y, c, h => by
    unfold cellsFrom at h
    split at h
    · rename_i hk
      rcases cellsFrom_keys h with q | q
      · exact .inl (.tail _ q)
      · rw [List.lookup_cons] at q
        cases w : y == z with
        | true => exact .inl (by rw [beq_iff_eq.mp w, ← beq_iff_eq.mp hk]; exact .head _)
        | false => rw [w] at q; exact .inr q
    · rcases cellsFrom_keys h with q | q
      · exact .inl (.tail _ q)
      · exact .inr q

section
variable {M : Model} {A : Around} {E : Value → Shared → Prop} {s : Shared}
theorem newFunctionEnv_around {scope : Scope} {globals : Addr} {cl : List (Str × Addr)} {qual : Str} {env : Env} {Q : Env → Shared → Prop}
    (h : Q (newEnv scope s.heap.objs.size globals (cellsFrom (s.heap.objs.size + 1) scope.names cl) qual none .none (some env) builtinsNs) { s with heap := pushCells (s.heap.push { cls := .type "dict", data := .dict #[] }) scope.names }) :
    wpAny M A (newFunctionEnv scope globals cl [] qual none .none (some env)) Q E s := by
  simp only [newFunctionEnv, Option.isSome_some, if_true]
  refine wpAny_bind (wpAny_alloc ?_)
  refine wpAny_bind (wpAny_layCells _ (fun name kind cells => by cases hkc : kind == NameKind.cell <;> simp [hkc]) _ _ _ _ ?_)
  rw [show ({ s with heap := s.heap.push { cls := .type "dict", data := .dict #[] } } : Shared).heap.objs.size = s.heap.objs.size + 1 from Heap.size_push ..]
  simp only [List.forIn_nil]
  exact wpAny_bind (wpAny_pure (wpAny_pure h))
end

theorem Mv.beside' {σ σ' : St} {h h₁ h' : Heap} {a : Addr} (M : Mv σ σ' h h₁) (hs : Heap.ExtBut a h₁ h') (ha : ∀ o, h.get? a = some o → σ a = none → False) : Mv σ σ' h h' :=
  ⟨fun b o e hn => hs _ _ (fun q => by subst q; exact ha o e hn) (M.keep b o e hn), M.fresh⟩
theorem Mv.beside {σ σ' : St} {h h₁ h' : Heap} {a : Addr} (M : Mv σ σ' h h₁) (hs : Heap.ExtBut a h₁ h') (ha : h.get? a = none) : Mv σ σ' h h' :=
  M.beside' hs fun o e _ => by rw [ha] at e; cases e
theorem upL_upL (m : Loc) (x : Str) (a b : V) : upL (upL m x a) x b = upL m x b := by
  funext y; unfold upL; split <;> rfl

section
variable {B : Base} {n : Nat} {sc : Scope} {m : Loc} {σ σ₁ : St} {Q : V → St → Prop}

/-- the turns of a comprehension over one name -/
structure Turns (B : Base) (n : Nat) (sc scope : Scope) (m : Loc) (x : Str) (ifs : List Expr) (elt : Expr) (vs : List V) (G : St → Prop) (I : Nat → List V → St → Prop) : Prop where
  good : ∀ i ys σ', I i ys σ' → G σ' ∧ ys.length ≤ i
  step : ∀ i u ys σ', vs[i]? = some u → I i ys σ' → match ifs with
    | [] => WE B n (relab scope sc) elt (upL (mC scope m) x u) σ' fun w σ'' => I (i + 1) (ys ++ [w]) σ''
    | [c] => WT B n (relab scope sc) c (upL (mC scope m) x u) σ' fun b σ'' => if b = true then WE B n (relab scope sc) elt (upL (mC scope m) x u) σ'' fun w σ₃ => I (i + 1) (ys ++ [w]) σ₃ else I (i + 1) ys σ''
    | _ => False

/-- what stands when the turns of a comprehension begin -/
structure CSet (B : Base) (sc scope : Scope) (m : Loc) (σ₁ : St) (s₁ s₄ : Shared) (cenv : Env) (Ia D : Addr) : Prop where
  ce : EnvOk (relab scope sc) cenv
  F : LocR B cenv (mC scope m) σ₁ s₄.heap
  S : Sh B σ₁ s₄
  M : Mv σ₁ σ₁ s₁.heap s₄.heap
  oI : ¬ OwnA cenv Ia
  oD : ¬ OwnA cenv D
  nI : ∀ o, s₁.heap.get? Ia = some o → σ₁ Ia = none → False
  bI : B.s₀.heap.get? Ia = none
  nD : s₁.heap.get? D = none
  nC : s₁.heap.get? cenv.locals = none
  hiD : cStatics < D
  ne : Ia ≠ D
  neC : cenv.locals ≠ D
  lst : IsL s₄.heap D #[] 0
  at_ : ∀ x, isLC (scope.names.lookup x) = true → isLC (kOf (relab scope sc) x) = true ∧ ∀ c, (c = cenv.locals ∨ cenv.cells.lookup x = some c) → s₁.heap.get? c = none ∧ c ≠ Ia ∧ c ≠ D

theorem compSetup {A : Around} {env : Env} {s₁ : Shared} {scope : Scope} {elt : Expr} {tg iter : Expr} {ifs : List Expr} {rest : List Comprehension} {pos : Pos} {v : Value} {vs : List V} {G : St → Prop} {RR : Value → Addr → Result → Shared → Prop}
    (a : AOk A n) (b : EnvOk sc env) (S₁ : Sh B σ₁ s₁) (F₁ : LocR B env m σ₁ s₁.heap) (hsc : scopeOk scope sc = true) (hI : IterOk B (er v) vs G σ₁)
    (hloop : ∀ cenv s₄ Ia D P, CSet B sc scope m σ₁ s₁ s₄ cenv Ia D → σ₁ Ia = none → Iter B A Ia vs G P → P 0 s₄.heap → codeAny (model B.prog B.w) A (.compLoop (.ListComp elt (⟨tg, iter, ifs, 0⟩ :: rest) scope pos) 0 (.ref Ia) (.ref D) cenv) (RR (.ref D) cenv.locals) s₄) :
    wpAny (model B.prog B.w) A (pyIter v) (fun it s₂ => wpAny (model B.prog B.w) A (newList []) (fun acc s₃ =>
      wpAny (model B.prog B.w) A (newFunctionEnv scope env.globals (clF env scope.names []) [] env.qual none .none (some env)) (fun cenv s₄ =>
        codeAny (model B.prog B.w) A (.compStart (.ListComp elt (⟨tg, iter, ifs, 0⟩ :: rest) scope pos) 0 it acc { cenv with scope := relabel scope env }) (RR acc cenv.locals) s₄) (fun _ _ => False) s₃) (fun _ _ => False) s₂) (fun _ _ => False) s₁ := by
  unfold scopeOk at hsc
  rw [Bool.and_eq_true, Bool.and_eq_true] at hsc
  obtain ⟨⟨k1, k2⟩, k3⟩ := hsc
  have hkind : scope.kind = .function := beq_iff_eq.mp k1
  have hfree : ∀ y, (y, NameKind.free) ∈ scope.names → env.kindOf y = some .cell := fun y hy => by
    have := List.all_eq_true.mp k3 _ hy
    rw [Env.kindOf, b.scp]
    have e : sc.kind = .function := b.k
    simpa [e] using this
  have hfr : ∀ y ∈ scope.names, y.2 = .free → (env.cells.lookup y.1).isSome = true := fun y hy hk => by
    obtain ⟨c, vo, h1, _⟩ := F₁.cell y.1 (hfree y.1 (by rw [← hk]; exact hy))
    rw [h1]; rfl
  refine hI.run A s₁ v _ a.hand S₁ rfl fun ob P hfr' It p0 => ?_
  -- the iterator, the list, the names, the cells
  have hIa := get_size s₁.heap
  have S₂ : Sh B σ₁ { s₁ with heap := s₁.heap.push ob } := S₁.keeps (n := s₁.toks) fun b o e => Heap.get?_push_of_some _ e
  refine wpAny_newObj_type (newFunctionEnv_around ?_) (by show #[].size ≤ sizeLine; rw [sizeLine_eq]; exact Nat.zero_le _)
  generalize hIe : s₁.heap.objs.size = Ia at *
  dsimp only
  simp only [Heap.size_push, hIe]
  generalize hH3 : (s₁.heap.push ob).push { cls := Value.type "list", dict := none, data := .seq ([] : List Value).toArray } = H3
  have z3 : H3.objs.size = Ia + 1 + 1 := by rw [← hH3, Heap.size_push, Heap.size_push, hIe]
  have k13 : ∀ c o, s₁.heap.get? c = some o → H3.get? c = some o := fun c o e => by rw [← hH3]; exact Heap.get?_push_of_some _ (Heap.get?_push_of_some _ e)
  have D3 : H3.get? (Ia + 1) = some { cls := .type "list", dict := none, data := .seq ([] : List Value).toArray } := by
    rw [← hH3, show Ia + 1 = (s₁.heap.push ob).objs.size by rw [Heap.size_push, hIe]]; exact Heap.get?_push_size _ rfl
  have p3 : P 0 H3 := It.frame _ _ _ p0 fun o e => by rw [← hH3]; exact Heap.get?_push_of_some _ e
  have ok := cellsFrom_ok scope.names (H3.push { cls := .type "dict", data := .dict #[] }) (Ia + 1 + 1 + 1) [] ⟨fun _ _ hm => (nomatch hm), List.Pairwise.nil⟩ (by rw [Heap.size_push, z3]; exact Nat.le_refl _)
  rw [Heap.size_push, z3] at ok
  generalize hH4 : pushCells (H3.push { cls := .type "dict", data := .dict #[] }) scope.names = H4 at ok ⊢
  have k34 : ∀ c o, H3.get? c = some o → H4.get? c = some o := fun c o e => by rw [← hH4]; exact pushCells_keeps _ _ _ _ (Heap.get?_push_of_some _ e)
  have k14 := fun c o e => k34 c o (k13 c o e)
  have above : ∀ c, Ia ≤ c → s₁.heap.get? c = none := fun c hc => Heap.get?_none_of_le (by rw [hIe]; exact hc)
  have n4 : H4.Ns (Ia + 1 + 1) fun _ => none := by
    rw [← hH4]
    have := (Heap.Ns.new H3 (.type "dict"))
    rw [z3] at this
    exact this.keeps (pushCells_keeps _ _)
  have S₄ : Sh B σ₁ { s₁ with heap := H4 } := S₁.keeps (n := s₁.toks) k14
  have hcells : (newEnv scope (Ia + 1 + 1) env.globals (cellsFrom (Ia + 1 + 1 + 1) scope.names (clF env scope.names [])) env.qual none .none (some env) builtinsNs) =
    (newEnv scope (Ia + 1 + 1) env.globals (cellsFrom (Ia + 1 + 1 + 1) scope.names [] ++ clF env scope.names []) env.qual none .none (some env) builtinsNs) := by rw [cellsFrom_append]
  rw [hcells]
  generalize hce : { (newEnv scope (Ia + 1 + 1) env.globals (cellsFrom (Ia + 1 + 1 + 1) scope.names [] ++ clF env scope.names []) env.qual none .none (some env) builtinsNs) with scope := relabel scope env } = cenv
  have cL : cenv.locals = Ia + 1 + 1 := by rw [← hce]; rfl
  have cC : cenv.cells = cellsFrom (Ia + 1 + 1 + 1) scope.names [] ++ clF env scope.names [] := by rw [← hce]; rfl
  have cS : cenv.scope = relab scope sc := by rw [← hce]; exact relabel_eq b
  have ce : EnvOk (relab scope sc) cenv := ⟨cS, by rw [← hce]; exact b.g, by rw [← hce]; exact b.b, hkind⟩
  -- each cell is new, or one of the frame outside
  have split : ∀ y c, cenv.cells.lookup y = some c → (Ia + 1 + 1 + 1 ≤ c ∧ (y, NameKind.cell) ∈ scope.names ∧ (y, c) ∈ cellsFrom (Ia + 1 + 1 + 1) scope.names []) ∨ ((y, NameKind.free) ∈ scope.names ∧ env.cells.lookup y = some c) := fun y c hc => by
    rw [cC, List.lookup_append] at hc
    rcases Option.or_eq_some_iff.mp hc with q | ⟨q1, q2⟩
    · refine .inl ⟨(ok.empty y c (mem_of_lookup q)).2, ?_, mem_of_lookup q⟩
      exact (cellsFrom_keys q).elim id fun w => by cases w
    · exact .inr ⟨(clF_keys q2).elim (fun w => by cases w) id, clF_sound hfr (fun _ _ w => by cases w) y c q2⟩
  have lt_old : ∀ (y : Str) (c : Nat), env.cells.lookup y = some c → c < Ia := fun y c hc => by
    obtain ⟨_, _, _, vo, o, ho, _⟩ := F₁.cb y c hc
    rw [← hIe]; exact Heap.lt_size ho
  have freeCell : ∀ y, (y, NameKind.free) ∈ scope.names → ∀ c, env.cells.lookup y = some c → cenv.cells.lookup y = some c := fun y hy c hc => by
    rw [cC, List.lookup_append]
    have h1 : (cellsFrom (Ia + 1 + 1 + 1) scope.names []).lookup y = none := by
      cases q : (cellsFrom (Ia + 1 + 1 + 1) scope.names []).lookup y with
      | none => rfl
      | some d =>
        have h2 := (cellsFrom_keys q).elim id fun w => by cases w
        have := (lookup_of_mem k2 hy).symm.trans (lookup_of_mem k2 h2)
        cases this
    obtain ⟨d, hd⟩ := Option.isSome_iff_exists.mp (clF_some (env := env) (acc := []) (.inl hy))
    have := clF_sound hfr (fun _ _ w => by cases w) y d hd
    rw [hc] at this; cases this
    rw [h1, hd]; rfl
  have F₄ : LocR B cenv (mC scope m) σ₁ H4 := by
    refine ⟨⟨fun _ => none, by rw [cL]; exact n4, fun y hy => ?_⟩, ?_, fun y hy => ?_, ?_, fun y c hc => ?_, fun y z c hy hz => ?_⟩
    · have hy' : (relab scope sc).names.lookup y = some .local := by rw [← cS]; exact hy
      unfold mC
      have : scope.names.lookup y ≠ some .free := fun q => by
        have := hfree y (mem_of_lookup q)
        rw [Env.kindOf, b.scp] at this
        have h3 : (relab scope sc).names.lookup y = some .cell := by
          show List.lookup y (scope.names.map _) = _
          have e2 : sc.kind = .function := b.k
          rw [relab_lookup, q]
          simp [e2, this]
        rw [h3] at hy'; cases hy'
      rw [if_neg this]; rfl
    · rw [cL]; exact S₁.none_of_fresh (above _ (by omega))
    · have hy' : (relab scope sc).names.lookup y = some .cell := by rw [← cS]; exact hy
      -- own or free
      have : scope.names.lookup y = some .cell ∨ scope.names.lookup y = some .free := by
        have h3 : List.lookup y (scope.names.map _) = some NameKind.cell := hy'
        rw [relab_lookup] at h3
        obtain ⟨k, h4, h5⟩ := Option.map_eq_some_iff.mp h3
        by_cases c : (k == NameKind.free && sc.kind == .function && sc.names.lookup y == some .cell) = true
        · rw [Bool.and_eq_true, Bool.and_eq_true] at c
          exact .inr (by rw [h4, beq_iff_eq.mp c.1.1])
        · rw [if_neg c] at h5; exact .inl (by rw [h4, h5])
      rcases this with q | q
      · obtain ⟨c, hc⟩ := Option.isSome_iff_exists.mp (cellsFrom_some (x := y) scope.names (Ia + 1 + 1 + 1) [] (.inl q))
        refine ⟨c, none, by rw [cC, List.lookup_append, hc]; rfl, (ok.empty y c (mem_of_lookup hc)).1, ?_, S₁.none_of_fresh (above _ (by have := (ok.empty y c (mem_of_lookup hc)).2; omega))⟩
        unfold mC; rw [q]; rfl
      · obtain ⟨c, vo, h1, ⟨o, h2, h2'⟩, h3, h4⟩ := F₁.cell y (hfree y (mem_of_lookup q))
        exact ⟨c, vo, freeCell y (mem_of_lookup q) c h1, ⟨o, k14 _ _ h2, h2'⟩, by unfold mC; rw [q, if_pos rfl]; exact h3, h4⟩
    · rw [cL]; exact S₁.off_none (above _ (by omega))
    · rw [cL]
      rcases split y c hc with ⟨q, _, q2⟩ | ⟨_, q⟩
      · have hn := above c (by omega)
        exact ⟨S₁.off_none hn, S₁.none_of_fresh hn, Nat.ne_of_gt (by omega), none, (ok.empty y c q2).1⟩
      · obtain ⟨h1, h2, _, vo, o, h4, h5⟩ := F₁.cb y c q
        have := lt_old y c q
        exact ⟨h1, h2, Nat.ne_of_lt (by omega), vo, o, k14 _ _ h4, h5⟩
    · rcases split y c hy with ⟨q1, _, q2⟩ | ⟨_, q⟩ <;> rcases split z c hz with ⟨q1', _, q2'⟩ | ⟨_, q'⟩
      · exact name_of_addr ok.apart q2 q2'
      · have := lt_old z c q'; omega
      · have := lt_old y c q; omega
      · exact F₁.inj y z c q q'
  have notOwn : ∀ c, Ia ≤ c → c < Ia + 1 + 1 → ¬ OwnA cenv c := fun c h1 h2 ho => by
    rcases ho with e | ⟨y, hy⟩
    · rw [cL] at e; have e : @Eq Nat c (Ia + 1 + 1) := e; omega
    · rcases split y c hy with ⟨q, _⟩ | ⟨_, q⟩
      · omega
      · have := lt_old y c q; omega
  have hcl' : cenv.locals = (newEnv scope (Ia + 1 + 1) env.globals (cellsFrom (Ia + 1 + 1 + 1) scope.names [] ++ clF env scope.names []) env.qual none .none (some env) builtinsNs).locals := by rw [← hce]
  rw [← hcl']
  have C : CSet B sc scope m σ₁ s₁ { s₁ with heap := H4 } cenv Ia (Ia + 1) := by
    refine ⟨ce, F₄, S₄, Mv.of_keeps k14, notOwn _ (by omega) (by omega), notOwn _ (by omega) (by omega), (fun o e _ => by rw [hIa] at e; cases e), S₁.off_none hIa, above _ (by omega), by rw [cL]; exact above _ (by omega), ?_, Nat.ne_of_lt (by omega), by rw [cL]; exact Nat.ne_of_gt (by omega), k34 _ _ D3, fun x hx => ⟨?_, fun c hc => ?_⟩⟩
    · rw [← hIe]; exact Nat.lt_succ_of_lt S₁.hiSize
    · show isLC (List.lookup x (scope.names.map _)) = true
      rw [relab_lookup]
      rcases isLC_or hx with q | q <;> rw [q] <;> rfl
    · have : @LE.le Nat instLENat (Ia + 1 + 1) c := by
        rcases hc with e | e
        · rw [cL] at e; have e : @Eq Nat c (Ia + 1 + 1) := e; omega
        · rcases split x c e with ⟨q, _⟩ | ⟨q, _⟩
          · omega
          · have := lookup_of_mem k2 q
            rw [this] at hx; cases hx
      exact ⟨above _ (by omega), Nat.ne_of_gt (by omega), Nat.ne_of_gt (by omega)⟩
  have loop := hloop cenv { s₁ with heap := H4 } Ia (Ia + 1) P C (S₁.none_of_fresh hIa) It (It.frame _ _ _ p3 fun o e => k34 _ _ e)
  refine codeAny_compStart_list loop ?_
  exact wpAny_mono (E := fun _ _ => False) (It.self 0 _ _ (It.frame _ _ _ p3 fun o e => k34 _ _ e) loop) (fun _ _ q => q) fun _ _ e => e.elim

theorem CSet.fin {scope : Scope} {s₁ s₄ : Shared} {cenv : Env} {Ia D : Addr} (C : CSet B sc scope m σ₁ s₁ s₄ cenv Ia D) {σ' : St} {s' : Shared} {ys : List V} {items : Array Value} {j : Nat} {h' : Heap}
    (S' : Sh B σ' s') (M' : Mv σ₁ σ' s₁.heap s'.heap) (S₁ : Sh B σ₁ s₁) (hn : σ' Ia = none) (hnD : σ' D = none) (he : Heap.ExtBut Ia s'.heap h') (hD : IsL s'.heap D items j) (hys : items.toList.map er = ys) :
    Sh B (upd σ' D (.list ys)) { s' with heap := h' } ∧ Mv σ₁ (upd σ' D (.list ys)) s₁.heap h' := by
  have D' : IsL h' D items j := he _ _ (Ne.symm C.ne) hD
  have bI := C.bI
  refine ⟨⟨S'.ok, ?_, fun c o e => he _ _ (fun q => by rw [q, bI] at e; cases e) (S'.base c o e), fun c hc => ?_, fun c hc => ?_, fun c o hc => ?_⟩, ⟨fun c o e hc => ?_, fun c h1 h2 => ?_⟩⟩
  · obtain ⟨_, _, rfl⟩ := S'.same; exact ⟨_, _, rfl⟩
  · by_cases e : c = D
    · rw [e]; exact S₁.off_none C.nD
    · rw [upd_ne e] at hc; exact S'.off c hc
  · by_cases e : c = D
    · rw [e]; exact C.hiD
    · rw [upd_ne e] at hc; exact S'.hi c hc
  · by_cases e : c = D
    · subst e; rw [upd_self] at hc; cases hc; exact ⟨_, D', _, _, rfl, hys⟩
    · rw [upd_ne e] at hc
      obtain ⟨ob', h1, h2⟩ := S'.objs c o hc
      exact ⟨ob', he _ _ (fun q => by rw [q, hn] at hc; cases hc) h1, h2⟩
  · exact he _ _ (fun q => by subst q; exact C.nI _ e hc) (M'.keep c o e hc)
  · by_cases e : c = D
    · rw [e]; exact C.nD
    · rw [upd_ne e] at h1; exact M'.fresh c h1 h2
theorem Mv.stays {σ σ' : St} {h h' : Heap} (M : Mv σ σ' h h') {a : Addr} {o : Obj} (e : h.get? a = some o) (hn : σ a = none) : σ' a = none ∧ h'.get? a = some o := by
  refine ⟨?_, M.keep _ _ e hn⟩
  cases q : σ' a with
  | none => rfl
  | some _ => have := M.fresh _ (by rw [q]; exact Option.some_ne_none _) hn; rw [e] at this; cases this

/-- what a loop of a comprehension finds and leaves -/
structure CInv (B : Base) (σ₁ : St) (s₁ : Shared) (cenv : Env) (Ia D : Addr) (mc : Loc) (ys : List V) (σ' : St) (s' : Shared) : Prop where
  S : Sh B σ' s'
  M : Mv σ₁ σ' s₁.heap s'.heap
  F : LocR B cenv mc σ' s'.heap
  nI : σ' Ia = none
  nD : σ' D = none
  lst : ∃ items j, IsL s'.heap D items j ∧ items.toList.map er = ys
theorem CInv.mv {s₁ : Shared} {cenv : Env} {Ia D : Addr} {mc : Loc} {ys : List V} {σ' σ'' : St} {s' s'' : Shared} (C : CInv B σ₁ s₁ cenv Ia D mc ys σ' s') (hI : ∃ o, s'.heap.get? Ia = some o) (S : Sh B σ'' s'') (M : Mv σ' σ'' s'.heap s''.heap) : CInv B σ₁ s₁ cenv Ia D mc ys σ'' s'' := by
  obtain ⟨items, j, h1, h2⟩ := C.lst
  obtain ⟨o, ho⟩ := hI
  have hD := M.stays h1 C.nD
  exact ⟨S, C.M.trans M, C.F.mv M, (M.stays ho C.nI).1, hD.1, items, j, hD.2, h2⟩
/-- one more element -/
theorem CInv.push {scope : Scope} {s₁ s₄ : Shared} {cenv : Env} {Ia D : Addr} {mc : Loc} {ys : List V} {σ' : St} {s' : Shared} {A : Around} {w : Value} {Q : Value → Shared → Prop} (C₀ : CSet B sc scope m σ₁ s₁ s₄ cenv Ia D) (S₁ : Sh B σ₁ s₁) (C : CInv B σ₁ s₁ cenv Ia D mc ys σ' s') (hz : ys.length ≤ 1000000)
    (h : ∀ s'', CInv B σ₁ s₁ cenv Ia D mc (ys ++ [er w]) σ' s'' → Heap.SameBut D s'.heap s''.heap → Q .none s'') : wpAny (model B.prog B.w) A (call (.builtin "list.append") [.ref D, w]) Q (fun _ _ => False) s' := by
  obtain ⟨items, j, h1, h2⟩ := C.lst
  have hsz : items.size ≤ sizeLine := by rw [len_er h2, sizeLine_eq]; omega
  refine call_meets F.slot_list_append h1.isList.typeIs F.entry_list_append (F.args_list_append_2 _ _) (list_append _ items j w hsz) ⟨h1, ?_⟩
  have hsb := Heap.SameBut.update s'.heap D (Obj.mapSeq fun z => z.push w)
  exact h _ ⟨C.S.aside (n := s'.toks) (S₁.off_none C₀.nD) C.nD hsb, C.M.beside hsb.extBut C₀.nD, C.F.beside hsb.extBut C₀.oD, C.nI, C.nD, items.push w, _, h1.update _, by rw [Array.toList_push, List.map_append, h2]; rfl⟩ hsb
/-- the iterator's step and the name bound -/
theorem CInv.next {scope : Scope} {s₁ s₄ : Shared} {cenv : Env} {Ia D : Addr} {mc : Loc} {ys : List V} {σ' : St} {s' : Shared} {A : Around} {x : Str} {px : Pos} {u : V} {vs : List V} {G : St → Prop} {P : Nat → Heap → Prop} {i : Nat} {Q : Value → Shared → Prop}
    (C₀ : CSet B sc scope m σ₁ s₁ s₄ cenv Ia D) (S₁ : Sh B σ₁ s₁) (C : CInv B σ₁ s₁ cenv Ia D mc ys σ' s') (It : Iter B A Ia vs G P) (hx : isLC (scope.names.lookup x) = true) (hp : P i s'.heap) (hu : vs[i]? = some u) (hG : G σ') {K : Option Value → Shared → Prop}
    (hK : ∀ y s'', er y = u → (wpAny (model B.prog B.w) A (PySem.assign (.Name x px) cenv y) (fun _ s₆ => (CInv B σ₁ s₁ cenv Ia D (upL mc x u) ys σ' s₆ ∧ P (i + 1) s₆.heap) ∧ ∀ b o, b ≠ Ia → ¬ OwnA cenv b → s'.heap.get? b = some o → s₆.heap.get? b = some o) (fun _ _ => False) s'') → K (some y) s'') : wpAny (model B.prog B.w) A (pyNext (.ref Ia)) K (fun _ _ => False) s' := by
  refine It.item i u s' σ' _ hu hp C.S hG C.nI fun y h' tk hy p' hsb => hK y _ hy ?_
  obtain ⟨items, j, h1, h2⟩ := C.lst
  have S₅ : Sh B σ' { s' with heap := h', toks := tk } := C.S.aside C₀.bI C.nI hsb
  have F₅ := C.F.beside hsb.extBut C₀.oI
  refine PySem.wpAny_assign_Name (storeA S₅ F₅ C₀.ce (C₀.at_ x hx).1 fun s₆ c hc hs₆ hlv S₆ F₆ => ?_)
  obtain ⟨hca, hcI, hcD⟩ := (C₀.at_ x hx).2 c hc
  rw [hy] at F₆
  refine ⟨⟨⟨S₆, (C.M.beside' hsb.extBut C₀.nI).beside hs₆.extBut hca, F₆, C.nI, C.nD, items, j, hs₆.extBut _ _ (Ne.symm hcD) (hsb.extBut _ _ (Ne.symm C₀.ne) h1), h2⟩, It.frame _ _ _ p' fun o e => hs₆.extBut _ _ (Ne.symm hcI) e⟩, fun b o h1 h2 e => hs₆.extBut _ _ (fun q => h2 (q ▸ hc.imp id fun w => ⟨x, w⟩)) (hsb.extBut _ _ h1 e)⟩

theorem compCore {A : Around} {env : Env} {s₁ : Shared} {scope : Scope} {x : Str} {px : Pos} {iter elt : Expr} {ifs : List Expr} {pos : Pos} {v : Value} {vs : List V} {G : St → Prop} {I : Nat → List V → St → Prop} {RR : Value → Addr → Result → Shared → Prop}
    (a : AOk A n) (b : EnvOk sc env) (S₁ : Sh B σ₁ s₁) (F₁ : LocR B env m σ₁ s₁.heap) (hsc : scopeOk scope sc = true) (hx : isLC (scope.names.lookup x) = true) (hI : IterOk B (er v) vs G σ₁) (hz : vs.length ≤ 1000000)
    (i0 : I 0 [] σ₁) (T : Turns B n sc scope m x ifs elt vs G I)
    (hRR : ∀ D C ys σ' s', I vs.length ys σ' → ys.length ≤ vs.length → σ' D = none → Sh B (upd σ' D (.list ys)) s' → Mv σ₁ (upd σ' D (.list ys)) s₁.heap s'.heap → (∃ mv, s'.heap.Ns C mv) → s₁.heap.get? C = none → B.s₀.heap.get? C = none → upd σ' D (.list ys) C = none → RR (.ref D) C (.ok .next) s') :
    wpAny (model B.prog B.w) A (pyIter v) (fun it s₂ => wpAny (model B.prog B.w) A (newList []) (fun acc s₃ =>
      wpAny (model B.prog B.w) A (newFunctionEnv scope env.globals (clF env scope.names []) [] env.qual none .none (some env)) (fun cenv s₄ =>
        codeAny (model B.prog B.w) A (.compStart (.ListComp elt [⟨.Name x px, iter, ifs, 0⟩] scope pos) 0 it acc { cenv with scope := relabel scope env }) (RR acc cenv.locals) s₄) (fun _ _ => False) s₃) (fun _ _ => False) s₂) (fun _ _ => False) s₁ := by
  refine compSetup a b S₁ F₁ hsc hI fun cenv s₄ Ia D P C₀ sI It p4 => ?_
  let Inv : Nat → Shared → Prop := fun k s' => ∃ i ys σ' mc, k = vs.length - i ∧ i ≤ vs.length ∧ CInv B σ₁ s₁ cenv Ia D mc ys σ' s' ∧ (∀ u, upL mc x u = upL (mC scope m) x u) ∧ I i ys σ' ∧ P i s'.heap
  obtain ⟨oI, hoI⟩ := It.live _ _ p4
  refine codeAny_compLoop_tests Inv (fun k s' hJ => ?_) vs.length ⟨0, [], σ₁, mC scope m, rfl, Nat.zero_le _, ⟨C₀.S, C₀.M, C₀.F, sI, S₁.none_of_fresh C₀.nD, #[], 0, C₀.lst, rfl⟩, fun _ => rfl, i0, p4⟩
  obtain ⟨i, ys, σ', mc, e, hle, C, hmc, hi, hp⟩ := hJ
  have hG := T.good _ _ _ hi
  have hyz : ys.length ≤ 1000000 := by omega
  refine wpAny_mono (E := fun _ _ => False) ?_ (fun _ _ q => q) fun _ _ e => e.elim
  by_cases hlt : i < vs.length
  · obtain ⟨u, hu⟩ : ∃ u, vs[i]? = some u := ⟨vs[i], by simp [hlt]⟩
    refine C.next C₀ S₁ It hx hp hu hG.1 (px := px) (Q := fun _ _ => True) fun y s₅ hy hs₅ => ?_
    refine wpAny_mono (E := fun _ _ => False) hs₅ (fun _ s₆ hs₆ => ?_) fun _ _ e => e.elim
    obtain ⟨⟨C₆, p₆⟩, _⟩ := hs₆
    rw [hmc u] at C₆
    have lI := It.live _ _ p₆
    have pstep : ∀ {σ₈ : St} {s₈ : Shared}, Mv σ' σ₈ s₆.heap s₈.heap → P (i + 1) s₈.heap := fun M => It.frame _ _ _ p₆ fun o e => (M.stays e C₆.nI).2
    have push : ∀ w σ₈ s₈, Sh B σ₈ s₈ → Mv σ' σ₈ s₆.heap s₈.heap → I (i + 1) (ys ++ [er w]) σ₈ → wpAny (model B.prog B.w) A (call (.builtin "list.append") [.ref D, w]) (fun _ s₉ => ∃ m, m < k ∧ Inv m s₉) (fun _ _ => False) s₈ := fun w σ₈ s₈ S₈ M₈ hi₈ =>
      (C₆.mv lI S₈ M₈).push C₀ S₁ hyz fun s₉ C₉ hsb => ⟨vs.length - (i + 1), by omega, i + 1, _, σ₈, _, rfl, hlt, C₉, fun u' => upL_upL _ _ _ _, hi₈, It.frame _ _ _ (pstep M₈) fun o e => hsb.extBut _ _ C₀.ne e⟩
    have st := T.step i u ys σ' hu hi
    match ifs, st with
    | [], st =>
      have st : WE B n (relab scope sc) elt (upL (mC scope m) x u) σ' fun w σ'' => I (i + 1) (ys ++ [w]) σ'' := st
      rw [List.forIn_nil]
      refine wpAny_pure ?_
      rw [if_pos rfl]
      exact wpAny_mono (E := fun _ _ => False) ((st.run A cenv s₆ a C₀.ce C₆.S C₆.F).to fun w σ₈ s₈ S₈ M₈ q => wpAny_mono (E := fun _ _ => False) (push w σ₈ s₈ S₈ M₈ q) (fun _ _ q => q) fun _ _ e => e.elim) (fun _ _ q => q) fun _ _ e => e.elim
    | [c], st =>
      have st : WT B n (relab scope sc) c (upL (mC scope m) x u) σ' fun b σ'' => if b = true then WE B n (relab scope sc) elt (upL (mC scope m) x u) σ'' fun w σ₃ => I (i + 1) (ys ++ [w]) σ₃ else I (i + 1) ys σ'' := st
      refine wpAny_mono (E := fun _ _ => False) (wpAny_tests_one ((st.run A cenv s₆ a C₀.ce C₆.S C₆.F).to fun t σ₇ s₇ S₇ M₇ q => ?_)) (fun _ _ q => q) fun _ _ e => e.elim
      cases t with
      | true =>
        have q : WE B n (relab scope sc) elt (upL (mC scope m) x u) σ₇ fun w σ₃ => I (i + 1) (ys ++ [w]) σ₃ := q
        rw [if_pos rfl]
        exact wpAny_mono (E := fun _ _ => False) ((q.run A cenv s₇ a C₀.ce S₇ (C₆.F.mv M₇)).to fun w σ₈ s₈ S₈ M₈ q => wpAny_mono (E := fun _ _ => False) (push w σ₈ s₈ S₈ (M₇.trans M₈) q) (fun _ _ q => q) fun _ _ e => e.elim) (fun _ _ q => q) fun _ _ e => e.elim
      | false =>
        rw [if_neg (by decide)]
        exact ⟨vs.length - (i + 1), by omega, i + 1, ys, σ₇, _, rfl, hlt, C₆.mv lI S₇ M₇, fun u' => upL_upL _ _ _ _, q, pstep M₇⟩
    | _ :: _ :: _, st => exact st.elim
  · have e' : i = vs.length := by omega
    subst e'
    refine It.done s' σ' _ hp C.S hG.1 fun h' he => ?_
    obtain ⟨items, j, hD, hys⟩ := C.lst
    have X := C₀.fin C.S C.M S₁ C.nI C.nD he hD hys
    refine hRR _ _ ys σ' _ hi hG.2 C.nD X.1 X.2 ⟨_, (C.F.beside he C₀.oI).ns.choose_spec.1⟩ C₀.nC C.F.base ?_
    rw [upd_ne C₀.neC]; exact C.F.lo
end
end Mine

namespace Mine

section
variable {B : Base} {n : Nat} {sc : Scope} {m : Loc} {σ σ₁ : St} {Q : V → St → Prop} {N : Loc → St → Prop} {R : V → St → Prop}

theorem names_ok {scope sc : Scope} (h : scopeOk scope sc = true) : scope.kind = .function ∧ ∀ x ∈ scope.names, x.2 = .local → scope.names.lookup x.1 = some .local := by
  unfold scopeOk at h
  rw [Bool.and_eq_true, Bool.and_eq_true] at h
  obtain ⟨⟨k1, k2⟩, _⟩ := h
  exact ⟨beq_iff_eq.mp k1, fun x hx hl => lookup_of_mem k2 (by rw [← hl]; exact hx)⟩
theorem clos_ok {scope sc : Scope} {env : Env} {h : Heap} (hs : scopeOk scope sc = true) (b : EnvOk sc env) (F : LocR B env m σ h) : closureFor scope env = pure (clF env scope.names []) := by
  unfold scopeOk at hs
  rw [Bool.and_eq_true] at hs
  refine closureFor_eq fun y hy hk => ?_
  have := List.all_eq_true.mp hs.2 _ hy
  have e : sc.kind = .function := b.k
  have hc : env.kindOf y.1 = some .cell := by rw [Env.kindOf, b.scp]; simpa [hk, e] using this
  obtain ⟨c, vo, h1, _⟩ := F.cell y.1 hc
  rw [h1]; rfl
/-- what is asked of the list of a comprehension -/
abbrev CompQ (B : Base) (n : Nat) (sc scope : Scope) (m : Loc) (x : Str) (ifs : List Expr) (elt : Expr) (Q : V → St → Prop) (v : V) (σ₁ : St) : Prop :=
  ∃ vs G I, IterOk B v vs G σ₁ ∧ vs.length ≤ 1000000 ∧ I 0 [] σ₁ ∧ Turns B n sc scope m x ifs elt vs G I ∧ ∀ D ys σ', I vs.length ys σ' → ys.length ≤ vs.length → σ' D = none → Q (.ref D) (upd σ' D (.list ys))
theorem WE.comp {elt iter : Expr} {x : Str} {px pos : Pos} {ifs : List Expr} {scope : Scope} (h : WE B n sc iter m σ (CompQ B n sc scope m x ifs elt Q)) (hsc : scopeOk scope sc = true := by rfl) (hx : isLC (scope.names.lookup x) = true := by rfl)
    (hs : ∀ env x, foldedSetIterable iter env x = pure x := by intro _ _; rfl) : WE B n sc (.ListComp elt [⟨.Name x px, iter, ifs, 0⟩] scope pos) m σ Q := by
  refine ⟨fun A env s a b S F => ⟨?_⟩⟩
  obtain ⟨hk, hn⟩ := names_ok hsc
  rw [eval_ListComp]
  refine wpAny_comprehension_free (use := none) rfl (hs env) (clos_ok hsc b F) hk hn ?_
  refine (h.run A env s a b S F).to fun v σ₁ s₁ S₁ M₁ q => ?_
  obtain ⟨vs, G, I, hI, hz, i0, T, fin⟩ := q
  refine compCore (RR := fun acc C => compPost (model B.prog B.w) A (fun _ _ => False) none (fun a s' => ∃ σ', Sh B σ' s' ∧ Mv σ σ' s.heap s'.heap ∧ Q (er a) σ') acc C) a b S₁ (F.mv M₁) hsc hx hI hz i0 T fun D C ys σ' s' hi hy hn' S' M' hns hC bC uC => ?_
  obtain ⟨mv, hns⟩ := hns
  exact ⟨mv, hns, fun h' hs' => ⟨_, S'.aside (n := s'.toks) bC uC hs', M₁.trans (M'.beside hs'.extBut hC), fin D ys σ' hi hy hn'⟩⟩

def swapB (sc scope : Scope) (t : Str) (l1 l2 : Nat) : Bool := sc.names.lookup t == some .local && l1 == l2 && !(scope.names.any fun (n, k) => n == t && (k == .local || k == .cell))
theorem swaps_comp {elt : Expr} {gens : List Comprehension} {scope : Scope} {cpos : Pos} {t : Str} {tp : Pos} {line : Nat} {env : Env} (b : EnvOk sc env) : swapsWith (.ListComp elt gens scope cpos) (some (.Name t tp)) line env = pure (swapB sc scope t tp.line cpos.line) := by
  show (pure (env.blockKind == .function && env.kindOf t == some .local && tp.line == cpos.line && !(scope.names.any fun (n, k) => n == t && (k == .local || k == .cell))) : Sem Bool) = _
  unfold swapB
  have : env.blockKind = .function := by unfold Env.blockKind; rw [b.scp, b.k]; rfl
  rw [this, Env.kindOf, b.scp]
  simp only [beq_self_eq_true, Bool.true_and]
theorem WS.assignC {x : Str} {xp : Pos} {elt iter : Expr} {y : Str} {py pos spos : Pos} {ifs : List Expr} {scope : Scope} (h : WE B n sc iter m σ (CompQ B n sc scope m x ifs elt fun v σ' => N (upL m y v) σ')) (hk : isLC (kOf sc y) = true := by rfl) (hsc : scopeOk scope sc = true := by rfl) (hx : isLC (scope.names.lookup x) = true := by rfl)
    (hs : ∀ env x, foldedSetIterable iter env x = pure x := by intro _ _; rfl) : WS B n sc (.Assign [.Name y py] (.ListComp elt [⟨.Name x xp, iter, ifs, 0⟩] scope pos) spos) m σ N R := by
  cases hw : swapB sc scope y py.line pos.line with
  | false =>
    refine ⟨fun A env s a b S F => wpAny_Assign_Name (((WE.comp (pos := pos) (px := xp) h hsc hx hs).run A env s a b S F).to fun v σ₁ s₁ S₁ M₁ q => storeJ S₁ (F.mv M₁) b hk fun s' S' M' F' => ?_) (by rw [swaps_comp b, hw])⟩
    exact ⟨_, σ₁, S', (MvS.of M₁).trans M', F', q⟩
  | true =>
    refine ⟨fun A env s a b S F => ?_⟩
    obtain ⟨hkd, hnm⟩ := names_ok hsc
    rw [exec_Assign_Name_used _ _ _ _ (by rw [swaps_comp b, hw])]
    refine wpAny_bind (wpAny_standAt (wpAny_bind ?_))
    show wpAny _ A (do let _ ← comprehension (.ListComp elt [⟨.Name x xp, iter, ifs, 0⟩] scope pos) scope env _ (newList []) false (eval iter env) (some (PySem.assign (.Name y py) env))) _ _ s
    refine wpAny_bind (wpAny_mono (E := fun _ _ => False) (wpAny_comprehension_free (use := some (PySem.assign (.Name y py) env)) (Q := fun _ s' => FlowQ B env σ s.heap N R .next s') rfl (hs env) (clos_ok hsc b F) hkd hnm ?_) (fun _ s' hq => wpAny_pure (wpAny_pure hq)) fun _ _ e => e)
    refine (h.run A env s a b S F).to fun v σ₁ s₁ S₁ M₁ q => ?_
    obtain ⟨vs, G, I, hI, hz, i0, T, fin⟩ := q
    have F₁ := F.mv M₁
    refine compCore (RR := fun acc C => compPost (model B.prog B.w) A (fun _ _ => False) (some (PySem.assign (.Name y py) env)) (fun _ s' => FlowQ B env σ s.heap N R .next s') acc C) a b S₁ F₁ hsc hx hI hz i0 T fun D C ys σ' s' hi hy hn' S' M' hns hC bC uC => ?_
    obtain ⟨mv, hns⟩ := hns
    refine PySem.wpAny_assign_Name (storeA S' (F₁.mv M') b hk fun s'' c hc hs'' hlv S'' F'' => ?_)
    have hcC : C ≠ c := fun e => by
      obtain ⟨o, ho⟩ := F₁.own_live (a := c) (hc.imp id fun q => ⟨y, q⟩)
      rw [← e, hC] at ho; cases ho
    refine ⟨mv, hns.sameBut hs'' hcC, fun h' hs' => ?_⟩
    have oC : ¬ OwnA env C := fun ho => by obtain ⟨o, ho⟩ := F₁.own_live ho; rw [hC] at ho; cases ho
    obtain ⟨oc, hoc⟩ := hlv
    exact ⟨_, _, S''.aside (n := s''.toks) bC uC hs', (MvS.of M₁).trans (((MvS.of M').trans (MvS.aside hs'' (hc.imp id fun q => ⟨y, q⟩) hoc)).beside hs'.extBut hC), F''.beside hs'.extBut oC, fin D ys σ' hi hy hn'⟩

/-- a method of the class Vector -/
theorem WE.methV {o : Expr} {name : Str} {apos pos : Pos} {pl : Env → Sem Bool} {fM : Addr} (hm : findIn B.K (.ref B.C) name = some (some (.ref fM))) (ht : typeIn B.K (.ref fM) = some (.type "function")) (hg : plainGet B.K B.C name = true) (hkp : keepIn B.K (.ref fM) = true)
    (h : WE B n sc o m σ fun v σ₁ => ∃ x d kvs, v = .ref x ∧ σ₁ x = some (.inst B.C d) ∧ σ₁ d = some (.attrs kvs) ∧ lookA kvs name = none ∧ WCa B n fM [.ref x] σ₁ Q)
    (he : ∀ env, eval (.Call (.Attribute o name apos) [] [] pos) env = (do
      let ov ← eval o env
      standAt apos.atName
      let (f, first) ← holding [ov] (getMethod ov name (pl env))
      callWith pos f first (backTo pos (starEach [] env)) (backToKw pos (keywordEach [] env))) := by intro _; rfl) : WE B n sc (.Call (.Attribute o name apos) [] [] pos) m σ Q := by
  refine ⟨fun A env s a b S L => ⟨?_⟩⟩
  refine methodCall_KW ((h.run A env s a b S L).to fun v σ₁ s₁ S₁ M₁ q => ?_) (he env)
  obtain ⟨x, d, kvs, hv, hx, hd, hl, q⟩ := q
  rw [er_ref hv]
  obtain ⟨es, k, h1, h2, I⟩ := S₁.inst hx hd
  obtain ⟨o', g1, g2⟩ := getL_paired h2 name
  rw [hl] at g2
  have g2 : o' = none := by cases o' <;> first | rfl | cases g2
  subst g2
  refine method_fn S₁.kin I (plainGet_of hg).1 (plainGet_of hg).2 hm ht (by show (lookIn name (dictOf es k)).map _ = _; rw [lookIn_dict, g1]; rfl) ?_
  refine wpAny_mono (E := fun _ _ => False) (callWith_J (first := [.ref x]) (es := []) (Q := fun v σ' _ => Q (er v) σ') (keepy_ref hkp) rfl (J.mono (Q := fun vs σ₂ s₂ => vs = [] ∧ σ₂ = σ₁) ⟨wpAny_pure ⟨σ₁, S₁, Mv.refl _ _, rfl, rfl⟩⟩ fun vs σ₂ s₂ S₂ M₂ e S₃ => ?_)).run (fun _ _ ⟨σ₂, S₂, M₂, q⟩ => ⟨σ₂, S₂, M₁.trans M₂, q⟩) fun _ _ e => e
  obtain ⟨rfl, rfl⟩ := e
  exact q.J a S₂ rfl
end
end Mine

namespace Mine

theorem compTurn_two (elt t1 i1 t2 i2 : Expr) (scope : Scope) (pos : Pos) (it acc : Value) (env : Env) :
    compTurn (.ListComp elt [⟨t1, i1, [], 0⟩, ⟨t2, i2, [], 0⟩] scope pos) 0 it acc env = (standAt i1.pos >>= fun _ => pyNext it >>= fun r => match r with
      | none => pure (.done .next)
      | some v => letOwnedTupleGo t1 it v >>= fun _ => PySem.assign t1 env v >>= fun _ => (do
          let x ← eval i2 env
          standAt i2.pos
          let x ← foldedSetIterable i2 env x
          let _ ← runOwn (.compStart (.ListComp elt [⟨t1, i1, [], 0⟩, ⟨t2, i2, [], 0⟩] scope pos) 1 (← holding [x] (pyIter x)) acc env) env
          again (.compLoop (.ListComp elt [⟨t1, i1, [], 0⟩, ⟨t2, i2, [], 0⟩] scope pos) 0 it acc env))) := by rfl
theorem compTurn_two' (elt t1 i1 t2 i2 : Expr) (scope : Scope) (pos : Pos) (it acc : Value) (env : Env) :
    compTurn (.ListComp elt [⟨t1, i1, [], 0⟩, ⟨t2, i2, [], 0⟩] scope pos) 1 it acc env = (standAt i2.pos >>= fun _ => pyNext it >>= fun r => match r with
      | none => pure (.done .next)
      | some v => letOwnedTupleGo t2 it v >>= fun _ => PySem.assign t2 env v >>= fun _ =>
          (eval elt env >>= fun x => call (.builtin "list.append") [acc, x] >>= fun _ => pure ()) >>= fun _ =>
          again (.compLoop (.ListComp elt [⟨t1, i1, [], 0⟩, ⟨t2, i2, [], 0⟩] scope pos) 1 it acc env)) := by rfl

section
variable {prog : Program} {w : World} {A : Around} {R : Result → Shared → Prop} {s : Shared}
theorem loop_outer {elt i1 i2 : Expr} {x1 x2 : Str} {p1 p2 : Pos} {scope : Scope} {pos : Pos} {it acc : Value} {env : Env} (I : Nat → Shared → Prop)
    (turn : ∀ n s, I n s → wpAny (model prog w) A (pyNext it) (fun r s₁ => match r with
      | none => R (.ok .next) s₁
      | some v => wpAny (model prog w) A (PySem.assign (.Name x1 p1) env v) (fun _ s₂ => wpAny (model prog w) A (eval i2 env) (fun x s₃ => wpAny (model prog w) A (pyIter x) (fun it2 s₄ =>
          codeAny (model prog w) A (.compStart (.ListComp elt [⟨.Name x1 p1, i1, [], 0⟩, ⟨.Name x2 p2, i2, [], 0⟩] scope pos) 1 it2 acc env) (fun r s' => match r with | .ok _ => ∃ m, m < n ∧ I m s' | .error e => False) s₄) (fun _ _ => False) s₃) (fun _ _ => False) s₂) (fun _ _ => False) s₁) (fun _ _ => False) s)
    (n : Nat) (h : I n s) (hs : ∀ x, foldedSetIterable i2 env x = pure x) :
    codeAny (model prog w) A (.compLoop (.ListComp elt [⟨.Name x1 p1, i1, [], 0⟩, ⟨.Name x2 p2, i2, [], 0⟩] scope pos) 0 it acc env) R s := by
  refine codeAny_loop rfl I (fun n s hI => ?_) n h
  show wpAny _ A ((compTurn (.ListComp elt [⟨.Name x1 p1, i1, [], 0⟩, ⟨.Name x2 p2, i2, [], 0⟩] scope pos) 0 it acc env).onRaise (fun x => do noteFrame x env; theTreesLotGoes x)) _ _ s
  refine wpAny_noted ?_
  refine wpAny_mono (E := fun _ _ => False) ?_ (fun _ _ q => q) fun _ _ e => e.elim
  rw [compTurn_two]
  refine wpAny_bind (wpAny_standAt (wpAny_bind (wpAny_mono (turn n s hI) (fun r s₁ h₁ => ?_) fun _ _ h' => h')))
  cases r with
  | none => exact wpAny_pure h₁
  | some v =>
    refine wpAny_bind (wpAny_of_eq (a := ()) rfl ?_)
    refine wpAny_bind (wpAny_mono h₁ (fun _ s₂ h₂ => ?_) fun _ _ h' => h')
    refine wpAny_bind (wpAny_mono h₂ (fun x s₃ h₃ => ?_) fun _ _ h' => h')
    refine wpAny_bind (wpAny_standAt (wpAny_bind (wpAny_of_eq (hs x) ?_)))
    refine wpAny_bind (wpAny_holding (wpAny_mono h₃ (fun it2 s₄ h₄ => ?_) fun _ _ h' => h'))
    refine wpAny_bind (wpAny_runOwn (codeAny_mono h₄ fun r s' hr => ?_))
    cases r with
    | ok f => exact wpAny_pure ⟨rfl, hr⟩
    | error e => exact hr.elim
theorem loop_inner {elt i1 i2 t1 : Expr} {x2 : Str} {p2 : Pos} {scope : Scope} {pos : Pos} {it acc : Value} {env : Env} (I : Nat → Shared → Prop)
    (turn : ∀ n s, I n s → wpAny (model prog w) A (pyNext it) (fun r s₁ => match r with
      | none => R (.ok .next) s₁
      | some v => wpAny (model prog w) A (PySem.assign (.Name x2 p2) env v) (fun _ s₂ => wpAny (model prog w) A (eval elt env) (fun x s₃ =>
          wpAny (model prog w) A (call (.builtin "list.append") [acc, x]) (fun _ s' => ∃ m, m < n ∧ I m s') (fun _ _ => False) s₃) (fun _ _ => False) s₂) (fun _ _ => False) s₁) (fun _ _ => False) s)
    (n : Nat) (h : I n s) :
    codeAny (model prog w) A (.compLoop (.ListComp elt [⟨t1, i1, [], 0⟩, ⟨.Name x2 p2, i2, [], 0⟩] scope pos) 1 it acc env) R s := by
  refine codeAny_loop rfl I (fun n s hI => ?_) n h
  show wpAny _ A ((compTurn (.ListComp elt [⟨t1, i1, [], 0⟩, ⟨.Name x2 p2, i2, [], 0⟩] scope pos) 1 it acc env).onRaise (fun x => do noteFrame x env; theTreesLotGoes x)) _ _ s
  refine wpAny_noted ?_
  refine wpAny_mono (E := fun _ _ => False) ?_ (fun _ _ q => q) fun _ _ e => e.elim
  rw [compTurn_two']
  refine wpAny_bind (wpAny_standAt (wpAny_bind (wpAny_mono (turn n s hI) (fun r s₁ h₁ => ?_) fun _ _ h' => h')))
  cases r with
  | none => exact wpAny_pure h₁
  | some v =>
    refine wpAny_bind (wpAny_of_eq (a := ()) rfl ?_)
    refine wpAny_bind (wpAny_mono h₁ (fun _ s₂ h₂ => ?_) fun _ _ h' => h')
    exact wpAny_bind (wpAny_bind (wpAny_mono h₂ (fun x s₃ h₃ => wpAny_bind (wpAny_mono h₃ (fun _ s₅ h₅ => wpAny_pure (wpAny_pure ⟨rfl, h₅⟩)) fun _ _ h' => h')) fun _ _ h' => h'))
theorem start_inner {elt i1 i2 t1 t2 : Expr} {scope : Scope} {pos : Pos} {it acc : Value} {env : Env}
    (h0 : codeAny (model prog w) A (.compLoop (.ListComp elt [⟨t1, i1, [], 0⟩, ⟨t2, i2, [], 0⟩] scope pos) 1 it acc env) R s)
    (h : wpAny (model prog w) A (pyIter it) (fun it' s' => codeAny (model prog w) A (.compLoop (.ListComp elt [⟨t1, i1, [], 0⟩, ⟨t2, i2, [], 0⟩] scope pos) 1 it' acc env) R s') (fun _ _ => False) s) :
    codeAny (model prog w) A (.compStart (.ListComp elt [⟨t1, i1, [], 0⟩, ⟨t2, i2, [], 0⟩] scope pos) 1 it acc env) R s := by
  refine codeAny_of_tree ?_
  show wpAny _ _ ((compStart (.ListComp elt [⟨t1, i1, [], 0⟩, ⟨t2, i2, [], 0⟩] scope pos) 1 it acc env).onRaise (fun x => do noteFrame x env; standAt theWindowsPlace)) _ _ s
  refine wpAny_notedAt ?_
  refine wpAny_mono (E := fun _ _ => False) ?_ (fun _ _ q => q) fun _ _ e => e.elim
  unfold compStart
  show wpAny _ _ (ask >>= _) _ _ s
  refine wpAny_bind (wpAny_askSetting (wpAny_ite ?_))
  split
  · first
      | exact wpAny_bind (wpAny_pure (wpAny_pure (And.intro rfl h0)))
      | exact wpAny_pure (And.intro rfl h0)
  · refine wpAny_bind (wpAny_rule ?_)
    show wpAny _ _ (standAt i2.pos >>= _) _ _ s
    exact wpAny_bind (wpAny_standAt (wpAny_bind (wpAny_mono h (fun it' s' h' => wpAny_pure (And.intro rfl h')) fun _ _ x => x)))
end

section
variable {B : Base} {n : Nat} {sc : Scope} {m : Loc} {σ σ₁ : St} {Q : V → St → Prop} {N : Loc → St → Prop} {R : V → St → Prop}
/-- agrees with the names outside, but at the two names of the loops -/
def But2 (m₀ : Loc) (x1 x2 : Str) (m' : Loc) : Prop := ∀ y, y ≠ x1 → y ≠ x2 → m' y = m₀ y
structure Turns2 (B : Base) (n : Nat) (sc scope : Scope) (m : Loc) (x1 x2 : Str) (i2 elt : Expr) (vs : List V) (G : St → Prop) (I : Nat → List V → St → Prop) : Prop where
  good : ∀ i ys σ', I i ys σ' → G σ' ∧ ys.length ≤ 1000000
  step : ∀ i u ys σ' m', vs[i]? = some u → I i ys σ' → But2 (mC scope m) x1 x2 m' → m' x1 = some u → WE B n (relab scope sc) i2 m' σ' fun v2 σ₂ => ∃ (vs2 : List V) (G2 : St → Prop) (I2 : Nat → List V → St → Prop), IterOk B v2 vs2 G2 σ₂ ∧ I2 0 ys σ₂ ∧
    (∀ j ys' σ'', I2 j ys' σ'' → G2 σ'' ∧ ys'.length ≤ 1000000) ∧
    (∀ j u2 ys' σ'' m'', vs2[j]? = some u2 → I2 j ys' σ'' → But2 (mC scope m) x1 x2 m'' → m'' x1 = some u → m'' x2 = some u2 → WE B n (relab scope sc) elt m'' σ'' fun w σ₃ => I2 (j + 1) (ys' ++ [w]) σ₃) ∧
    ∀ ys' σ'', I2 vs2.length ys' σ'' → I (i + 1) ys' σ''

theorem compCore2 {A : Around} {env : Env} {s₁ : Shared} {scope : Scope} {x1 x2 : Str} {p1 p2 : Pos} {i1 i2 elt : Expr} {pos : Pos} {v : Value} {vs : List V} {G : St → Prop} {I : Nat → List V → St → Prop} {RR : Value → Addr → Result → Shared → Prop}
    (a : AOk A n) (b : EnvOk sc env) (S₁ : Sh B σ₁ s₁) (F₁ : LocR B env m σ₁ s₁.heap) (hsc : scopeOk scope sc = true) (hx : isLC (scope.names.lookup x1) = true) (hx2 : isLC (scope.names.lookup x2) = true) (hne : x1 ≠ x2) (hI : IterOk B (er v) vs G σ₁)
    (i0 : I 0 [] σ₁) (T : Turns2 B n sc scope m x1 x2 i2 elt vs G I) (hs : ∀ env x, foldedSetIterable i2 env x = pure x)
    (hRR : ∀ D C ys σ' s', I vs.length ys σ' → σ' D = none → Sh B (upd σ' D (.list ys)) s' → Mv σ₁ (upd σ' D (.list ys)) s₁.heap s'.heap → (∃ mv, s'.heap.Ns C mv) → s₁.heap.get? C = none → B.s₀.heap.get? C = none → upd σ' D (.list ys) C = none → RR (.ref D) C (.ok .next) s') :
    wpAny (model B.prog B.w) A (pyIter v) (fun it s₂ => wpAny (model B.prog B.w) A (newList []) (fun acc s₃ =>
      wpAny (model B.prog B.w) A (newFunctionEnv scope env.globals (clF env scope.names []) [] env.qual none .none (some env)) (fun cenv s₄ =>
        codeAny (model B.prog B.w) A (.compStart (.ListComp elt [⟨.Name x1 p1, i1, [], 0⟩, ⟨.Name x2 p2, i2, [], 0⟩] scope pos) 0 it acc { cenv with scope := relabel scope env }) (RR acc cenv.locals) s₄) (fun _ _ => False) s₃) (fun _ _ => False) s₂) (fun _ _ => False) s₁ := by
  refine compSetup a b S₁ F₁ hsc hI fun cenv s₄ Ia D P C₀ sI It p4 => ?_
  let Inv : Nat → Shared → Prop := fun k s' => ∃ i ys σ' mc, k = vs.length - i ∧ i ≤ vs.length ∧ CInv B σ₁ s₁ cenv Ia D mc ys σ' s' ∧ But2 (mC scope m) x1 x2 mc ∧ I i ys σ' ∧ P i s'.heap
  obtain ⟨oI, hoI⟩ := It.live _ _ p4
  refine loop_outer Inv (fun k s' hJ => ?_) vs.length ⟨0, [], σ₁, mC scope m, rfl, Nat.zero_le _, ⟨C₀.S, C₀.M, C₀.F, sI, S₁.none_of_fresh C₀.nD, #[], 0, C₀.lst, rfl⟩, fun _ _ _ => rfl, i0, p4⟩ (hs cenv)
  obtain ⟨i, ys, σ', mc, e, hle, C, hmc, hi, hp⟩ := hJ
  have hG := T.good _ _ _ hi
  by_cases hlt : i < vs.length
  · obtain ⟨u, hu⟩ : ∃ u, vs[i]? = some u := ⟨vs[i], by simp [hlt]⟩
    refine C.next C₀ S₁ It hx hp hu hG.1 (px := p1) (Q := fun _ _ => True) fun y s₅ hy hs₅ => ?_
    refine wpAny_mono (E := fun _ _ => False) hs₅ (fun _ s₆ hs₆ => ?_) fun _ _ e => e.elim
    obtain ⟨⟨C₆, p₆⟩, _⟩ := hs₆
    have lI := It.live _ _ p₆
    have b6 : But2 (mC scope m) x1 x2 (upL mc x1 u) := fun y h1 h2 => by unfold upL; rw [if_neg h1]; exact hmc y h1 h2
    have st := T.step i u ys σ' _ hu hi b6 (by unfold upL; simp)
    refine (st.run A cenv s₆ a C₀.ce C₆.S C₆.F).to fun v2 σ₇ s₇ S₇ M₇ q => ?_
    obtain ⟨vs2, G2, I2, hI2, j0, g2, st2, fin2⟩ := q
    have C₇ := C₆.mv lI S₇ M₇
    have p₇ : P (i + 1) s₇.heap := It.frame _ _ _ p₆ fun o e => (M₇.stays e C₆.nI).2
    refine hI2.run A s₇ v2 _ a.hand S₇ rfl fun ob P2 hfr It2 q0 => ?_
    -- the inner iterator
    have hIb := get_size s₇.heap
    have hbI := S₇.off_none hIb
    have hnI := S₇.none_of_fresh hIb
    have oIb : ¬ OwnA cenv s₇.heap.objs.size := fun ho => by obtain ⟨o, e⟩ := C₇.F.own_live ho; rw [hIb] at e; cases e
    have k0 : ∀ b o, s₇.heap.get? b = some o → (s₇.heap.push ob).get? b = some o := fun b o e => Heap.get?_push_of_some _ e
    generalize s₇.heap.objs.size = Ib at *
    have neI : Ib ≠ Ia := fun e => by obtain ⟨o, ho⟩ := It.live _ _ p₇; rw [← e, hIb] at ho; cases ho
    have neD : Ib ≠ D := fun e => by obtain ⟨items, j, h1, _⟩ := C₇.lst; have h1 : s₇.heap.get? D = _ := h1; rw [← e, hIb] at h1; cases h1
    have C₀' : CSet B sc scope m σ₁ s₁ s₄ cenv Ib D := by
      refine ⟨C₀.ce, C₀.F, C₀.S, C₀.M, oIb, C₀.oD, fun o e hσ => ?_, hbI, C₀.nD, C₀.nC, C₀.hiD, neD, C₀.neC, C₀.lst, fun x hx => ⟨(C₀.at_ x hx).1, fun c hc => ?_⟩⟩
      · have := C₇.M.keep _ _ e hσ; rw [hIb] at this; cases this
      · obtain ⟨h1, h2, h3⟩ := (C₀.at_ x hx).2 c hc
        refine ⟨h1, fun e => ?_, h3⟩
        obtain ⟨o, ho⟩ := C₇.F.own_live (a := c) (hc.imp id fun w => ⟨x, w⟩)
        rw [e, hIb] at ho; cases ho
    let Inv2 : Nat → Shared → Prop := fun k s' => ∃ j ys' σ'' mc', k = vs2.length - j ∧ j ≤ vs2.length ∧ CInv B σ₁ s₁ cenv Ib D mc' ys' σ'' s' ∧ But2 (mC scope m) x1 x2 mc' ∧ mc' x1 = some u ∧ I2 j ys' σ'' ∧ P2 j s'.heap ∧ σ'' Ia = none ∧ P (i + 1) s'.heap
    have C₈ : CInv B σ₁ s₁ cenv Ib D (upL mc x1 u) ys σ₇ { s₇ with heap := s₇.heap.push ob } :=
      have X := C₇.mv (It.live _ _ p₇) (S₇.keeps (n := s₇.toks) k0) (Mv.of_keeps k0)
      ⟨X.S, X.M, X.F, hnI, X.nD, X.lst⟩
    have loop : codeAny (model B.prog B.w) A (.compLoop (.ListComp elt [⟨.Name x1 p1, i1, [], 0⟩, ⟨.Name x2 p2, i2, [], 0⟩] scope pos) 1 (.ref Ib) (.ref D) cenv) (fun r s' => match r with | .ok _ => ∃ m, m < k ∧ Inv m s' | .error e => False) { s₇ with heap := s₇.heap.push ob } := by
      refine loop_inner Inv2 (fun k2 s8 hJ2 => ?_) vs2.length ⟨0, ys, σ₇, _, rfl, Nat.zero_le _, C₈, b6, by unfold upL; simp, j0, q0, C₇.nI, It.frame _ _ _ p₇ fun o e => k0 _ _ e⟩
      obtain ⟨j, ys', σ'', mc', e2, hle2, C9, hb9, hu9, hj, hp2, hnIa, hpa⟩ := hJ2
      have hG2 := g2 _ _ _ hj
      obtain ⟨oIa, hoIa⟩ := It.live _ _ hpa
      have oIaOwn : ¬ OwnA cenv Ia := C₀.oI
      by_cases hlt2 : j < vs2.length
      · obtain ⟨u2, hu2⟩ : ∃ u, vs2[j]? = some u := ⟨vs2[j], by simp [hlt2]⟩
        refine C9.next C₀' S₁ It2 hx2 hp2 hu2 hG2.1 (px := p2) (Q := fun _ _ => True) fun y s₅ hy hs₅ => ?_
        refine wpAny_mono (E := fun _ _ => False) hs₅ (fun _ s₁₀ hs₁₀ => ?_) fun _ _ e => e.elim
        obtain ⟨⟨C10, p10⟩, kp⟩ := hs₁₀
        have pa10 : P (i + 1) s₁₀.heap := It.frame _ _ _ hpa fun o e => kp _ _ (Ne.symm neI) oIaOwn e
        have b10 : But2 (mC scope m) x1 x2 (upL mc' x2 u2) := fun y h1 h2 => by unfold upL; rw [if_neg h2]; exact hb9 y h1 h2
        have u10 : upL mc' x2 u2 x1 = some u := by unfold upL; rw [if_neg hne]; exact hu9
        refine ((st2 j u2 ys' σ'' _ hu2 hj b10 u10 (by unfold upL; simp)).run A cenv s₁₀ a C₀.ce C10.S C10.F).to fun w σ₁₁ s₁₁ S₁₁ M₁₁ q => ?_
        have lIb := It2.live _ _ p10
        have C11 := C10.mv lIb S₁₁ M₁₁
        refine C11.push C₀' S₁ hG2.2 fun s₁₂ C12 hsb => ?_
        obtain ⟨oIa', hoIa'⟩ := It.live _ _ pa10
        have hIa11 := M₁₁.stays hoIa' hnIa
        refine ⟨vs2.length - (j + 1), by omega, j + 1, _, σ₁₁, _, rfl, hlt2, C12, b10, u10, q, It2.frame _ _ _ p10 fun o e => hsb.extBut _ _ neD (M₁₁.stays e C10.nI).2, hIa11.1, It.frame _ _ _ pa10 fun o e => hsb.extBut _ _ C₀.ne (M₁₁.stays e hnIa).2⟩
      · have e' : j = vs2.length := by omega
        subst e'
        refine It2.done s8 σ'' _ hp2 C9.S hG2.1 fun h' he => ?_
        obtain ⟨items, jj, hD, hys⟩ := C9.lst
        exact ⟨vs.length - (i + 1), by omega, i + 1, ys', σ'', mc', rfl, hlt, ⟨C9.S.beside hbI C9.nI he, C9.M.beside' he C₀'.nI, C9.F.beside he oIb, hnIa, C9.nD, items, jj, he _ _ (Ne.symm neD) hD, hys⟩, hb9, fin2 _ _ hj, It.frame _ _ _ hpa fun o e => he _ _ (Ne.symm neI) e⟩
    refine start_inner loop ?_
    exact It2.self 0 _ _ q0 loop
  · have e' : i = vs.length := by omega
    subst e'
    refine It.done s' σ' _ hp C.S hG.1 fun h' he => ?_
    obtain ⟨items, j, hD, hys⟩ := C.lst
    have X := C₀.fin C.S C.M S₁ C.nI C.nD he hD hys
    refine hRR _ _ ys σ' _ hi C.nD X.1 X.2 ⟨_, (C.F.beside he C₀.oI).ns.choose_spec.1⟩ C₀.nC C.F.base ?_
    rw [upd_ne C₀.neC]; exact C.F.lo

theorem WS.assignC2 {x1 x2 : Str} {p1 p2 : Pos} {elt i1 i2 : Expr} {y : Str} {py pos spos : Pos} {scope : Scope}
    (h : WE B n sc i1 m σ fun v σ₁ => ∃ vs G I, IterOk B v vs G σ₁ ∧ I 0 [] σ₁ ∧ Turns2 B n sc scope m x1 x2 i2 elt vs G I ∧ ∀ D ys σ', I vs.length ys σ' → σ' D = none → N (upL m y (.ref D)) (upd σ' D (.list ys)))
    (hne : x1 ≠ x2 := by decide) (hk : isLC (kOf sc y) = true := by rfl) (hsc : scopeOk scope sc = true := by rfl) (hx : isLC (scope.names.lookup x1) = true := by rfl) (hx2 : isLC (scope.names.lookup x2) = true := by rfl)
    (hs : ∀ env x, foldedSetIterable i1 env x = pure x := by intro _ _; rfl) (hs2 : ∀ env x, foldedSetIterable i2 env x = pure x := by intro _ _; rfl) :
    WS B n sc (.Assign [.Name y py] (.ListComp elt [⟨.Name x1 p1, i1, [], 0⟩, ⟨.Name x2 p2, i2, [], 0⟩] scope pos) spos) m σ N R := by
  cases hw : swapB sc scope y py.line pos.line with
  | false =>
    refine ⟨fun A env s a b S F => wpAny_Assign_Name (J.to (Q := fun v σ' _ => N (upL m y (er v)) σ') ⟨?_⟩ fun v σ₁ s₁ S₁ M₁ q => storeJ S₁ (F.mv M₁) b hk fun s' S' M' F' => ⟨_, σ₁, S', (MvS.of M₁).trans M', F', q⟩) (by rw [swaps_comp b, hw])⟩
    obtain ⟨hkd, hnm⟩ := names_ok hsc
    rw [eval_ListComp]
    refine wpAny_comprehension_free (use := none) rfl (hs env) (clos_ok hsc b F) hkd hnm ?_
    refine (h.run A env s a b S F).to fun v σ₁ s₁ S₁ M₁ q => ?_
    obtain ⟨vs, G, I, hI, i0, T, fin⟩ := q
    refine compCore2 (RR := fun acc C => compPost (model B.prog B.w) A (fun _ _ => False) none (fun a s' => ∃ σ', Sh B σ' s' ∧ Mv σ σ' s.heap s'.heap ∧ N (upL m y (er a)) σ') acc C) a b S₁ (F.mv M₁) hsc hx hx2 hne hI i0 T hs2 fun D C ys σ' s' hi hn' S' M' hns hC bC uC => ?_
    obtain ⟨mv, hns⟩ := hns
    exact ⟨mv, hns, fun h' hs' => ⟨_, S'.aside (n := s'.toks) bC uC hs', M₁.trans (M'.beside hs'.extBut hC), fin D ys σ' hi hn'⟩⟩
  | true =>
    refine ⟨fun A env s a b S F => ?_⟩
    obtain ⟨hkd, hnm⟩ := names_ok hsc
    rw [exec_Assign_Name_used _ _ _ _ (by rw [swaps_comp b, hw])]
    refine wpAny_bind (wpAny_standAt (wpAny_bind ?_))
    show wpAny _ A (do let _ ← comprehension (.ListComp elt [⟨.Name x1 p1, i1, [], 0⟩, ⟨.Name x2 p2, i2, [], 0⟩] scope pos) scope env _ (newList []) false (eval i1 env) (some (PySem.assign (.Name y py) env))) _ _ s
    refine wpAny_bind (wpAny_mono (E := fun _ _ => False) (wpAny_comprehension_free (use := some (PySem.assign (.Name y py) env)) (Q := fun _ s' => FlowQ B env σ s.heap N R .next s') rfl (hs env) (clos_ok hsc b F) hkd hnm ?_) (fun _ s' hq => wpAny_pure (wpAny_pure hq)) fun _ _ e => e)
    refine (h.run A env s a b S F).to fun v σ₁ s₁ S₁ M₁ q => ?_
    obtain ⟨vs, G, I, hI, i0, T, fin⟩ := q
    have F₁ := F.mv M₁
    refine compCore2 (RR := fun acc C => compPost (model B.prog B.w) A (fun _ _ => False) (some (PySem.assign (.Name y py) env)) (fun _ s' => FlowQ B env σ s.heap N R .next s') acc C) a b S₁ F₁ hsc hx hx2 hne hI i0 T hs2 fun D C ys σ' s' hi hn' S' M' hns hC bC uC => ?_
    obtain ⟨mv, hns⟩ := hns
    refine PySem.wpAny_assign_Name (storeA S' (F₁.mv M') b hk fun s'' c hc hs'' hlv S'' F'' => ?_)
    have hcC : C ≠ c := fun e => by
      obtain ⟨o, ho⟩ := F₁.own_live (a := c) (hc.imp id fun q => ⟨y, q⟩)
      rw [← e, hC] at ho; cases ho
    refine ⟨mv, hns.sameBut hs'' hcC, fun h' hs' => ?_⟩
    have oC : ¬ OwnA env C := fun ho => by obtain ⟨o, ho⟩ := F₁.own_live ho; rw [hC] at ho; cases ho
    obtain ⟨oc, hoc⟩ := hlv
    exact ⟨_, _, S''.aside (n := s''.toks) bC uC hs', (MvS.of M₁).trans (((MvS.of M').trans (MvS.aside hs'' (hc.imp id fun q => ⟨y, q⟩) hoc)).beside hs'.extBut hC), F''.beside hs'.extBut oC, fin D ys σ' hi hn'⟩
end
end Mine

namespace Mine

-- the program's defs
def fnParts : Stmt → Option (Str × Arguments × List Stmt × Scope)
  | .FunctionDef nm a b _ _ _ s _ _ _ => some (nm, a, b, s)
  | _ => none
def clsBody : Stmt → List Stmt
  | .ClassDef _ _ _ b _ _ _ _ _ _ _ => b
  | _ => []
def noFn : Str × Arguments × List Stmt × Scope := ("", ⟨[], [], none, [], [], none, []⟩, [], ⟨.function, [], false, false, []⟩)
def fn (i : Nat) : Str × Arguments × List Stmt × Scope := ((PySem.Challenge.pw_nz0517_01.main.body[i]?).bind fnParts).getD noFn
def mt (i : Nat) : Str × Arguments × List Stmt × Scope := (((PySem.Challenge.pw_nz0517_01.main.body[20]?).bind fun c => (clsBody c)[i]?).bind fnParts).getD noFn
/-- the defs reached, with their defaults -/
def dvOf (i : Nat) : List V := if i == 25 || i == 55 then [.none] else []
def reached (i : Nat) : Bool := [22, 23, 24, 25, 26, 27, 28, 29, 31, 32, 34, 35, 36, 37, 38, 43, 45, 49, 52, 55, 59, 60, 61, 62, 74, 76, 77, 78, 79, 80, 81, 82, 83, 84, 85, 86, 87, 89, 90, 91, 92, 93, 94, 95, 96].contains i
structure Defs (B : Base) : Prop where
  f : ∀ i, reached i = true → FnAt B (fn i).1 (fn i).2.1 (fn i).2.2.1 (fn i).2.2.2 (dvOf i)
  init : ∃ fI, findIn B.K (.ref B.C) "__init__" = some (some (.ref fI)) ∧ typeIn B.K (.ref fI) = some (.type "function") ∧ FnA B fI "__init__" "Vector.__init__" (mt 0).2.1 (mt 0).2.2.1 (mt 0).2.2.2 [.none]
  copy : ∃ fC, findIn B.K (.ref B.C) "copy" = some (some (.ref fC)) ∧ typeIn B.K (.ref fC) = some (.type "function") ∧ plainGet B.K B.C "copy" = true ∧ FnA B fC "copy" "Vector.copy" (mt 1).2.1 (mt 1).2.2.1 (mt 1).2.2.2 []

-- growing states
structure Ext (σ σ' : St) : Prop where
  get : ∀ a o, σ a = some o → σ' a = some o
theorem Ext.refl (σ : St) : Ext σ σ := ⟨fun _ _ h => h⟩
theorem Ext.trans {σ σ₁ σ₂ : St} (x : Ext σ σ₁) (y : Ext σ₁ σ₂) : Ext σ σ₂ := ⟨fun a o h => y.get a o (x.get a o h)⟩
theorem Ext.noneOf {σ σ' : St} (x : Ext σ σ') {a : Addr} (h : σ' a = Option.none) : σ a = Option.none := by
  cases q : σ a with
  | none => rfl
  | some o => rw [x.get a o q] at h; cases h
/-- an object that is new to σ made or turned -/
theorem Ext.up {σ σ' : St} (x : Ext σ σ') {a : Addr} (h : σ a = Option.none) (o : AO) : Ext σ (upd σ' a o) :=
  ⟨fun b p hb => (upd_ne fun e => by rw [e, h] at hb; cases hb).trans (x.get b p hb)⟩
theorem Ext.new {σ : St} {a : Addr} (h : σ a = Option.none) (o : AO) : Ext σ (upd σ a o) := (Ext.refl σ).up h o
theorem ne_of_new {σ : St} {a b : Addr} {o : AO} (h : σ a = none) (hb : σ b = some o) : b ≠ a := fun e => by rw [e, h] at hb; cases hb
theorem rd.ext {B : Base} {σ σ' : St} {a : Addr} {o : AO} (h : rd B σ a o) (x : Ext σ σ') : rd B σ' a o := h.imp (x.get a o) id
theorem upd_upd (σ : St) (a : Addr) (o p : AO) : upd (upd σ a o) a p = upd σ a p := by funext b; unfold upd; split <;> rfl
theorem upd_swap {σ : St} {a b : Addr} (h : a ≠ b) (o p : AO) : upd (upd σ a o) b p = upd (upd σ b p) a o := by
  funext c; unfold upd
  by_cases e : c = b
  · subst e; rw [if_pos rfl, if_neg (Ne.symm h), if_pos rfl]
  · rw [if_neg e]
    split
    · rfl
    · rfl

/-- agrees but at some names -/
def Agree (xs : List Str) (m₀ m : Loc) : Prop := ∀ y, xs.contains y = false → m y = m₀ y
theorem Agree.refl (xs : List Str) (m : Loc) : Agree xs m m := fun _ _ => rfl
theorem Agree.get {xs : List Str} {m₀ m : Loc} (h : Agree xs m₀ m) {y : Str} (hy : xs.contains y = false) : m y = m₀ y := h y hy
theorem Agree.up {xs : List Str} {m₀ m : Loc} (h : Agree xs m₀ m) {x : Str} (hx : xs.contains x = true) (v : V) : Agree xs m₀ (upL m x v) := fun y hy => by
  unfold upL
  rw [if_neg fun e => by subst e; rw [hx] at hy; cases hy]
  exact h y hy

section
variable {B : Base} {n : Nat} {sc : Scope} {m : Loc} {σ σ' : St} {Q : V → St → Prop} {P : Bool → St → Prop}
theorem iteT {α β : Prop} {c : Bool} (h : c = true) (x : α) : if c = true then α else β := by rw [if_pos h]; exact x
theorem iteF {α β : Prop} {c : Bool} (h : c = false) (x : β) : if c = true then α else β := by rw [if_neg (by rw [h]; decide)]; exact x

/-- an object of the class Vector -/
def vkv (kind : Str) (l : Addr) (at_ : V) (sh lo : Bool) : List (Str × V) := [("kind", .str kind), ("items", .ref l), ("attrs", at_), ("shared", .bool sh), ("loose", .bool lo)]
structure Vc (B : Base) (σ : St) (x : Addr) (kind : Str) (l : Addr) (at_ : V) : Prop where
  ex : ∃ d sh lo, σ x = some (.inst B.C d) ∧ σ d = some (.attrs (vkv kind l at_ sh lo))
theorem Vc.ext {σ' : St} {x l : Addr} {kind : Str} {at_ : V} (h : Vc B σ x kind l at_) (e : Ext σ σ') : Vc B σ' x kind l at_ :=
  let ⟨d, sh, lo, h1, h2⟩ := h.ex; ⟨d, sh, lo, e.get _ _ h1, e.get _ _ h2⟩
theorem Vc.kind {x l : Addr} {kind : Str} {at_ : V} (h : Vc B σ x kind l at_) (hq : Q (.str kind) σ) : ∃ u, Has B σ (.ref x) "kind" u ∧ good u = true ∧ Q u σ :=
  let ⟨d, sh, lo, h1, h2⟩ := h.ex; ⟨_, ⟨x, d, _, rfl, h1, h2, rfl⟩, rfl, hq⟩
theorem Vc.items {x l : Addr} {kind : Str} {at_ : V} (h : Vc B σ x kind l at_) (hq : Q (.ref l) σ) : ∃ u, Has B σ (.ref x) "items" u ∧ good u = true ∧ Q u σ :=
  let ⟨d, sh, lo, h1, h2⟩ := h.ex; ⟨_, ⟨x, d, _, rfl, h1, h2, rfl⟩, rfl, hq⟩
theorem Vc.attrs {x l : Addr} {kind : Str} {at_ : V} (h : Vc B σ x kind l at_) (hg : good at_ = true) (hq : Q at_ σ) : ∃ u, Has B σ (.ref x) "attrs" u ∧ good u = true ∧ Q u σ :=
  let ⟨d, sh, lo, h1, h2⟩ := h.ex; ⟨_, ⟨x, d, _, rfl, h1, h2, rfl⟩, hg, hq⟩
/-- a vector at x, its attributes at d -/
structure Vd (B : Base) (σ : St) (x d : Addr) (kind : Str) (l : Addr) (at_ : V) : Prop where
  ex : ∃ sh lo, σ x = some (.inst B.C d) ∧ σ d = some (.attrs (vkv kind l at_ sh lo))
theorem Vd.vc {x d l : Addr} {kind : Str} {at_ : V} (h : Vd B σ x d kind l at_) : Vc B σ x kind l at_ := let ⟨sh, lo, h1, h2⟩ := h.ex; ⟨d, sh, lo, h1, h2⟩
theorem Vc.vd {x l : Addr} {kind : Str} {at_ : V} (h : Vc B σ x kind l at_) : ∃ d, Vd B σ x d kind l at_ := let ⟨d, sh, lo, h1, h2⟩ := h.ex; ⟨d, sh, lo, h1, h2⟩
theorem Vd.ext {x d l : Addr} {kind : Str} {at_ : V} (h : Vd B σ x d kind l at_) (e : Ext σ σ') : Vd B σ' x d kind l at_ := let ⟨sh, lo, h1, h2⟩ := h.ex; ⟨sh, lo, e.get _ _ h1, e.get _ _ h2⟩
theorem Vd.ne {x d l : Addr} {kind : Str} {at_ : V} (h : Vd B σ x d kind l at_) : x ≠ d := fun e => by obtain ⟨_, _, h1, h2⟩ := h.ex; rw [e, h2] at h1; cases h1
theorem Vd.list_ne {x d l a : Addr} {kind : Str} {at_ : V} {xs : List V} (h : Vd B σ x d kind l at_) (ha : σ a = some (.list xs)) : a ≠ d ∧ a ≠ x := by
  obtain ⟨_, _, h1, h2⟩ := h.ex
  exact ⟨fun e => (by rw [e, h2] at ha; cases ha), fun e => (by rw [e, h1] at ha; cases ha)⟩
abbrev AttrEq (e : Expr) (a : Str) (pos : Pos) : Prop := ∀ env, eval (.Attribute e a pos) env = (do
      let o ← eval e env
      standAt pos.atName
      let r ← holding [o] (getAttr o a true)
      letTemporaryGo e o r
      pure r)
theorem WE.kind {e : Expr} {pos : Pos} (h : WE B n sc e m σ fun v σ₁ => ∃ x l kind at_, v = .ref x ∧ Vc B σ₁ x kind l at_ ∧ Q (.str kind) σ₁) (he : AttrEq e "kind" pos := by intro _; rfl) : WE B n sc (.Attribute e "kind" pos) m σ Q :=
  WE.attr (he := he) rfl (h.mono fun v σ₁ ⟨x, l, kind, at_, e, h1, h2⟩ => by rw [e]; exact h1.kind h2)
theorem WE.items {e : Expr} {pos : Pos} (h : WE B n sc e m σ fun v σ₁ => ∃ x l kind at_, v = .ref x ∧ Vc B σ₁ x kind l at_ ∧ Q (.ref l) σ₁) (he : AttrEq e "items" pos := by intro _; rfl) : WE B n sc (.Attribute e "items" pos) m σ Q :=
  WE.attr (he := he) rfl (h.mono fun v σ₁ ⟨x, l, kind, at_, e, h1, h2⟩ => by rw [e]; exact h1.items h2)
theorem WE.attrs {e : Expr} {pos : Pos} (h : WE B n sc e m σ fun v σ₁ => ∃ x l kind at_, v = .ref x ∧ Vc B σ₁ x kind l at_ ∧ good at_ = true ∧ Q at_ σ₁) (he : AttrEq e "attrs" pos := by intro _; rfl) : WE B n sc (.Attribute e "attrs" pos) m σ Q :=
  WE.attr (he := he) rfl (h.mono fun v σ₁ ⟨x, l, kind, at_, e, h1, h2, h3⟩ => by rw [e]; exact h1.attrs h2 h3)

-- builtins by name
theorem WE.len {e : Expr} {fp pos : Pos} (h : WE B n sc e m σ fun v σ₁ => WO B n (callT (.builtin "len")) [v] σ₁ Q) (hk : kOf sc "len" = some .globalImplicit := by rfl) (hs : starred e = false := by rfl) : WE B n sc (.Call (.Name "len" fp) [e] [] pos) m σ Q :=
  WE.callB rfl rfl (keepy_builtin _) hk (by rw [List.any_cons, hs]; rfl) (WEs.cons (h.mono fun v σ₁ q => WEs.nil q) fun env => starEach_cons hs)
theorem WE.range {e : Expr} {fp pos : Pos} (h : WE B n sc e m σ fun v σ₁ => WO B n (callT (.type "range")) [v] σ₁ Q) (hk : kOf sc "range" = some .globalImplicit := by rfl) (hs : starred e = false := by rfl) : WE B n sc (.Call (.Name "range" fp) [e] [] pos) m σ Q :=
  WE.callB rfl rfl (keepy_type _) hk (by rw [List.any_cons, hs]; rfl) (WEs.cons (h.mono fun v σ₁ q => WEs.nil q) fun env => starEach_cons hs)
theorem WE.absC {e : Expr} {fp pos : Pos} (h : WE B n sc e m σ fun v σ₁ => WO B n (callT (.builtin "abs")) [v] σ₁ Q) (hk : kOf sc "abs" = some .globalImplicit := by rfl) (hs : starred e = false := by rfl) : WE B n sc (.Call (.Name "abs" fp) [e] [] pos) m σ Q :=
  WE.callB rfl rfl (keepy_builtin _) hk (by rw [List.any_cons, hs]; rfl) (WEs.cons (h.mono fun v σ₁ q => WEs.nil q) fun env => starEach_cons hs)
theorem WE.intC {e : Expr} {fp pos : Pos} (h : WE B n sc e m σ fun v σ₁ => WO B n (callT (.type "int")) [v] σ₁ Q) (hk : kOf sc "int" = some .globalImplicit := by rfl) (hs : starred e = false := by rfl) : WE B n sc (.Call (.Name "int" fp) [e] [] pos) m σ Q :=
  WE.callB rfl rfl (keepy_type _) hk (by rw [List.any_cons, hs]; rfl) (WEs.cons (h.mono fun v σ₁ q => WEs.nil q) fun env => starEach_cons hs)
theorem WE.strC {e : Expr} {fp pos : Pos} (h : WE B n sc e m σ fun v σ₁ => WO B n (callT (.type "str")) [v] σ₁ Q) (hk : kOf sc "str" = some .globalImplicit := by rfl) (hs : starred e = false := by rfl) : WE B n sc (.Call (.Name "str" fp) [e] [] pos) m σ Q :=
  WE.callB rfl rfl (keepy_type _) hk (by rw [List.any_cons, hs]; rfl) (WEs.cons (h.mono fun v σ₁ q => WEs.nil q) fun env => starEach_cons hs)
theorem WE.listC {e : Expr} {fp pos : Pos} (h : WE B n sc e m σ fun v σ₁ => WO B n (callT (.type "list")) [v] σ₁ Q) (hk : kOf sc "list" = some .globalImplicit := by rfl) (hs : starred e = false := by rfl) : WE B n sc (.Call (.Name "list" fp) [e] [] pos) m σ Q :=
  WE.callB rfl rfl (keepy_type _) hk (by rw [List.any_cons, hs]; rfl) (WEs.cons (h.mono fun v σ₁ q => WEs.nil q) fun env => starEach_cons hs)
theorem WE.dictC {e : Expr} {fp pos : Pos} (h : WE B n sc e m σ fun v σ₁ => WO B n (callT (.type "dict")) [v] σ₁ Q) (hk : kOf sc "dict" = some .globalImplicit := by rfl) (hs : starred e = false := by rfl) : WE B n sc (.Call (.Name "dict" fp) [e] [] pos) m σ Q :=
  WE.callB rfl rfl (keepy_type _) hk (by rw [List.any_cons, hs]; rfl) (WEs.cons (h.mono fun v σ₁ q => WEs.nil q) fun env => starEach_cons hs)
theorem WE.maxC {e e' : Expr} {fp pos : Pos} (h : WE B n sc e m σ fun v σ₁ => WE B n sc e' m σ₁ fun u σ₂ => WO B n (callT (.builtin "max")) [v, u] σ₂ Q) (hk : kOf sc "max" = some .globalImplicit := by rfl) (hs : starred e = false := by rfl) (hs' : starred e' = false := by rfl) : WE B n sc (.Call (.Name "max" fp) [e, e'] [] pos) m σ Q :=
  WE.callB rfl rfl (keepy_builtin _) hk (by rw [List.any_cons, hs, List.any_cons, hs']; rfl) (WEs.cons (h.mono fun v σ₁ q => WEs.cons (q.mono fun u σ₂ q => WEs.nil q) fun env => starEach_cons hs') fun env => starEach_cons hs)
theorem WE.isVecC {e : Expr} {fp vp pos : Pos} (h : WE B n sc e m σ fun v σ₁ => ∃ x l kind at_, v = .ref x ∧ Vc B σ₁ x kind l at_ ∧ Q (.bool true) σ₁) (hk : kOf sc "isinstance" = some .globalImplicit := by rfl) (hk' : kOf sc "Vector" = some .globalImplicit := by rfl) (hs : starred e = false := by rfl) : WE B n sc (.Call (.Name "isinstance" fp) [e, .Name "Vector" vp] [] pos) m σ Q :=
  WE.callB rfl rfl (keepy_builtin _) hk (by rw [List.any_cons, hs]; rfl) (WEs.cons (h.mono fun v σ₁ ⟨x, l, kind, at_, e, h1, h2⟩ => WEs.cons (WE.vecName hk' (WEs.nil (by
    obtain ⟨d, sh, lo, g1, g2⟩ := h1.ex
    rw [e]; exact WO.isVec g1 g2 h2))) fun env => starEach_cons rfl) fun env => starEach_cons hs)
-- defs by name
theorem WE.call1 {f : Str} {ps : Arguments} {bd : List Stmt} {fs : Scope} {dv : List V} {fp pos : Pos} {e : Expr} (hf : FnAt B f ps bd fs dv) (h : WE B n sc e m σ fun v σ₁ => WC B n f [v] σ₁ Q) (hk : kOf sc f = some .globalImplicit := by rfl) (hs : starred e = false := by rfl)
    (hd : (f == ("__debug__" : Str)) = false := by decide) : WE B n sc (.Call (.Name f fp) [e] [] pos) m σ Q :=
  WE.call hf hk (by rw [List.any_cons, hs]; rfl) (WEs.cons (h.mono fun v σ₁ q => WEs.nil q) fun env => starEach_cons hs) hd
theorem WE.call2 {f : Str} {ps : Arguments} {bd : List Stmt} {fs : Scope} {dv : List V} {fp pos : Pos} {e e' : Expr} (hf : FnAt B f ps bd fs dv) (h : WE B n sc e m σ fun v σ₁ => WE B n sc e' m σ₁ fun u σ₂ => WC B n f [v, u] σ₂ Q) (hk : kOf sc f = some .globalImplicit := by rfl) (hs : starred e = false := by rfl) (hs' : starred e' = false := by rfl)
    (hd : (f == ("__debug__" : Str)) = false := by decide) : WE B n sc (.Call (.Name f fp) [e, e'] [] pos) m σ Q :=
  WE.call hf hk (by rw [List.any_cons, hs, List.any_cons, hs']; rfl) (WEs.cons (h.mono fun v σ₁ q => WEs.cons (q.mono fun u σ₂ q => WEs.nil q) fun env => starEach_cons hs') fun env => starEach_cons hs) hd
theorem WE.call3 {f : Str} {ps : Arguments} {bd : List Stmt} {fs : Scope} {dv : List V} {fp pos : Pos} {e e' e'' : Expr} (hf : FnAt B f ps bd fs dv) (h : WE B n sc e m σ fun v σ₁ => WE B n sc e' m σ₁ fun u σ₂ => WE B n sc e'' m σ₂ fun w σ₃ => WC B n f [v, u, w] σ₃ Q) (hk : kOf sc f = some .globalImplicit := by rfl) (hs : starred e = false := by rfl) (hs' : starred e' = false := by rfl) (hs'' : starred e'' = false := by rfl)
    (hd : (f == ("__debug__" : Str)) = false := by decide) : WE B n sc (.Call (.Name f fp) [e, e', e''] [] pos) m σ Q :=
  WE.call hf hk (by rw [List.any_cons, hs, List.any_cons, hs', List.any_cons, hs'']; rfl) (WEs.cons (h.mono fun v σ₁ q => WEs.cons (q.mono fun u σ₂ q => WEs.cons (q.mono fun w σ₃ q => WEs.nil q) fun env => starEach_cons hs'') fun env => starEach_cons hs') fun env => starEach_cons hs) hd
theorem WE.call4 {f : Str} {ps : Arguments} {bd : List Stmt} {fs : Scope} {dv : List V} {fp pos : Pos} {e e' e'' e₃ : Expr} (hf : FnAt B f ps bd fs dv) (h : WE B n sc e m σ fun v σ₁ => WE B n sc e' m σ₁ fun u σ₂ => WE B n sc e'' m σ₂ fun w σ₃ => WE B n sc e₃ m σ₃ fun z σ₄ => WC B n f [v, u, w, z] σ₄ Q) (hk : kOf sc f = some .globalImplicit := by rfl) (hs : starred e = false := by rfl) (hs' : starred e' = false := by rfl) (hs'' : starred e'' = false := by rfl) (hs₃ : starred e₃ = false := by rfl)
    (hd : (f == ("__debug__" : Str)) = false := by decide) : WE B n sc (.Call (.Name f fp) [e, e', e'', e₃] [] pos) m σ Q :=
  WE.call hf hk (by rw [List.any_cons, hs, List.any_cons, hs', List.any_cons, hs'', List.any_cons, hs₃]; rfl) (WEs.cons (h.mono fun v σ₁ q => WEs.cons (q.mono fun u σ₂ q => WEs.cons (q.mono fun w σ₃ q => WEs.cons (q.mono fun z σ₄ q => WEs.nil q) fun env => starEach_cons hs₃) fun env => starEach_cons hs'') fun env => starEach_cons hs') fun env => starEach_cons hs) hd

theorem WO.ifloordivInt {a b : Int} (hb : 0 < b) (hb' : b < 1000000) (h : Q (.int (a.fdiv b)) σ) : WO B n (ibinT .FloorDiv) [.int a, .int b] σ Q := by
  refine ⟨fun A s vals _ S hv => ⟨?_⟩⟩
  obtain ⟨x, y, rfl, hx, hy⟩ := map_two hv
  obtain ⟨t, rfl⟩ := er_int hx
  obtain ⟨u, rfl⟩ := er_int hy
  refine AutoIntOps.ifloordiv_1 (by simp; omega) (by rw [PyProof.noPylong_small (by omega)]; decide) ?_
  exact ⟨σ, S.tk _, Mv.refl _ _, h⟩
end
end Mine

namespace Mine
section
variable {B : Base} {n : Nat} {sc : Scope} {m : Loc} {σ : St} {Q : V → St → Prop} {P : Bool → St → Prop}

theorem init_run {fI x d : Addr} {k i a : V} (hx : σ x = some (.inst B.C d)) (hd : σ d = some (.attrs [])) (hne : x ≠ d)
    (h : Q .none (upd σ d (.attrs [("kind", k), ("items", i), ("attrs", a), ("shared", .bool false), ("loose", .bool false)]))) :
    WSs B n (mt 0).2.2.2 (mt 0).2.2.1 (mOf [("self", .ref x), ("kind", k), ("items", i), ("attrs", a)] fun _ => none) σ (fun _ σ' => Q .none σ') Q := by
  refine WSs.cons (WS.attr rfl (WE.nm rfl (WE.nm rfl ⟨x, d, _, rfl, hx, hd, Nat.zero_le _, ?_⟩)))
  refine WSs.cons (WS.attr rfl (WE.nm rfl (WE.nm rfl ⟨x, d, _, rfl, (upd_ne hne).trans hx, upd_self .., Nat.le_of_ble_eq_true rfl, ?_⟩)))
  rw [upd_upd]
  refine WSs.cons (WS.attr rfl (WE.nm rfl (WE.nm rfl ⟨x, d, _, rfl, (upd_ne hne).trans hx, upd_self .., Nat.le_of_ble_eq_true rfl, ?_⟩)))
  rw [upd_upd]
  refine WSs.cons (WS.attr rfl (WE.cBool (WE.nm rfl ⟨x, d, _, rfl, (upd_ne hne).trans hx, upd_self .., Nat.le_of_ble_eq_true rfl, ?_⟩)))
  rw [upd_upd]
  refine WSs.cons (WS.attr rfl (WE.cBool (WE.nm rfl ⟨x, d, _, rfl, (upd_ne hne).trans hx, upd_self .., Nat.le_of_ble_eq_true rfl, ?_⟩)))
  rw [upd_upd]
  exact WSs.nil h
/-- what a new vector is -/
abbrev newQ (B : Base) (Q : V → St → Prop) (σ₁ : St) (k i a : V) : Prop := ∀ x d, σ₁ x = none → σ₁ d = none → x ≠ d → Q (.ref x) (upd (upd σ₁ d (.attrs [("kind", k), ("items", i), ("attrs", a), ("shared", .bool false), ("loose", .bool false)])) x (.inst B.C d))
theorem WE.vec3 (D : Defs B) {fp pos : Pos} {e1 e2 e3 : Expr} (h : WE B (n + 2) sc e1 m σ fun k σ₁ => WE B (n + 2) sc e2 m σ₁ fun i σ₂ => WE B (n + 2) sc e3 m σ₂ fun a σ₃ => newQ B Q σ₃ k i a) (hk : kOf sc "Vector" = some .globalImplicit := by rfl)
    (h1 : starred e1 = false := by rfl) (h2 : starred e2 = false := by rfl) (h3 : starred e3 = false := by rfl) : WE B (n + 2) sc (.Call (.Name "Vector" fp) [e1, e2, e3] [] pos) m σ Q := by
  obtain ⟨fI, i1, i2, i3⟩ := D.init
  refine WE.newV i1 i2 hk (by rw [List.any_cons, h1, List.any_cons, h2, List.any_cons, h3]; rfl) (WEs.cons (h.mono fun k σ₁ q => WEs.cons (q.mono fun i σ₂ q => WEs.cons (q.mono fun a σ₃ q => WEs.nil fun x d hxd hx hd => ?_) fun env => starEach_cons h3) fun env => starEach_cons h2) fun env => starEach_cons h1)
  refine WCa.enterD4 (p1 := "self") (p2 := "kind") (p3 := "items") (p4 := "attrs") i3 (init_run (fI := fI) (σ := _) (Q := fun r σ₂ => r = .none ∧ Q (.ref x) σ₂) (upd_self ..) ((upd_ne (Ne.symm hxd)).trans (upd_self ..)) hxd ?_)
  refine ⟨rfl, ?_⟩
  rw [upd_swap hxd, upd_upd]
  exact q x d hx hd hxd
theorem WE.vec2 (D : Defs B) {fp pos : Pos} {e1 e2 : Expr} (h : WE B (n + 2) sc e1 m σ fun k σ₁ => WE B (n + 2) sc e2 m σ₁ fun i σ₂ => newQ B Q σ₂ k i .none) (hk : kOf sc "Vector" = some .globalImplicit := by rfl)
    (h1 : starred e1 = false := by rfl) (h2 : starred e2 = false := by rfl) : WE B (n + 2) sc (.Call (.Name "Vector" fp) [e1, e2] [] pos) m σ Q := by
  obtain ⟨fI, i1, i2, i3⟩ := D.init
  refine WE.newV i1 i2 hk (by rw [List.any_cons, h1, List.any_cons, h2]; rfl) (WEs.cons (h.mono fun k σ₁ q => WEs.cons (q.mono fun i σ₂ q => WEs.nil fun x d hxd hx hd => ?_) fun env => starEach_cons h2) fun env => starEach_cons h1)
  refine WCa.enterD43 (p1 := "self") (p2 := "kind") (p3 := "items") (p4 := "attrs") i3 (init_run (fI := fI) (σ := _) (Q := fun r σ₂ => r = .none ∧ Q (.ref x) σ₂) (upd_self ..) ((upd_ne (Ne.symm hxd)).trans (upd_self ..)) hxd ?_)
  refine ⟨rfl, ?_⟩
  rw [upd_swap hxd, upd_upd]
  exact q x d hx hd hxd
theorem newQ.vd {k : Str} {l : Addr} {a : V} (h : ∀ x d σ', σ x = none → σ d = none → Ext σ σ' → Vd B σ' x d k l a → Q (.ref x) σ') : newQ B Q σ (.str k) (.ref l) a := fun x d hx hd hne =>
  h x d _ hx hd (((Ext.refl σ).up hd _).up hx _) ⟨false, false, upd_self .., (upd_ne (Ne.symm hne)).trans (upd_self ..)⟩

theorem new_vec {k : Str} {l l₀ : Addr} {xs : List V} (h : ∀ x d l' σ', σ x = none → σ d = none → σ l' = none → Ext σ σ' → Vd B σ' x d k l' .none → σ' l' = some (.list xs) → Q (.ref x) σ') (hl' : σ l = none) : newQ B Q (upd σ l (.list xs)) (.str k) (.ref l) .none :=
  newQ.vd fun x d σ' hx hd hE hv => by
    have ne : ∀ b, upd σ l (.list xs) b = none → σ b = none := fun b hb => by
      rw [upd_ne fun e => by rw [e, upd_self] at hb; cases hb] at hb; exact hb
    exact h x d l σ' (ne x hx) (ne d hd) hl' ((Ext.new hl' _).trans hE) hv (hE.get _ _ (upd_self ..))
theorem integer_c (D : Defs B) {l : Addr} {xs : List V} (hl : rd B σ l (.list xs)) (hz : xs.length ≤ 1000000) (h : ∀ x d l' σ', σ x = none → σ d = none → σ l' = none → Ext σ σ' → Vd B σ' x d "integer" l' .none → σ' l' = some (.list xs) → Q (.ref x) σ') :
    WC B (n + 3) "integer" [.ref l] σ Q := by
  refine WC.enter1 (p1 := "items") (D.f 22 rfl) ?_
  exact WSs.cons (WS.ret (WE.vec2 D (WE.cStr (WE.listC (WE.nm rfl (WO.listOf hl (by rw [sizeLine_eq]; omega) fun l' hl' => new_vec (l₀ := l) h hl'))))))
theorem character_c (D : Defs B) {l : Addr} {xs : List V} (hl : rd B σ l (.list xs)) (hz : xs.length ≤ 1000000) (h : ∀ x d l' σ', σ x = none → σ d = none → σ l' = none → Ext σ σ' → Vd B σ' x d "character" l' .none → σ' l' = some (.list xs) → Q (.ref x) σ') :
    WC B (n + 3) "character" [.ref l] σ Q := by
  refine WC.enter1 (p1 := "items") (D.f 23 rfl) ?_
  exact WSs.cons (WS.ret (WE.vec2 D (WE.cStr (WE.listC (WE.nm rfl (WO.listOf hl (by rw [sizeLine_eq]; omega) fun l' hl' => new_vec (l₀ := l) h hl'))))))
end
end Mine

namespace Mine

/-- all kept but at d -/
structure ExtB (d : Addr) (σ σ' : St) : Prop where
  get : ∀ a o, a ≠ d → σ a = some o → σ' a = some o
theorem Ext.but {σ₀ σ σ' : St} {d : Addr} (x : Ext σ₀ σ) (y : ExtB d σ σ') (h : σ₀ d = none) : Ext σ₀ σ' := ⟨fun a o e => y.get a o (fun q => by rw [q, h] at e; cases e) (x.get a o e)⟩
theorem Ext.toB {σ σ' : St} (x : Ext σ σ') (d : Addr) : ExtB d σ σ' := ⟨fun a o _ e => x.get a o e⟩
theorem ExtB.trans {d : Addr} {σ σ₁ σ₂ : St} (x : ExtB d σ σ₁) (y : ExtB d σ₁ σ₂) : ExtB d σ σ₂ := ⟨fun a o h e => y.get a o h (x.get a o h e)⟩
theorem ExtB.upd (σ : St) (d : Addr) (o : AO) : ExtB d σ (upd σ d o) := ⟨fun a p h e => (upd_ne h).trans e⟩
theorem ExtB.noneOf {d a : Addr} {σ σ' : St} (x : ExtB d σ σ') (h : σ' a = Option.none) (hd : σ' d ≠ Option.none) : σ a = Option.none := by
  cases q : σ a with
  | none => rfl
  | some o => rw [x.get a o (fun e => by subst e; exact hd h) q] at h; cases h

section
variable {B : Base} {n : Nat} {sc : Scope} {m : Loc} {σ σ' : St} {Q : V → St → Prop} {P : Bool → St → Prop}

theorem vkv_attrs (kind : Str) (l : Addr) (at_ v : V) (sh lo : Bool) : putA (vkv kind l at_ sh lo) "attrs" v = vkv kind l v sh lo := rfl
theorem vkv_shared (kind : Str) (l : Addr) (at_ : V) (sh lo b : Bool) : putA (vkv kind l at_ sh lo) "shared" (.bool b) = vkv kind l at_ b lo := rfl
/-- the attributes that a vector tells -/
inductive At (σ : St) : V → (Str → Option V) → Prop
  | none : At σ .none fun _ => Option.none
  | some {ad : Addr} {kvs : List (Str × V)} {ep : Nat} (h : σ ad = Option.some (.sdict kvs ep)) : At σ (.ref ad) (lkS kvs)
theorem At.ext {at_ : V} {f : Str → Option V} (h : At σ at_ f) (e : Ext σ σ') : At σ' at_ f := by
  cases h with
  | none => exact .none
  | some h => exact .some (e.get _ _ h)
/-- texts -/
def tV (ts : List Str) : List V := ts.map V.str
theorem tV_len (ts : List Str) : (tV ts).length = ts.length := by simp [tV]
/-- a character vector without attributes -/
structure Chr (B : Base) (σ : St) (v : V) (ts : List Str) : Prop where
  ex : ∃ x l, v = .ref x ∧ Vc B σ x "character" l .none ∧ σ l = some (.list (tV ts))
theorem Chr.ext {v : V} {ts : List Str} (h : Chr B σ v ts) (e : Ext σ σ') : Chr B σ' v ts := let ⟨x, l, h1, h2, h3⟩ := h.ex; ⟨x, l, h1, h2.ext e, e.get _ _ h3⟩

/-- the same, all of it new to σ₀ -/
structure ChrN (B : Base) (σ₀ σ : St) (v : V) (ts : List Str) : Prop where
  ex : ∃ x d l, v = .ref x ∧ σ₀ x = none ∧ σ₀ d = none ∧ σ₀ l = none ∧ Vd B σ x d "character" l .none ∧ σ l = some (.list (tV ts))
theorem ChrN.chr {σ₀ : St} {v : V} {ts : List Str} (h : ChrN B σ₀ σ v ts) : Chr B σ v ts := let ⟨x, d, l, h1, _, _, _, h2, h3⟩ := h.ex; ⟨x, l, h1, h2.vc, h3⟩
theorem ChrN.ext {σ₀ : St} {v : V} {ts : List Str} (h : ChrN B σ₀ σ v ts) (e : Ext σ σ') : ChrN B σ₀ σ' v ts := let ⟨x, d, l, h1, a, b, c, h2, h3⟩ := h.ex; ⟨x, d, l, h1, a, b, c, h2.ext e, e.get _ _ h3⟩
theorem ChrN.but {σ₀ : St} {v : V} {ts : List Str} {a : Addr} (h : ChrN B σ₀ σ v ts) (e : ExtB a σ σ') (ha : σ₀ a ≠ none) : ChrN B σ₀ σ' v ts :=
  let ⟨x, d, l, h1, n1, n2, n3, h2, h3⟩ := h.ex
  let ⟨sh, lo, h4, h5⟩ := h2.ex
  have ne : ∀ b, σ₀ b = none → b ≠ a := fun b hb q => ha (q ▸ hb)
  ⟨x, d, l, h1, n1, n2, n3, ⟨sh, lo, e.get _ _ (ne x n1) h4, e.get _ _ (ne d n2) h5⟩, e.get _ _ (ne l n3) h3⟩
theorem ChrN.old {σ₀ σ₁ : St} {v : V} {ts : List Str} (h : ChrN B σ₀ σ v ts) (e : Ext σ₁ σ₀) : ChrN B σ₁ σ v ts := let ⟨x, d, l, h1, a, b, c, h2, h3⟩ := h.ex; ⟨x, d, l, h1, e.noneOf a, e.noneOf b, e.noneOf c, h2, h3⟩
/-- what σ' lacks, σ lacks -/
def Dm (σ σ' : St) : Prop := ∀ a, σ' a = none → σ a = none
theorem Ext.dm (e : Ext σ σ') : Dm σ σ' := fun _ h => e.noneOf h
theorem ExtB.dm {d : Addr} (e : ExtB d σ σ') (h : σ' d ≠ none) : Dm σ σ' := fun _ q => e.noneOf q h
theorem Dm.trans {σ₁ : St} (x : Dm σ σ₁) (y : Dm σ₁ σ') : Dm σ σ' := fun a h => x a (y a h)
theorem ChrN.oldD {σ₀ σ₁ : St} {v : V} {ts : List Str} (h : ChrN B σ₀ σ v ts) (e : Dm σ₁ σ₀) : ChrN B σ₁ σ v ts := let ⟨x, d, l, h1, a, b, c, h2, h3⟩ := h.ex; ⟨x, d, l, h1, e _ a, e _ b, e _ c, h2, h3⟩
theorem chrN_c (D : Defs B) {l : Addr} {ts : List Str} (hl : rd B σ l (.list (tV ts))) (hz : ts.length ≤ 1000000) (h : ∀ v σ', Ext σ σ' → ChrN B σ σ' v ts → Q v σ') : WC B (n + 3) "character" [.ref l] σ Q :=
  character_c D hl (by rw [tV_len]; exact hz) fun x d l' σ' h1 h2 h3 e h4 h5 => h _ _ e ⟨x, d, l', rfl, h1, h2, h3, h4, h5⟩

-- tests
theorem WT.isNone {e : Expr} {k : Nat} {p pos : Pos} (h : WE B n sc e m σ fun v σ₁ => P (isN v) σ₁) : WT B n sc (.Compare e [.Is] [.Constant .none k p] pos) m σ P :=
  WT.cmp (h.mono fun v σ₁ q => WE.cNone (WO.isNone (QB.mk q)))
theorem WT.isNotNone {e : Expr} {k : Nat} {p pos : Pos} (h : WE B n sc e m σ fun v σ₁ => P (!isN v) σ₁) : WT B n sc (.Compare e [.IsNot] [.Constant .none k p] pos) m σ P :=
  WT.cmp (h.mono fun v σ₁ q => WE.cNone (WO.isNotNone (QB.mk q)))
theorem WT.eqS {e : Expr} {c : Str} {k : Nat} {p pos : Pos} (h : WE B n sc e m σ fun v σ₁ => ∃ s, v = .str s ∧ P (s == c) σ₁) : WT B n sc (.Compare e [.Eq] [.Constant (.str c) k p] pos) m σ P :=
  WT.cmp (h.mono fun v σ₁ ⟨s, e, q⟩ => WE.cStr (by rw [e]; exact WO.eqStr (QB.mk q)))
theorem WE.eqS {e : Expr} {c : Str} {k : Nat} {p pos : Pos} (h : WE B n sc e m σ fun v σ₁ => ∃ s, v = .str s ∧ Q (.bool (s == c)) σ₁) : WE B n sc (.Compare e [.Eq] [.Constant (.str c) k p] pos) m σ Q :=
  WE.cmp (h.mono fun v σ₁ ⟨s, e, q⟩ => WE.cStr (by rw [e]; exact WO.eqStr q))
theorem iteP {α β : Prop} {c d : Bool} (h : c = d) (x : if d = true then α else β) : if c = true then α else β := by rw [h]; exact x

theorem get_attr_c (D : Defs B) {x l : Addr} {kind name : Str} {at_ : V} {f : Str → Option V} (hv : Vc B σ x kind l at_) (ha : At σ at_ f) (h : Q ((f name).getD .none) σ) : WC B (n + 1) "get_attr" [.ref x, .str name] σ Q := by
  refine WC.enter2 (p1 := "v") (p2 := "name") (D.f 31 rfl) ?_
  cases ha with
  | none =>
    refine WSs.cons (WS.if (WT.isNone (WE.attrs (WE.nm rfl ⟨_, _, _, _, rfl, hv, rfl, iteT rfl ?_⟩))))
    exact WSs.cons (WS.ret (WE.cNone h))
  | some hd =>
    refine WSs.cons (WS.if (WT.isNone (WE.attrs (WE.nm rfl ⟨_, _, _, _, rfl, hv, rfl, iteF rfl (WSs.nil ?_)⟩))))
    exact WSs.cons (WS.ret (WE.meth F.plainAttrs_dict F.slot_dict_get F.type_dict_get rfl (WE.attrs (WE.nm rfl ⟨_, _, _, _, rfl, hv, rfl, plainT_sdict hd, WEs.cons (WE.nm rfl (WEs.nil (WO.dget hd h)))⟩))))
theorem is_atomic_c (D : Defs B) {x l : Addr} {at_ : V} (hv : Vc B σ x "character" l at_) (h : ∀ σ', Ext σ σ' → Q (.bool true) σ') : WC B (n + 1) "is_atomic" [.ref x] σ Q := by
  refine WC.enter1 (p1 := "v") (D.f 28 rfl) ?_
  refine WSs.cons (WS.ret (WE.cmp (WE.kind (WE.nm rfl ⟨_, _, _, _, rfl, hv, WE.tuple (WEs.cons (WE.cStr (WEs.cons (WE.cStr (WEs.cons (WE.cStr (WEs.cons (WE.cStr (WEs.nil ⟨Nat.le_of_ble_eq_true rfl, fun a ha => ?_⟩)))))))))⟩))))
  refine WO.inTup (.inl (upd_self ..)) (by simp [flat]) rfl ?_
  have e : ([V.str "logical", .str "integer", .str "double", .str "character"].any fun y => eqV y (.str "character")) = true := by decide
  rw [e]
  exact h _ (Ext.new ha _)
theorem label_text_c (D : Defs B) {s : Str} (h : Q (.str s) σ) : WC B (n + 1) "label_text" [.str "character", .str s] σ Q := by
  refine WC.enter2 (p1 := "kind") (p2 := "item") (D.f 32 rfl) ?_
  refine WSs.cons (WS.if (WT.or (WT.isNone (WE.nm rfl (iteF rfl (WT.or (WT.eqS (WE.nm rfl ⟨_, rfl, iteT rfl (iteT rfl ?_)⟩))))))))
  exact WSs.cons (WS.ret (WE.nm rfl h))
end
end Mine

namespace Mine
section
variable {B : Base} {n : Nat} {sc scope : Scope} {m : Loc} {σ σ' σ₁ : St} {Q : V → St → Prop} {P : Bool → St → Prop}

theorem take_one {α : Type} {vs : List α} {i : Nat} {u : α} (h : vs[i]? = some u) : vs.take (i + 1) = vs.take i ++ [u] := by rw [List.take_add_one, h]; rfl
theorem CompQ.map {x : Str} {elt : Expr} {vs : List V} {G : St → Prop} {v : V} (hI : IterOk B v vs G σ₁) (hG : ∀ σ', Ext σ₁ σ' → G σ') (hz : vs.length ≤ 1000000) (g : V → V)
    (step : ∀ (i : Nat) u σ', vs[i]? = some u → Ext σ₁ σ' → WE B n (relab scope sc) elt (upL (mC scope m) x u) σ' fun w σ'' => w = g u ∧ Ext σ₁ σ'') (fin : ∀ D σ', Ext σ₁ σ' → σ' D = none → Q (.ref D) (upd σ' D (.list (vs.map g)))) : CompQ B n sc scope m x [] elt Q v σ₁ := by
  refine ⟨vs, G, fun i ys σ' => Ext σ₁ σ' ∧ ys = (vs.take i).map g, hI, hz, ⟨Ext.refl _, rfl⟩, ⟨fun i ys σ' h => ⟨hG _ h.1, by rw [h.2, List.length_map, List.length_take]; omega⟩, fun i u ys σ' hu h => ?_⟩, fun D ys σ' h _ hD => ?_⟩
  · exact (step i u σ' hu h.1).mono fun w σ'' q => ⟨q.2, by rw [take_one hu, List.map_append, h.2, q.1]; rfl⟩
  · rw [h.2, List.take_length]; exact fin D σ' h.1 hD
theorem CompQ.filt {x : Str} {elt c : Expr} {vs : List V} {G : St → Prop} {v : V} (hI : IterOk B v vs G σ₁) (hG : ∀ σ', Ext σ₁ σ' → G σ') (hz : vs.length ≤ 1000000) (p : V → Bool) (g : V → V)
    (test : ∀ (i : Nat) u σ', vs[i]? = some u → Ext σ₁ σ' → WT B n (relab scope sc) c (upL (mC scope m) x u) σ' fun b σ'' => b = p u ∧ Ext σ₁ σ'')
    (step : ∀ (i : Nat) u σ', vs[i]? = some u → p u = true → Ext σ₁ σ' → WE B n (relab scope sc) elt (upL (mC scope m) x u) σ' fun w σ'' => w = g u ∧ Ext σ₁ σ'') (fin : ∀ D σ', Ext σ₁ σ' → σ' D = none → Q (.ref D) (upd σ' D (.list ((vs.filter p).map g)))) : CompQ B n sc scope m x [c] elt Q v σ₁ := by
  refine ⟨vs, G, fun i ys σ' => Ext σ₁ σ' ∧ ys = ((vs.take i).filter p).map g, hI, hz, ⟨Ext.refl _, rfl⟩, ⟨fun i ys σ' h => ⟨hG _ h.1, ?_⟩, fun i u ys σ' hu h => ?_⟩, fun D ys σ' h _ hD => ?_⟩
  · rw [h.2, List.length_map]; exact Nat.le_trans (List.length_filter_le _ _) (by rw [List.length_take]; omega)
  · refine WT.mono (test i u σ' hu h.1) fun b σ'' q => ?_
    cases hb : b with
    | true =>
      have hp : p u = true := by rw [← q.1, hb]
      refine iteT rfl ((step i u σ'' hu hp q.2).mono fun w σ₃ q => ⟨q.2, by rw [take_one hu, List.filter_append, List.map_append, h.2, q.1]; simp [hp]⟩)
    | false =>
      have hp : p u = false := by rw [← q.1, hb]
      exact iteF rfl ⟨q.2, by rw [take_one hu, List.filter_append, List.map_append, h.2]; simp [hp]⟩
  · rw [h.2, List.take_length]; exact fin D σ' h.1 hD

theorem tV_get {ts : List Str} {i : Nat} {u : V} (h : (tV ts)[i]? = some u) : ∃ s, u = .str s ∧ ts[i]? = some s := by
  unfold tV at h
  rw [List.getElem?_map] at h
  obtain ⟨s, h1, h2⟩ := Option.map_eq_some_iff.mp h
  exact ⟨s, h2.symm, h1⟩
theorem label_texts_c (D : Defs B) {x l : Addr} {ts : List Str} (hv : Vc B σ x "character" l .none) (hl : σ l = some (.list (tV ts))) (hz : ts.length ≤ 1000) (h : ∀ d σ', Ext σ σ' → σ' d = none → Q (.ref d) (upd σ' d (.list (tV ts)))) :
    WC B (n + 3) "label_texts" [.ref x] σ Q := by
  refine WC.enter1 (p1 := "value") (D.f 34 rfl) ?_
  refine WSs.cons (WS.assign (WE.call2 (D.f 31 rfl) (WE.nm rfl (WE.cStr (get_attr_c D hv .none ?_)))))
  refine WSs.cons (WS.if (WT.and (WT.isNotNone (WE.nm rfl (iteF rfl (iteF rfl (WSs.nil ?_)))))))
  refine WSs.cons (WS.ret (WE.comp (WE.items (WE.nm rfl ⟨_, _, _, _, rfl, hv, CompQ.map (IterOk.list (.inl hl)) (fun σ' e => .inl (e.get _ _ hl)) (by rw [tV_len]; omega) id (fun i u σ' hu e => ?_) (fun d σ' e hd => ?_)⟩))))
  · obtain ⟨s, rfl, _⟩ := tV_get hu
    exact WE.call2 (D.f 32 rfl) (WE.kind (WE.nm rfl ⟨_, _, _, _, rfl, hv.ext e, WE.nm rfl (label_text_c D ⟨rfl, e⟩)⟩))
  · rw [List.map_id]; exact h d σ' e hd
/-- the texts of the levels, afresh -/
theorem level_texts_c (D : Defs B) {x l : Addr} {kind : Str} {at_ lv : V} {f : Str → Option V} {ts : List Str} (hv : Vc B σ x kind l at_) (ha : At σ at_ f) (hf : f "levels" = some lv) (hc : Chr B σ lv ts) (hz : ts.length ≤ 1000) (h : ∀ d σ', Ext σ σ' → σ d = none → σ' d = some (.list (tV ts)) → Q (.ref d) σ') :
    WC B (n + 5) "level_texts" [.ref x] σ Q := by
  obtain ⟨lx, ll, rfl, c1, c2⟩ := hc.ex
  refine WC.enter1 (p1 := "f") (D.f 78 rfl) ?_
  refine WSs.cons (WS.assign (WE.call2 (D.f 31 rfl) (WE.nm rfl (WE.cStr (get_attr_c D hv ha ?_)))))
  rw [hf]
  refine WSs.cons (WS.if (WT.or (WT.isNone (WE.nm rfl (iteF rfl (WT.or (WT.not (WT.val (WE.call1 (D.f 28 rfl) (WE.nm rfl (is_atomic_c D c1 fun σ₁ e₁ => QB.mk (iteF rfl (WT.orNil (iteF rfl (WSs.nil ?_)))))))))))))))
  refine WSs.cons (WS.ret (WE.comp (WE.call1 (D.f 34 rfl) (WE.nm rfl (label_texts_c D (c1.ext e₁) (e₁.get _ _ c2) hz fun d σ₂ e₂ hd => ?_)))))
  refine CompQ.map (IterOk.list (.inl (upd_self ..))) (fun σ' e => .inl (e.get _ _ (upd_self ..))) (by rw [tV_len]; omega) id (fun i u σ' hu e => ?_) (fun d' σ' e hd' => ?_)
  · obtain ⟨s, rfl, _⟩ := tV_get hu
    exact WE.ifExp (WT.isNone (WE.nm rfl (iteF rfl (WE.nm rfl ⟨rfl, e⟩))))
  · rw [List.map_id]
    have E : Ext σ σ' := (e₁.trans (e₂.trans (Ext.new hd _))).trans e
    exact h d' _ (E.up (E.noneOf hd') _) (E.noneOf hd') (upd_self ..)

/-- codes -/
def cV : Option Int → V
  | none => .none
  | some i => .int i
def csV (cs : List (Option Int)) : List V := cs.map cV
theorem csV_len (cs : List (Option Int)) : (csV cs).length = cs.length := by simp [csV]
def cl (k : Int) : Option Int → Option Int
  | none => none
  | some c => if 1 ≤ c ∧ c ≤ k then some c else none
theorem csV_get {cs : List (Option Int)} {i : Nat} {u : V} (h : (csV cs)[i]? = some u) : ∃ c, u = cV c ∧ cs[i]? = some c := by
  unfold csV at h
  rw [List.getElem?_map] at h
  obtain ⟨s, h1, h2⟩ := Option.map_eq_some_iff.mp h
  exact ⟨s, h2.symm, h1⟩
def clV (k : Int) : V → V
  | .int c => if 1 ≤ c ∧ c ≤ k then .int c else .none
  | _ => .none
theorem clV_yes {k c : Int} (h1 : 1 ≤ c) (h2 : c ≤ k) : V.int c = clV k (cV (some c)) := (if_pos (c := 1 ≤ c ∧ c ≤ k) ⟨h1, h2⟩).symm
theorem clV_no {k c : Int} (h : ¬ (1 ≤ c ∧ c ≤ k)) : V.none = clV k (cV (some c)) := (if_neg (c := 1 ≤ c ∧ c ≤ k) h).symm
theorem clV_map (k : Int) (cs : List (Option Int)) : (csV cs).map (clV k) = csV (cs.map (cl k)) := by
  unfold csV
  rw [List.map_map, List.map_map]
  refine List.map_congr_left fun c _ => ?_
  cases c with
  | none => rfl
  | some c => show (if 1 ≤ c ∧ c ≤ k then V.int c else .none) = cV (if 1 ≤ c ∧ c ≤ k then some c else none); split <;> rfl
theorem codes_in_c (D : Defs B) {x l : Addr} {kind : Str} {at_ lv : V} {f : Str → Option V} {ts : List Str} {cs : List (Option Int)} (hv : Vc B σ x kind l at_) (ha : At σ at_ f) (hf : f "levels" = some lv) (hc : Chr B σ lv ts) (hz : ts.length ≤ 1000)
    (hl : σ l = some (.list (csV cs))) (hz' : cs.length ≤ 1000) (h : ∀ d σ', Ext σ σ' → σ d = none → σ' d = some (.list (csV (cs.map (cl ts.length)))) → Q (.ref d) σ') : WC B (n + 7) "codes_in" [.ref x] σ Q := by
  refine WC.enter1 (p1 := "f") (D.f 79 rfl) ?_
  refine WSs.cons (WS.assign (WE.len (WE.call1 (D.f 78 rfl) (WE.nm rfl (level_texts_c D hv ha hf hc hz fun d₁ σ₁ e₁ h1 h2 => WO.lenList (.inl h2) (by rw [tV_len]; omega) ?_)))))
  rw [tV_len]
  refine WSs.cons (WS.ret (WE.comp (WE.items (WE.nm rfl ⟨_, _, _, _, rfl, hv.ext e₁, CompQ.map (IterOk.list (.inl (e₁.get _ _ hl))) (fun σ' e => .inl (e.get _ _ (e₁.get _ _ hl))) (by rw [csV_len]; omega) (clV ts.length) (fun i u σ' hu e => ?_) (fun d' σ' e hd' => ?_)⟩))))
  · obtain ⟨c, rfl, _⟩ := csV_get hu
    cases c with
    | none =>
      exact WE.ifExp (WT.and (WT.isNotNone (WE.nm rfl (iteF rfl (iteF rfl (WE.cNone ⟨rfl, e⟩))))))
    | some c =>
      refine WE.ifExp (WT.and (WT.isNotNone (WE.nm rfl (iteT rfl (WT.and (WT.chain (WE.cInt (WE.nm rfl (WO.leInt (QB.mk ?_))))))))))
      by_cases h1 : 1 ≤ c
      · refine iteT (by simpa using h1) (WE.nm rfl (WO.leInt (QB.mk ?_)))
        by_cases h2 : c ≤ ts.length
        · exact iteT (by simpa using h2) (WT.andNil (iteT rfl (WE.nm rfl ⟨clV_yes h1 h2, e⟩)))
        · exact iteF (by simpa using h2) (iteF rfl (WE.cNone ⟨clV_no fun q => h2 q.2, e⟩))
      · exact iteF (by simpa using h1) (iteF rfl (iteF rfl (WE.cNone ⟨clV_no fun q => h1 q.1, e⟩)))
  · rw [clV_map]
    have E : Ext σ σ' := e₁.trans e
    exact h d' _ (E.up (E.noneOf hd') _) (E.noneOf hd') (upd_self ..)
end
end Mine

namespace Mine
section
variable {B : Base} {n : Nat} {sc scope : Scope} {m : Loc} {σ σ' σ₀ σ₁ : St} {Q : V → St → Prop} {P : Bool → St → Prop}
/-- {k1: e1} -/
theorem WE.dict1 {k1 : Str} {i1 : Nat} {p1 pos : Pos} {e1 : Expr} (h : WE B n sc e1 m σ fun v1 σ₁ => ∀ a ep, σ₁ a = none → σ a = none → Q (.ref a) (upd σ₁ a (.sdict [(k1, v1)] ep))) :
    WE B n sc (.Dict [some (.Constant (.str k1) i1 p1)] [e1] pos) m σ Q := by
  refine ⟨fun A env s a b S L => ⟨?_⟩⟩
  refine wpAny_Dict_pairs (knd := strKind B.prog B.w) (pairs := [(eval (.Constant (.str k1) i1 p1) env, do let x ← eval e1 env; standAt pos; pure x)]) rfl (by simp) (by simp) ?_
  have k0 : ∀ b o, s.heap.get? b = some o → (s.heap.push { cls := .type "dict", data := .dict #[] }).get? b = some o := fun b o e => Heap.get?_push_of_some _ e
  have S₀ := S.keeps (n := s.toks) k0
  have M₀ : Mv σ σ s.heap (s.heap.push { cls := .type "dict", data := .dict #[] }) := Mv.of_keeps k0
  have hd0 : σ s.heap.objs.size = none := S.size_none
  refine evalPairs_cons (wpAny_Constant_str ?_)
  refine wpAny_bind ((h.run A env _ a b (S₀.tk _) (L.mv M₀)).to fun v1 σ₂ s₂ S₂ M₂ q₂ => wpAny_bind (wpAny_standAt (wpAny_pure (evalPairs_nil ?_))))
  have M12 : Mv σ σ₂ (s.heap.push { cls := .type "dict", data := .dict #[] }) s₂.heap := M₂
  have hdo : (s.heap.push { cls := .type "dict", data := .dict #[] }).DictOf (strKind B.prog B.w) s.heap.objs.size [] := Heap.DictOf.new s.heap
  have hd2 : s₂.heap.DictOf (strKind B.prog B.w) s.heap.objs.size [] := by
    obtain ⟨o, es, ep, ho, r⟩ := hdo
    exact ⟨o, es, ep, M12.keep _ _ ho hd0, r⟩
  have hnone2 : σ₂ s.heap.objs.size = none := by
    cases q : σ₂ s.heap.objs.size with
    | none => rfl
    | some o =>
      obtain ⟨o', es, ep, ho, r⟩ := hdo
      have := M12.fresh _ (by rw [q]; exact Option.some_ne_none _) hd0
      rw [ho] at this; cases this
  refine ⟨[(k1, v1)], ⟨strKey rfl, rfl, trivial⟩, hd2, fun h' hm hs => ?_⟩
  have e : merged [] [(k1, v1)] = [(k1, v1)] := by
    unfold merged
    simp [stored]
  rw [e] at hm
  obtain ⟨ob, ep, g1, g2⟩ := sdict_new (B := B) (s := { s₂ with heap := h' }) hm
  have hfr : s.heap.get? s.heap.objs.size = none := Heap.get?_none_of_le (Nat.le_refl _)
  have hoff : B.s₀.heap.get? s.heap.objs.size = none := by
    cases q : B.s₀.heap.get? s.heap.objs.size with
    | none => rfl
    | some o => have := S.base _ _ q; rw [hfr] at this; cases this
  have SF : Sh B (upd σ₂ s.heap.objs.size (.sdict [(k1, er v1)] ep)) { s₂ with heap := h', toks := s₂.toks + [((Value.str k1 s.toks), v1)].length } := by
    refine ⟨S₂.ok, by obtain ⟨_, _, rfl⟩ := S₂.same; exact ⟨_, _, rfl⟩, fun b o e => (hs.2 b (fun q => by rw [q, hoff] at e; cases e)).trans (S₂.base b o e), fun b hb => ?_, fun b hb => ?_, fun b o' e => ?_⟩
    · by_cases e : b = s.heap.objs.size
      · rw [e]; exact hoff
      · rw [upd_ne e] at hb; exact S₂.off b hb
    · by_cases e : b = s.heap.objs.size
      · rw [e]; exact S.hiSize
      · rw [upd_ne e] at hb; exact S₂.hi b hb
    · by_cases q : b = s.heap.objs.size
      · subst q; rw [upd_self] at e; cases e; exact ⟨ob, g1, g2⟩
      · rw [upd_ne q] at e; obtain ⟨ob', h1, h2⟩ := S₂.objs b o' e; exact ⟨ob', (hs.2 b q).trans h1, h2⟩
  refine ⟨_, SF, ⟨fun b o e hn => ?_, fun b h1 h2 => ?_⟩, q₂ _ _ hnone2 hd0⟩
  · have hb : b ≠ s.heap.objs.size := fun q => by rw [q, hfr] at e; cases e
    exact (hs.2 b hb).trans ((M₀.trans M12).keep b o e hn)
  · by_cases e : b = s.heap.objs.size
    · rw [e]; exact hfr
    · rw [upd_ne e] at h1; exact (M₀.trans M12).fresh b h1 h2

/-- the classes that a vector tells -/
def Cls (B : Base) (σ : St) (f : Str → Option V) (ks : List Str) : Prop := (f "class" = none ∧ ks = []) ∨ ∃ cv, f "class" = some cv ∧ Chr B σ cv ks
theorem Cls.ext {f : Str → Option V} {ks : List Str} (h : Cls B σ f ks) (e : Ext σ σ') : Cls B σ' f ks := h.imp id fun ⟨cv, h1, h2⟩ => ⟨cv, h1, h2.ext e⟩
theorem class_attr_c (D : Defs B) {x l : Addr} {kind : Str} {at_ : V} {f : Str → Option V} {ks : List Str} (hv : Vc B σ x kind l at_) (ha : At σ at_ f) (hc : Cls B σ f ks) (hz : ks.length ≤ 1000) (h : ∀ d σ', Ext σ σ' → σ d = none → σ' d = some (.list (tV ks)) → Q (.ref d) σ') :
    WC B (n + 2) "class_attr" [.ref x] σ Q := by
  refine WC.enter1 (p1 := "v") (D.f 38 rfl) ?_
  refine WSs.cons (WS.assign (WE.call2 (D.f 31 rfl) (WE.nm rfl (WE.cStr (get_attr_c D hv ha ?_)))))
  rcases hc with ⟨hf, rfl⟩ | ⟨cv, hf, hc⟩
  · rw [hf]
    refine WSs.cons (WS.if (WT.isNone (WE.nm rfl (iteT rfl ?_))))
    exact WSs.cons (WS.ret (WE.list (WEs.nil ⟨Nat.zero_le _, fun d hd => h d _ (Ext.new hd _) hd (upd_self ..)⟩)))
  · obtain ⟨cx, cl, rfl, c1, c2⟩ := hc.ex
    rw [hf]
    refine WSs.cons (WS.if (WT.isNone (WE.nm rfl (iteF rfl (WSs.nil ?_)))))
    exact WSs.cons (WS.ret (WE.listC (WE.items (WE.nm rfl ⟨_, _, _, _, rfl, c1, WO.listOf (.inl c2) (by rw [tV_len, sizeLine_eq]; omega) fun d hd => h d _ (Ext.new hd _) hd (upd_self ..)⟩))))
def hasS (ks : List Str) (s : Str) : Bool := ks.any (· == s)
theorem any_tV (ks : List Str) (s : Str) : ((tV ks).any fun y => eqV y (.str s)) = hasS ks s := by
  unfold tV hasS
  rw [List.any_map]
  congr 1
theorem flat_tV {ks : List Str} : ∀ y ∈ tV ks, flat y = true := fun y hy => by
  obtain ⟨s, _, rfl⟩ := List.mem_map.mp hy; rfl
theorem is_factor_c (D : Defs B) {x l : Addr} {kind : Str} {at_ : V} {f : Str → Option V} {ks : List Str} (hv : Vc B σ x kind l at_) (ha : At σ at_ f) (hc : Cls B σ f ks) (hz : ks.length ≤ 1000) (h : ∀ σ', Ext σ σ' → Q (.bool (kind == "integer" && hasS ks "factor")) σ') :
    WC B (n + 3) "is_factor" [.ref x] σ Q := by
  refine WC.enter1 (p1 := "v") (D.f 76 rfl) ?_
  refine WSs.cons (WS.ret (WE.and2 (WE.eqS (WE.kind (WE.nm rfl ⟨_, _, _, _, rfl, hv, _, rfl, QB.mk ?_⟩)))))
  cases hk : kind == ("integer" : Str) with
  | false => rw [hk] at h; exact iteF rfl (h σ (Ext.refl _))
  | true =>
    rw [hk] at h
    refine iteT rfl (WE.cmp (WE.cStr (WE.call1 (D.f 38 rfl) (WE.nm rfl (class_attr_c D hv ha hc hz fun d σ₁ e h1 h2 => WO.inList (.inl h2) flat_tV rfl ?_)))))
    rw [any_tV]
    exact h _ e
theorem is_ordered_c (D : Defs B) {x l : Addr} {kind : Str} {at_ : V} {f : Str → Option V} {ks : List Str} (hv : Vc B σ x kind l at_) (ha : At σ at_ f) (hc : Cls B σ f ks) (hz : ks.length ≤ 1000) (h : ∀ σ', Ext σ σ' → Q (.bool (kind == "integer" && hasS ks "factor" && hasS ks "ordered")) σ') :
    WC B (n + 4) "is_ordered" [.ref x] σ Q := by
  refine WC.enter1 (p1 := "v") (D.f 77 rfl) ?_
  refine WSs.cons (WS.ret (WE.and2 (WE.call1 (D.f 76 rfl) (WE.nm rfl (is_factor_c D hv ha hc hz fun σ₁ e₁ => QB.mk ?_)))))
  cases hk : kind == ("integer" : Str) && hasS ks "factor" with
  | false => rw [hk] at h; exact iteF rfl (h _ e₁)
  | true =>
    rw [hk] at h
    refine iteT rfl (WE.cmp (WE.cStr (WE.call1 (D.f 38 rfl) (WE.nm rfl (class_attr_c D (hv.ext e₁) (ha.ext e₁) (hc.ext e₁) hz fun d σ₂ e h1 h2 => WO.inList (.inl h2) flat_tV rfl ?_)))))
    rw [any_tV]
    exact h _ (e₁.trans e)
def kindsOf (b : Bool) : List Str := if b then ["ordered", "factor"] else ["factor"]
theorem factor_class_c (D : Defs B) {b : Bool} (h : ∀ v σ', Ext σ σ' → ChrN B σ σ' v (kindsOf b) → Q v σ') : WC B (n + 4) "factor_class" [.bool b] σ Q := by
  refine WC.enter1 (p1 := "ordered") (D.f 80 rfl) ?_
  refine WSs.cons (WS.if (WT.val (WE.nm rfl (QB.mk ?_))))
  cases b with
  | true =>
    refine iteT rfl (WSs.cons (WS.ret (WE.call1 (D.f 23 rfl) (WE.list (WEs.cons (WE.cStr (WEs.cons (WE.cStr (WEs.nil ⟨Nat.le_of_ble_eq_true rfl, fun d hd => ?_⟩)))))))))
    exact chrN_c D (ts := kindsOf true) (.inl (upd_self ..)) (Nat.le_of_ble_eq_true rfl) fun v σ' e h4 => h _ _ ((Ext.new hd _).trans e) (h4.old (Ext.new hd _))
  | false =>
    refine iteF rfl (WSs.nil (WSs.cons (WS.ret (WE.call1 (D.f 23 rfl) (WE.list (WEs.cons (WE.cStr (WEs.nil ⟨Nat.le_of_ble_eq_true rfl, fun d hd => ?_⟩))))))))
    exact chrN_c D (ts := kindsOf false) (.inl (upd_self ..)) (Nat.le_of_ble_eq_true rfl) fun v σ' e h4 => h _ _ ((Ext.new hd _).trans e) (h4.old (Ext.new hd _))
theorem length_c (D : Defs B) {x l : Addr} {kind : Str} {at_ : V} {xs : List V} (hv : Vc B σ x kind l at_) (hk : (kind == "NULL") = false) (hl : σ l = some (.list xs)) (hz : xs.length ≤ 1000000) (h : Q (.int xs.length) σ) : WC B (n + 1) "length" [.ref x] σ Q := by
  refine WC.enter1 (p1 := "v") (D.f 26 rfl) ?_
  refine WSs.cons (WS.assign (WE.kind (WE.nm rfl ⟨_, _, _, _, rfl, hv, ?_⟩)))
  refine WSs.cons (WS.if (WT.eqS (WE.nm rfl ⟨_, rfl, iteF hk (WSs.nil ?_)⟩)))
  refine WSs.cons (WS.if (WT.or (WT.val (WE.isVecC (WE.nm rfl ⟨_, _, _, _, rfl, hv, QB.mk (iteT rfl (iteT rfl ?_))⟩)))))
  exact WSs.cons (WS.ret (WE.len (WE.items (WE.nm rfl ⟨_, _, _, _, rfl, hv, WO.lenList (.inl hl) (by omega) h⟩))))
theorem share_c (D : Defs B) {x d l : Addr} {kind : Str} {at_ : V} (hv : Vd B σ x d kind l at_) (h : ∀ σ', ExtB d σ σ' → (∀ a, σ a = none → σ' a = none) → Vd B σ' x d kind l at_ → Q (.ref x) σ') : WC B (n + 1) "share" [.ref x] σ Q := by
  refine WC.enter1 (p1 := "v") (D.f 29 rfl) ?_
  refine WSs.cons (WS.if (WT.val (WE.isVecC (WE.nm rfl ⟨_, _, _, _, rfl, hv.vc, QB.mk (iteT rfl ?_)⟩))))
  obtain ⟨sh, lo, h1, h2⟩ := hv.ex
  refine WSs.cons (WS.attr rfl (WE.cBool (WE.nm rfl ⟨x, d, _, rfl, h1, h2, Nat.le_of_ble_eq_true rfl, WSs.nil ?_⟩)))
  rw [vkv_shared]
  refine WSs.cons (WS.ret (WE.nm rfl (h _ (ExtB.upd _ _ _) (fun a ha => ?_) ⟨true, lo, (upd_ne hv.ne).trans h1, upd_self ..⟩)))
  rw [upd_ne fun e => by rw [e, h2] at ha; cases ha]; exact ha
end
end Mine

namespace Mine
section
variable {B : Base} {n : Nat} {sc scope : Scope} {m : Loc} {σ σ' σ₀ σ₁ : St} {Q : V → St → Prop} {P : Bool → St → Prop}

theorem named_none_c (D : Defs B) {x : Addr} (h : Q (.ref x) σ) : WC B (n + 1) "named" [.ref x, .none] σ Q := by
  refine WC.enter2 (p1 := "v") (p2 := "names") (D.f 24 rfl) ?_
  refine WSs.cons (WS.if (WT.isNotNone (WE.nm rfl (iteF rfl (WSs.nil ?_)))))
  exact WSs.cons (WS.ret (WE.nm rfl h))
theorem named_some_c (D : Defs B) {x d l ln : Addr} {kind : Str} {at_ : V} {ts : List Str} (hv : Vd B σ x d kind l at_) (hl : rd B σ ln (.list (tV ts))) (hz : ts.length ≤ 1000)
    (h : ∀ σ' ad nv ep, σ ad = none → ExtB d σ σ' → Vd B σ' x d kind l (.ref ad) → σ' ad = some (.sdict [("names", nv)] ep) → ChrN B σ σ' nv ts → Q (.ref x) σ') : WC B (n + 5) "named" [.ref x, .ref ln] σ Q := by
  refine WC.enter2 (p1 := "v") (p2 := "names") (D.f 24 rfl) ?_
  refine WSs.cons (WS.if (WT.isNotNone (WE.nm rfl (iteT rfl ?_))))
  obtain ⟨sh, lo, h1, h2⟩ := hv.ex
  refine WSs.cons (WS.attr rfl (WE.dict1 (WE.call1 (D.f 23 rfl) (WE.nm rfl (chrN_c D hl (by omega) fun nv σ₁ e c1 a ep ha ha' => ?_)))))
  have E : Ext σ (upd σ₁ a (.sdict [("names", nv)] ep)) := e.up ha' _
  refine WE.nm rfl ⟨x, d, _, rfl, E.get _ _ h1, E.get _ _ h2, Nat.le_of_ble_eq_true rfl, WSs.nil ?_⟩
  rw [vkv_attrs]
  have hda : a ≠ d := fun q => by rw [q, h2] at ha'; cases ha'
  have hB : ExtB d (upd σ₁ a (.sdict [("names", nv)] ep)) (upd (upd σ₁ a (.sdict [("names", nv)] ep)) d (.attrs (vkv kind l (.ref a) sh lo))) := ExtB.upd _ _ _
  exact WSs.cons (WS.ret (WE.nm rfl (h _ a nv ep ha' ((E.toB d).trans hB) ⟨sh, lo, (upd_ne hv.ne).trans (E.get _ _ h1), upd_self ..⟩ ((upd_ne hda).trans (upd_self ..)) ((c1.ext (Ext.new ha _)).but hB (by rw [h2]; exact Option.some_ne_none _)))))

theorem Vd.butD {x d l a : Addr} {kind : Str} {at_ : V} {kvs : List (Str × V)} {ep : Nat} (h : Vd B σ x d kind l at_) (ha : σ a = some (.sdict kvs ep)) (e : ExtB a σ σ') : Vd B σ' x d kind l at_ := by
  obtain ⟨sh, lo, h1, h2⟩ := h.ex
  exact ⟨sh, lo, e.get _ _ (fun q => by rw [q, ha] at h1; cases h1) h1, e.get _ _ (fun q => by rw [q, ha] at h2; cases h2) h2⟩
theorem rd.butD {a b : Addr} {xs : List V} {kvs : List (Str × V)} {ep : Nat} (h : rd B σ b (.list xs)) (ha : σ a = some (.sdict kvs ep)) (e : ExtB a σ σ') : rd B σ' b (.list xs) :=
  h.imp (fun q => e.get _ _ (fun w => by rw [w, ha] at q; cases q) q) id
theorem wl_rest (D : Defs B) {x d l ad lt : Addr} {kind : Str} {kvs : List (Str × V)} {ep : Nat} {ts : List Str} {b : Bool} (hv : Vd B σ x d kind l (.ref ad)) (had : σ ad = some (.sdict kvs ep)) (hk : kvs.length ≤ 100) (hl : rd B σ lt (.list (tV ts))) (hz : ts.length ≤ 1000) (hm1 : m "v" = some (.ref x)) (hm2 : m "texts" = some (.ref lt)) (hm3 : m "ordered" = some (.bool b))
    (h : ∀ σ' lv cv ep', ExtB ad σ σ' → Vd B σ' x d kind l (.ref ad) → σ' ad = some (.sdict (stS (stS kvs "levels" lv) "class" cv) ep') → ChrN B σ σ' lv ts → ChrN B σ σ' cv (kindsOf b) → Q (.ref x) σ') :
    WSs B (n + 5) (fn 81).2.2.2 (fn 81).2.2.1.tail m σ (fun _ σ' => Q .none σ') Q := by
  refine WSs.cons (WS.item (WE.call1 (D.f 23 rfl) (WE.nm hm2 (chrN_c D hl (by omega) fun lv σ₁ e₁ c1 => WE.attrs (WE.nm hm1 ⟨_, _, _, _, rfl, (hv.ext e₁).vc, rfl, WE.cStr (SItem.sdict (e₁.get _ _ had) (by rw [sizeLine_eq]; omega) fun ep₁ => ?_)⟩)))))
  have B₁ : ExtB ad σ₁ (upd σ₁ ad (.sdict (stS kvs "levels" lv) ep₁)) := ExtB.upd _ _ _
  have v₁ := (hv.ext e₁).butD (e₁.get _ _ had) B₁
  have c1' := c1.but B₁ (by rw [had]; exact Option.some_ne_none _)
  have z1 : (stS kvs "levels" lv).length ≤ kvs.length + 1 := by unfold stS; split <;> simp
  refine WSs.cons (WS.item (WE.call1 (D.f 80 rfl) (WE.nm hm3 (factor_class_c D fun cv σ₂ e₂ c2 => WE.attrs (WE.nm hm1 ⟨_, _, _, _, rfl, (v₁.ext e₂).vc, rfl, WE.cStr (SItem.sdict (e₂.get _ _ (upd_self ..)) (by rw [sizeLine_eq]; omega) fun ep₂ => ?_)⟩)))))
  have B₂ : ExtB ad σ₂ (upd σ₂ ad (.sdict (stS (stS kvs "levels" lv) "class" cv) ep₂)) := ExtB.upd _ _ _
  refine WSs.cons (WS.ret (WE.nm hm1 (h _ lv cv ep₂ ((e₁.toB ad).trans (B₁.trans ((e₂.toB ad).trans B₂))) ((v₁.ext e₂).butD (e₂.get _ _ (upd_self ..)) B₂) (upd_self ..) ((c1'.ext e₂).but B₂ (by rw [had]; exact Option.some_ne_none _)) ((c2.but B₂ (by rw [upd_self]; exact Option.some_ne_none _)).oldD (e₁.dm.trans (B₁.dm (by rw [upd_self]; exact Option.some_ne_none _)))))))
theorem with_levels_some_c (D : Defs B) {x d l ad lt : Addr} {kind : Str} {kvs : List (Str × V)} {ep : Nat} {ts : List Str} {b : Bool} (hv : Vd B σ x d kind l (.ref ad)) (had : σ ad = some (.sdict kvs ep)) (hk : kvs.length ≤ 100) (hl : rd B σ lt (.list (tV ts))) (hz : ts.length ≤ 1000)
    (h : ∀ σ' lv cv ep', ExtB ad σ σ' → Vd B σ' x d kind l (.ref ad) → σ' ad = some (.sdict (stS (stS kvs "levels" lv) "class" cv) ep') → ChrN B σ σ' lv ts → ChrN B σ σ' cv (kindsOf b) → Q (.ref x) σ') :
    WC B (n + 6) "with_levels" [.ref x, .ref lt, .bool b] σ Q := by
  refine WC.enter3 (p1 := "v") (p2 := "texts") (p3 := "ordered") (D.f 81 rfl) ?_
  refine WSs.cons (WS.if (WT.isNone (WE.attrs (WE.nm rfl ⟨_, _, _, _, rfl, hv.vc, rfl, iteF rfl (WSs.nil ?_)⟩))))
  exact wl_rest D hv had hk hl hz rfl rfl rfl h
theorem with_levels_none_c (D : Defs B) {x d l lt : Addr} {kind : Str} {ts : List Str} {b : Bool} (hv : Vd B σ x d kind l .none) (hl : rd B σ lt (.list (tV ts))) (hz : ts.length ≤ 1000)
    (h : ∀ σ' ad lv cv ep', σ ad = none → ExtB d σ σ' → Vd B σ' x d kind l (.ref ad) → σ' ad = some (.sdict [("levels", lv), ("class", cv)] ep') → ChrN B σ σ' lv ts → ChrN B σ σ' cv (kindsOf b) → Q (.ref x) σ') :
    WC B (n + 6) "with_levels" [.ref x, .ref lt, .bool b] σ Q := by
  refine WC.enter3 (p1 := "v") (p2 := "texts") (p3 := "ordered") (D.f 81 rfl) ?_
  obtain ⟨sh, lo, h1, h2⟩ := hv.ex
  refine WSs.cons (WS.if (WT.isNone (WE.attrs (WE.nm rfl ⟨_, _, _, _, rfl, hv.vc, rfl, iteT rfl ?_⟩))))
  refine WSs.cons (WS.attr rfl (WE.dict0s fun ad ep had => WE.nm rfl ⟨x, d, _, rfl, (Ext.new had _).get _ _ h1, (Ext.new had _).get _ _ h2, Nat.le_of_ble_eq_true rfl, WSs.nil ?_⟩))
  rw [vkv_attrs]
  have hda : ad ≠ d := fun q => by rw [q, h2] at had; cases had
  have B₀ : ExtB d σ (upd (upd σ ad (.sdict [] ep)) d (.attrs (vkv kind l (.ref ad) sh lo))) := ((Ext.new had _).toB d).trans (ExtB.upd _ _ _)
  have dm₀ := B₀.dm (by rw [upd_self]; exact Option.some_ne_none _)
  have hln : ∀ {xs}, rd B σ lt (.list xs) → rd B (upd (upd σ ad (.sdict [] ep)) d (.attrs (vkv kind l (.ref ad) sh lo))) lt (.list xs) := fun q => q.imp (fun w => B₀.get _ _ (fun e => by rw [e, h2] at w; cases w) w) id
  have had' : (upd (upd σ ad (.sdict [] ep)) d (.attrs (vkv kind l (.ref ad) sh lo))) ad = some (.sdict [] ep) := (upd_ne hda).trans (upd_self ..)
  refine wl_rest D (kvs := []) ⟨sh, lo, (upd_ne hv.ne).trans ((Ext.new had _).get _ _ h1), upd_self ..⟩ had' (Nat.zero_le _) (hln hl) hz rfl rfl rfl fun σ' lv cv ep' e v' a' c1 c2 => h σ' ad lv cv ep' had ⟨fun a o ne q => e.get _ _ (fun w => by rw [w, had] at q; cases q) (B₀.get _ _ ne q)⟩ v' a' (c1.oldD dm₀) (c2.oldD dm₀)

theorem dim_of_c (D : Defs B) {x l : Addr} {kind : Str} {at_ : V} {f : Str → Option V} (hv : Vc B σ x kind l at_) (ha : At σ at_ f) (hf : f "dim" = none) (h : Q .none σ) : WC B (n + 2) "dim_of" [.ref x] σ Q := by
  refine WC.enter1 (p1 := "v") (D.f 36 rfl) ?_
  refine WSs.cons (WS.assign (WE.call2 (D.f 31 rfl) (WE.nm rfl (WE.cStr (get_attr_c D hv ha ?_)))))
  rw [hf]
  refine WSs.cons (WS.if (WT.isNone (WE.nm rfl (iteT rfl ?_))))
  exact WSs.cons (WS.ret (WE.cNone h))
theorem dimnames_of_c (D : Defs B) {x l : Addr} {kind : Str} {at_ : V} {f : Str → Option V} (hv : Vc B σ x kind l at_) (ha : At σ at_ f) (hf : f "dimnames" = none) (h : Q .none σ) : WC B (n + 2) "dimnames_of" [.ref x] σ Q := by
  refine WC.enter1 (p1 := "v") (D.f 37 rfl) ?_
  refine WSs.cons (WS.assign (WE.call2 (D.f 31 rfl) (WE.nm rfl (WE.cStr (get_attr_c D hv ha ?_)))))
  rw [hf]
  refine WSs.cons (WS.if (WT.isNone (WE.nm rfl (iteT rfl ?_))))
  exact WSs.cons (WS.ret (WE.cNone h))
/-- the names that a vector tells -/
def NmR (B : Base) (σ : St) (f : Str → Option V) : Option (List Str) → Prop
  | none => f "names" = none
  | some ts => ∃ nv, f "names" = some nv ∧ Chr B σ nv ts
theorem NmR.ext {f : Str → Option V} : ∀ {o : Option (List Str)}, NmR B σ f o → Ext σ σ' → NmR B σ' f o
  | none, h, _ => h
  | some _, ⟨nv, h1, h2⟩, e => ⟨nv, h1, h2.ext e⟩
/-- names as a value: None, or a fresh list -/
def NmV (σ₀ σ : St) (v : V) : Option (List Str) → Prop
  | none => v = .none
  | some ts => ∃ d, v = .ref d ∧ σ₀ d = none ∧ σ d = some (.list (tV ts))
theorem names_of_c (D : Defs B) {x l : Addr} {kind : Str} {at_ : V} {f : Str → Option V} {o : Option (List Str)} (hv : Vc B σ x kind l at_) (hk : ((kind == "language") || (kind == "environment")) = false) (ha : At σ at_ f) (hf : f "dim" = none) (hn : NmR B σ f o) (hz : ∀ ts, o = some ts → ts.length ≤ 1000) (h : ∀ v σ', Ext σ σ' → NmV σ σ' v o → Q v σ') :
    WC B (n + 3) "names_of" [.ref x] σ Q := by
  rw [Bool.or_eq_false_iff] at hk
  refine WC.enter1 (p1 := "v") (D.f 35 rfl) ?_
  refine WSs.cons (WS.if (WT.eqS (WE.kind (WE.nm rfl ⟨_, _, _, _, rfl, hv, _, rfl, iteF hk.1 (WSs.nil ?_)⟩))))
  refine WSs.cons (WS.if (WT.eqS (WE.kind (WE.nm rfl ⟨_, _, _, _, rfl, hv, _, rfl, iteF hk.2 (WSs.nil ?_)⟩))))
  refine WSs.cons (WS.assign (WE.call1 (D.f 36 rfl) (WE.nm rfl (dim_of_c D hv ha hf ?_))))
  refine WSs.cons (WS.if (WT.and (WT.isNotNone (WE.nm rfl (iteF rfl (iteF rfl (WSs.nil ?_)))))))
  refine WSs.cons (WS.assign (WE.call2 (D.f 31 rfl) (WE.nm rfl (WE.cStr (get_attr_c D hv ha ?_)))))
  cases o with
  | none =>
    rw [show f "names" = none from hn]
    refine WSs.cons (WS.if (WT.isNone (WE.nm rfl (iteT rfl ?_))))
    exact WSs.cons (WS.ret (WE.cNone (h _ _ (Ext.refl _) rfl)))
  | some ts =>
    obtain ⟨nv, h1, h2⟩ := hn
    obtain ⟨cx, cl, rfl, c1, c2⟩ := h2.ex
    rw [h1]
    refine WSs.cons (WS.if (WT.isNone (WE.nm rfl (iteF rfl (WSs.nil ?_)))))
    have := hz ts rfl
    exact WSs.cons (WS.ret (WE.listC (WE.items (WE.nm rfl ⟨_, _, _, _, rfl, c1, WO.listOf (.inl c2) (by rw [tV_len, sizeLine_eq]; omega) fun d hd => h _ _ (Ext.new hd _) ⟨d, rfl, hd, upd_self ..⟩⟩))))
theorem result_kind_c (D : Defs B) {kind : Str} (hk : (kind == "pairlist") = false) (h : Q (.str kind) σ) : WC B (n + 1) "result_kind" [.str kind] σ Q := by
  refine WC.enter1 (p1 := "kind") (D.f 59 rfl) ?_
  refine WSs.cons (WS.if (WT.eqS (WE.nm rfl ⟨_, rfl, iteF hk (WSs.nil ?_)⟩)))
  exact WSs.cons (WS.ret (WE.nm rfl h))
theorem whole_subscripts_c (D : Defs B) {x l : Addr} {at_ : V} (hv : Vc B σ x "integer" l at_) (h : Q (.ref l) σ) : WC B (n + 1) "whole_subscripts" [.ref x] σ Q := by
  refine WC.enter1 (p1 := "ix") (D.f 43 rfl) ?_
  refine WSs.cons (WS.if (WT.eqS (WE.kind (WE.nm rfl ⟨_, _, _, _, rfl, hv, _, rfl, iteT rfl ?_⟩))))
  exact WSs.cons (WS.ret (WE.items (WE.nm rfl ⟨_, _, _, _, rfl, hv, h⟩)))
theorem is_matrix_index_c (D : Defs B) {v : V} (h : Q (.bool false) σ) : WC B (n + 1) "is_matrix_index" [v, .none] σ Q := by
  refine WC.enter2 (p1 := "ix") (p2 := "dims") (D.f 52 rfl) ?_
  refine WSs.cons (WS.if (WT.or (WT.isNone (WE.nm rfl (iteT rfl (iteT rfl ?_))))))
  exact WSs.cons (WS.ret (WE.cBool h))
theorem matrix_index_c (D : Defs B) {v w : V} (h : Q .none σ) : WC B (n + 2) "matrix_index" [v, .none, w] σ Q := by
  refine WC.enterD3 (p1 := "ix") (p2 := "dims") (p3 := "dimnames") (D.f 55 rfl) ?_
  refine WSs.cons (WS.if (WT.not (WT.val (WE.call2 (D.f 52 rfl) (WE.nm rfl (WE.nm rfl (is_matrix_index_c D (QB.mk (iteT rfl ?_)))))))))
  exact WSs.cons (WS.ret (WE.cNone h))
theorem is_vector_c (D : Defs B) {x l : Addr} {kind : Str} {at_ : V} (hv : Vc B σ x kind l at_) (h : Q (.bool true) σ) : WC B (n + 1) "is_vector" [.ref x] σ Q := by
  refine WC.enter1 (p1 := "v") (D.f 27 rfl) ?_
  exact WSs.cons (WS.ret (WE.isVecC (WE.nm rfl ⟨_, _, _, _, rfl, hv, h⟩)))
end
end Mine

namespace Mine
def nV (js : List Nat) : List V := js.map fun (i : Nat) => V.int (i : Int)
def n1 (js : List Nat) : List V := js.map fun (i : Nat) => V.int ((i : Int) + 1)
def pick (xs : List V) (js : List Nat) : List V := js.map fun i => xs.getD i .none
def pickS (xs : List Str) (js : List Nat) : List Str := js.map fun i => xs.getD i ""
theorem nV_len (js : List Nat) : (nV js).length = js.length := by simp [nV]
theorem n1_len (js : List Nat) : (n1 js).length = js.length := by simp [n1]
theorem n1_get {js : List Nat} {i : Nat} {u : V} (h : (n1 js)[i]? = some u) : ∃ k : Nat, u = .int ((k : Int) + 1) ∧ js[i]? = some k := by
  unfold n1 at h
  rw [List.getElem?_map] at h
  obtain ⟨s, h1, h2⟩ := Option.map_eq_some_iff.mp h
  exact ⟨s, h2.symm, h1⟩
theorem nV_get {js : List Nat} {i : Nat} {u : V} (h : (nV js)[i]? = some u) : ∃ k : Nat, u = .int (k : Int) ∧ js[i]? = some k := by
  unfold nV at h
  rw [List.getElem?_map] at h
  obtain ⟨s, h1, h2⟩ := Option.map_eq_some_iff.mp h
  exact ⟨s, h2.symm, h1⟩
theorem nV_one {js : List Nat} {i k : Nat} (h : js[i]? = some k) : nV (js.take (i + 1)) = nV (js.take i) ++ [.int (k : Int)] := by unfold nV; rw [take_one h, List.map_append]; rfl
theorem pick_one {xs : List V} {js : List Nat} {i k : Nat} (h : js[i]? = some k) : pick xs (js.take (i + 1)) = pick xs (js.take i) ++ [xs.getD k .none] := by unfold pick; rw [take_one h, List.map_append]; rfl
theorem pickS_one {xs : List Str} {js : List Nat} {i k : Nat} (h : js[i]? = some k) : tV (pickS xs (js.take (i + 1))) = tV (pickS xs (js.take i)) ++ [.str (xs.getD k "")] := by unfold pickS tV; rw [take_one h, List.map_append, List.map_append]; rfl
theorem pick_len (xs : List V) (js : List Nat) : (pick xs js).length = js.length := by simp [pick]
theorem pickS_len (xs : List Str) (js : List Nat) : (pickS xs js).length = js.length := by simp [pickS]
theorem get_getD {xs : List V} {k : Nat} (h : k < xs.length) : xs[((k : Nat) : Int).toNat]? = some (xs.getD k .none) := by
  rw [Int.toNat_natCast, List.getD_eq_getElem?_getD, List.getElem?_eq_getElem h]; rfl
theorem tV_getD {xs : List Str} {k : Nat} (h : k < xs.length) : (tV xs)[((k : Nat) : Int).toNat]? = some (.str (xs.getD k "")) := by
  rw [Int.toNat_natCast, List.getD_eq_getElem?_getD, List.getElem?_eq_getElem h]
  unfold tV; rw [List.getElem?_map, List.getElem?_eq_getElem h]; rfl
theorem mem_take {α : Type} {js : List α} {i : Nat} {k : α} (h : js[i]? = some k) : k ∈ js := List.mem_of_getElem? h

section
variable {B : Base} {n : Nat} {sc scope : Scope} {m : Loc} {σ σ' σ₀ σ₁ : St} {Q : V → St → Prop} {P : Bool → St → Prop}

theorem whole_places_c (D : Defs B) {li : Addr} {w : V} {js : List Nat} (hl : rd B σ li (.list (n1 js))) (hz : js.length ≤ 1000) (h : ∀ d σ', Ext σ σ' → σ d = none → σ' d = some (.list (nV js)) → Q (.ref d) σ') : WC B (n + 1) "whole_places" [.ref li, w] σ Q := by
  refine WC.enter2 (p1 := "items") (p2 := "n") (D.f 45 rfl) ?_
  refine WSs.cons (WS.assign (WE.list (WEs.nil ⟨Nat.zero_le _, fun pl hpl => ?_⟩)))
  refine WSs.cons (WS.assign (WE.dict0i fun lo ep hlo => ?_))
  refine WSs.cons (WS.assign (WE.cBool ?_))
  have hne : lo ≠ pl := fun e => by rw [e, upd_self] at hlo; cases hlo
  have hlo' : σ lo = none := by rw [upd_ne hne] at hlo; exact hlo
  have E₀ : Ext σ (upd (upd σ pl (.list [])) lo (.idict [] ep)) := (Ext.new hpl _).up hlo' _
  refine WSs.cons (WS.for (WE.nm rfl ⟨n1 js, _, IterOk.list (hl.ext E₀), fun i m' σ' => Agree ["item"] _ m' ∧ Ext σ σ' ∧ σ' pl = some (.list (nV (js.take i))) ∧ σ' lo = some (.idict [] ep), ⟨Agree.refl _ _, E₀, (upd_ne (Ne.symm hne)).trans (upd_self ..), upd_self ..⟩, fun i m' σ' q => hl.ext q.2.1, fun i u m' σ' hu q => ?_, fun m' σ' q => ?_⟩))
  · obtain ⟨k, rfl, hk⟩ := n1_get hu
    obtain ⟨ag, e, hp, hq⟩ := q
    have ag' := ag.up (x := "item") rfl (.int ((k : Int) + 1))
    refine WSs.cons (WS.if (WT.isNone (WE.nm rfl (iteF rfl ?_))))
    refine WSs.cons (WS.if (WT.cmp (WE.nm rfl (WE.cInt (WO.gtInt (QB.mk (iteT (decide_eq_true (by omega)) ?_)))))))
    refine WSs.cons (WS.expr (WE.append (WE.nm ((ag'.get rfl).trans rfl) ⟨pl, rfl, ⟨_, hp⟩, WE.bin (WE.nm rfl (WE.cInt (WO.subInt ⟨_, hp, by rw [nV_len, List.length_take, sizeLine_eq]; omega, WSs.nil (WSs.nil (WSs.nil ⟨ag', e.up hpl _, ?_, (upd_ne hne).trans hq⟩))⟩)))⟩)))
    rw [upd_self, nV_one hk]
    congr 3
    simp
  · obtain ⟨ag, e, hp, hq⟩ := q
    rw [n1_len, List.take_length] at hp
    refine WSs.cons (WS.if (WT.cmp (WE.len (WE.nm ((ag.get rfl).trans rfl) (WO.lenIdict hq (by decide) (WE.cInt (WO.eqInt (QB.mk (iteT rfl ?_)))))))))
    exact WSs.cons (WS.ret (WE.nm ((ag.get rfl).trans rfl) (h pl σ' e hpl hp)))
theorem positions_c (D : Defs B) {x l : Addr} {at_ u w : V} {b : Bool} {js : List Nat} (hv : Vc B σ x "integer" l at_) (hl : σ l = some (.list (n1 js))) (hz : js.length ≤ 1000) (h : ∀ t d σ', Ext σ σ' → σ d = none → σ' d = some (.list (nV js)) → σ' t = some (.tup [.ref d, .none]) → Q (.ref t) σ') :
    WC B (n + 2) "positions" [.ref x, u, w, .bool b] σ Q := by
  refine WC.enter4 (p1 := "ix") (p2 := "n") (p3 := "names") (p4 := "extend") (D.f 49 rfl) ?_
  refine WSs.cons (WS.assign (WE.kind (WE.nm rfl ⟨_, _, _, _, rfl, hv, ?_⟩)))
  refine WSs.cons (WS.if (WT.eqS (WE.nm rfl ⟨_, rfl, iteF rfl (WSs.nil ?_)⟩)))
  refine WSs.cons (WS.if (WT.eqS (WE.nm rfl ⟨_, rfl, iteF rfl (WSs.nil ?_)⟩)))
  refine WSs.cons (WS.if (WT.eqS (WE.nm rfl ⟨_, rfl, iteF rfl (WSs.nil ?_)⟩)))
  refine WSs.cons (WS.if (WT.or (WT.eqS (WE.nm rfl ⟨_, rfl, iteT rfl (iteT rfl ?_)⟩))))
  refine WSs.cons (WS.ret (WE.tuple (WEs.cons (WE.call2 (D.f 45 rfl) (WE.call1 (D.f 43 rfl) (WE.nm rfl (whole_subscripts_c D hv (WE.nm rfl (whole_places_c D (.inl hl) hz fun d σ' e hd hd' => WEs.cons (WE.cNone (WEs.nil ⟨Nat.le_of_ble_eq_true rfl, fun t ht => ?_⟩)))))))))))
  exact h t d _ (e.up (e.noneOf ht) _) hd ((upd_ne (ne_of_new ht hd')).trans hd') (upd_self ..)
theorem items_at_c (D : Defs B) {x l p : Addr} {kind : Str} {at_ : V} {xs : List V} {js : List Nat} (hv : Vc B σ x kind l at_) (hl : σ l = some (.list xs)) (hp : σ p = some (.list (nV js))) (hz : js.length ≤ 1000) (hz' : xs.length ≤ 1000) (hj : ∀ j ∈ js, j < xs.length)
    (h : ∀ d σ', Ext σ σ' → σ d = none → σ' d = some (.list (pick xs js)) → Q (.ref d) σ') : WC B (n + 1) "items_at" [.ref x, .ref p] σ Q := by
  refine WC.enter2 (p1 := "v") (p2 := "places") (D.f 60 rfl) ?_
  refine WSs.cons (WS.assign (WE.list (WEs.nil ⟨Nat.zero_le _, fun fd hfd => ?_⟩)))
  have E₀ : Ext σ (upd σ fd (.list [])) := Ext.new hfd _
  refine WSs.cons (WS.assign (WE.len (WE.items (WE.nm rfl ⟨_, _, _, _, rfl, hv.ext E₀, WO.lenList (.inl (E₀.get _ _ hl)) (by omega) ?_⟩))))
  refine WSs.cons (WS.for (WE.nm rfl ⟨nV js, _, IterOk.list (.inl (E₀.get _ _ hp)), fun i m' σ' => Agree ["place"] _ m' ∧ Ext σ σ' ∧ σ' fd = some (.list (pick xs (js.take i))), ⟨Agree.refl _ _, E₀, upd_self ..⟩, fun i m' σ' q => .inl (q.2.1.get _ _ hp), fun i u m' σ' hu q => ?_, fun m' σ' q => ?_⟩))
  · obtain ⟨k, rfl, hk⟩ := nV_get hu
    obtain ⟨ag, e, hq⟩ := q
    have hkx := hj k (mem_take hk)
    have ag' := ag.up (x := "place") rfl (.int (k : Int))
    refine WSs.cons (WS.if (WT.or (WT.isNone (WE.nm rfl (iteF rfl (WT.or (WT.cmp (WE.nm rfl (WE.nm ((ag'.get rfl).trans rfl) (WO.geInt (QB.mk (iteF (decide_eq_false (by omega)) (WT.orNil (iteF rfl ?_))))))))))))))
    refine WSs.cons (WS.expr (WE.append (WE.nm ((ag'.get rfl).trans rfl) ⟨fd, rfl, ⟨_, hq⟩, WE.sub (WE.items (WE.nm ((ag'.get rfl).trans rfl) ⟨_, _, _, _, rfl, hv.ext e, WE.nm rfl (WO.subList (.inl (e.get _ _ hl)) (by omega) (by omega) (get_getD hkx) ⟨_, hq, by rw [pick_len, List.length_take, sizeLine_eq]; omega, WSs.nil (WSs.nil ⟨ag', e.up hfd _, ?_⟩)⟩)⟩))⟩)))
    rw [upd_self, pick_one hk]
  · obtain ⟨ag, e, hq⟩ := q
    rw [nV_len, List.take_length] at hq
    exact WSs.cons (WS.ret (WE.nm ((ag.get rfl).trans rfl) (h fd σ' e hfd hq)))
theorem names_at_c (D : Defs B) {l p : Addr} {xs : List Str} {js : List Nat} (hl : σ l = some (.list (tV xs))) (hp : σ p = some (.list (nV js))) (hz : js.length ≤ 1000) (hz' : xs.length ≤ 1000) (hj : ∀ j ∈ js, j < xs.length)
    (h : ∀ d σ', Ext σ σ' → σ d = none → σ' d = some (.list (tV (pickS xs js))) → Q (.ref d) σ') : WC B (n + 1) "names_at" [.ref l, .ref p] σ Q := by
  refine WC.enter2 (p1 := "names") (p2 := "places") (D.f 61 rfl) ?_
  refine WSs.cons (WS.assign (WE.list (WEs.nil ⟨Nat.zero_le _, fun fd hfd => ?_⟩)))
  have E₀ : Ext σ (upd σ fd (.list [])) := Ext.new hfd _
  refine WSs.cons (WS.for (WE.nm rfl ⟨nV js, _, IterOk.list (.inl (E₀.get _ _ hp)), fun i m' σ' => Agree ["place"] _ m' ∧ Ext σ σ' ∧ σ' fd = some (.list (tV (pickS xs (js.take i)))), ⟨Agree.refl _ _, E₀, upd_self ..⟩, fun i m' σ' q => .inl (q.2.1.get _ _ hp), fun i u m' σ' hu q => ?_, fun m' σ' q => ?_⟩))
  · obtain ⟨k, rfl, hk⟩ := nV_get hu
    obtain ⟨ag, e, hq⟩ := q
    have hkx := hj k (mem_take hk)
    have ag' := ag.up (x := "place") rfl (.int (k : Int))
    refine WSs.cons (WS.if (WT.or (WT.isNone (WE.nm rfl (iteF rfl (WT.or (WT.cmp (WE.nm rfl (WE.len (WE.nm ((ag'.get rfl).trans rfl) (WO.lenList (.inl (e.get _ _ hl)) (by rw [tV_len]; omega) (WO.geInt (QB.mk (iteF (decide_eq_false (by rw [tV_len]; omega)) (WT.orNil (iteF rfl ?_))))))))))))))))
    refine WSs.cons (WS.expr (WE.append (WE.nm ((ag'.get rfl).trans rfl) ⟨fd, rfl, ⟨_, hq⟩, WE.sub (WE.nm ((ag'.get rfl).trans rfl) (WE.nm rfl (WO.subList (.inl (e.get _ _ hl)) (by omega) (by omega) (tV_getD hkx) ⟨_, hq, by rw [tV_len, pickS_len, List.length_take, sizeLine_eq]; omega, WSs.nil (WSs.nil ⟨ag', e.up hfd _, ?_⟩)⟩)))⟩)))
    rw [upd_self, pickS_one hk]
  · obtain ⟨ag, e, hq⟩ := q
    rw [nV_len, List.take_length] at hq
    exact WSs.cons (WS.ret (WE.nm ((ag.get rfl).trans rfl) (h fd σ' e hfd hq)))
end
end Mine

namespace Mine
section
variable {B : Base} {n : Nat} {sc scope : Scope} {m : Loc} {σ σ' σ₀ σ₁ : St} {Q : V → St → Prop} {P : Bool → St → Prop}

/-- attributes that hold names alone, of a dict new to σ₀ -/
def AtW (B : Base) (σ₀ σ : St) (at_ : V) : Option (List Str) → Prop
  | none => at_ = .none
  | some ts => ∃ ad nv ep, at_ = .ref ad ∧ σ₀ ad = none ∧ σ ad = some (.sdict [("names", nv)] ep) ∧ Chr B σ nv ts
theorem AtW.at {at_ : V} : ∀ {o : Option (List Str)}, AtW B σ₀ σ at_ o → ∃ f, At σ at_ f ∧ f "dim" = none ∧ f "dimnames" = none ∧ f "levels" = none ∧ Cls B σ f [] ∧ NmR B σ f o
  | none, h => by
    rw [show at_ = .none from h]
    exact ⟨_, .none, rfl, rfl, rfl, .inl ⟨rfl, rfl⟩, rfl⟩
  | some _, ⟨ad, nv, ep, h1, h2, h3, h4⟩ => by
    rw [h1]
    exact ⟨_, .some h3, rfl, rfl, rfl, .inl ⟨rfl, rfl⟩, nv, rfl, h4⟩
/-- the same, the names new too -/
def AtN (B : Base) (σ₀ σ : St) (at_ : V) : Option (List Str) → Prop
  | none => at_ = .none
  | some ts => ∃ ad nv ep, at_ = .ref ad ∧ σ₀ ad = none ∧ σ ad = some (.sdict [("names", nv)] ep) ∧ ChrN B σ₀ σ nv ts
theorem AtN.old {at_ : V} : ∀ {o : Option (List Str)}, AtN B σ₀ σ at_ o → Ext σ₁ σ₀ → AtN B σ₁ σ at_ o
  | none, h, _ => h
  | some _, ⟨ad, nv, ep, h1, h2, h3, h4⟩, e => ⟨ad, nv, ep, h1, e.noneOf h2, h3, h4.old e⟩
theorem AtN.ext {at_ : V} : ∀ {o : Option (List Str)}, AtN B σ₀ σ at_ o → Ext σ σ' → AtN B σ₀ σ' at_ o
  | none, h, _ => h
  | some _, ⟨ad, nv, ep, h1, h2, h3, h4⟩, e => ⟨ad, nv, ep, h1, h2, e.get _ _ h3, h4.ext e⟩
/-- a new vector with these items and names alone -/
structure NewV (B : Base) (σ₀ σ : St) (v : V) (kind : Str) (xs : List V) (o : Option (List Str)) : Prop where
  ex : ∃ x d l at_, v = .ref x ∧ σ₀ x = none ∧ σ₀ d = none ∧ σ₀ l = none ∧ Vd B σ x d kind l at_ ∧ σ l = some (.list xs) ∧ AtN B σ₀ σ at_ o
theorem NewV.old {v : V} {kind : Str} {xs : List V} {o : Option (List Str)} (h : NewV B σ₀ σ v kind xs o) (e : Ext σ₁ σ₀) : NewV B σ₁ σ v kind xs o :=
  let ⟨x, d, l, at_, h1, h2, h3, h4, h5, h6, h7⟩ := h.ex; ⟨x, d, l, at_, h1, e.noneOf h2, e.noneOf h3, e.noneOf h4, h5, h6, h7.old e⟩
/-- the names may be old -/
structure NewW (B : Base) (σ₀ σ : St) (v : V) (kind : Str) (xs : List V) (o : Option (List Str)) : Prop where
  ex : ∃ x d l at_, v = .ref x ∧ σ₀ x = none ∧ σ₀ d = none ∧ σ₀ l = none ∧ Vd B σ x d kind l at_ ∧ σ l = some (.list xs) ∧ AtW B σ₀ σ at_ o
def opick (o : Option (List Str)) (js : List Nat) : Option (List Str) := o.map fun ts => pickS ts js

theorem subset_vector_c (D : Defs B) {x l ix li : Addr} {kind : Str} {at_ at' : V} {f : Str → Option V} {xs : List V} {o : Option (List Str)} {js : List Nat} (hv : Vc B σ x kind l at_) (hk : ((kind == "language") || (kind == "environment")) = false) (hk' : (kind == "pairlist") = false) (ha : At σ at_ f) (hf : f "dim" = none) (hn : NmR B σ f o)
    (ho : ∀ ts, o = some ts → ts.length = xs.length) (hl : σ l = some (.list xs)) (hz : xs.length ≤ 1000) (hi : Vc B σ ix "integer" li at') (hli : σ li = some (.list (n1 js))) (hz' : js.length ≤ 1000) (hj : ∀ j ∈ js, j < xs.length)
    (h : ∀ v σ', Ext σ σ' → NewV B σ σ' v kind (pick xs js) (opick o js) → Q v σ') : WC B (n + 6) "subset_vector" [.ref x, .ref ix] σ Q := by
  have hoz : ∀ ts, o = some ts → ts.length ≤ 1000 := fun ts e => by rw [ho ts e]; exact hz
  refine WC.enter2 (p1 := "v") (p2 := "ix") (D.f 62 rfl) ?_
  refine WSs.cons (WS.assign (WE.call1 (D.f 35 rfl) (WE.nm rfl (names_of_c D hv hk ha hf hn hoz fun nv σ₁ e₁ hnv => ?_))))
  refine WSs.cons (WS.assign (WE.sub (WE.call4 (D.f 49 rfl) (WE.nm rfl (WE.len (WE.items (WE.nm rfl ⟨_, _, _, _, rfl, hv.ext e₁, WO.lenList (.inl (e₁.get _ _ hl)) (by omega) (WE.nm rfl (WE.cBool (positions_c D (hi.ext e₁) (e₁.get _ _ hli) hz' fun t pl σ₂ e₂ hpl hpl' ht => WE.cInt (WO.subTup (.inl ht) (by decide) (by decide) rfl ?_))))⟩)))))))
  have e12 := e₁.trans e₂
  refine WSs.cons (WS.assign (WE.vec2 D (WE.call1 (D.f 59 rfl) (WE.kind (WE.nm rfl ⟨_, _, _, _, rfl, hv.ext e12, result_kind_c D hk' (WE.call2 (D.f 60 rfl) (WE.nm rfl (WE.nm rfl (items_at_c D (hv.ext e12) (e12.get _ _ hl) hpl' hz' hz hj fun il σ₃ e₃ hil hil' => newQ.vd fun y d σ₄ hy hd e₄ v₄ => ?_))))⟩)))))
  have e13 := e12.trans e₃
  have e14 := e13.trans e₄
  cases o with
  | none =>
    rw [show nv = .none from hnv]
    refine WSs.cons (WS.if (WT.isNotNone (WE.nm rfl (iteF rfl (WSs.nil ?_)))))
    exact WSs.cons (WS.ret (WE.nm rfl (h _ _ e14 ⟨y, d, il, .none, rfl, e13.noneOf hy, e13.noneOf hd, e12.noneOf hil, v₄, e₄.get _ _ hil', rfl⟩)))
  | some ts =>
    obtain ⟨nl, rfl, hn0, hn1⟩ := hnv
    have hts := ho ts rfl
    refine WSs.cons (WS.if (WT.isNotNone (WE.nm rfl (iteT rfl ?_))))
    have e24 := (e₂.trans e₃).trans e₄
    refine WSs.cons (WS.expr (WE.call2 (D.f 24 rfl) (WE.nm rfl (WE.call2 (D.f 61 rfl) (WE.nm rfl (WE.nm rfl (names_at_c D (e24.get _ _ hn1) ((e₃.trans e₄).get _ _ hpl') hz' (by omega) (by rw [hts]; exact hj) fun nl' σ₅ e₅ hnl hnl' => named_some_c D (v₄.ext e₅) (.inl hnl') (by rw [pickS_len]; exact hz') fun σ₆ ad nv' ep had eB v₆ had' c₆ => WSs.nil ?_)))))))
    have e15 := e14.trans e₅
    have E := e15.but eB (e13.noneOf hd)
    refine WSs.cons (WS.ret (WE.nm rfl (h _ _ E ⟨y, d, il, .ref ad, rfl, e13.noneOf hy, e13.noneOf hd, e12.noneOf hil, v₆, ?_, ad, nv', ep, rfl, e15.noneOf had, had', c₆.old e15⟩)))
    have := (e₄.trans e₅).get _ _ hil'
    exact eB.get _ _ ((v₄.ext e₅).list_ne this).1 this
theorem subset_any_c (D : Defs B) {x l ix li il : Addr} {kind : Str} {at_ at' : V} {f : Str → Option V} {xs : List V} {o : Option (List Str)} {js : List Nat} {b b' : Bool} (hv : Vc B σ x kind l at_) (hk : ((kind == "language") || (kind == "environment")) = false) (hk' : (kind == "pairlist") = false) (hk₂ : (kind == "NULL") = false) (ha : At σ at_ f) (hf : f "dim" = none) (hf' : f "dimnames" = none) (hn : NmR B σ f o)
    (ho : ∀ ts, o = some ts → ts.length = xs.length) (hl : σ l = some (.list xs)) (hz : xs.length ≤ 1000) (hil : σ il = some (.list [.ref ix])) (hi : Vc B σ ix "integer" li at') (hli : σ li = some (.list (n1 js))) (hz' : js.length ≤ 1000) (hj : ∀ j ∈ js, j < xs.length)
    (h : ∀ v σ', Ext σ σ' → NewV B σ σ' v kind (pick xs js) (opick o js) → Q v σ') : WC B (n + 7) "subset_any" [.ref x, .ref il, .bool b, .bool b'] σ Q := by
  refine WC.enter4 (p1 := "v") (p2 := "indexes") (p3 := "drop") (p4 := "exact") (D.f 74 rfl) ?_
  refine WSs.cons (WS.if (WT.eqS (WE.kind (WE.nm rfl ⟨_, _, _, _, rfl, hv, _, rfl, iteF hk₂ (WSs.nil ?_)⟩))))
  refine WSs.cons (WS.if (WT.or (WT.cmp (WE.len (WE.nm rfl (WO.lenList (.inl hil) (show 1 < 2 ^ 60 by decide) (WE.cInt (WO.eqInt (QB.mk (iteF rfl (WT.or (WT.and (WT.cmp (WE.len (WE.nm rfl (WO.lenList (.inl hil) (show 1 < 2 ^ 60 by decide) (WE.cInt (WO.eqInt (QB.mk (iteT rfl (WT.and (WT.eqS (WE.kind (WE.sub (WE.nm rfl (WE.cInt (WO.subList (.inl hil) (by decide) (by decide) rfl ⟨_, _, _, _, rfl, hi, _, rfl, iteF rfl (iteF rfl (WT.orNil (iteF rfl (WSs.nil ?_))))⟩)))))))))))))))))))))))))))
  refine WSs.cons (WS.if (WT.eqS (WE.kind (WE.nm rfl ⟨_, _, _, _, rfl, hv, _, rfl, iteF (Bool.or_eq_false_iff.mp hk).1 (WSs.nil ?_)⟩))))
  refine WSs.cons (WS.if (WT.not (WT.val (WE.call1 (D.f 27 rfl) (WE.nm rfl (is_vector_c D hv (QB.mk (iteF rfl (WSs.nil ?_)))))))))
  refine WSs.cons (WS.assign (WE.call1 (D.f 36 rfl) (WE.nm rfl (dim_of_c D hv ha hf ?_))))
  refine WSs.cons (WS.if (WT.cmp (WE.len (WE.nm rfl (WO.lenList (.inl hil) (show 1 < 2 ^ 60 by decide) (WE.cInt (WO.eqInt (QB.mk (iteT rfl ?_)))))))))
  refine WSs.cons (WS.assign (WE.call3 (D.f 55 rfl) (WE.sub (WE.nm rfl (WE.cInt (WO.subList (.inl hil) (by decide) (by decide) rfl (WE.nm rfl (WE.call1 (D.f 37 rfl) (WE.nm rfl (dimnames_of_c D hv ha hf' (matrix_index_c D ?_)))))))))))
  refine WSs.cons (WS.if (WT.isNotNone (WE.nm rfl (iteF rfl (WSs.nil ?_)))))
  refine WSs.cons (WS.if (WT.and (WT.isNotNone (WE.nm rfl (iteF rfl (iteF rfl (WSs.nil ?_)))))))
  exact WSs.cons (WS.ret (WE.call2 (D.f 62 rfl) (WE.nm rfl (WE.sub (WE.nm rfl (WE.cInt (WO.subList (.inl hil) (by decide) (by decide) rfl (subset_vector_c D hv hk hk' ha hf hn ho hl hz hi hli hz' hj h))))))))
theorem copy_c (D : Defs B) {fC : Addr} (hC : FnA B fC "copy" "Vector.copy" (mt 1).2.1 (mt 1).2.2.1 (mt 1).2.2.2 []) {x d l : Addr} {kind : Str} {at_ : V} {xs : List V} {o : Option (List Str)} (hv : Vd B σ x d kind l at_) (hl : σ l = some (.list xs)) (hz : xs.length ≤ 1000) (ha : AtN B σ₀ σ at_ o) (e₀ : Ext σ₀ σ)
    (h : ∀ v σ', Ext σ σ' → NewV B σ₀ σ' v kind xs o → Q v σ') : WCa B (n + 4) fC [.ref x] σ Q := by
  refine WCa.enter1 (p1 := "self") hC ?_
  refine WSs.cons (WS.assign (WE.cNone ?_))
  cases o with
  | none =>
    rw [show at_ = .none from ha] at hv
    refine WSs.cons (WS.if (WT.isNotNone (WE.attrs (WE.nm rfl ⟨_, _, _, _, rfl, hv.vc, rfl, iteF rfl (WSs.nil ?_)⟩))))
    refine WSs.cons (WS.ret (WE.vec3 D (WE.kind (WE.nm rfl ⟨_, _, _, _, rfl, hv.vc, WE.listC (WE.items (WE.nm rfl ⟨_, _, _, _, rfl, hv.vc, WO.listOf (.inl hl) (by rw [sizeLine_eq]; omega) fun l' hl' => WE.nm rfl (newQ.vd fun y d' σ₁ hy hd e₁ v₁ => ?_)⟩))⟩))))
    have E := Ext.new (o := .list xs) hl'
    exact h _ _ (E.trans e₁) ⟨y, d', l', .none, rfl, e₀.noneOf (E.noneOf hy), e₀.noneOf (E.noneOf hd), e₀.noneOf hl', v₁, e₁.get _ _ (upd_self ..), rfl⟩
  | some ts =>
    obtain ⟨ad, nv, ep, rfl, _, h3, h4⟩ := ha
    refine WSs.cons (WS.if (WT.isNotNone (WE.attrs (WE.nm rfl ⟨_, _, _, _, rfl, hv.vc, rfl, iteT rfl ?_⟩))))
    refine WSs.cons (WS.assign (WE.dictC (WE.attrs (WE.nm rfl ⟨_, _, _, _, rfl, hv.vc, rfl, WO.dictOf h3 (by rw [sizeLine_eq]; exact Nat.le_of_ble_eq_true rfl) fun ad' ep' had => WSs.nil ?_⟩))))
    have E₀ := Ext.new (o := .sdict [("names", nv)] ep') had
    refine WSs.cons (WS.ret (WE.vec3 D (WE.kind (WE.nm rfl ⟨_, _, _, _, rfl, (hv.ext E₀).vc, WE.listC (WE.items (WE.nm rfl ⟨_, _, _, _, rfl, (hv.ext E₀).vc, WO.listOf (.inl (E₀.get _ _ hl)) (by rw [sizeLine_eq]; omega) fun l' hl' => WE.nm rfl (newQ.vd fun y d' σ₁ hy hd e₁ v₁ => ?_)⟩))⟩))))
    have E₁ := Ext.new (o := .list xs) hl'
    have E := E₀.trans E₁
    exact h _ _ (E.trans e₁) ⟨y, d', l', .ref ad', rfl, e₀.noneOf (E.noneOf hy), e₀.noneOf (E.noneOf hd), e₀.noneOf (E₀.noneOf hl'), v₁, e₁.get _ _ (upd_self ..), ad', nv, ep', rfl, e₀.noneOf had, (E₁.trans e₁).get _ _ (upd_self ..), h4.ext (E.trans e₁)⟩
end
end Mine

namespace Mine
section
variable {B : Base} {n : Nat} {sc scope : Scope} {m : Loc} {σ σ' σ₀ σ₁ : St} {Q : V → St → Prop} {P : Bool → St → Prop}

def facKvs (lv cv : V) : Option V → List (Str × V)
  | none => [("levels", lv), ("class", cv)]
  | some nv => [("levels", lv), ("class", cv), ("names", nv)]
/-- a factor -/
structure Fac (B : Base) (σ : St) (x : Addr) (ts kinds : List Str) (cs : List (Option Int)) (o : Option (List Str)) : Prop where
  ex : ∃ d l ad ep lv cv nvo, Vd B σ x d "integer" l (.ref ad) ∧ σ ad = some (.sdict (facKvs lv cv nvo) ep) ∧ Chr B σ lv ts ∧ Chr B σ cv kinds ∧ σ l = some (.list (csV cs)) ∧ (match nvo, o with | none, none => True | some nv, some hs => Chr B σ nv hs | _, _ => False)
theorem Fac.ext {x : Addr} {ts kinds : List Str} {cs : List (Option Int)} {o : Option (List Str)} (h : Fac B σ x ts kinds cs o) (e : Ext σ σ') : Fac B σ' x ts kinds cs o := by
  obtain ⟨d, l, ad, ep, lv, cv, nvo, h1, h2, h3, h4, h5, h6⟩ := h.ex
  refine ⟨d, l, ad, ep, lv, cv, nvo, h1.ext e, e.get _ _ h2, h3.ext e, h4.ext e, e.get _ _ h5, ?_⟩
  cases nvo <;> cases o <;> first | exact h6 | exact h6.ext e
theorem facKvs_levels (lv cv : V) (o : Option V) : lkS (facKvs lv cv o) "levels" = some lv := by cases o <;> rfl
theorem facKvs_class (lv cv : V) (o : Option V) : lkS (facKvs lv cv o) "class" = some cv := by cases o <;> rfl
def keptAt (nvo : Option V) (i : Nat) : List (Str × V) := match nvo with
  | none => []
  | some nv => if i ≤ 2 then [] else [("names", nv)]
theorem facKvs_get {lv cv u : V} {nvo : Option V} {i : Nat} (h : ((facKvs lv cv nvo).map fun p => V.str p.1)[i]? = some u) : (∃ s, u = .str s ∧ hasS ["levels", "class"] s = true ∧ keptAt nvo (i + 1) = keptAt nvo i) ∨ (u = .str "names" ∧ ∃ nv, nvo = some nv ∧ keptAt nvo i = [] ∧ keptAt nvo (i + 1) = [(("names" : Str), nv)]) := by
  cases nvo with
  | none =>
    match i, h with
    | 0, h => cases h; exact .inl ⟨_, rfl, rfl, rfl⟩
    | 1, h => cases h; exact .inl ⟨_, rfl, rfl, rfl⟩
    | (i + 2), h => cases h
  | some nv =>
    match i, h with
    | 0, h => cases h; exact .inl ⟨_, rfl, rfl, rfl⟩
    | 1, h => cases h; exact .inl ⟨_, rfl, rfl, rfl⟩
    | 2, h => cases h; exact .inr ⟨rfl, nv, rfl, rfl, rfl⟩
    | (i + 3), h => cases h
theorem codes_alone_c (D : Defs B) {x : Addr} {ts kinds : List Str} {cs : List (Option Int)} {o : Option (List Str)} (hv : Fac B σ x ts kinds cs o) (hz : cs.length ≤ 1000)
    (h : ∀ v σ', Ext σ σ' → NewW B σ σ' v "integer" (csV cs) o → Q v σ') : WC B (n + 4) "codes_alone" [.ref x] σ Q := by
  obtain ⟨d, l, ad, ep, lv, cv, nvo, v1, had, c1, c2, hl, hn⟩ := hv.ex
  refine WC.enter1 (p1 := "f") (D.f 84 rfl) ?_
  refine WSs.cons (WS.assign (WE.call1 (D.f 22 rfl) (WE.items (WE.nm rfl ⟨_, _, _, _, rfl, v1.vc, integer_c D (.inl hl) (by rw [csV_len]; omega) fun y dy ly σ₁ hy hdy hly e₁ v₁ hl₁ => ?_⟩))))
  refine WSs.cons (WS.if (WT.isNotNone (WE.attrs (WE.nm rfl ⟨_, _, _, _, rfl, (v1.ext e₁).vc, rfl, iteT rfl ?_⟩))))
  refine WSs.cons (WS.assign (WE.dict0s fun kp ep₀ hkp => ?_))
  have E₀ := e₁.trans (Ext.new (o := .sdict [] ep₀) hkp)
  have hkp₀ := e₁.noneOf hkp
  refine WSs.cons (WS.for (WE.attrs (WE.nm rfl ⟨_, _, _, _, rfl, (v1.ext E₀).vc, rfl, _, _, IterOk.keys (E₀.get _ _ had), fun i m' σ' => Agree ["name"] _ m' ∧ Ext σ₁ σ' ∧ ∃ ep', σ' kp = some (.sdict (keptAt nvo i) ep'), ⟨Agree.refl _ _, Ext.new hkp _, ep₀, by rw [upd_self]; cases nvo <;> rfl⟩, fun i m' σ' q => q.2.1.get _ _ (e₁.get _ _ had), fun i u m' σ' hu q => ?_, fun m' σ' q => ?_⟩)))
  · obtain ⟨ag, e, ep', hq⟩ := q
    have ag' := ag.up (x := "name") rfl u
    rcases facKvs_get hu with ⟨s, rfl, hs, hk⟩ | ⟨rfl, nv, rfl, hk0, hk1⟩
    · refine WSs.cons (WS.if (WT.cmp (WE.nm rfl (WE.tuple (WEs.cons (WE.cStr (WEs.cons (WE.cStr (WEs.nil ⟨Nat.le_of_ble_eq_true rfl, fun t ht => WO.notInTup (xs := tV ["levels", "class"]) (.inl (upd_self ..)) flat_tV rfl (QB.mk ?_)⟩)))))))))
      rw [any_tV, hs]
      exact iteF rfl (WSs.nil (WSs.nil ⟨ag', e.trans (Ext.new ht _), ep', by rw [upd_ne (ne_of_new ht hq), hk]; exact hq⟩))
    · refine WSs.cons (WS.if (WT.cmp (WE.nm rfl (WE.tuple (WEs.cons (WE.cStr (WEs.cons (WE.cStr (WEs.nil ⟨Nat.le_of_ble_eq_true rfl, fun t ht => WO.notInTup (xs := tV ["levels", "class"]) (.inl (upd_self ..)) flat_tV rfl (QB.mk (iteT rfl ?_))⟩)))))))))
      have e' := e.trans (Ext.new (o := .tup (tV ["levels", "class"])) ht)
      have ea := e₁.trans e'
      have hq' : (upd σ' t (.tup (tV ["levels", "class"]))) kp = some (.sdict [] ep') := by rw [upd_ne (ne_of_new ht hq), hq, hk0]
      refine WSs.cons (WS.item (WE.sub (WE.attrs (WE.nm ((ag'.get rfl).trans rfl) ⟨_, _, _, _, rfl, (v1.ext ea).vc, rfl, WE.nm rfl (WO.subSdict (ea.get _ _ had) (v := nv) rfl (WE.nm ((ag'.get rfl).trans rfl) (WE.nm rfl (SItem.sdict hq' (Nat.zero_le _) fun ep₂ => WSs.nil (WSs.nil ⟨ag', e'.up hkp _, ep₂, ?_⟩)))))⟩))))
      rw [upd_self, hk1]
      rfl
  · obtain ⟨ag, e, ep', hq⟩ := q
    rw [List.length_map] at hq
    have E := e₁.trans e
    cases nvo with
    | none =>
      cases o with
      | some _ => exact hn.elim
      | none =>
        refine WSs.cons (WS.if (WT.cmp (WE.len (WE.nm ((ag.get rfl).trans rfl) (WO.lenSdict hq (show 0 < 2 ^ 60 by decide) (WE.cInt (WO.gtInt (QB.mk (iteF rfl (WSs.nil (WSs.nil ?_)))))))))))
        exact WSs.cons (WS.ret (WE.nm ((ag.get rfl).trans rfl) (h _ _ E ⟨y, dy, ly, .none, rfl, hy, hdy, hly, v₁.ext e, e.get _ _ hl₁, rfl⟩)))
    | some nv =>
      cases o with
      | none => exact hn.elim
      | some hs =>
        obtain ⟨sh, lo, w1, w2⟩ := (v₁.ext e).ex
        refine WSs.cons (WS.if (WT.cmp (WE.len (WE.nm ((ag.get rfl).trans rfl) (WO.lenSdict hq (show 1 < 2 ^ 60 by decide) (WE.cInt (WO.gtInt (QB.mk (iteT rfl ?_)))))))))
        refine WSs.cons (WS.attr rfl (WE.nm ((ag.get rfl).trans rfl) (WE.nm ((ag.get rfl).trans rfl) ⟨y, dy, _, rfl, w1, w2, Nat.le_of_ble_eq_true rfl, WSs.nil (WSs.nil ?_)⟩)))
        rw [vkv_attrs]
        have ne : kp ≠ dy := fun w => by rw [w, w2] at hq; cases hq
        have hB : ExtB dy σ' (upd σ' dy (.attrs (vkv "integer" ly (.ref kp) sh lo))) := ExtB.upd _ _ _
        have hch : Chr B σ nv hs := hn
        refine WSs.cons (WS.ret (WE.nm ((ag.get rfl).trans rfl) (h _ _ (E.but hB hdy) ⟨y, dy, ly, .ref kp, rfl, hy, hdy, hly, ⟨sh, lo, (upd_ne (v₁.ext e).ne).trans w1, upd_self ..⟩, ?_, kp, nv, ep', rfl, hkp₀, (upd_ne ne).trans hq, hch.ext (E.but hB hdy)⟩)))
        exact hB.get _ _ ((v₁.ext e).list_ne (e.get _ _ hl₁)).1 (e.get _ _ hl₁)
end
end Mine

namespace Mine
section
variable {B : Base} {n : Nat} {sc scope : Scope} {m : Loc} {σ σ' σ₀ σ₁ : St} {Q : V → St → Prop} {P : Bool → St → Prop}

theorem Chr.butD {a : Addr} {v : V} {ts : List Str} {kvs : List (Str × V)} {ep : Nat} (h : Chr B σ v ts) (ha : σ a = some (.sdict kvs ep)) (e : ExtB a σ σ') : Chr B σ' v ts := by
  obtain ⟨x, l, h1, h2, h3⟩ := h.ex
  obtain ⟨d, h2⟩ := h2.vd
  exact ⟨x, l, h1, (h2.butD ha e).vc, e.get _ _ (fun q => by rw [q, ha] at h3; cases h3) h3⟩
theorem ChrN.butD {a : Addr} {v : V} {ts : List Str} {kvs : List (Str × V)} {ep : Nat} (h : ChrN B σ₀ σ v ts) (ha : σ a = some (.sdict kvs ep)) (e : ExtB a σ σ') : ChrN B σ₀ σ' v ts := by
  obtain ⟨x, d, l, h1, n1, n2, n3, h2, h3⟩ := h.ex
  exact ⟨x, d, l, h1, n1, n2, n3, h2.butD ha e, e.get _ _ (fun q => by rw [q, ha] at h3; cases h3) h3⟩
/-- levels and classes -/
def LvR (B : Base) (σ : St) (f : Str → Option V) : Option (List Str × List Str) → Prop
  | none => f "levels" = none ∧ f "class" = none
  | some (ts, ks) => ∃ lv cv, f "levels" = some lv ∧ f "class" = some cv ∧ Chr B σ lv ts ∧ Chr B σ cv ks
theorem LvR.ext {f : Str → Option V} : ∀ {o : Option (List Str × List Str)}, LvR B σ f o → Ext σ σ' → LvR B σ' f o
  | none, h, _ => h
  | some _, ⟨lv, cv, h1, h2, h3, h4⟩, e => ⟨lv, cv, h1, h2, h3.ext e, h4.ext e⟩
/-- names, levels, classes, all new -/
def NmN (B : Base) (σ₀ σ : St) (f : Str → Option V) : Option (List Str) → Prop
  | none => f "names" = none
  | some ts => ∃ nv, f "names" = some nv ∧ ChrN B σ₀ σ nv ts
def LvN (B : Base) (σ₀ σ : St) (f : Str → Option V) : Option (List Str × List Str) → Prop
  | none => f "levels" = none ∧ f "class" = none
  | some (ts, ks) => ∃ lv cv, f "levels" = some lv ∧ f "class" = some cv ∧ ChrN B σ₀ σ lv ts ∧ ChrN B σ₀ σ cv ks
/-- a new part of a vector -/
structure PartV (B : Base) (σ₀ σ : St) (v : V) (kind : Str) (xs : List V) (o : Option (List Str)) (lv : Option (List Str × List Str)) : Prop where
  ex : ∃ x d l at_ f, v = .ref x ∧ σ₀ x = none ∧ σ₀ d = none ∧ σ₀ l = none ∧ Vd B σ x d kind l at_ ∧ σ l = some (.list xs) ∧ At σ at_ f ∧ (∀ ad, at_ = .ref ad → σ₀ ad = none) ∧ NmN B σ₀ σ f o ∧ LvN B σ₀ σ f lv
theorem NewV.part {v : V} {kind : Str} {xs : List V} {o : Option (List Str)} (h : NewV B σ₀ σ v kind xs o) : PartV B σ₀ σ v kind xs o none := by
  obtain ⟨x, d, l, at_, h1, h2, h3, h4, h5, h6, h7⟩ := h.ex
  cases o with
  | none =>
    rw [show at_ = .none from h7] at h5
    exact ⟨x, d, l, _, _, h1, h2, h3, h4, h5, h6, .none, (fun _ q => by cases q), rfl, rfl, rfl⟩
  | some ts =>
    obtain ⟨ad, nv, ep, rfl, g1, g2, g3⟩ := h7
    exact ⟨x, d, l, _, _, h1, h2, h3, h4, h5, h6, .some g2, (fun _ q => by cases q; exact g1), ⟨nv, rfl, g3⟩, rfl, rfl⟩

theorem Fac.cls {x d l ad : Addr} {ep : Nat} {lv cv : V} {nvo : Option V} {kinds : List Str} (h : Chr B σ cv kinds) : Cls B σ (lkS (facKvs lv cv nvo)) kinds := .inr ⟨cv, facKvs_class _ _ _, h⟩
theorem kinds_bool {b : Bool} : ((("integer" : Str) == "integer") && hasS (kindsOf b) "factor" && hasS (kindsOf b) "ordered") = b := by cases b <;> rfl
theorem kinds_len (b : Bool) : (kindsOf b).length ≤ 1000 := by cases b <;> exact Nat.le_of_ble_eq_true rfl
theorem subset_factor_c (D : Defs B) {x ix li il : Addr} {at' : V} {ts : List Str} {bo : Bool} {cs : List (Option Int)} {o : Option (List Str)} {js : List Nat} (hv : Fac B σ x ts (kindsOf bo) cs o) (hz : cs.length ≤ 1000) (hts : ts.length ≤ 1000) (ho : ∀ hs, o = some hs → hs.length = cs.length)
    (hil : σ il = some (.list [.ref ix])) (hi : Vc B σ ix "integer" li at') (hli : σ li = some (.list (n1 js))) (hz' : js.length ≤ 1000) (hj : ∀ j ∈ js, j < cs.length)
    (h : ∀ v σ', Ext σ σ' → PartV B σ σ' v "integer" (pick (csV cs) js) (opick o js) (some (ts, kindsOf bo)) → Q v σ') : WC B (n + 8) "subset_factor" [.ref x, .ref il, .bool false] σ Q := by
  refine WC.enter3 (p1 := "f") (p2 := "indexes") (p3 := "drop") (D.f 85 rfl) ?_
  obtain ⟨fC, k1, k2, k3, k4⟩ := D.copy
  refine WSs.cons (WS.assign (WE.methV k1 k2 k3 k4.keepy (WE.call4 (D.f 74 rfl) (WE.call1 (D.f 84 rfl) (WE.nm rfl (codes_alone_c D hv hz fun v₁ σ₁ e₁ n₁ => WE.nm rfl (WE.cBool (WE.cBool ?_))))))))
  obtain ⟨y, dy, ly, at_, rfl, -, -, -, v₁, l₁, a₁⟩ := n₁.ex
  obtain ⟨f, at₁, hd1, hd2, -, -, hn1⟩ := a₁.at
  refine subset_any_c D v₁.vc rfl rfl rfl at₁ hd1 hd2 hn1 (by rw [csV_len]; exact ho) l₁ (by rw [csV_len]; exact hz) (e₁.get _ _ hil) (hi.ext e₁) (e₁.get _ _ hli) hz' (by rw [csV_len]; exact hj) fun v₂ σ₂ e₂ n₂ => ?_
  obtain ⟨z, dz, lz, at₂, rfl, -, -, -, v₂, l₂, a₂⟩ := n₂.ex
  obtain ⟨sh, lo, w1, w2⟩ := v₂.ex
  refine ⟨z, dz, _, rfl, w1, w2, rfl, copy_c D k4 v₂ l₂ (by rw [pick_len]; exact hz') (a₂.old e₁) (e₁.trans e₂) fun v₃ σ₃ e₃ n₃ => ?_⟩
  have e13 := e₁.trans (e₂.trans e₃)
  obtain ⟨p, dp, lp, at₃, rfl, p1, p2, p3, v₃, l₃, a₃⟩ := n₃.ex
  obtain ⟨d, l, ad, ep, lv, cv, nvo, f1, had, c1, c2, hl, hn⟩ := (hv.ext e13).ex
  refine WSs.cons (WS.assign (WE.call3 (D.f 81 rfl) (WE.nm rfl (WE.call1 (D.f 78 rfl) (WE.nm rfl (level_texts_c D f1.vc (.some had) (facKvs_levels _ _ _) c1 hts fun lt σ₄ e₄ hlt hlt' => WE.call1 (D.f 77 rfl) (WE.nm rfl (is_ordered_c D (f1.vc.ext e₄) (.some (e₄.get _ _ had)) (Cls.ext (.inr ⟨cv, facKvs_class _ _ _, c2⟩) e₄) (kinds_len _) fun σ₅ e₅ => ?_))))))))
  rw [kinds_bool]
  have e35 := e₄.trans e₅
  have E := e13.trans e35
  cases o with
  | none =>
    rw [show at₃ = .none from a₃] at v₃
    refine with_levels_none_c D (v₃.ext e35) (.inl (e₅.get _ _ hlt')) hts fun σ₆ ad' lv' cv' ep' had' eB v₆ a₆ c₆ c₇ => ?_
    refine WSs.cons (WS.if (WT.val (WE.nm rfl (QB.mk (iteF rfl (WSs.nil ?_))))))
    have l₅ := e35.get _ _ l₃
    exact WSs.cons (WS.ret (WE.nm rfl (h _ _ (E.but eB p2) ⟨p, dp, lp, _, _, rfl, p1, p2, p3, v₆, eB.get _ _ ((v₃.ext e35).list_ne l₅).1 l₅, .some a₆, (fun _ q => by cases q; exact E.noneOf had'), rfl, lv', cv', rfl, rfl, c₆.old E, c₇.old E⟩)))
  | some hs =>
    obtain ⟨ad', nv, ep', rfl, g1, g2, g3⟩ := a₃
    have a₅ := e35.get _ _ g2
    refine with_levels_some_c D (v₃.ext e35) a₅ (Nat.le_of_ble_eq_true rfl) (.inl (e₅.get _ _ hlt')) hts fun σ₆ lv' cv' ep₆ eB v₆ a₆ c₆ c₇ => ?_
    refine WSs.cons (WS.if (WT.val (WE.nm rfl (QB.mk (iteF rfl (WSs.nil ?_))))))
    have l₅ := e35.get _ _ l₃
    exact WSs.cons (WS.ret (WE.nm rfl (h _ _ (E.but eB g1) ⟨p, dp, lp, _, _, rfl, p1, p2, p3, v₆, eB.get _ _ (fun q => by rw [q, a₅] at l₅; cases l₅) l₅, .some a₆, (fun _ q => by cases q; exact g1), ⟨nv, rfl, (g3.ext e35).butD a₅ eB⟩, lv', cv', rfl, rfl, c₆.old E, c₇.old E⟩)))
end
end Mine

namespace Mine
section
variable {B : Base} {n : Nat} {sc scope : Scope} {m : Loc} {σ σ' σ₀ σ₁ : St} {Q : V → St → Prop} {P : Bool → St → Prop}

/-- what is read of vectors, lists and dicts stays -/
structure Vw (B : Base) (σ σ' : St) : Prop where
  vd : ∀ y e k l a, Vd B σ y e k l a → Vd B σ' y e k l a
  lst : ∀ a xs, σ a = some (.list xs) → σ' a = some (.list xs)
  dct : ∀ a kvs ep, σ a = some (.sdict kvs ep) → σ' a = some (.sdict kvs ep)
theorem Vw.refl (σ : St) : Vw B σ σ := ⟨fun _ _ _ _ _ h => h, fun _ _ h => h, fun _ _ _ h => h⟩
theorem Vw.trans {σ₂ : St} (x : Vw B σ σ₁) (y : Vw B σ₁ σ₂) : Vw B σ σ₂ := ⟨fun a b c d e h => y.vd a b c d e (x.vd a b c d e h), fun a b h => y.lst a b (x.lst a b h), fun a b c h => y.dct a b c (x.dct a b c h)⟩
theorem Ext.vw (e : Ext σ σ') : Vw B σ σ' := ⟨fun _ _ _ _ _ h => h.ext e, fun a xs h => e.get _ _ h, fun a k ep h => e.get _ _ h⟩
theorem Vw.chr {v : V} {ts : List Str} (w : Vw B σ σ') (h : Chr B σ v ts) : Chr B σ' v ts :=
  let ⟨x, l, h1, h2, h3⟩ := h.ex
  let ⟨d, h2⟩ := h2.vd
  ⟨x, l, h1, (w.vd _ _ _ _ _ h2).vc, w.lst _ _ h3⟩
theorem Vw.at {at_ : V} {f : Str → Option V} (w : Vw B σ σ') (h : At σ at_ f) : At σ' at_ f := by
  cases h with
  | none => exact .none
  | some h => exact .some (w.dct _ _ _ h)
theorem Vw.nm {f : Str → Option V} (w : Vw B σ σ') : ∀ {o : Option (List Str)}, NmR B σ f o → NmR B σ' f o
  | none, h => h
  | some _, ⟨nv, h1, h2⟩ => ⟨nv, h1, w.chr h2⟩
theorem Vw.lv {f : Str → Option V} (w : Vw B σ σ') : ∀ {o : Option (List Str × List Str)}, LvR B σ f o → LvR B σ' f o
  | none, h => h
  | some _, ⟨lv, cv, h1, h2, h3, h4⟩ => ⟨lv, cv, h1, h2, w.chr h3, w.chr h4⟩
theorem Vw.chrN {v : V} {ts : List Str} (w : Vw B σ σ') (h : ChrN B σ₀ σ v ts) : ChrN B σ₀ σ' v ts :=
  let ⟨x, d, l, h1, n1, n2, n3, h2, h3⟩ := h.ex
  ⟨x, d, l, h1, n1, n2, n3, w.vd _ _ _ _ _ h2, w.lst _ _ h3⟩
theorem Vw.nmN {f : Str → Option V} (w : Vw B σ σ') : ∀ {o : Option (List Str)}, NmN B σ₀ σ f o → NmN B σ₀ σ' f o
  | none, h => h
  | some _, ⟨nv, h1, h2⟩ => ⟨nv, h1, w.chrN h2⟩
theorem Vw.lvN {f : Str → Option V} (w : Vw B σ σ') : ∀ {o : Option (List Str × List Str)}, LvN B σ₀ σ f o → LvN B σ₀ σ' f o
  | none, h => h
  | some _, ⟨lv, cv, h1, h2, h3, h4⟩ => ⟨lv, cv, h1, h2, w.chrN h3, w.chrN h4⟩
theorem Vw.part {v : V} {kind : Str} {xs : List V} {o : Option (List Str)} {lv : Option (List Str × List Str)} (w : Vw B σ σ') (h : PartV B σ₀ σ v kind xs o lv) : PartV B σ₀ σ' v kind xs o lv :=
  let ⟨x, d, l, at_, f, h1, h2, h3, h4, h5, h6, h7, h8, h9, h10⟩ := h.ex
  ⟨x, d, l, at_, f, h1, h2, h3, h4, w.vd _ _ _ _ _ h5, w.lst _ _ h6, w.at h7, h8, w.nmN h9, w.lvN h10⟩
theorem NmN.old {f : Str → Option V} : ∀ {o : Option (List Str)}, NmN B σ₀ σ f o → Dm σ₁ σ₀ → NmN B σ₁ σ f o
  | none, h, _ => h
  | some _, ⟨nv, h1, h2⟩, e => ⟨nv, h1, h2.oldD e⟩
theorem LvN.old {f : Str → Option V} : ∀ {o : Option (List Str × List Str)}, LvN B σ₀ σ f o → Dm σ₁ σ₀ → LvN B σ₁ σ f o
  | none, h, _ => h
  | some _, ⟨lv, cv, h1, h2, h3, h4⟩, e => ⟨lv, cv, h1, h2, h3.oldD e, h4.oldD e⟩
theorem NmN.but {f : Str → Option V} {a : Addr} : ∀ {o : Option (List Str)}, NmN B σ₀ σ f o → ExtB a σ σ' → σ₀ a ≠ none → NmN B σ₀ σ' f o
  | none, h, _, _ => h
  | some _, ⟨nv, h1, h2⟩, e, ha => ⟨nv, h1, h2.but e ha⟩
theorem LvN.but {f : Str → Option V} {a : Addr} : ∀ {o : Option (List Str × List Str)}, LvN B σ₀ σ f o → ExtB a σ σ' → σ₀ a ≠ none → LvN B σ₀ σ' f o
  | none, h, _, _ => h
  | some _, ⟨lv, cv, h1, h2, h3, h4⟩, e, ha => ⟨lv, cv, h1, h2, h3.but e ha, h4.but e ha⟩
theorem PartV.but {v : V} {kind : Str} {xs : List V} {o : Option (List Str)} {lv : Option (List Str × List Str)} {a : Addr} (h : PartV B σ₀ σ v kind xs o lv) (e : ExtB a σ σ') (ha : σ₀ a ≠ none) : PartV B σ₀ σ' v kind xs o lv := by
  obtain ⟨x, d, l, at_, f, h1, h2, h3, h4, h5, h6, h7, h8, h9, h10⟩ := h.ex
  have ne : ∀ b, σ₀ b = none → b ≠ a := fun b hb q => ha (q ▸ hb)
  obtain ⟨sh, lo, w1, w2⟩ := h5.ex
  refine ⟨x, d, l, at_, f, h1, h2, h3, h4, ⟨sh, lo, e.get _ _ (ne x h2) w1, e.get _ _ (ne d h3) w2⟩, e.get _ _ (ne l h4) h6, ?_, h8, h9.but e ha, h10.but e ha⟩
  cases h7 with
  | none => exact .none
  | some q => exact .some (e.get _ _ (ne _ (h8 _ rfl)) q)
theorem PartV.old {v : V} {kind : Str} {xs : List V} {o : Option (List Str)} {lv : Option (List Str × List Str)} (h : PartV B σ₀ σ v kind xs o lv) (e : Ext σ₁ σ₀) : PartV B σ₁ σ v kind xs o lv :=
  let ⟨x, d, l, at_, f, h1, h2, h3, h4, h5, h6, h7, h8, h9, h10⟩ := h.ex
  ⟨x, d, l, at_, f, h1, e.noneOf h2, e.noneOf h3, e.noneOf h4, h5, h6, h7, fun ad q => e.noneOf (h8 ad q), h9.old e.dm, h10.old e.dm⟩
theorem vw_shared {d l : Addr} {kind : Str} {at_ : V} {sh lo : Bool} (h : σ d = some (.attrs (vkv kind l at_ sh lo))) : Vw B σ (upd σ d (.attrs (vkv kind l at_ true lo))) := by
  refine ⟨fun y e k l' a hv => ?_, fun a xs ha => (upd_ne fun q => by rw [q, h] at ha; cases ha).trans ha, fun a k ep ha => (upd_ne fun q => by rw [q, h] at ha; cases ha).trans ha⟩
  obtain ⟨sh', lo', h1, h2⟩ := hv.ex
  have hy : y ≠ d := fun q => by rw [q, h] at h1; cases h1
  by_cases q : e = d
  · subst q
    rw [h] at h2
    injection h2 with h2
    injection h2 with h2
    injection h2 with a1 r
    injection r with a2 r
    injection r with a3 r
    injection r with a4 r
    injection r with a5 r
    injection a1 with _ a1
    injection a1 with a1
    injection a2 with _ a2
    injection a2 with a2
    injection a3 with _ a3
    injection a5 with _ a5
    injection a5 with a5
    subst a1 a2 a3 a5
    exact ⟨true, lo, (upd_ne hy).trans h1, upd_self ..⟩
  · exact ⟨sh', lo', (upd_ne hy).trans h1, (upd_ne q).trans h2⟩
theorem share_w (D : Defs B) {x d l : Addr} {kind : Str} {at_ : V} (hv : Vd B σ x d kind l at_) (h0 : σ₀ d = none) (e : Ext σ₀ σ) (h : ∀ σ', Ext σ₀ σ' → Vw B σ σ' → Q (.ref x) σ') : WC B (n + 1) "share" [.ref x] σ Q := by
  refine WC.enter1 (p1 := "v") (D.f 29 rfl) ?_
  refine WSs.cons (WS.if (WT.val (WE.isVecC (WE.nm rfl ⟨_, _, _, _, rfl, hv.vc, QB.mk (iteT rfl ?_)⟩))))
  obtain ⟨sh, lo, h1, h2⟩ := hv.ex
  refine WSs.cons (WS.attr rfl (WE.cBool (WE.nm rfl ⟨x, d, _, rfl, h1, h2, Nat.le_of_ble_eq_true rfl, WSs.nil ?_⟩)))
  rw [vkv_shared]
  exact WSs.cons (WS.ret (WE.nm rfl (h _ (e.up h0 _) (vw_shared h2))))
/-- each is a vector whose attributes are new to σ₀ -/
def AllV (B : Base) (σ₀ σ : St) (vs : List V) : Prop := ∀ v ∈ vs, ∃ x d kind l at_, v = .ref x ∧ Vd B σ x d kind l at_ ∧ σ₀ d = none
theorem list_of_c (D : Defs B) {il nl : Addr} {vs : List V} {ts : List Str} (hl : σ il = some (.list vs)) (hvs : AllV B σ₀ σ vs) (e : Ext σ₀ σ) (hz : vs.length ≤ 1000) (hn : σ nl = some (.list (tV ts))) (hts : ts.length ≤ 1000)
    (h : ∀ v σ', Ext σ₀ σ' → Vw B σ σ' → NewV B σ₀ σ' v "list" vs (some ts) → Q v σ') : WC B (n + 6) "list_of" [.ref il, .ref nl] σ Q := by
  refine WC.enterD2 (p1 := "items") (p2 := "names") (D.f 25 rfl) ?_
  refine WSs.cons (WS.ret (WE.call2 (D.f 24 rfl) (WE.vec2 D (WE.cStr (WE.comp (WE.nm rfl ⟨vs, _, fun i ys σ' => (Ext σ₀ σ' ∧ Vw B σ σ') ∧ ys = vs.take i, IterOk.list (.inl hl), by omega, ⟨⟨e, Vw.refl _⟩, rfl⟩, ⟨fun i ys σ' q => ⟨.inl (q.1.2.lst _ _ hl), by rw [q.2, List.length_take]; omega⟩, fun i u ys σ' hu q => ?_⟩, fun dl ys σ' q hy hdl => ?_⟩))))))
  · obtain ⟨⟨e', w'⟩, rfl⟩ := q
    obtain ⟨x, d, kind, l, at_, rfl, v1, hd⟩ := hvs u (mem_take hu)
    exact WE.call1 (D.f 29 rfl) (WE.nm rfl (share_w D (w'.vd _ _ _ _ _ v1) hd e' fun σ'' e'' w'' => ⟨⟨e'', w'.trans w''⟩, by rw [take_one hu]⟩))
  · obtain ⟨⟨e', w'⟩, rfl⟩ := q
    rw [List.take_length]
    have hdl₀ := e'.noneOf hdl
    have en := Ext.new (o := .list vs) hdl
    refine newQ.vd fun y dy σ₁ hy hdy e₁ v₁ => WE.nm rfl ?_
    have E := e'.trans (en.trans e₁)
    have W := w'.trans (en.trans e₁).vw
    refine named_some_c D v₁ (.inl (W.lst _ _ hn)) hts fun σ₂ ad nv ep had eB v₂ a₂ c₂ => ?_
    have hdy₀ := (e'.trans en).noneOf hdy
    have hdl₁ := e₁.get _ _ (upd_self (σ := σ') (a := dl) (o := .list vs))
    exact h _ _ (E.but eB hdy₀) (w'.trans ((en.trans e₁).but eB (en.noneOf hdy)).vw) ⟨y, dy, dl, .ref ad, rfl, (e'.trans en).noneOf hy, hdy₀, hdl₀, v₂, eB.get _ _ (v₁.list_ne hdl₁).1 hdl₁, ad, nv, ep, rfl, E.noneOf had, a₂, c₂.old E⟩

-- groups
def grp (code : Nat → Option Int) (k i : Nat) : List Nat := (List.range i).filter fun j => code j == some ((k : Int) + 1)
theorem grp_succ (code : Nat → Option Int) (k i : Nat) : grp code k (i + 1) = grp code k i ++ (if code i == some ((k : Int) + 1) then [i] else []) := by
  unfold grp
  rw [List.range_succ, List.filter_append]
  congr 1
  cases h : code i == some ((k : Int) + 1) <;> simp [h]
theorem grp_lt {code : Nat → Option Int} {k i j : Nat} (h : j ∈ grp code k i) : j < i := by unfold grp at h; simpa using (List.mem_filter.mp h).1
theorem grp_len (code : Nat → Option Int) (k i : Nat) : (grp code k i).length ≤ i := by unfold grp; exact Nat.le_trans (List.length_filter_le _ _) (by simp)
/-- the lists of the groups after i items -/
structure Grp (σ' : St) (g : Addr) (as : List Addr) (code : Nat → Option Int) (i : Nat) (val : Nat → V) : Prop where
  g : σ' g = some (.list (as.map V.ref))
  at_ : ∀ k a, as[k]? = some a → σ' a = some (.list ((grp code k i).map val))
theorem Grp.skip {g : Addr} {as : List Addr} {code : Nat → Option Int} {i : Nat} {val : Nat → V} (h : Grp σ' g as code i val) (hc : code i = none) : Grp σ' g as code (i + 1) val :=
  ⟨h.g, fun k a hk => by rw [grp_succ, hc]; simpa using h.at_ k a hk⟩
theorem Grp.put {g a : Addr} {as : List Addr} {code : Nat → Option Int} {i k : Nat} {val : Nat → V} (h : Grp σ' g as code i val) (hg : g ∉ as) (hnd : as.Nodup) (hc : code i = some ((k : Int) + 1)) (ha : as[k]? = some a) :
    Grp (upd σ' a (.list ((grp code k i).map val ++ [val i]))) g as code (i + 1) val := by
  have hma := mem_take ha
  refine ⟨(upd_ne fun e => hg (by rw [e]; exact hma)).trans h.g, fun k' a' hk' => ?_⟩
  by_cases e : k' = k
  · subst e
    rw [ha] at hk'; cases hk'
    rw [upd_self, grp_succ, hc]
    simp
  · have ne : a' ≠ a := fun q => by
      subst q
      have h1 := (List.getElem?_eq_some_iff.mp ha)
      have h2 := (List.getElem?_eq_some_iff.mp hk')
      obtain ⟨l1, e1⟩ := h1
      obtain ⟨l2, e2⟩ := h2
      exact e ((List.getElem_inj hnd).mp (e2.trans e1.symm))
    rw [upd_ne ne, h.at_ k' a' hk', grp_succ, hc]
    have : (some ((k : Int) + 1) == some ((k' : Int) + 1)) = false := by simp; omega
    rw [this]; simp
/-- [[] for x in it] -/
theorem CompQ.lists {x : Str} {pos : Pos} {vs : List V} {G : St → Prop} {v : V} (hI : IterOk B v vs G σ₁) (hG : ∀ σ', Ext σ₁ σ' → G σ') (hz : vs.length ≤ 1000000)
    (fin : ∀ D (as : List Addr) σ', Ext σ₁ σ' → as.length = vs.length → as.Nodup → (∀ a ∈ as, σ₁ a = none ∧ σ' a = some (.list [])) → σ' D = none → Q (.ref D) (upd σ' D (.list (as.map V.ref)))) : CompQ B n sc scope m x [] (.List [] pos) Q v σ₁ := by
  refine ⟨vs, G, fun i ys σ' => Ext σ₁ σ' ∧ ∃ as : List Addr, ys = as.map V.ref ∧ as.length = i ∧ as.Nodup ∧ ∀ a ∈ as, σ₁ a = none ∧ σ' a = some (.list []), hI, hz, ⟨Ext.refl _, [], rfl, rfl, List.nodup_nil, fun _ h => by cases h⟩, ⟨fun i ys σ' q => ?_, fun i u ys σ' hu q => ?_⟩, fun D ys σ' q _ hD => ?_⟩
  · obtain ⟨e, as, rfl, h1, _⟩ := q
    exact ⟨hG _ e, by rw [List.length_map, h1]; exact Nat.le_refl _⟩
  · obtain ⟨e, as, rfl, h1, h2, h3⟩ := q
    refine WE.list (WEs.nil ⟨Nat.zero_le _, fun a ha => ⟨e.trans (Ext.new ha _), as ++ [a], by rw [List.map_append]; rfl, by simp [h1], ?_, fun b hb => ?_⟩⟩)
    · refine List.nodup_append.mpr ⟨h2, by simp, fun b hb c hc => ?_⟩
      rw [List.mem_singleton] at hc
      subst hc
      exact ne_of_new ha (h3 b hb).2
    · rcases List.mem_append.mp hb with hb | hb
      · exact ⟨(h3 b hb).1, (upd_ne (ne_of_new ha (h3 b hb).2)).trans (h3 b hb).2⟩
      · rw [List.mem_singleton] at hb; subst hb
        exact ⟨e.noneOf ha, upd_self ..⟩
  · obtain ⟨e, as, rfl, h1, h2, h3⟩ := q
    exact fin D as σ' e h1 h2 h3 hD
theorem Grp.zero {g : Addr} {as : List Addr} {code : Nat → Option Int} {val : Nat → V} (hg : σ' g = some (.list (as.map V.ref))) (ha : ∀ a ∈ as, σ' a = some (.list [])) : Grp σ' g as code 0 val := ⟨hg, fun k a hk => ha a (mem_take hk)⟩
theorem Grp.ext {g : Addr} {as : List Addr} {code : Nat → Option Int} {i : Nat} {val : Nat → V} (h : Grp σ g as code i val) (e : Ext σ σ') : Grp σ' g as code i val := ⟨e.get _ _ h.g, fun k a hk => e.get _ _ (h.at_ k a hk)⟩
theorem natsV_get {k i : Nat} {u : V} (h : (natsV k)[i]? = some u) : u = .int (i : Int) ∧ i < k := by
  have hi : i < k := by
    have := (List.getElem?_eq_some_iff.mp h).1
    rwa [natsV_len] at this
  unfold natsV at h
  rw [List.getElem?_map, List.getElem?_range hi] at h
  exact ⟨by simpa using h.symm, hi⟩
theorem as_get {as : List Addr} {k : Nat} (h : k < as.length) : ∃ a, as[k]? = some a ∧ (as.map V.ref)[((k : Nat) : Int).toNat]? = some (.ref a) :=
  ⟨as[k], by simp [h], by simp [h]⟩
/-- codes in their bounds -/
def CodesOk (cs : List (Option Int)) (k : Nat) : Prop := ∀ c, some c ∈ cs → 1 ≤ c ∧ c ≤ k
theorem cl_ok (cs : List (Option Int)) (k : Nat) : CodesOk (cs.map (cl k)) k := fun c hc => by
  obtain ⟨o, _, h⟩ := List.mem_map.mp hc
  cases o with
  | none => cases h
  | some d =>
    have h : (if 1 ≤ d ∧ d ≤ (k : Int) then some d else none) = some c := h
    by_cases q : 1 ≤ d ∧ d ≤ (k : Int)
    · rw [if_pos q] at h; cases h; exact q
    · rw [if_neg q] at h; cases h
end
end Mine

namespace Mine
section
variable {B : Base} {n : Nat} {sc scope : Scope} {m : Loc} {σ σ' σ₀ σ₁ : St} {Q : V → St → Prop} {P : Bool → St → Prop}

def vi (i : Nat) : V := .int (i : Int)
def vi1 (i : Nat) : V := .int ((i : Int) + 1)
theorem csV_getD {cs : List (Option Int)} {k : Nat} (h : k < cs.length) : (csV cs)[((k : Nat) : Int).toNat]? = some (cV (cs.getD k none)) := by
  rw [Int.toNat_natCast, List.getD_eq_getElem?_getD, List.getElem?_eq_getElem h]
  unfold csV; rw [List.getElem?_map, List.getElem?_eq_getElem h]; rfl
theorem getD_mem {cs : List (Option Int)} {k : Nat} {c : Int} (h : cs.getD k none = some c) : some c ∈ cs := by
  by_cases hk : k < cs.length
  · rw [List.getD_eq_getElem?_getD, List.getElem?_eq_getElem hk] at h
    rw [← h]; exact List.getElem_mem hk
  · rw [List.getD_eq_getElem?_getD, List.getElem?_eq_none (by omega)] at h; cases h
theorem vals_len (l : List Nat) (f : Nat → V) : (l.map f).length = l.length := by simp
/-- a code as a place of the groups -/
theorem code_pos {cs : List (Option Int)} {K k : Nat} {c : Int} (ok : CodesOk cs K) (h : cs.getD k none = some c) : ∃ j : Nat, c = (j : Int) + 1 ∧ j < K := by
  obtain ⟨h1, h2⟩ := ok c (getD_mem h)
  exact ⟨(c - 1).toNat, by omega, by omega⟩
theorem split_places_c (D : Defs B) {x l : Addr} {kind : Str} {at_ lv : V} {f : Str → Option V} {ts : List Str} {cs : List (Option Int)} (hv : Vc B σ x kind l at_) (ha : At σ at_ f) (hf : f "levels" = some lv) (hc : Chr B σ lv ts) (hz : ts.length ≤ 1000)
    (hl : σ l = some (.list (csV cs))) (hz' : cs.length ≤ 1000) (h : ∀ g as σ', Ext σ σ' → as.length = ts.length → Grp σ' g as (fun i => (cs.map (cl ts.length)).getD i none) cs.length vi → Q (.ref g) σ') : WC B (n + 8) "split_places" [.ref x] σ Q := by
  refine WC.enter1 (p1 := "f") (D.f 86 rfl) ?_
  refine WSs.cons (WS.assignC (WE.call1 (D.f 78 rfl) (WE.nm rfl (level_texts_c D hv ha hf hc hz fun d₁ σ₁ e₁ hd₁ hd₁' => CompQ.lists (IterOk.list (.inl hd₁')) (fun σ' e => .inl (e.get _ _ hd₁')) (by rw [tV_len]; omega) fun g as σ₂ e₂ hlen hnd has hg => ?_))))
  rw [tV_len] at hlen
  have eg := Ext.new (o := .list (as.map V.ref)) hg
  have E₂ := e₁.trans (e₂.trans eg)
  refine WSs.cons (WS.assign (WE.call1 (D.f 79 rfl) (WE.nm rfl (codes_in_c D (hv.ext E₂) (ha.ext E₂) hf (hc.ext E₂) hz (E₂.get _ _ hl) hz' fun cd σ₃ e₃ hcd hcd' => ?_))))
  generalize hcs : cs.map (cl ts.length) = cs' at *
  have hcl : cs'.length = cs.length := by rw [← hcs, List.length_map]
  have ok : CodesOk cs' ts.length := by rw [← hcs]; exact cl_ok _ _
  have hga : g ∉ as := fun q => by have := (has g q).2; rw [hg] at this; cases this
  have has2 : ∀ a ∈ as, (upd σ₂ g (.list (as.map V.ref))) a = some (.list []) := fun a q => (upd_ne fun w => by rw [w] at q; exact hga q).trans (has a q).2
  have has0 : ∀ a ∈ as, σ a = none := fun a q => e₁.noneOf (has a q).1
  have hcda : ∀ a ∈ as, cd ≠ a := fun a q w => by have := has2 a q; rw [← w, hcd] at this; cases this
  refine WSs.cons (WS.for (WE.range (WE.len (WE.nm rfl (WO.lenList (.inl hcd') (by rw [csV_len]; omega) (WO.range fun r hr => ⟨_, _, IterOk.range (upd_self ..) (by rw [csV_len]; omega), fun i m' σ' => Agree ["i"] _ m' ∧ Ext σ σ' ∧ Grp σ' g as (fun i => cs'.getD i none) i vi ∧ σ' cd = some (.list (csV cs')),
    ⟨Agree.refl _ _, E₂.trans (e₃.trans (Ext.new hr _)), Grp.ext (Grp.zero (upd_self ..) has2) (e₃.trans (Ext.new hr _)), (Ext.new hr _).get _ _ hcd'⟩, fun _ _ _ _ => trivial, fun i u m' σ' hu q => ?_, fun m' σ' q => ?_⟩))))))
  · obtain ⟨rfl, hi⟩ := natsV_get hu
    rw [csV_len] at hi
    obtain ⟨ag, e, G, hcd⟩ := q
    have ag' := ag.up (x := "i") rfl (.int (i : Int))
    refine WSs.cons (WS.if (WT.isNotNone (WE.sub (WE.nm ((ag'.get rfl).trans rfl) (WE.nm rfl (WO.subList (.inl hcd) (by omega) (by omega) (csV_getD hi) ?_))))))
    cases hcode : cs'.getD i none with
    | none => exact iteF rfl (WSs.nil (WSs.nil ⟨ag', e, G.skip hcode, hcd⟩))
    | some c =>
      obtain ⟨j, rfl, hj⟩ := code_pos ok hcode
      obtain ⟨a, ha1, ha2⟩ := as_get (as := as) (k := j) (by omega)
      have e1 : (((j : Int) + 1 - 1)).toNat = ((j : Nat) : Int).toNat := by omega
      have hat := G.at_ j a ha1
      have hlen := grp_len (fun i => cs'.getD i none) j i
      have hcv : (csV cs')[((i : Nat) : Int).toNat]? = some (.int ((j : Int) + 1)) := by rw [csV_getD hi, hcode]; rfl
      refine iteT rfl (WSs.cons (WS.expr (WE.append (WE.sub (WE.nm ((ag'.get rfl).trans rfl) (WE.bin (WE.sub (WE.nm ((ag'.get rfl).trans rfl) (WE.nm rfl (WO.subList (.inl hcd) (by omega) (by omega) hcv (WE.cInt (WO.subInt (WO.subList (.inl G.g) (by omega) (by omega) (by rw [e1]; exact ha2) ⟨a, rfl, ⟨_, hat⟩, WE.nm rfl ⟨_, hat, by rw [vals_len, sizeLine_eq]; omega, WSs.nil (WSs.nil ⟨ag', e.up (has0 a (mem_take ha1)) _, G.put hga hnd hcode ha1, ?_⟩)⟩⟩)))))))))))))
      exact (upd_ne (hcda a (mem_take ha1))).trans hcd
  · obtain ⟨ag, e, G, hcd⟩ := q
    rw [natsV_len, csV_len, hcl] at G
    exact WSs.cons (WS.ret (WE.nm ((ag.get rfl).trans rfl) (h g as σ' e hlen G)))
end
end Mine

namespace Mine
section
variable {B : Base} {n : Nat} {sc scope : Scope} {m : Loc} {σ σ' σ₀ σ₁ : St} {Q : V → St → Prop} {P : Bool → St → Prop}

theorem fmod_nat (i c : Nat) : ((i : Int)).fmod (c : Int) = ((i % c : Nat) : Int) := by
  rw [Int.fmod_eq_emod_of_nonneg _ (by omega)]; rfl
/-- the vector that is parted -/
inductive BV (B : Base) (σ : St) (x : Addr) (kind : Str) (xs : List V) (o : Option (List Str)) : Option (List Str × List Str) → Prop
  | plain {l : Addr} {at_ : V} {f : Str → Option V} (hv : Vc B σ x kind l at_) (ha : At σ at_ f) (hd : f "dim" = none) (hd' : f "dimnames" = none) (hc : Cls B σ f []) (hn : NmR B σ f o) (hl : σ l = some (.list xs)) (hk : kind = "integer" ∨ kind = "character") : BV B σ x kind xs o none
  | fac {ts : List Str} {bo : Bool} {cs : List (Option Int)} (hv : Fac B σ x ts (kindsOf bo) cs o) (hk : kind = "integer") (hx : xs = csV cs) (hz : ts.length ≤ 1000) : BV B σ x kind xs o (some (ts, kindsOf bo))
theorem BV.ext {x : Addr} {kind : Str} {xs : List V} {o : Option (List Str)} {lv : Option (List Str × List Str)} (h : BV B σ x kind xs o lv) (e : Ext σ σ') : BV B σ' x kind xs o lv := by
  cases h with
  | plain hv ha hd hd' hc hn hl hk => exact .plain (hv.ext e) (ha.ext e) hd hd' (hc.ext e) (hn.ext e) (e.get _ _ hl) hk
  | fac hv hk hx hz => exact .fac (hv.ext e) hk hx hz
theorem BV.vc {x : Addr} {kind : Str} {xs : List V} {o : Option (List Str)} {lv : Option (List Str × List Str)} (h : BV B σ x kind xs o lv) : ∃ l at_, Vc B σ x kind l at_ ∧ σ l = some (.list xs) ∧ (kind == "NULL") = false := by
  cases h with
  | plain hv ha hd hd' hc hn hl hk => exact ⟨_, _, hv, hl, by rcases hk with rfl | rfl <;> rfl⟩
  | fac hv hk hx hz =>
    obtain ⟨d, l, ad, ep, lv, cv, nvo, v1, had, c1, c2, hl, hn⟩ := hv.ex
    subst hk hx
    exact ⟨l, _, v1.vc, hl, rfl⟩
theorem PartV.oldD {v : V} {kind : Str} {xs : List V} {o : Option (List Str)} {lv : Option (List Str × List Str)} (h : PartV B σ₀ σ v kind xs o lv) (e : Dm σ₁ σ₀) : PartV B σ₁ σ v kind xs o lv :=
  let ⟨x, d, l, at_, f, h1, h2, h3, h4, h5, h6, h7, h8, h9, h10⟩ := h.ex
  ⟨x, d, l, at_, f, h1, e _ h2, e _ h3, e _ h4, h5, h6, h7, fun ad q => e _ (h8 ad q), h9.old e, h10.old e⟩
/-- the code that falls on the i-th item, round and round -/
def code (cs : List (Option Int)) (i : Nat) : Option Int := if cs.length = 0 then none else cs.getD (i % cs.length) none
theorem n1_vi1 (js : List Nat) : js.map vi1 = n1 js := rfl
theorem opick_len {o : Option (List Str)} {N : Nat} (h : ∀ ts, o = some ts → ts.length = N) : ∀ ts, o = some ts → ts.length = N := h

theorem split_by_c (D : Defs B) {x y lf : Addr} {kind kf : Str} {atf lvf : V} {xs : List V} {o : Option (List Str)} {lv : Option (List Str × List Str)} {f : Str → Option V} {ts : List Str} {cs : List (Option Int)}
    (hb : BV B σ x kind xs o lv) (hxz : xs.length ≤ 1000) (ho : ∀ hs, o = some hs → hs.length = xs.length)
    (hv : Vc B σ y kf lf atf) (ha : At σ atf f) (hf : f "levels" = some lvf) (hc : Chr B σ lvf ts) (hz : ts.length ≤ 1000) (hl : σ lf = some (.list (csV cs))) (hz' : cs.length ≤ 1000)
    (h : ∀ v vs σ', Ext σ σ' → NewV B σ σ' v "list" vs (some ts) → vs.length = ts.length → (∀ k u, vs[k]? = some u → PartV B σ σ' u kind (pick xs (grp (code (cs.map (cl ts.length))) k xs.length)) (opick o (grp (code (cs.map (cl ts.length))) k xs.length)) lv) → Q v σ') :
    WC B (n + 12) "split_by" [.ref x, .ref y] σ Q := by
  refine WC.enter2 (p1 := "v") (p2 := "f") (D.f 87 rfl) ?_
  refine WSs.cons (WS.assignC (WE.call1 (D.f 78 rfl) (WE.nm rfl (level_texts_c D hv ha hf hc hz fun d₁ σ₁ e₁ hd₁ hd₁' => CompQ.lists (IterOk.list (.inl hd₁')) (fun σ' e => .inl (e.get _ _ hd₁')) (by rw [tV_len]; omega) fun g as σ₂ e₂ hlen hnd has hg => ?_))))
  rw [tV_len] at hlen
  have eg := Ext.new (o := .list (as.map V.ref)) hg
  have E₂ := e₁.trans (e₂.trans eg)
  refine WSs.cons (WS.assign (WE.call1 (D.f 79 rfl) (WE.nm rfl (codes_in_c D (hv.ext E₂) (ha.ext E₂) hf (hc.ext E₂) hz (E₂.get _ _ hl) hz' fun cd σ₃ e₃ hcd hcd' => ?_))))
  generalize hcs : cs.map (cl ts.length) = cs' at *
  have hcl : cs'.length = cs.length := by rw [← hcs, List.length_map]
  have ok : CodesOk cs' ts.length := by rw [← hcs]; exact cl_ok _ _
  have hga : g ∉ as := fun q => by have := (has g q).2; rw [hg] at this; cases this
  have has2 : ∀ a ∈ as, (upd σ₂ g (.list (as.map V.ref))) a = some (.list []) := fun a q => (upd_ne fun w => by rw [w] at q; exact hga q).trans (has a q).2
  have has0 : ∀ a ∈ as, σ a = none := fun a q => e₁.noneOf (has a q).1
  have hcda : ∀ a ∈ as, cd ≠ a := fun a q w => by have := has2 a q; rw [← w, hcd] at this; cases this
  refine WSs.cons (WS.assign (WE.len (WE.nm rfl (WO.lenList (.inl hcd') (by rw [csV_len]; omega) ?_))))
  rw [csV_len]
  have E₃ := E₂.trans e₃
  obtain ⟨lx, ax, vx, hlx, hnull⟩ := hb.vc
  refine WSs.cons (WS.for (WE.range (WE.call1 (D.f 26 rfl) (WE.nm rfl (length_c D (vx.ext E₃) hnull (E₃.get _ _ hlx) (by omega) (WO.range fun r hr => ⟨_, _, IterOk.range (upd_self ..) (by omega), fun i m' σ' => Agree ["i"] _ m' ∧ Ext σ σ' ∧ Grp σ' g as (code cs') i vi1 ∧ σ' cd = some (.list (csV cs')),
    ⟨Agree.refl _ _, E₃.trans (Ext.new hr _), Grp.ext (Grp.zero (upd_self ..) has2) (e₃.trans (Ext.new hr _)), (Ext.new hr _).get _ _ hcd'⟩, fun _ _ _ _ => trivial, fun i u m' σ' hu q => ?_, fun m' σ' q => ?_⟩))))))
  · obtain ⟨rfl, hi⟩ := natsV_get hu
    obtain ⟨ag, e, G, hcd⟩ := q
    have ag' := ag.up (x := "i") rfl (.int (i : Int))
    refine WSs.cons (WS.if (WT.and (WT.cmp (WE.nm ((ag'.get rfl).trans rfl) (WE.cInt (WO.gtInt (QB.mk ?_)))))))
    by_cases h0 : cs'.length = 0
    · have hcode : code cs' i = none := if_pos h0
      exact iteF (decide_eq_false (by omega)) (iteF rfl (WSs.nil (WSs.nil ⟨ag', e, G.skip hcode, hcd⟩)))
    · have hm : i % cs'.length < cs'.length := Nat.mod_lt _ (by omega)
      have hcode : code cs' i = cs'.getD (i % cs'.length) none := if_neg h0
      refine iteT (decide_eq_true (by omega)) (WT.and (WT.isNotNone (WE.sub (WE.nm ((ag'.get rfl).trans rfl) (WE.bin (WE.nm rfl (WE.nm ((ag'.get rfl).trans rfl) (WO.modInt (by omega) ?_))))))))
      rw [fmod_nat]
      refine WO.subList (.inl hcd) (by omega) (by omega) (csV_getD hm) ?_
      cases hq : cs'.getD (i % cs'.length) none with
      | none => exact iteF rfl (iteF rfl (WSs.nil (WSs.nil ⟨ag', e, G.skip (hcode.trans hq), hcd⟩)))
      | some c =>
        obtain ⟨j, rfl, hj⟩ := code_pos ok hq
        obtain ⟨a, ha1, ha2⟩ := as_get (as := as) (k := j) (by omega)
        have e1 : (((j : Int) + 1 - 1)).toNat = ((j : Nat) : Int).toNat := by omega
        have hat := G.at_ j a ha1
        have hlen := grp_len (code cs') j i
        have hcv : (csV cs')[((i % cs'.length : Nat) : Int).toNat]? = some (.int ((j : Int) + 1)) := by rw [csV_getD hm, hq]; rfl
        refine iteT rfl (WT.andNil (iteT rfl (WSs.cons (WS.expr (WE.append (WE.sub (WE.nm ((ag'.get rfl).trans rfl) (WE.bin (WE.sub (WE.nm ((ag'.get rfl).trans rfl) (WE.bin (WE.nm rfl (WE.nm ((ag'.get rfl).trans rfl) (WO.modInt (by omega) ?_))))))))))))))
        rw [fmod_nat]
        refine WO.subList (.inl hcd) (by omega) (by omega) hcv (WE.cInt (WO.subInt (WO.subList (.inl G.g) (by omega) (by omega) (by rw [e1]; exact ha2) ⟨a, rfl, ⟨_, hat⟩, WE.bin (WE.nm rfl (WE.cInt (WO.addInt ⟨_, hat, by rw [vals_len, sizeLine_eq]; omega, WSs.nil (WSs.nil ⟨ag', e.up (has0 a (mem_take ha1)) _, G.put hga hnd (hcode.trans hq) ha1, ?_⟩)⟩)))⟩)))
        exact (upd_ne (hcda a (mem_take ha1))).trans hcd
  · obtain ⟨ag, E₄, G, hcd⟩ := q
    rw [natsV_len] at G
    refine WSs.cons (WS.assign (WE.list (WEs.nil ⟨Nat.zero_le _, fun pp hpp => ?_⟩)))
    have hpp₀ := E₄.noneOf hpp
    have e₅ := Ext.new (o := .list []) hpp
    have hbz := hb.ext E₄
    have K : σ' g = some (.list (as.map V.ref)) := G.g
    generalize hcode : code cs' = cd' at *
    have dm5 : ∀ {τ : St}, Ext σ' τ → τ pp ≠ none → Dm (upd σ' pp (.list [])) τ := fun {τ} e h1 b hb => by
      have : b ≠ pp := fun q => h1 (q ▸ hb)
      rw [upd_ne this]; exact e.noneOf hb
    refine WSs.cons (WS.for (WE.nm ((ag.get rfl).trans rfl) ⟨_, _, IterOk.list (.inl (e₅.get _ _ K)), fun j m'' τ => Agree ["places"] _ m'' ∧ Ext σ' τ ∧ ∃ vs, τ pp = some (.list vs) ∧ vs.length = j ∧ ∀ k u, vs[k]? = some u → PartV B (upd σ' pp (.list [])) τ u kind (pick xs (grp cd' k xs.length)) (opick o (grp cd' k xs.length)) lv,
      ⟨Agree.refl _ _, e₅, [], upd_self .., rfl, fun k u h => by cases h⟩, fun j m'' τ q => .inl (q.2.1.get _ _ K), fun j u m'' τ hu q => ?_, fun m'' τ q => ?_⟩))
    · obtain ⟨ag2, e, vs, hvs, hlen2, parts⟩ := q
      have hj : ∃ a, as[j]? = some a ∧ u = .ref a := by
        rw [List.getElem?_map] at hu
        obtain ⟨a, h1, h2⟩ := Option.map_eq_some_iff.mp hu
        exact ⟨a, h1, h2.symm⟩
      obtain ⟨a, ha1, rfl⟩ := hj
      have hjl : j < as.length := (List.getElem?_eq_some_iff.mp ha1).1
      have ag' := (ag2.up (x := "places") rfl (.ref a))
      have hat := e.get _ _ (G.at_ j a ha1)
      rw [n1_vi1] at hat
      have gl := grp_len cd' j xs.length
      have gj : ∀ t ∈ grp cd' j xs.length, t < xs.length := fun t ht => grp_lt ht
      have bv := hbz.ext e
      have hppn : τ pp ≠ none := by rw [hvs]; exact Option.some_ne_none _
      have hp5 : (upd σ' pp (.list [])) pp ≠ none := by rw [upd_self]; exact Option.some_ne_none _
      -- the part taken up
      have done : ∀ (v : V) (τ₁ τ₂ : St), Ext τ τ₁ → Ext τ₁ τ₂ → PartV B τ₁ τ₂ v kind (pick xs (grp cd' j xs.length)) (opick o (grp cd' j xs.length)) lv → ∃ ys, τ₂ pp = some (.list ys) ∧ ys.length < sizeLine ∧ (∀ m₃, Agree ["places"] (upL m' "parts" (.ref pp)) m₃ → WSs B (n + 11) (fn 87).2.2.2 [] m₃ (upd τ₂ pp (.list (ys ++ [v]))) (fun m'' τ => Agree ["places"] (upL m' "parts" (.ref pp)) m'' ∧ Ext σ' τ ∧ ∃ vs, τ pp = some (.list vs) ∧ vs.length = j + 1 ∧ ∀ k u, vs[k]? = some u → PartV B (upd σ' pp (.list [])) τ u kind (pick xs (grp cd' k xs.length)) (opick o (grp cd' k xs.length)) lv) Q) := fun v τ₁ τ₂ f1 f2 pv => by
        have f12 := f1.trans f2
        refine ⟨vs, f12.get _ _ hvs, by rw [hlen2, sizeLine_eq]; omega, fun m₃ ag3 => WSs.nil ⟨ag3, (e.trans f12).up hpp _, vs ++ [v], upd_self .., by simp [hlen2], fun k w hw => ?_⟩⟩
        have hB : ExtB pp τ₂ (upd τ₂ pp (.list (vs ++ [v]))) := ExtB.upd _ _ _
        by_cases hk : k < vs.length
        · rw [List.getElem?_append_left hk] at hw
          exact (f12.vw.part (parts k w hw)).but hB hp5
        · rw [List.getElem?_append_right (by omega)] at hw
          have hk' : k = j := by
            have := (List.getElem?_eq_some_iff.mp hw).1
            simp at this; omega
          subst hk'
          rw [hlen2, Nat.sub_self] at hw
          cases hw
          have n1 : τ₁ pp ≠ none := by rw [f1.get _ _ hvs]; exact Option.some_ne_none _
          exact (pv.but hB n1).oldD (dm5 (e.trans f1) n1)
      cases bv with
      | plain hv' ha' hd hd' hc' hn' hl' hk =>
        refine WSs.cons (WS.if (WT.val (WE.call1 (D.f 76 rfl) (WE.nm ((ag'.get rfl).trans ((ag.get rfl).trans rfl)) (is_factor_c D hv' ha' hc' (Nat.zero_le _) fun τ₁ f₁ => QB.mk (iteF (by simp [hasS]) ?_))))))
        have ko : ((kind == "language") || (kind == "environment")) = false := by rcases hk with rfl | rfl <;> rfl
        have kp : (kind == "pairlist") = false := by rcases hk with rfl | rfl <;> rfl
        have kn : (kind == "NULL") = false := by rcases hk with rfl | rfl <;> rfl
        refine WSs.cons (WS.expr (WE.append (WE.nm ((ag'.get rfl).trans rfl) ⟨pp, rfl, ⟨_, f₁.get _ _ hvs⟩, WE.call4 (D.f 74 rfl) (WE.nm ((ag'.get rfl).trans ((ag.get rfl).trans rfl)) (WE.list (WEs.cons (WE.call1 (D.f 22 rfl) (WE.nm rfl (integer_c D (.inl (f₁.get _ _ hat)) (by rw [n1_len]; omega) fun ix dx li τ₂ _ _ _ f₂ vi hli => WEs.nil ⟨Nat.le_of_ble_eq_true rfl, fun il hil => WE.cBool (WE.cBool ?_)⟩))))))⟩)))
        have f₃ := Ext.new (o := .list [.ref ix]) hil
        have f13 := f₁.trans (f₂.trans f₃)
        refine subset_any_c D (hv'.ext f13) ko kp kn (ha'.ext f13) hd hd' (hn'.ext f13) ho (f13.get _ _ hl') hxz (upd_self ..) (vi.ext f₃).vc (f₃.get _ _ hli) (by omega) gj fun v τ₄ f₄ nv => ?_
        obtain ⟨ys, y1, y2, y3⟩ := done v _ _ f13 f₄ nv.part
        exact ⟨ys, y1, y2, WSs.nil (y3 _ ag')⟩
      | fac hv' hk hx hzt =>
        obtain ⟨dv, lvv, adv, epv, lvx, cvx, nvo, v1, had, c1, c2, hlv, hnv⟩ := hv'.ex
        subst hk hx
        refine WSs.cons (WS.if (WT.val (WE.call1 (D.f 76 rfl) (WE.nm ((ag'.get rfl).trans ((ag.get rfl).trans rfl)) (is_factor_c D v1.vc (.some had) (.inr ⟨cvx, facKvs_class _ _ _, c2⟩) (kinds_len _) fun τ₁ f₁ => QB.mk (iteT (by cases ‹Bool› <;> rfl) ?_))))))
        refine WSs.cons (WS.expr (WE.append (WE.nm ((ag'.get rfl).trans rfl) ⟨pp, rfl, ⟨_, f₁.get _ _ hvs⟩, WE.call3 (D.f 85 rfl) (WE.nm ((ag'.get rfl).trans ((ag.get rfl).trans rfl)) (WE.list (WEs.cons (WE.call1 (D.f 22 rfl) (WE.nm rfl (integer_c D (.inl (f₁.get _ _ hat)) (by rw [n1_len]; omega) fun ix dx li τ₂ _ _ _ f₂ vi hli => WEs.nil ⟨Nat.le_of_ble_eq_true rfl, fun il hil => WE.cBool ?_⟩))))))⟩)))
        have f₃ := Ext.new (o := .list [.ref ix]) hil
        have f13 := f₁.trans (f₂.trans f₃)
        rw [csV_len] at hxz gl gj ho
        refine subset_factor_c D (hv'.ext f13) hxz hzt ho (upd_self ..) (vi.ext f₃).vc (f₃.get _ _ hli) (by rw [csV_len]; omega) (by rw [csV_len]; exact gj) fun v τ₄ f₄ nv => ?_
        obtain ⟨ys, y1, y2, y3⟩ := done v _ _ f13 f₄ nv
        exact ⟨ys, y1, y2, WSs.nil (y3 _ ag')⟩
    · obtain ⟨ag2, e, vs, hvs, hlen2, parts⟩ := q
      rw [List.length_map, hlen] at hlen2
      have E := E₄.trans e
      have dmσ : Dm σ (upd σ' pp (.list [])) := (E₄.trans e₅).dm
      refine WSs.cons (WS.ret (WE.call2 (D.f 25 rfl) (WE.nm ((ag2.get rfl).trans rfl) (WE.call1 (D.f 78 rfl) (WE.nm ((ag2.get rfl).trans ((ag.get rfl).trans rfl)) (level_texts_c D (hv.ext E) (ha.ext E) hf (hc.ext E) hz fun nl τ₁ f₁ hnl hnl' => ?_))))))
      refine list_of_c (σ₀ := σ) D (f₁.get _ _ hvs) (fun v hv => ?_) (E.trans f₁) (by omega) hnl' hz fun v τ₂ f₂ w₂ nv => ?_
      · obtain ⟨k, hk⟩ := List.mem_iff_getElem?.mp hv
        obtain ⟨x', d, l, at_, f', h1, h2, h3, h4, h5, _⟩ := (parts k v hk).ex
        exact ⟨x', d, kind, l, at_, h1, h5.ext f₁, dmσ _ h3⟩
      · exact h v vs τ₂ f₂ nv hlen2 fun k u hk => w₂.part ((f₁.vw.part (parts k u hk)).oldD dmσ)
end
end Mine

namespace Mine

theorem lkI_stI (kvs : List (Int × V)) (k : Int) (v : V) (c : Int) : lkI (stI kvs k v) c = if k = c then some v else lkI kvs c := by
  unfold stI lkI
  by_cases ha : kvs.any (fun kv => decide (kv.1 = k)) = true
  · rw [if_pos ha]
    induction kvs with
    | nil => cases ha
    | cons p r ih =>
      rw [List.map_cons, List.find?_cons, List.find?_cons]
      by_cases hp : p.1 = k
      · simp only [hp, if_true]
        by_cases hc : k = c
        · simp [hc]
        · simp only [hc, decide_false, if_false]
          have : ∀ r : List (Int × V), (r.map fun kv => if kv.1 = k then (kv.1, v) else kv).find? (fun p => decide (p.1 = c)) = r.find? fun p => decide (p.1 = c) := fun r => by
            induction r with
            | nil => rfl
            | cons q r ih =>
              rw [List.map_cons, List.find?_cons, List.find?_cons, ih]
              by_cases hq : q.1 = k
              · simp [hq, hc]
              · simp [hq]
          rw [this]
      · simp only [hp, if_false]
        by_cases hc : p.1 = c
        · simp only [hc, decide_true]
          rw [if_neg (fun q => hp (hc.trans q.symm))]
        · simp only [hc, decide_false]
          exact ih (by simpa [hp] using ha)
  · rw [if_neg ha, List.find?_append]
    have hn : ∀ p ∈ kvs, p.1 ≠ k := fun p hp q => ha (List.any_eq_true.mpr ⟨p, hp, by simpa using q⟩)
    by_cases hc : k = c
    · subst hc
      have : kvs.find? (fun p => decide (p.1 = k)) = none := List.find?_eq_none.mpr fun p hp => by simpa using hn p hp
      rw [this]; simp
    · rw [if_neg hc]
      have : List.find? (fun p : Int × V => decide (p.1 = c)) [(k, v)] = none := by simp [hc]
      rw [this]; simp
theorem stI_len (kvs : List (Int × V)) (k : Int) (v : V) : (stI kvs k v).length ≤ kvs.length + 1 := by unfold stI; split <;> simp

def usedB (cs : List (Option Int)) (k : Nat) : Bool := cs.any fun c => c == some ((k : Int) + 1)
def keptL (cs : List (Option Int)) (K : Nat) : List Nat := (List.range K).filter (usedB cs)
def rn (ks : List Nat) : Option Int → Option Int
  | none => none
  | some c => some ((ks.idxOf (c - 1).toNat : Nat) + 1)
def rnV (ks : List Nat) : V → V
  | .int c => .int ((ks.idxOf (c - 1).toNat : Nat) + 1)
  | _ => .none
theorem rnV_map (ks : List Nat) (cs : List (Option Int)) : (csV cs).map (rnV ks) = csV (cs.map (rn ks)) := by
  unfold csV
  rw [List.map_map, List.map_map]
  refine List.map_congr_left fun c _ => ?_
  cases c <;> rfl
theorem kept_nodup (cs : List (Option Int)) (K : Nat) : (keptL cs K).Nodup := List.Nodup.sublist List.filter_sublist List.nodup_range
theorem kept_lt {cs : List (Option Int)} {K k : Nat} (h : k ∈ keptL cs K) : k < K := by simpa using (List.mem_filter.mp h).1
theorem kept_len (cs : List (Option Int)) (K : Nat) : (keptL cs K).length ≤ K := by unfold keptL; exact Nat.le_trans (List.length_filter_le _ _) (by simp)
def kP (cs : List (Option Int)) : V → Bool
  | .int i => usedB cs i.toNat
  | _ => false
def kG : V → V
  | .int i => .int (i + 1)
  | v => v
theorem kept_eq (cs : List (Option Int)) (K : Nat) : ((natsV K).filter (kP cs)).map kG = n1 (keptL cs K) := by
  unfold natsV n1 keptL
  rw [List.filter_map, List.map_map]
  rfl
def tG (ts : List Str) : V → V
  | .int c => .str (ts.getD (c - 1).toNat "")
  | v => v
theorem tG_eq (ts : List Str) (ks : List Nat) : (n1 ks).map (tG ts) = tV (pickS ts ks) := by
  unfold n1 tV pickS
  rw [List.map_map, List.map_map]
  refine List.map_congr_left fun k _ => ?_
  show V.str (ts.getD ((k : Int) + 1 - 1).toNat "") = V.str (ts.getD k "")
  have : ((k : Int) + 1 - 1).toNat = k := by omega
  rw [this]
theorem kept_mem {cs : List (Option Int)} {K k : Nat} (hk : k < K) (h : some ((k : Int) + 1) ∈ cs) : k ∈ keptL cs K :=
  List.mem_filter.mpr ⟨by simpa using hk, List.any_eq_true.mpr ⟨_, h, by simp⟩⟩
theorem csV_one {cs : List (Option Int)} {i : Nat} {c : Option Int} (h : cs[i]? = some c) : cs.take (i + 1) = cs.take i ++ [c] := take_one h

section
variable {B : Base} {n : Nat} {sc scope : Scope} {m : Loc} {σ σ' σ₀ σ₁ : St} {Q : V → St → Prop} {P : Bool → St → Prop}

theorem drop_levels_c (D : Defs B) {x : Addr} {ts : List Str} {bo : Bool} {cs : List (Option Int)} (hv : Fac B σ x ts (kindsOf bo) cs none) (hz : cs.length ≤ 1000) (hts : ts.length ≤ 1000)
    (h : ∀ v σ', Ext σ σ' → PartV B σ σ' v "integer" (csV ((cs.map (cl ts.length)).map (rn (keptL (cs.map (cl ts.length)) ts.length)))) none (some (pickS ts (keptL (cs.map (cl ts.length)) ts.length), kindsOf bo)) → Q v σ') : WC B (n + 9) "drop_levels" [.ref x] σ Q := by
  obtain ⟨d, l, ad, ep, lv, cv, nvo, v1, had, c1, c2, hl, hn⟩ := hv.ex
  cases nvo with
  | some _ => exact hn.elim
  | none =>
  refine WC.enter1 (p1 := "f") (D.f 82 rfl) ?_
  refine WSs.cons (WS.assign (WE.call1 (D.f 78 rfl) (WE.nm rfl (level_texts_c D v1.vc (.some had) (facKvs_levels _ _ _) c1 hts fun lt σ₁ e₁ hlt hlt' => ?_))))
  refine WSs.cons (WS.assign (WE.call1 (D.f 79 rfl) (WE.nm rfl (codes_in_c D (v1.vc.ext e₁) (.some (e₁.get _ _ had)) (facKvs_levels _ _ _) (c1.ext e₁) hts (e₁.get _ _ hl) hz fun cd σ₂ e₂ hcd hcd' => ?_))))
  generalize hcs : cs.map (cl ts.length) = cs' at *
  have hcl : cs'.length = cs.length := by rw [← hcs, List.length_map]
  have ok : CodesOk cs' ts.length := by rw [← hcs]; exact cl_ok _ _
  refine WSs.cons (WS.assign (WE.dict0i fun ud ep₀ hud => ?_))
  refine WSs.cons (WS.for (WE.nm rfl ⟨_, _, IterOk.list (.inl ((Ext.new hud _).get _ _ hcd')), fun i m' σ' => Agree ["code"] _ m' ∧ Ext σ₂ σ' ∧ ∃ kvs ep, σ' ud = some (.idict kvs ep) ∧ kvs.length ≤ i ∧ ∀ k : Nat, (lkI kvs ((k : Int) + 1)).isSome = usedB (cs'.take i) k,
    ⟨Agree.refl _ _, Ext.new hud _, [], ep₀, upd_self .., Nat.zero_le _, fun k => by simp [usedB, lkI]⟩, fun i m' σ' q => .inl (q.2.1.get _ _ hcd'), fun i u m' σ' hu q => ?_, fun m' σ₃ q => ?_⟩))
  · obtain ⟨c, rfl, hc⟩ := csV_get hu
    obtain ⟨ag, e, kvs, ep', hq, hlen, hks⟩ := q
    have hi : i < cs'.length := (List.getElem?_eq_some_iff.mp hc).1
    have ag' := ag.up (x := "code") rfl (cV c)
    cases c with
    | none =>
      refine WSs.cons (WS.if (WT.isNotNone (WE.nm rfl (iteF rfl (WSs.nil (WSs.nil ⟨ag', e, kvs, ep', hq, by omega, fun k => ?_⟩))))))
      rw [hks, csV_one hc]; simp [usedB]
    | some c =>
      refine WSs.cons (WS.if (WT.isNotNone (WE.nm rfl (iteT rfl ?_))))
      refine WSs.cons (WS.item (WE.cBool (WE.nm ((ag'.get rfl).trans rfl) (WE.nm rfl (SItem.idict hq (by rw [sizeLine_eq]; omega) fun ep₂ => WSs.nil (WSs.nil ⟨ag', e.up hud _, _, ep₂, upd_self .., ?_, fun k => ?_⟩))))))
      · have := stI_len kvs c (.bool true); omega
      · rw [lkI_stI, csV_one hc]
        unfold usedB
        rw [List.any_append]
        have := hks k
        unfold usedB at this
        by_cases hck : c = (k : Int) + 1
        · rw [if_pos hck]; simp [hck]
        · rw [if_neg hck, this]; simp [hck]
  · obtain ⟨ag, e₃, kvs, ep', hud', hlen, hks⟩ := q
    rw [csV_len, List.take_length] at hks
    rw [csV_len] at hlen
    have E₃ := e₁.trans (e₂.trans e₃)
    have kl := kept_len cs' ts.length
    refine WSs.cons (WS.assignC (WE.range (WE.len (WE.nm ((ag.get rfl).trans rfl) (WO.lenList (.inl ((e₂.trans e₃).get _ _ hlt')) (by rw [tV_len]; omega) (WO.range fun r hr => CompQ.filt (IterOk.range (upd_self ..) (by rw [tV_len]; omega)) (fun _ _ => trivial) (by rw [natsV_len, tV_len]; omega) (kP cs') kG (fun i u τ hu e => ?_) (fun i u τ hu hp e => ?_) (fun kd τ e hkd => ?_)))))))
    · obtain ⟨rfl, hi⟩ := natsV_get hu
      have hu2 := ((Ext.new (o := .range (tV ts).length) hr).trans e).get _ _ hud'
      refine WT.cmp (WE.bin (WE.nm rfl (WE.cInt (WO.addInt (WE.nm ((ag.get rfl).trans rfl) (WO.inIdict hu2 (QB.mk ⟨?_, e⟩)))))))
      rw [hks]
      show usedB cs' i = usedB cs' ((i : Int)).toNat
      rw [Int.toNat_natCast]
    · obtain ⟨rfl, hi⟩ := natsV_get hu
      exact WE.bin (WE.nm rfl (WE.cInt (WO.addInt ⟨rfl, e⟩)))
    · rw [tV_len, kept_eq]
      have ek := (Ext.new (o := .range (tV ts).length) hr).trans (e.trans (Ext.new (o := .list (n1 (keptL cs' ts.length))) hkd))
      generalize hks' : keptL cs' ts.length = ks at *
      have hkz : ks.length ≤ 1000 := by omega
      have klt : ∀ k ∈ ks, k < ts.length := fun k hk => kept_lt (cs := cs') (by rw [hks']; exact hk)
      have knd : ks.Nodup := by rw [← hks']; exact kept_nodup _ _
      refine WSs.cons (WS.assign (WE.dict0i fun rd ep₄ hrd => ?_))
      have er := ek.trans (Ext.new (o := .idict [] ep₄) hrd)
      have hkd' := (Ext.new (o := .idict [] ep₄) hrd).get _ _ (upd_self (σ := τ) (a := kd) (o := .list (n1 ks)))
      refine WSs.cons (WS.for (WE.range (WE.len (WE.nm rfl (WO.lenList (.inl hkd') (by rw [n1_len]; omega) (WO.range fun r₂ hr₂ => ⟨_, _, IterOk.range (upd_self ..) (by rw [n1_len]; omega), fun i m' σ' => Agree ["i"] _ m' ∧ Ext σ₃ σ' ∧ σ' kd = some (.list (n1 ks)) ∧ ∃ kvs ep, σ' rd = some (.idict kvs ep) ∧ kvs.length ≤ i ∧ ∀ j k : Nat, j < i → ks[j]? = some k → lkI kvs ((k : Int) + 1) = some (.int ((j : Int) + 1)),
        ⟨Agree.refl _ _, er.trans (Ext.new hr₂ _), (Ext.new hr₂ _).get _ _ hkd', [], ep₄, (Ext.new hr₂ _).get _ _ (upd_self ..), Nat.zero_le _, fun j k h => by omega⟩, fun _ _ _ _ => trivial, fun i u m' σ' hu q => ?_, fun m' σ₄ q => ?_⟩))))))
      · obtain ⟨rfl, hi⟩ := natsV_get hu
        rw [n1_len] at hi
        obtain ⟨ag2, e, hkd, kvs2, ep2, hq, hl2, hj⟩ := q
        have ag' := ag2.up (x := "i") rfl (.int (i : Int))
        have hki : ks[i]? = some ks[i] := List.getElem?_eq_getElem hi
        have hsub : (n1 ks)[((i : Nat) : Int).toNat]? = some (.int ((ks[i] : Int) + 1)) := by
          rw [Int.toNat_natCast]; unfold n1; rw [List.getElem?_map, hki]; rfl
        have hne : kd ≠ rd := fun q => by rw [q, hq] at hkd; cases hkd
        refine WSs.cons (WS.item (WE.bin (WE.nm rfl (WE.cInt (WO.addInt (WE.nm ((ag'.get rfl).trans rfl) (WE.sub (WE.nm ((ag'.get rfl).trans rfl) (WE.nm rfl (WO.subList (.inl hkd) (by omega) (by omega) hsub (SItem.idict hq (by rw [sizeLine_eq]; omega) fun ep₅ => WSs.nil ⟨ag', e.up (ek.noneOf hrd) _, (upd_ne hne).trans hkd, _, ep₅, upd_self .., ?_, fun j k h1 h2 => ?_⟩)))))))))))
        · have := stI_len kvs2 ((ks[i] : Int) + 1) (.int ((i : Int) + 1)); omega
        · rw [lkI_stI]
          by_cases hji : j = i
          · subst hji
            rw [hki] at h2; cases h2
            rw [if_pos rfl]
          · have : ks[i] ≠ k := fun w => by
              obtain ⟨l2, e2⟩ := List.getElem?_eq_some_iff.mp h2
              exact hji ((List.getElem_inj knd).mp (e2.trans w.symm))
            rw [if_neg (by omega)]
            exact hj j k (by omega) h2
      · obtain ⟨ag2, e, hkd, kvs2, ep2, hrd2, hl2, hj⟩ := q
        rw [natsV_len, n1_len] at hj
        have e24 := e₃.trans e
        refine WSs.cons (WS.assign (WE.call1 (D.f 22 rfl) (WE.comp (WE.nm ((ag2.get rfl).trans ((ag.get rfl).trans rfl)) (CompQ.map (IterOk.list (.inl (e24.get _ _ hcd'))) (fun σ' e => .inl (e.get _ _ (e24.get _ _ hcd'))) (by rw [csV_len]; omega) (rnV ks) (fun i u σ' hu e => ?_) (fun rl σ₅ e₅ hrl => ?_))))))
        · obtain ⟨c, rfl, hc⟩ := csV_get hu
          cases c with
          | none => exact WE.ifExp (WT.isNone (WE.nm rfl (iteT rfl (WE.cNone ⟨rfl, e⟩))))
          | some c =>
            have hmem := mem_take hc
            obtain ⟨h1, h2⟩ := ok c hmem
            have hk : (c - 1).toNat ∈ ks := by
              rw [← hks']
              exact kept_mem (by omega) (by rw [show (((c - 1).toNat : Nat) : Int) + 1 = c by omega]; exact hmem)
            have hidx := List.idxOf_lt_length_of_mem hk
            have hlk := hj (ks.idxOf (c - 1).toNat) (c - 1).toNat hidx (by rw [List.getElem?_eq_getElem hidx, List.getElem_idxOf hidx])
            rw [show (((c - 1).toNat : Nat) : Int) + 1 = c by omega] at hlk
            exact WE.ifExp (WT.isNone (WE.nm rfl (iteF rfl (WE.sub (WE.nm ((ag2.get rfl).trans rfl) (WE.nm rfl (WO.subIdict (e.get _ _ hrd2) hlk ⟨rfl, e⟩)))))))
        · rw [rnV_map]
          have en := Ext.new (o := .list (csV (cs'.map (rn ks)))) hrl
          have E₅ := E₃.trans (e.trans (e₅.trans en))
          refine integer_c D (.inl (upd_self ..)) (by rw [csV_len, List.length_map]; omega) fun y dy ly σ₆ hy hdy hly e₆ vy hly' => ?_
          have E₆ := E₅.trans e₆
          refine WSs.cons (WS.expr (WE.call2 (D.f 24 rfl) (WE.nm rfl (WE.call1 (D.f 35 rfl) (WE.nm ((ag2.get rfl).trans ((ag.get rfl).trans rfl)) (names_of_c D (o := none) (v1.vc.ext E₆) rfl (.some (E₆.get _ _ had)) rfl rfl (fun _ q => by cases q) fun v σ₇ e₇ hv => ?_))))))
          rw [show v = .none from hv]
          refine named_none_c D ?_
          have e37 := e.trans (e₅.trans (en.trans (e₆.trans e₇)))
          refine WSs.cons (WS.ret (WE.call3 (D.f 81 rfl) (WE.nm rfl (WE.comp (WE.nm ((ag2.get rfl).trans rfl) (CompQ.map (IterOk.list (.inl ((e₅.trans (en.trans (e₆.trans e₇))).get _ _ hkd))) (fun σ' e => .inl (e.get _ _ ((e₅.trans (en.trans (e₆.trans e₇))).get _ _ hkd))) (by rw [n1_len]; omega) (tG ts) (fun i u σ' hu e => ?_) (fun tl σ₈ e₈ htl => ?_)))))))
          · obtain ⟨k, rfl, hk⟩ := n1_get hu
            have hkt := klt k (mem_take hk)
            refine WE.sub (WE.nm ((ag2.get rfl).trans ((ag.get rfl).trans rfl)) (WE.bin (WE.nm rfl (WE.cInt (WO.subInt (WO.subList (.inl (((e₂.trans e₃).trans (e37.trans e)).get _ _ hlt')) (by omega) (by omega) (v := .str (ts.getD k "")) ?_ ⟨?_, e⟩))))))
            · rw [show (((k : Int) + 1 - 1)).toNat = ((k : Nat) : Int).toNat by omega]; exact tV_getD hkt
            · show _ = V.str (ts.getD ((k : Int) + 1 - 1).toNat "")
              rw [show (((k : Int) + 1 - 1)).toNat = k by omega]
          · rw [tG_eq]
            have et := Ext.new (o := .list (tV (pickS ts ks))) htl
            have e68 := e₇.trans (e₈.trans et)
            have E₈ := E₆.trans e68
            refine WE.call1 (D.f 77 rfl) (WE.nm ((ag2.get rfl).trans ((ag.get rfl).trans rfl)) (is_ordered_c D (v1.vc.ext E₈) (.some (E₈.get _ _ had)) (.inr ⟨cv, facKvs_class _ _ _, c2.ext E₈⟩) (kinds_len _) fun σ₉ e₉ => ?_))
            rw [kinds_bool]
            refine with_levels_none_c D (vy.ext (e68.trans e₉)) (.inl (e₉.get _ _ (upd_self ..))) (by rw [pickS_len]; exact hkz) fun σ₁₀ ad' lv' cv' ep' had' eB v₁₀ a₁₀ c₃ c₄ => ?_
            have E₉ := E₈.trans e₉
            have hl9 := (e68.trans e₉).get _ _ hly'
            exact h _ _ (E₉.but eB (E₅.noneOf hdy)) ⟨y, dy, ly, _, _, rfl, E₅.noneOf hy, E₅.noneOf hdy, E₅.noneOf hly, v₁₀, eB.get _ _ ((vy.ext (e68.trans e₉)).list_ne hl9).1 hl9, .some a₁₀, (fun _ q => by cases q; exact E₉.noneOf had'), rfl, lv', cv', rfl, rfl, c₃.old E₉, c₄.old E₉⟩
end
end Mine

namespace Mine

def nmL (sep : Str) (gs fs : List Str) : List Str := gs.flatMap fun r => fs.map fun l => l ++ sep ++ r
theorem nmL_one {sep : Str} {gs fs : List Str} {i : Nat} {r : Str} (h : gs[i]? = some r) : nmL sep (gs.take (i + 1)) fs = nmL sep (gs.take i) fs ++ fs.map fun l => l ++ sep ++ r := by
  unfold nmL; rw [take_one h, List.flatMap_append]; simp
theorem nmL_len (sep : Str) (gs fs : List Str) : (nmL sep gs fs).length = gs.length * fs.length := by
  unfold nmL
  induction gs with
  | nil => simp
  | cons g r ih => rw [List.flatMap_cons, List.length_append, ih, List.length_map, List.length_cons, Nat.succ_mul, Nat.add_comm]
def icode (c1 c2 : List (Option Int)) (K : Nat) (i : Nat) : Option Int := match c1.getD (i % c1.length) none, c2.getD (i % c2.length) none with
  | some a, some b => some (a + (b - 1) * K)
  | _, _ => none
theorem range_one (N i : Nat) (h : i < N) (f : Nat → Option Int) : (List.range (i + 1)).map f = (List.range i).map f ++ [f i] := by rw [List.range_succ, List.map_append]; rfl
theorem csV_snoc (l : List (Option Int)) (c : Option Int) : csV (l ++ [c]) = csV l ++ [cV c] := by unfold csV; rw [List.map_append]; rfl
theorem tV_snoc (l : List Str) (c : Str) : tV (l ++ [c]) = tV l ++ [.str c] := by unfold tV; rw [List.map_append]; rfl
def iN (a b : Nat) : Nat := if a = 0 ∨ b = 0 then 0 else max a b

section
variable {B : Base} {n : Nat} {sc scope : Scope} {m : Loc} {σ σ' σ₀ σ₁ : St} {Q : V → St → Prop} {P : Bool → St → Prop}
theorem Fac.parts {x : Addr} {ts kinds : List Str} {cs : List (Option Int)} {o : Option (List Str)} (h : Fac B σ x ts kinds cs o) : ∃ l at_ f lv cv, Vc B σ x "integer" l at_ ∧ At σ at_ f ∧ f "levels" = some lv ∧ Chr B σ lv ts ∧ f "class" = some cv ∧ Chr B σ cv kinds ∧ σ l = some (.list (csV cs)) := by
  obtain ⟨d, l, ad, ep, lv, cv, nvo, v1, had, c1, c2, hl, hn⟩ := h.ex
  exact ⟨l, _, _, lv, cv, v1.vc, .some had, facKvs_levels _ _ _, c1, facKvs_class _ _ _, c2, hl⟩

theorem interaction_c (D : Defs B) {x y : Addr} {ts us k1 k2 : List Str} {cs ds : List (Option Int)} {o1 o2 : Option (List Str)} {sep : Str} (hx : Fac B σ x ts k1 cs o1) (hy : Fac B σ y us k2 ds o2) (h1 : cs.length ≤ 500) (h2 : ds.length ≤ 500) (h3 : ts.length ≤ 30) (h4 : us.length ≤ 30)
    (h5 : ∀ s ∈ ts, s.length ≤ 1000) (h6 : ∀ s ∈ us, s.length ≤ 1000) (h7 : sep.length ≤ 1000)
    (h : ∀ z σ', Ext σ σ' → Fac B σ' z (nmL sep us ts) (kindsOf false) ((List.range (iN cs.length ds.length)).map (icode (cs.map (cl ts.length)) (ds.map (cl us.length)) ts.length)) none → Q (.ref z) σ') : WC B (n + 9) "interaction" [.ref x, .ref y, .str sep] σ Q := by
  obtain ⟨lx, ax, fx, lvx, cvx, vx, atx, flx, chx, -, -, hlx⟩ := hx.parts
  obtain ⟨ly, ay, fy, lvy, cvy, vy, aty, fly, chy, -, -, hly⟩ := hy.parts
  refine WC.enter3 (p1 := "f") (p2 := "g") (p3 := "sep") (D.f 83 rfl) ?_
  refine WSs.cons (WS.assign (WE.len (WE.call1 (D.f 78 rfl) (WE.nm rfl (level_texts_c D vx atx flx chx (by omega) fun d₁ σ₁ e₁ hd₁ hd₁' => WO.lenList (.inl hd₁') (by rw [tV_len]; omega) ?_)))))
  rw [tV_len]
  refine WSs.cons (WS.assign (WE.list (WEs.nil ⟨Nat.zero_le _, fun nm hnm => ?_⟩)))
  have e₁' := e₁.trans (Ext.new (o := .list []) hnm)
  have hnm₀ := e₁.noneOf hnm
  refine WSs.cons (WS.for (WE.call1 (D.f 78 rfl) (WE.nm rfl (level_texts_c D (vy.ext e₁') (aty.ext e₁') fly (chy.ext e₁') (by omega) fun gl σ₂ e₂ hgl hgl' => ⟨_, _, IterOk.list (.inl hgl'), fun i m' σ' => Agree ["right", "left"] _ m' ∧ Ext σ σ' ∧ σ' gl = some (.list (tV us)) ∧ σ' nm = some (.list (tV (nmL sep (us.take i) ts))),
    ⟨Agree.refl _ _, e₁'.trans e₂, hgl', e₂.get _ _ (upd_self ..)⟩, fun i m' σ' q => .inl q.2.2.1, fun i u m' σ' hu q => ?_, fun m' σ' q => ?_⟩))))
  · obtain ⟨r, rfl, hr⟩ := tV_get hu
    obtain ⟨ag, e, hgl2, hnm2⟩ := q
    have hi : i < us.length := (List.getElem?_eq_some_iff.mp hr).1
    have ag' := ag.up (x := "right") rfl (.str r)
    have hgn : gl ≠ nm := fun w => by rw [w, upd_self] at hgl; cases hgl
    have rl := h6 r (mem_take hr)
    have nl := nmL_len sep (us.take i) ts
    have hmul : (us.take i).length * ts.length ≤ 30 * 30 := Nat.mul_le_mul (by rw [List.length_take]; omega) h3
    refine WSs.cons (WS.for (WE.call1 (D.f 78 rfl) (WE.nm ((ag'.get rfl).trans rfl) (level_texts_c D (vx.ext e) (atx.ext e) flx (chx.ext e) (by omega) fun fl σ₃ e₃ hfl hfl' => ⟨_, _, IterOk.list (.inl hfl'), fun j m'' τ => Agree ["right", "left"] _ m'' ∧ m'' "right" = some (.str r) ∧ Ext σ τ ∧ τ gl = some (.list (tV us)) ∧ τ fl = some (.list (tV ts)) ∧ τ nm = some (.list (tV (nmL sep (us.take i) ts ++ (ts.take j).map fun l => l ++ sep ++ r))),
      ⟨ag', rfl, e.trans e₃, e₃.get _ _ hgl2, hfl', by rw [List.take_zero, List.map_nil, List.append_nil]; exact e₃.get _ _ hnm2⟩, fun j m'' τ q => .inl q.2.2.2.2.1, fun j u m'' τ hu q => ?_, fun m'' τ q => ?_⟩))))
    · obtain ⟨l, rfl, hl⟩ := tV_get hu
      obtain ⟨ag2, hrt, e', hgl3, hfl3, hnm3⟩ := q
      have hj : j < ts.length := (List.getElem?_eq_some_iff.mp hl).1
      have ag3 := ag2.up (x := "left") rfl (.str l)
      have hfn : fl ≠ nm := fun w => by rw [w, hnm2] at hfl; cases hfl
      have ll := h5 l (mem_take hl)
      have hr' : (upL m'' "left" (.str l)) "right" = some (.str r) := by rw [show (upL m'' "left" (.str l)) "right" = m'' "right" from rfl]; exact hrt
      refine WSs.cons (WS.expr (WE.append (WE.nm ((ag3.get rfl).trans rfl) ⟨nm, rfl, ⟨_, hnm3⟩, WE.bin (WE.bin (WE.nm rfl (WE.nm ((ag3.get rfl).trans rfl) (WO.addStr (by rw [sizeLine_eq]; omega) (WE.nm hr' (WO.addStr (by rw [Str.length_append, sizeLine_eq]; omega) ⟨_, hnm3, ?_, WSs.nil ⟨ag3, hr', e'.up hnm₀ _, (upd_ne hgn).trans hgl3, (upd_ne hfn).trans hfl3, ?_⟩⟩))))))⟩)))
      · rw [tV_len, List.length_append, List.length_map, List.length_take, nl, sizeLine_eq]; omega
      · rw [upd_self, ← tV_snoc, take_one hl, List.map_append, List.append_assoc]; rfl
    · obtain ⟨ag2, hrt, e', hgl3, hfl3, hnm3⟩ := q
      rw [tV_len, List.take_length] at hnm3
      refine WSs.nil ⟨ag2, e', hgl3, ?_⟩
      rw [hnm3, nmL_one hr]
  · obtain ⟨ag, e, hgl2, hnm2⟩ := q
    rw [tV_len, List.take_length] at hnm2
    refine WSs.cons (WS.assign (WE.maxC (WE.call1 (D.f 26 rfl) (WE.nm ((ag.get rfl).trans rfl) (length_c D (vx.ext e) rfl (e.get _ _ hlx) (by rw [csV_len]; omega) (WE.call1 (D.f 26 rfl) (WE.nm ((ag.get rfl).trans rfl) (length_c D (vy.ext e) rfl (e.get _ _ hly) (by rw [csV_len]; omega) (WO.max ?_)))))))))
    rw [csV_len, csV_len]
    -- the number of the codes
    have rest : ∀ m₂, Agree ["right", "left", "n"] (upL (upL (mOf [("f", .ref x), ("g", .ref y), ("sep", .str sep)] fun _ => none) "count" (.int (ts.length : Int))) "names" (.ref nm)) m₂ → m₂ "n" = some (.int ((iN cs.length ds.length : Nat) : Int)) → WSs B (n + 8) (fn 83).2.2.2 ((fn 83).2.2.1.drop 5) m₂ σ' (fun _ σ' => Q .none σ') Q := fun m₂ ag hn => by
      refine WSs.cons (WS.assign (WE.call1 (D.f 79 rfl) (WE.nm ((ag.get rfl).trans rfl) (codes_in_c D (vx.ext e) (atx.ext e) flx (chx.ext e) (by omega) (e.get _ _ hlx) (by omega) fun fd σ₃ e₃ hfd hfd' => ?_))))
      have E₃ := e.trans e₃
      refine WSs.cons (WS.assign (WE.call1 (D.f 79 rfl) (WE.nm ((ag.get rfl).trans rfl) (codes_in_c D (vy.ext E₃) (aty.ext E₃) fly (chy.ext E₃) (by omega) (E₃.get _ _ hly) (by omega) fun sd σ₄ e₄ hsd hsd' => ?_))))
      have l1 : (cs.map (cl ts.length)).length = cs.length := List.length_map _
      have l2 : (ds.map (cl us.length)).length = ds.length := List.length_map _
      generalize cs.map (cl ts.length) = c1 at *
      generalize ds.map (cl us.length) = c2 at *
      have E₄ := E₃.trans e₄
      refine WSs.cons (WS.assign (WE.list (WEs.nil ⟨Nat.zero_le _, fun cd hcd => ?_⟩)))
      have hcd₀ := E₄.noneOf hcd
      have ec := Ext.new (o := .list []) hcd
      refine WSs.cons (WS.for (WE.range (WE.nm (by rw [show (upL (upL (upL m₂ "first" (.ref fd)) "second" (.ref sd)) "codes" (.ref cd)) "n" = m₂ "n" from rfl]; exact hn) (WO.range fun r hr => ⟨_, _, IterOk.range (upd_self ..) (by unfold iN; split <;> omega), fun i m' τ => Agree ["i", "left", "right"] (upL (upL (upL m₂ "first" (.ref fd)) "second" (.ref sd)) "codes" (.ref cd)) m' ∧ Ext σ₄ τ ∧ τ cd = some (.list (csV ((List.range i).map (icode c1 c2 ts.length)))),
        ⟨Agree.refl _ _, ec.trans (Ext.new hr _), (Ext.new hr _).get _ _ (upd_self ..)⟩, fun _ _ _ _ => trivial, fun i u m' τ hu q => ?_, fun m' τ q => ?_⟩))))
      · obtain ⟨rfl, hi⟩ := natsV_get hu
        obtain ⟨ag2, e5, hcd5⟩ := q
        have hpos : 0 < cs.length ∧ 0 < ds.length := by unfold iN at hi; split at hi <;> omega
        have hN : iN cs.length ds.length ≤ 500 := by unfold iN; split <;> omega
        have m1 : i % c1.length < c1.length := Nat.mod_lt _ (by omega)
        have m2 : i % c2.length < c2.length := Nat.mod_lt _ (by omega)
        have ag3 := ag2.up (x := "i") rfl (.int (i : Int))
        have f5 := (e₄.trans e5).get _ _ hfd'
        have s5 := e5.get _ _ hsd'
        refine WSs.cons (WS.assign (WE.sub (WE.nm ((ag3.get rfl).trans rfl) (WE.bin (WE.nm rfl (WE.len (WE.nm ((ag3.get rfl).trans rfl) (WO.lenList (.inl f5) (by rw [csV_len]; omega) (WO.modInt (by rw [csV_len]; omega) ?_)))))))) )
        rw [csV_len, fmod_nat]
        refine WO.subList (.inl f5) (by omega) (by omega) (csV_getD m1) ?_
        have ag4 := ag3.up (x := "left") rfl (cV (c1.getD (i % c1.length) none))
        refine WSs.cons (WS.assign (WE.sub (WE.nm ((ag4.get rfl).trans rfl) (WE.bin (WE.nm rfl (WE.len (WE.nm ((ag4.get rfl).trans rfl) (WO.lenList (.inl s5) (by rw [csV_len]; omega) (WO.modInt (by rw [csV_len]; omega) ?_)))))))) )
        rw [csV_len, fmod_nat]
        refine WO.subList (.inl s5) (by omega) (by omega) (csV_getD m2) ?_
        have ag5 := ag4.up (x := "right") rfl (cV (c2.getD (i % c2.length) none))
        have fin : ∀ c, icode c1 c2 ts.length i = c → Agree ["i", "left", "right"] (upL (upL (upL m₂ "first" (.ref fd)) "second" (.ref sd)) "codes" (.ref cd)) (upL (upL (upL m' "i" (.int (i : Int))) "left" (cV (c1.getD (i % c1.length) none))) "right" (cV (c2.getD (i % c2.length) none))) ∧ Ext σ₄ (upd τ cd (.list (csV ((List.range i).map (icode c1 c2 ts.length)) ++ [cV c]))) ∧ (upd τ cd (.list (csV ((List.range i).map (icode c1 c2 ts.length)) ++ [cV c]))) cd = some (.list (csV ((List.range (i + 1)).map (icode c1 c2 ts.length)))) := fun c hc => by
          refine ⟨ag5, e5.up hcd _, ?_⟩
          rw [upd_self, List.range_succ, List.map_append]
          show _ = some (AO.list (csV (_ ++ [icode c1 c2 ts.length i])))
          rw [csV_snoc, hc]
        have sz : (csV ((List.range i).map (icode c1 c2 ts.length))).length < sizeLine := by rw [csV_len, List.length_map, List.length_range, sizeLine_eq]; omega
        cases ha : c1.getD (i % c1.length) none with
        | none =>
          rw [ha] at fin ag5
          have hc : icode c1 c2 ts.length i = none := by unfold icode; rw [ha]
          refine WSs.cons (WS.if (WT.or (WT.isNone (WE.nm rfl (iteT rfl (iteT rfl ?_))))))
          exact WSs.cons (WS.expr (WE.append (WE.nm ((ag5.get rfl).trans rfl) ⟨cd, rfl, ⟨_, hcd5⟩, WE.cNone ⟨_, hcd5, sz, WSs.nil (WSs.nil (fin _ hc))⟩⟩)))
        | some p =>
          cases hb : c2.getD (i % c2.length) none with
          | none =>
            rw [ha, hb] at fin ag5
            have hc : icode c1 c2 ts.length i = none := by unfold icode; rw [ha, hb]
            refine WSs.cons (WS.if (WT.or (WT.isNone (WE.nm rfl (iteF rfl (WT.or (WT.isNone (WE.nm rfl (iteT rfl (iteT rfl ?_)))))))))) 
            exact WSs.cons (WS.expr (WE.append (WE.nm ((ag5.get rfl).trans rfl) ⟨cd, rfl, ⟨_, hcd5⟩, WE.cNone ⟨_, hcd5, sz, WSs.nil (WSs.nil (fin _ hc))⟩⟩)))
          | some q =>
            rw [ha, hb] at fin ag5
            have hc : icode c1 c2 ts.length i = some (p + (q - 1) * ts.length) := by unfold icode; rw [ha, hb]
            refine WSs.cons (WS.if (WT.or (WT.isNone (WE.nm rfl (iteF rfl (WT.or (WT.isNone (WE.nm rfl (iteF rfl (WT.orNil (iteF rfl ?_)))))))))) )
            exact WSs.cons (WS.expr (WE.append (WE.nm ((ag5.get rfl).trans rfl) ⟨cd, rfl, ⟨_, hcd5⟩, WE.bin (WE.nm rfl (WE.bin (WE.bin (WE.nm rfl (WE.cInt (WO.subInt (WE.nm ((ag5.get rfl).trans ((ag.get rfl).trans rfl)) (WO.mulInt (IntMulOk.of_right (intBits_le_64 (by omega) (by omega))) (WO.addInt ⟨_, hcd5, sz, WSs.nil (WSs.nil (fin _ hc))⟩)))))))))⟩)))
      · obtain ⟨ag2, e5, hcd5⟩ := q
        rw [natsV_len] at hcd5
        have E₅ := E₄.trans e5
        have hN : iN cs.length ds.length ≤ 500 := by unfold iN; split <;> omega
        refine WSs.cons (WS.ret (WE.call3 (D.f 81 rfl) (WE.call1 (D.f 22 rfl) (WE.nm ((ag2.get rfl).trans rfl) (integer_c D (.inl hcd5) (by rw [csV_len, List.length_map, List.length_range]; omega) fun z dz lz σ₆ hz hdz hlz e₆ vz hlz' => WE.nm ((ag2.get rfl).trans ((ag.get rfl).trans rfl)) (WE.cBool ?_))))))
        have nm6 := (e₃.trans (e₄.trans (e5.trans e₆))).get _ _ hnm2
        have hmul : us.length * ts.length ≤ 30 * 30 := Nat.mul_le_mul h4 h3
        refine with_levels_none_c D vz (.inl nm6) (by rw [nmL_len]; omega) fun σ₇ ad lv cv ep had eB v₇ a₇ c₁ c₂ => ?_
        exact h _ _ ((E₅.trans e₆).but eB (E₅.noneOf hdz)) ⟨dz, lz, ad, ep, lv, cv, none, v₇, a₇, c₁.chr, c₂.chr, eB.get _ _ (vz.list_ne hlz').1 hlz', trivial⟩
    have agn : Agree ["right", "left", "n"] (upL (upL (mOf [("f", .ref x), ("g", .ref y), ("sep", .str sep)] fun _ => none) "count" (.int (ts.length : Int))) "names" (.ref nm)) m' := fun y hy => ag y (by
      rw [List.contains_cons, List.contains_cons, List.contains_cons, Bool.or_eq_false_iff, Bool.or_eq_false_iff] at hy
      rw [List.contains_cons, List.contains_cons, hy.1, hy.2.1]; rfl)
    have agx := agn.up (x := "n") rfl (.int (if (ds.length : Int) > (cs.length : Int) then (ds.length : Int) else (cs.length : Int)))
    have zero : iN cs.length ds.length = 0 → WSs B (n + 8) (fn 83).2.2.2 ((fn 83).2.2.1.drop 5) (upL (upL m' "n" (.int (if (ds.length : Int) > (cs.length : Int) then (ds.length : Int) else (cs.length : Int)))) "n" (.int 0)) σ' (fun _ σ' => Q .none σ') Q := fun hz => rest _ (agx.up rfl _) (by rw [hz]; rfl)
    refine WSs.cons (WS.if (WT.or (WT.cmp (WE.call1 (D.f 26 rfl) (WE.nm ((agx.get rfl).trans rfl) (length_c D (vx.ext e) rfl (e.get _ _ hlx) (by rw [csV_len]; omega) (WE.cInt (WO.eqInt (QB.mk ?_)))))))))
    rw [csV_len]
    by_cases h0 : cs.length = 0
    · exact iteT (by simp [h0]) (iteT rfl (WSs.cons (WS.assign (WE.cInt (WSs.nil (zero (if_pos (.inl h0))))))))
    · refine iteF (beq_eq_false_iff_ne.mpr (by omega)) (WT.or (WT.cmp (WE.call1 (D.f 26 rfl) (WE.nm ((agx.get rfl).trans rfl) (length_c D (vy.ext e) rfl (e.get _ _ hly) (by rw [csV_len]; omega) (WE.cInt (WO.eqInt (QB.mk ?_))))))))
      rw [csV_len]
      by_cases h0' : ds.length = 0
      · exact iteT (by simp [h0']) (iteT rfl (WSs.cons (WS.assign (WE.cInt (WSs.nil (zero (if_pos (.inr h0'))))))))
      · refine iteF (beq_eq_false_iff_ne.mpr (by omega)) (WT.orNil (iteF rfl (WSs.nil (rest _ agx ?_))))
        show some (V.int (if (ds.length : Int) > (cs.length : Int) then (ds.length : Int) else (cs.length : Int))) = _
        have : iN cs.length ds.length = max cs.length ds.length := if_neg (by omega)
        rw [this]
        congr 2
        split <;> omega
end
end Mine

namespace Mine

def iV (l : List Int) : List V := l.map V.int
theorem iV_len (l : List Int) : (iV l).length = l.length := by simp [iV]
theorem iV_get {l : List Int} {i : Nat} {u : V} (h : (iV l)[i]? = some u) : ∃ k, u = .int k ∧ l[i]? = some k := by
  unfold iV at h
  rw [List.getElem?_map] at h
  obtain ⟨s, h1, h2⟩ := Option.map_eq_some_iff.mp h
  exact ⟨s, h2.symm, h1⟩
theorem iV_snoc (l : List Int) (k : Int) : iV (l ++ [k]) = iV l ++ [.int k] := by unfold iV; rw [List.map_append]; rfl
theorem iV_getD {l : List Int} {k : Nat} (h : k < l.length) : (iV l)[((k : Nat) : Int).toNat]? = some (.int (l.getD k 0)) := by
  rw [Int.toNat_natCast, List.getD_eq_getElem?_getD, List.getElem?_eq_getElem h]
  unfold iV; rw [List.getElem?_map, List.getElem?_eq_getElem h]; rfl
/-- the state of the draws -/
structure DS (σ : St) (st rw_ : Addr) : Prop where
  ex : ∃ row seed, σ st = some (.list [.ref rw_, .int seed]) ∧ st ≠ rw_ ∧ σ rw_ = some (.list (iV row)) ∧ (∀ r ∈ row, 0 ≤ r) ∧ row.length ≤ 1000 ∧ 0 ≤ seed
/-- all kept but the draws -/
structure ExtS (st rw_ : Addr) (σ σ' : St) : Prop where
  get : ∀ a o, a ≠ st → a ≠ rw_ → σ a = some o → σ' a = some o
theorem ExtS.refl {st rw_ : Addr} (σ : St) : ExtS st rw_ σ σ := ⟨fun _ _ _ _ h => h⟩
theorem ExtS.trans {st rw_ : Addr} {σ σ₁ σ₂ : St} (x : ExtS st rw_ σ σ₁) (y : ExtS st rw_ σ₁ σ₂) : ExtS st rw_ σ σ₂ := ⟨fun a o h1 h2 e => y.get a o h1 h2 (x.get a o h1 h2 e)⟩
theorem Ext.s {σ σ' : St} (x : Ext σ σ') (st rw_ : Addr) : ExtS st rw_ σ σ' := ⟨fun a o _ _ e => x.get a o e⟩
theorem DS.ext {σ σ' : St} {st rw_ : Addr} (h : DS σ st rw_) (e : Ext σ σ') : DS σ' st rw_ :=
  let ⟨row, seed, h1, h2, h3, h4⟩ := h.ex; ⟨row, seed, e.get _ _ h1, h2, e.get _ _ h3, h4⟩
/-- another object turned -/
theorem DS.up {σ : St} {st rw_ a : Addr} (h : DS σ st rw_) (h1 : a ≠ st) (h2 : a ≠ rw_) (o : AO) : DS (upd σ a o) st rw_ :=
  let ⟨row, seed, g1, g2, g3, g4⟩ := h.ex; ⟨row, seed, (upd_ne (Ne.symm h1)).trans g1, g2, (upd_ne (Ne.symm h2)).trans g3, g4⟩
theorem DS.ne {σ σ₀ : St} {st rw_ a : Addr} (h : DS σ₀ st rw_) (ha : σ₀ a = none) : a ≠ st ∧ a ≠ rw_ := by
  obtain ⟨row, seed, g1, g2, g3, g4⟩ := h.ex
  exact ⟨fun e => (by rw [e, g1] at ha; cases ha), fun e => (by rw [e, g3] at ha; cases ha)⟩
theorem DS.not {σ : St} {st rw_ a : Addr} {o : AO} (h : DS σ st rw_) (ha : σ a = some o) (ho : ∀ xs, o ≠ .list xs) : a ≠ st ∧ a ≠ rw_ := by
  obtain ⟨row, seed, g1, g2, g3, g4⟩ := h.ex
  exact ⟨fun e => (by rw [e, g1] at ha; cases ha; exact ho _ rfl), fun e => (by rw [e, g3] at ha; cases ha; exact ho _ rfl)⟩

section
variable {B : Base} {n : Nat} {sc scope : Scope} {m : Loc} {σ σ' σ₀ σ₁ : St} {Q : V → St → Prop} {P : Bool → St → Prop}

theorem take_c (D : Defs B) {st rw_ : Addr} {b : Int} (hd : DS σ st rw_) (h0 : 0 < b) (h1 : b < 1000000) (h : ∀ v σ', 0 ≤ v → v < b → (∀ a, a ≠ st → a ≠ rw_ → σ' a = σ a) → DS σ' st rw_ → Q (.int v) σ') : WC B (n + 1) "_law_take" [.ref st, .int b] σ Q := by
  obtain ⟨row, seed, g1, g2, g3, g4, g5, g6⟩ := hd.ex
  refine WC.enter2 (p1 := "state") (p2 := "bound") (D.f 90 rfl) ?_
  refine WSs.cons (WS.if (WT.cmp (WE.len (WE.sub (WE.nm rfl (WE.cInt (WO.subList (.inl g1) (by decide) (by decide) rfl (WO.lenList (.inl g3) (by rw [iV_len]; omega) (WE.cInt (WO.gtInt (QB.mk ?_)))))))))))
  rw [iV_len]
  have hs : ∀ (s : Int), 0 ≤ s.fmod b ∧ s.fmod b < b := fun s => ⟨Int.fmod_nonneg_of_pos _ h0, Int.fmod_lt_of_pos _ h0⟩
  rcases List.eq_nil_or_concat row with rfl | ⟨row', r, hrow⟩
  · refine iteF (by simp) (WSs.nil ?_)
    refine WSs.cons (WS.if (WT.cmp (WE.sub (WE.nm rfl (WE.cInt (WO.subList (.inl g1) (by decide) (by decide) rfl (WE.cInt (WO.gtInt (QB.mk ?_)))))))))
    by_cases hseed : seed > 0
    · refine iteT (by simpa using hseed) (WSs.cons (WS.item (WE.bin (WE.bin (WE.bin (WE.sub (WE.nm rfl (WE.cInt (WO.subList (.inl g1) (by decide) (by decide) rfl (WE.cInt (WO.mulInt (IntMulOk.of_right (by decide)) (WE.cInt (WO.addInt (WE.cInt (WO.modInt (by decide) (WE.nm rfl (WE.cInt (SItem.list g1 (by decide) (show (1 : Int) < (2 : Nat) by decide) (show 2 < 2 ^ 60 by decide) (WSs.nil ?_)))))))))))))))))))
      have gs : (upd σ st (.list ([V.ref rw_, .int seed].set (1 : Int).toNat (.int ((seed * 73 + 29).fmod 1013))))) st = some (.list [V.ref rw_, .int ((seed * 73 + 29).fmod 1013)]) := upd_self ..
      have hn : 0 ≤ (seed * 73 + 29).fmod 1013 := Int.fmod_nonneg_of_pos _ (by decide)
      refine WSs.cons (WS.ret (WE.bin (WE.sub (WE.nm rfl (WE.cInt (WO.subList (.inl gs) (by decide) (by decide) rfl (WE.nm rfl (WO.modInt (by omega) ?_))))))))
      exact h _ _ (hs _).1 (hs _).2 (fun a ha _ => upd_ne ha) ⟨[], _, gs, g2, (upd_ne (Ne.symm g2)).trans g3, g4, g5, hn⟩
    · refine iteF (by simpa using hseed) (WSs.nil ?_)
      refine WSs.cons (WS.ret (WE.bin (WE.sub (WE.nm rfl (WE.cInt (WO.subList (.inl g1) (by decide) (by decide) rfl (WE.nm rfl (WO.modInt (by omega) ?_))))))))
      exact h _ _ (hs _).1 (hs _).2 (fun a _ _ => rfl) ⟨[], _, g1, g2, g3, g4, g5, g6⟩
  · rw [List.concat_eq_append] at hrow
    subst hrow
    rw [iV_snoc] at g3
    rw [List.length_append, List.length_singleton] at g5
    refine iteT (decide_eq_true (by rw [List.length_append, List.length_singleton]; omega)) ?_
    refine WSs.cons (WS.ret (WE.bin (WE.meth F.plainAttrs_list F.slot_list_pop F.type_list_pop rfl (WE.sub (WE.nm rfl (WE.cInt (WO.subList (.inl g1) (by decide) (by decide) rfl ⟨plainT_list (.inl g3), WEs.nil (WO.pop g3 (by rw [iV_len, sizeLine_eq]; omega) (WE.nm rfl (WO.modInt (by omega) ?_)))⟩)))))))
    refine h _ _ (hs _).1 (hs _).2 (fun a _ ha => upd_ne ha) ⟨row', seed, (upd_ne g2).trans g1, g2, upd_self .., fun x hx => g4 x (List.mem_append_left _ hx), by omega, g6⟩
def keysL (cl : List Int) (N : Nat) : List Int := if cl.length = 0 then List.replicate N (-1) else (List.range N).map fun p => cl.getD (p % cl.length) 0
theorem flat_one (k : Nat) : (List.replicate k [V.int (-1)]).flatten = iV (List.replicate k (-1)) := by
  unfold iV
  induction k with
  | zero => rfl
  | succ k ih => rw [List.replicate_succ, List.flatten_cons, ih, List.replicate_succ, List.map_cons]; rfl
def kyV (cl : List Int) : V → V
  | .int p => .int (cl.getD (p.toNat % cl.length) 0)
  | v => v
theorem law_keys_c (D : Defs B) {cl : Addr} {ks : List Int} {N : Nat} (hl : σ cl = some (.list (iV ks))) (hz : ks.length ≤ 1000) (hN : N ≤ 500) (h : ∀ d σ', Ext σ σ' → σ d = none → σ' d = some (.list (iV (keysL ks N))) → Q (.ref d) σ') : WC B (n + 1) "_law_keys" [.ref cl, .int (N : Int)] σ Q := by
  refine WC.enter2 (p1 := "clean") (p2 := "size") (D.f 95 rfl) ?_
  refine WSs.cons (WS.if (WT.cmp (WE.len (WE.nm rfl (WO.lenList (.inl hl) (by rw [iV_len]; omega) (WE.cInt (WO.eqInt (QB.mk ?_))))))))
  rw [iV_len]
  by_cases h0 : ks.length = 0
  · refine iteT (by simp [h0]) (WSs.cons (WS.ret (WE.bin (WE.list (WEs.cons (WE.neg (WE.cInt (WO.negInt (WEs.nil ⟨Nat.le_of_ble_eq_true rfl, fun a ha => WE.nm rfl (WO.mulList (.inl (upd_self ..)) rfl (by omega) (by omega) fun d hd => ?_)⟩)))))))))
    have e := Ext.new (o := .list [V.int (-1)]) ha
    have hk : keysL ks N = List.replicate N (-1) := if_pos h0
    refine h d _ (e.trans (Ext.new hd _)) (e.noneOf hd) ?_
    rw [upd_self, hk, Int.toNat_natCast]
    exact congrArg (fun l => some (AO.list l)) (flat_one N)
  · refine iteF (beq_eq_false_iff_ne.mpr (by omega)) (WSs.nil ?_)
    refine WSs.cons (WS.ret (WE.comp (WE.range (WE.nm rfl (WO.range fun r hr => CompQ.map (IterOk.range (upd_self ..) (by omega)) (fun _ _ => trivial) (by rw [natsV_len]; omega) (kyV ks) (fun i u σ' hu e => ?_) (fun d σ' e hd => ?_))))))
    · obtain ⟨rfl, hi⟩ := natsV_get hu
      have hc := ((Ext.new (o := .range N) hr).trans e).get _ _ hl
      have hm : i % ks.length < ks.length := Nat.mod_lt _ (by omega)
      refine WE.sub (WE.nm rfl (WE.bin (WE.nm rfl (WE.len (WE.nm rfl (WO.lenList (.inl hc) (by rw [iV_len]; omega) (WO.modInt (by rw [iV_len]; omega) ?_)))))))
      rw [iV_len, fmod_nat]
      exact WO.subList (.inl hc) (by omega) (by omega) (iV_getD hm) ⟨by show _ = V.int (ks.getD (((i : Int)).toNat % ks.length) 0); rw [Int.toNat_natCast], e⟩
    · have e' := (Ext.new (o := .range N) hr).trans e
      have hk : (natsV N).map (kyV ks) = iV (keysL ks N) := by
        unfold natsV iV keysL
        rw [if_neg h0, List.map_map, List.map_map]
        rfl
      rw [hk]
      exact h d _ (e'.up (e'.noneOf hd) _) (e'.noneOf hd) (upd_self ..)
end
end Mine

namespace Mine

def cln (K : Int) : Option Int → Int
  | none => -1
  | some c => if 0 < c ∧ c ≤ K then c - 1 else -1
def clnV (K : Int) : V → V
  | .int c => if 0 < c ∧ c ≤ K then .int (c - 1) else .int (-1)
  | _ => .int (-1)
theorem clnV_map (K : Int) (cs : List (Option Int)) : (csV cs).map (clnV K) = iV (cs.map (cln K)) := by
  unfold csV iV
  rw [List.map_map, List.map_map]
  refine List.map_congr_left fun c _ => ?_
  cases c with
  | none => rfl
  | some c => show (if 0 < c ∧ c ≤ K then V.int (c - 1) else .int (-1)) = V.int (if 0 < c ∧ c ≤ K then c - 1 else -1); split <;> rfl
theorem log2_small {x : Int} (h : x.natAbs < 10 ^ 20) : x.natAbs.log2 < 1920 := by
  by_cases h0 : x.natAbs = 0
  · rw [h0]; decide
  · exact (Nat.log2_lt h0).mpr (Nat.lt_of_lt_of_le h (Nat.le_trans (show 10 ^ 20 ≤ 2 ^ 80 by decide) (Nat.pow_le_pow_right (by decide) (by decide))))
theorem str_len {x : Int} (h : x.natAbs < 10 ^ 20) : ((toString x : String) : Str).length ≤ 21 := by
  show (Str.ofString (toString x)).length ≤ 21
  rw [PySem.ofString_length]
  exact int_text_length_le10 (k := 20) (by decide) h
theorem DS.tk {σ₀ σ σ' : St} {st rw_ : Addr} (e : ExtS st rw_ σ₀ σ) (h : ∀ a, a ≠ st → a ≠ rw_ → σ' a = σ a) : ExtS st rw_ σ₀ σ' := ⟨fun a o h1 h2 g => (h a h1 h2).trans (e.get a o h1 h2 g)⟩
theorem ExtS.up {σ σ' : St} {st rw_ a : Addr} (e : ExtS st rw_ σ σ') (h : σ a = none) (o : AO) : ExtS st rw_ σ (upd σ' a o) := ⟨fun b p h1 h2 g => (upd_ne (ne_of_new h g)).trans (e.get b p h1 h2 g)⟩
theorem DS.nn {σ : St} {st rw_ a : Addr} (h : DS σ st rw_) (ha : σ a = none) : a ≠ st ∧ a ≠ rw_ := DS.ne (σ := σ) h ha
theorem ExtS.noneOf {σ σ' : St} {st rw_ a : Addr} (e : ExtS st rw_ σ σ') (d : DS σ' st rw_) (h : σ' a = none) : σ a = none := by
  obtain ⟨h1, h2⟩ := d.nn h
  cases q : σ a with
  | none => rfl
  | some o => rw [e.get a o h1 h2 q] at h; cases h
section
variable {B : Base} {n : Nat} {sc scope : Scope} {m : Loc} {σ σ' σ₀ σ₁ : St} {Q : V → St → Prop} {P : Bool → St → Prop}

def facI (st rw_ tx : Addr) (m₀ : Loc) (σ : St) (i : Nat) (m' : Loc) (σ' : St) : Prop :=
  Agree ["step", "one"] m₀ m' ∧ ExtS st rw_ σ σ' ∧ DS σ' st rw_ ∧ ∃ ts : List Str, σ' tx = some (.list (tV ts)) ∧ ts.length = i ∧ ∀ s ∈ ts, s.length ≤ 100
def facJ (st rw_ tx cd : Addr) (ts : List Str) (m₀ : Loc) (σ : St) (i : Nat) (m' : Loc) (σ' : St) : Prop :=
  Agree ["step", "draw"] m₀ m' ∧ ExtS st rw_ σ σ' ∧ DS σ' st rw_ ∧ σ' tx = some (.list (tV ts)) ∧ ∃ cs : List (Option Int), σ' cd = some (.list (csV cs)) ∧ cs.length = i
/-- a new factor -/
structure FacN (B : Base) (σ₀ σ : St) (x : Addr) (ts kinds : List Str) (cs : List (Option Int)) : Prop where
  ex : ∃ d l ad ep lv cv, Vd B σ x d "integer" l (.ref ad) ∧ σ ad = some (.sdict [("levels", lv), ("class", cv)] ep) ∧ ChrN B σ₀ σ lv ts ∧ ChrN B σ₀ σ cv kinds ∧ σ l = some (.list (csV cs)) ∧ σ₀ x = none ∧ σ₀ d = none ∧ σ₀ l = none ∧ σ₀ ad = none
theorem FacN.fac {x : Addr} {ts kinds : List Str} {cs : List (Option Int)} (h : FacN B σ₀ σ x ts kinds cs) : Fac B σ x ts kinds cs none := by
  obtain ⟨d, l, ad, ep, lv, cv, h1, h2, h3, h4, h5, h6, h7, h8, h9⟩ := h.ex
  exact ⟨d, l, ad, ep, lv, cv, none, h1, h2, h3.chr, h4.chr, h5, trivial⟩
theorem Vd.extS {x d l st rw_ : Addr} {kind : Str} {at_ : V} (h : Vd B σ x d kind l at_) (hx : x ≠ st ∧ x ≠ rw_) (hd : d ≠ st ∧ d ≠ rw_) (e : ExtS st rw_ σ σ') : Vd B σ' x d kind l at_ := by
  obtain ⟨sh, lo, h1, h2⟩ := h.ex
  exact ⟨sh, lo, e.get _ _ hx.1 hx.2 h1, e.get _ _ hd.1 hd.2 h2⟩
theorem ChrN.extS {st rw_ : Addr} {v : V} {ts : List Str} (h : ChrN B σ₀ σ v ts) (hd : DS σ₀ st rw_) (e : ExtS st rw_ σ σ') : ChrN B σ₀ σ' v ts := by
  obtain ⟨x, d, l, h1, h2, h3, h4, h5, h6⟩ := h.ex
  exact ⟨x, d, l, h1, h2, h3, h4, h5.extS (hd.nn h2) (hd.nn h3) e, e.get _ _ (hd.nn h4).1 (hd.nn h4).2 h6⟩
theorem FacN.extS {x st rw_ : Addr} {ts kinds : List Str} {cs : List (Option Int)} (h : FacN B σ₀ σ x ts kinds cs) (hd : DS σ₀ st rw_) (e : ExtS st rw_ σ σ') : FacN B σ₀ σ' x ts kinds cs := by
  obtain ⟨d, l, ad, ep, lv, cv, h1, h2, h3, h4, h5, h6, h7, h8, h9⟩ := h.ex
  exact ⟨d, l, ad, ep, lv, cv, h1.extS (hd.nn h6) (hd.nn h7) e, e.get _ _ (hd.nn h9).1 (hd.nn h9).2 h2, h3.extS hd e, h4.extS hd e, e.get _ _ (hd.nn h8).1 (hd.nn h8).2 h5, h6, h7, h8, h9⟩
theorem app_len {a b : Str} : (a ++ b).length = a.length + b.length := PySem.Str.length_append a b
theorem law_factor_c (D : Defs B) {st rw_ : Addr} {N : Nat} (hN : N ≤ 500) (hd : DS σ st rw_)
    (h : ∀ t f tx cl kn ts bo cs σ', ExtS st rw_ σ σ' → DS σ' st rw_ → FacN B σ σ' f ts (kindsOf bo) cs → σ' tx = some (.list (tV ts)) → σ' cl = some (.list (iV (cs.map (cln ts.length)))) → σ' kn = some (.list (tV (kindsOf bo))) →
      σ' t = some (.tup [.ref f, .ref tx, .ref cl, .ref kn]) → ts.length ≤ 4 → (∀ s ∈ ts, s.length ≤ 100) → cs.length = N → (σ t = none ∧ σ tx = none ∧ σ cl = none ∧ σ kn = none) → Q (.ref t) σ') : WC B (n + 6) "_law_factor" [.ref st, .int (N : Int)] σ Q := by
  refine WC.enter2 (p1 := "state") (p2 := "size") (D.f 91 rfl) ?_
  refine WSs.cons (WS.assign (WE.bin (WE.bin (WE.call2 (D.f 90 rfl) (WE.nm rfl (WE.cInt (take_c D hd (by decide) (by decide) fun v σ₁ v0 v1 k₁ d₁ => WE.cInt (WO.addInt (WE.cInt (WO.modInt (by decide) ?_)))))))))) 
  obtain ⟨K, hK, hK4⟩ : ∃ K : Nat, (v + 2).fmod 5 = (K : Int) ∧ K ≤ 4 := by
    have a := Int.fmod_nonneg_of_pos (v + 2) (show (0 : Int) < 5 by decide)
    have b := Int.fmod_lt_of_pos (v + 2) (show (0 : Int) < 5 by decide)
    exact ⟨((v + 2).fmod 5).toNat, by omega, by omega⟩
  rw [hK]
  have E₁ : ExtS st rw_ σ σ₁ := DS.tk (ExtS.refl σ) k₁
  refine WSs.cons (WS.assign (WE.list (WEs.nil ⟨Nat.zero_le _, fun tx htx => ?_⟩)))
  have et := (Ext.new (o := .list []) htx)
  have E₂ := E₁.trans (et.s st rw_)
  have d₂ := d₁.ext et
  refine WSs.cons (WS.for (WE.range (WE.nm rfl (WO.range fun r hr => ⟨_, _, IterOk.range (upd_self ..) (by omega), facI st rw_ tx _ σ, ⟨Agree.refl _ _, E₂.trans ((Ext.new hr _).s st rw_), d₂.ext (Ext.new hr _), [], (Ext.new hr _).get _ _ (upd_self ..), rfl, fun s hs => by cases hs⟩, fun _ _ _ _ => trivial, fun i u m' σ' hu q => ?_, fun m' σ₃ q => ?_⟩))))
  · obtain ⟨rfl, hi⟩ := natsV_get hu
    obtain ⟨ag, e, d, ts, htx', hlen, hts⟩ := q
    have ag' := ag.up (x := "step") rfl (.int (i : Int))
    refine WSs.cons (WS.assign (WE.bin (WE.cStr (WE.strC (WE.call2 (D.f 90 rfl) (WE.nm ((ag'.get rfl).trans rfl) (WE.cInt (take_c D d (by decide) (by decide) fun w σ₄ w0 w1 k₄ d₄ => WO.str (log2_small (by omega)) (WO.addStr ?_ ?_)))))))))
    · have := str_len (x := w) (by omega)
      have : ("l" : Str).length = 1 := rfl
      rw [sizeLine_eq]; omega
    have l1 := str_len (x := w) (by omega)
    have l2 : (("l" : Str) ++ (((toString w : String)) : Str)).length = 1 + ((toString w : String) : Str).length := app_len
    generalize hone : (("l" : Str) ++ (((toString w : String)) : Str)) = one at *
    have e₄ : ExtS st rw_ σ σ₄ := DS.tk e k₄
    have htn := d.not htx' (o := .list (tV ts))
    have htx₄ : σ₄ tx = some (.list (tV ts)) := (k₄ tx (d₁.nn htx).1 (d₁.nn htx).2).trans htx'
    have ag2 := ag'.up (x := "one") rfl (.str one)
    refine WSs.cons (WS.if (WT.cmp (WE.nm rfl (WE.nm ((ag2.get rfl).trans rfl) (WO.inList (.inl htx₄) flat_tV rfl (QB.mk ?_))))))
    have fin : ∀ (m₂ : Loc) (one' : Str), Agree ["step", "one"] (upL (upL (mOf [("state", .ref st), ("size", .int (N : Int))] fun _ => none) "count" (.int (K : Int))) "texts" (.ref tx)) m₂ → one'.length ≤ 100 → facI st rw_ tx (upL (upL (mOf [("state", .ref st), ("size", .int (N : Int))] fun _ => none) "count" (.int (K : Int))) "texts" (.ref tx)) σ (i + 1) m₂ (upd σ₄ tx (.list (tV ts ++ [.str one']))) := fun m₂ one' ag3 hl =>
      ⟨ag3, e₄.up (E₁.noneOf d₁ htx) _, d₄.up (d₁.nn htx).1 (d₁.nn htx).2 _, ts ++ [one'], by rw [upd_self, tV_snoc], by rw [List.length_append, hlen]; rfl, fun s hs => (List.mem_append.mp hs).elim (hts s) fun q => by rw [List.mem_singleton.mp q]; exact hl⟩
    have hap : ∀ {m₂ : Loc} {one' : Str}, True := fun {_ _} => trivial
    cases hb : (tV ts).any fun y => eqV y (.str one) with
    | true =>
      refine iteT rfl ?_
      have l3 := str_len (x := (i : Int)) (by omega)
      have l4 : (one ++ (("_" : Str))).length = one.length + 1 := app_len
      have l5 : ((one ++ (("_" : Str))) ++ ((toString (i : Int) : String) : Str)).length = one.length + 1 + ((toString (i : Int) : String) : Str).length := by rw [app_len, l4]
      refine WSs.cons (WS.assign (WE.bin (WE.bin (WE.nm rfl (WE.cStr (WO.addStr (by rw [sizeLine_eq]; show one.length + 1 ≤ _; omega) (WE.strC (WE.nm rfl (WO.str (log2_small (x := (i : Int)) (by omega)) (WO.addStr (by rw [sizeLine_eq, l4]; omega) ?_)))))))))) 
      have ag3 := ag2.up (x := "one") rfl (.str ((one ++ (("_" : Str))) ++ ((toString (i : Int) : String) : Str)))
      exact WSs.nil (WSs.cons (WS.expr (WE.append (WE.nm ((ag3.get rfl).trans rfl) ⟨_, rfl, ⟨_, htx₄⟩, WE.nm rfl ⟨_, htx₄, by rw [tV_len, sizeLine_eq]; omega, WSs.nil (fin _ _ ag3 (by omega))⟩⟩))))
    | false =>
      refine iteF rfl (WSs.nil ?_)
      exact WSs.cons (WS.expr (WE.append (WE.nm ((ag2.get rfl).trans rfl) ⟨_, rfl, ⟨_, htx₄⟩, WE.nm rfl ⟨_, htx₄, by rw [tV_len, sizeLine_eq]; omega, WSs.nil (fin _ _ ag2 (by omega))⟩⟩)))
  · obtain ⟨ag, e₃, d₃, ts, htx₃, hlen, hts⟩ := q
    rw [natsV_len] at hlen
    refine WSs.cons (WS.assign (WE.list (WEs.nil ⟨Nat.zero_le _, fun cd hcd => ?_⟩)))
    have ec := (Ext.new (o := .list []) hcd)
    have hcd₀ := e₃.noneOf d₃ hcd
    refine WSs.cons (WS.for (WE.range (WE.nm ((ag.get rfl).trans rfl) (WO.range fun r hr => ⟨_, _, IterOk.range (upd_self ..) (by omega), facJ st rw_ tx cd ts _ σ, ⟨Agree.refl _ _, e₃.trans ((ec.trans (Ext.new hr _)).s st rw_), d₃.ext (ec.trans (Ext.new hr _)), (ec.trans (Ext.new hr _)).get _ _ htx₃, [], (Ext.new hr _).get _ _ (upd_self ..), rfl⟩, fun _ _ _ _ => trivial, fun i u m'' σ' hu q => ?_, fun m₄ σ₄ q => ?_⟩))))
    · obtain ⟨rfl, hi⟩ := natsV_get hu
      obtain ⟨ag4, e, d, htx', cs, hcs, hcl⟩ := q
      have ag' := ag4.up (x := "step") rfl (.int (i : Int))
      refine WSs.cons (WS.assign (WE.call2 (D.f 90 rfl) (WE.nm ((ag'.get rfl).trans ((ag.get rfl).trans rfl)) (WE.bin (WE.nm ((ag'.get rfl).trans ((ag.get rfl).trans rfl)) (WE.cInt (WO.addInt (take_c D d (by omega) (by omega) fun w σ₄ w0 w1 k₄ d₄ => ?_))))))))
      have e₄ : ExtS st rw_ σ σ₄ := DS.tk e k₄
      have hcdn := d₃.nn hcd
      have htxn := d₁.nn htx
      have htx₄ : σ₄ tx = some (.list (tV ts)) := (k₄ tx htxn.1 htxn.2).trans htx'
      have hcd₄ : σ₄ cd = some (.list (csV cs)) := (k₄ cd hcdn.1 hcdn.2).trans hcs
      have hne : tx ≠ cd := fun q => by rw [q, hcd] at htx₃; cases htx₃
      have ag2 := ag'.up (x := "draw") rfl (.int w)
      have fin : ∀ c : Option Int, facJ st rw_ tx cd ts _ σ (i + 1) _ (upd σ₄ cd (.list (csV cs ++ [cV c]))) := fun c =>
        ⟨ag2, e₄.up hcd₀ _, d₄.up hcdn.1 hcdn.2 _, (upd_ne hne).trans htx₄, cs ++ [c], by rw [upd_self, csV_snoc], by rw [List.length_append, hcl]; rfl⟩
      refine WSs.cons (WS.if (WT.cmp (WE.nm rfl (WE.nm ((ag2.get rfl).trans ((ag.get rfl).trans rfl)) (WO.ltInt (QB.mk ?_))))))
      by_cases h1 : w < (K : Int)
      · exact iteT (decide_eq_true h1) (WSs.cons (WS.expr (WE.append (WE.nm ((ag2.get rfl).trans rfl) ⟨_, rfl, ⟨_, hcd₄⟩, WE.bin (WE.nm rfl (WE.cInt (WO.addInt ⟨_, hcd₄, by rw [csV_len, sizeLine_eq]; omega, WSs.nil (WSs.nil (fin (some _)))⟩)))⟩))))
      · refine iteF (decide_eq_false h1) (WSs.cons (WS.if (WT.cmp (WE.nm rfl (WE.nm ((ag2.get rfl).trans ((ag.get rfl).trans rfl)) (WO.eqInt (QB.mk ?_)))))))
        cases h2 : (w == (K : Int)) with
        | true => exact iteT rfl (WSs.cons (WS.expr (WE.append (WE.nm ((ag2.get rfl).trans rfl) ⟨_, rfl, ⟨_, hcd₄⟩, WE.cNone ⟨_, hcd₄, by rw [csV_len, sizeLine_eq]; omega, WSs.nil (WSs.nil (WSs.nil (fin none)))⟩⟩))))
        | false =>
          refine iteF rfl (WSs.cons (WS.expr (WE.append (WE.nm ((ag2.get rfl).trans rfl) ⟨_, rfl, ⟨_, hcd₄⟩, WE.ifExp (WT.cmp (WE.nm rfl (WE.bin (WE.nm ((ag2.get rfl).trans ((ag.get rfl).trans rfl)) (WE.cInt (WO.addInt (WO.eqInt (QB.mk ?_))))))))⟩))))
          cases h3 : (w == (K : Int) + 1) with
          | true => exact iteT rfl (WE.cInt ⟨_, hcd₄, by rw [csV_len, sizeLine_eq]; omega, WSs.nil (WSs.nil (WSs.nil (fin (some _))))⟩)
          | false => exact iteF rfl (WE.bin (WE.nm ((ag2.get rfl).trans ((ag.get rfl).trans rfl)) (WE.cInt (WO.addInt ⟨_, hcd₄, by rw [csV_len, sizeLine_eq]; omega, WSs.nil (WSs.nil (WSs.nil (fin (some _))))⟩))))
    · obtain ⟨ag4, e₄, d₄, htx₄, cs, hcs, hcl⟩ := q
      rw [natsV_len] at hcl
      refine WSs.cons (WS.assign (WE.ifExp (WT.cmp (WE.call2 (D.f 90 rfl) (WE.nm ((ag4.get rfl).trans ((ag.get rfl).trans rfl)) (WE.cInt (take_c D d₄ (by decide) (by decide) fun w σ₅ w0 w1 k₅ d₅ => WE.cInt (WO.gtInt (QB.mk ?_)))))))))
      have e₅ : ExtS st rw_ σ σ₅ := DS.tk e₄ k₅
      have hcdn := d₃.nn hcd
      have htxn := d₁.nn htx
      have htx₅ : σ₅ tx = some (.list (tV ts)) := (k₅ tx htxn.1 htxn.2).trans htx₄
      have hcd₅ : σ₅ cd = some (.list (csV cs)) := (k₅ cd hcdn.1 hcdn.2).trans hcs
      have rest : ∀ (bo : Bool) (kn : Addr), σ₅ kn = none → WSs B (n + 5) (fn 91).2.2.2 ((fn 91).2.2.1.drop 6) (upL m₄ "kinds" (.ref kn)) (upd σ₅ kn (.list (tV (kindsOf bo)))) (fun _ σ' => Q .none σ') Q := fun bo kn hkn => by
        have ek := (Ext.new (o := .list (tV (kindsOf bo))) hkn)
        have hkn' := upd_self (σ := σ₅) (a := kn) (o := .list (tV (kindsOf bo)))
        have hk2 := kinds_len bo
        refine WSs.cons (WS.assign (WE.vec3 D (WE.cStr (WE.nm ((ag4.get rfl).trans rfl) (WE.dict2 (by decide) (WE.call1 (D.f 23 rfl) (WE.nm ((ag4.get rfl).trans ((ag.get rfl).trans rfl)) (chrN_c D (.inl (ek.get _ _ htx₅)) (by omega) fun lv σ₆ e₆ clv => WE.call1 (D.f 23 rfl) (WE.nm rfl (chrN_c D (.inl (e₆.get _ _ hkn')) (by omega) fun cv σ₇ e₇ ccv ad ep had had₀ => newQ.vd fun x d σ₈ hx hd₈ e₈ v₈ => ?_))))))))))
        have E57 := ek.trans (e₆.trans (e₇.trans (Ext.new (o := .sdict [("levels", lv), ("class", cv)] ep) had)))
        have E58 := E57.trans e₈
        have dm : Dm σ (upd σ₅ kn (.list (tV (kindsOf bo)))) := fun a ha => e₅.noneOf d₅ (ek.noneOf ha)
        have fac : ∀ τ, Ext σ₈ τ → FacN B σ τ x ts (kindsOf bo) cs := fun τ eτ => ⟨d, cd, ad, ep, lv, cv, v₈.ext eτ, eτ.get _ _ (e₈.get _ _ (upd_self ..)), (clv.ext (e₇.trans ((Ext.new had _).trans (e₈.trans eτ)))).oldD dm, (ccv.ext ((Ext.new had _).trans (e₈.trans eτ))).oldD (dm.trans e₆.dm), eτ.get _ _ (E58.get _ _ hcd₅), e₅.noneOf d₅ (E57.noneOf hx), e₅.noneOf d₅ (E57.noneOf hd₈), hcd₀, e₅.noneOf d₅ ((ek.trans (e₆.trans e₇)).noneOf had)⟩
        have hx₀ : σ x = none := e₅.noneOf d₅ (E57.noneOf hx)
        refine WSs.cons (WS.assignC (WE.nm ((ag4.get rfl).trans rfl) (CompQ.map (IterOk.list (.inl (E58.get _ _ hcd₅))) (fun σ' e => .inl (e.get _ _ (E58.get _ _ hcd₅))) (by rw [csV_len]; omega) (clnV (K : Int)) (fun i u σ' hu e => ?_) (fun cl σ₉ e₉ hcl' => ?_))))
        · obtain ⟨c, rfl, _⟩ := csV_get hu
          cases c with
          | none => exact WE.ifExp (WT.and (WT.isNotNone (WE.nm rfl (iteF rfl (iteF rfl (WE.neg (WE.cInt (WO.negInt ⟨rfl, e⟩))))))))
          | some c =>
            refine WE.ifExp (WT.and (WT.isNotNone (WE.nm rfl (iteT rfl (WT.and (WT.cmp (WE.cInt (WE.nm rfl (WO.ltInt (QB.mk ?_))))))))))
            by_cases h1 : 0 < c
            · refine iteT (decide_eq_true h1) (WT.and (WT.cmp (WE.nm rfl (WE.nm ((ag4.get rfl).trans ((ag.get rfl).trans rfl)) (WO.leInt (QB.mk ?_))))))
              by_cases h2 : c ≤ (K : Int)
              · exact iteT (decide_eq_true h2) (WT.andNil (iteT rfl (WE.bin (WE.nm rfl (WE.cInt (WO.subInt ⟨(if_pos (c := 0 < c ∧ c ≤ (K : Int)) ⟨h1, h2⟩).symm, e⟩))))))
              · exact iteF (decide_eq_false h2) (iteF rfl (WE.neg (WE.cInt (WO.negInt ⟨(if_neg (c := 0 < c ∧ c ≤ (K : Int)) fun q => h2 q.2).symm, e⟩))))
            · exact iteF (decide_eq_false h1) (iteF rfl (WE.neg (WE.cInt (WO.negInt ⟨(if_neg (c := 0 < c ∧ c ≤ (K : Int)) fun q => h1 q.1).symm, e⟩))))
        · rw [clnV_map, ← hlen]
          have E5 := (E58.trans e₉).trans (Ext.new (o := .list (iV (cs.map (cln (ts.length : Int))))) hcl')
          refine WSs.cons (WS.ret (WE.tuple (WEs.cons (WE.nm rfl (WEs.cons (WE.nm ((ag4.get rfl).trans ((ag.get rfl).trans rfl)) (WEs.cons (WE.nm rfl (WEs.cons (WE.nm rfl (WEs.nil ⟨Nat.le_of_ble_eq_true rfl, fun t ht => ?_⟩)))))))))))
          have et := Ext.new (o := .tup [.ref x, .ref tx, .ref cl, .ref kn]) ht
          have E6 := E5.trans et
          exact h t x tx cl kn ts bo cs _ (e₅.trans (E6.s st rw_)) (d₅.ext E6) (fac _ (e₉.trans ((Ext.new hcl' _).trans et))) (E6.get _ _ htx₅) (et.get _ _ (upd_self ..)) (E58.get _ _ htx₅ |> fun _ => (e₆.trans (e₇.trans ((Ext.new had _).trans (e₈.trans (e₉.trans ((Ext.new hcl' _).trans et)))))).get _ _ hkn') (upd_self ..) (by omega) hts hcl ⟨e₅.noneOf d₅ (E5.noneOf ht), E₁.noneOf d₁ htx, e₅.noneOf d₅ ((E58.trans e₉).noneOf hcl'), e₅.noneOf d₅ hkn⟩
      by_cases h1 : w > 0
      · exact iteT (decide_eq_true h1) (WE.list (WEs.cons (WE.cStr (WEs.nil ⟨Nat.le_of_ble_eq_true rfl, fun kn hkn => rest false kn hkn⟩))))
      · exact iteF (decide_eq_false h1) (WE.list (WEs.cons (WE.cStr (WEs.cons (WE.cStr (WEs.nil ⟨Nat.le_of_ble_eq_true rfl, fun kn hkn => rest true kn hkn⟩))))))
end
end Mine

namespace Mine
def bodyF : List Stmt → List Stmt
  | .For _ _ b _ _ :: _ => b
  | .If _ b _ _ :: _ => b
  | _ => []
def bodyW : List Stmt → List Stmt
  | .While _ b _ _ :: _ => b
  | _ => []
section
variable {B : Base} {n : Nat} {sc scope : Scope} {m : Loc} {σ σ' σ₀ σ₁ : St} {Q : V → St → Prop} {P : Bool → St → Prop}

structure DrI (rw0 ls : Addr) (vs : List V) (m₀ : Loc) (σ : St) (k : Nat) (m' : Loc) (σ' : St) : Prop where
  ag : Agree ["cell", "rest", "lap"] m₀ m'
  e : Ext σ σ'
  l : σ' ls = some (.list vs)
  row : ∃ row : List Int, σ' rw0 = some (.list (iV row)) ∧ row.length ≤ k ∧ ∀ r ∈ row, 0 ≤ r
theorem law_draws_c (D : Defs B) {sa : Addr} {is : List Int} (hs : rd B σ sa (.list (iV is))) (hz : is.length ≤ 63) (h : ∀ st rw_ σ', Ext σ σ' → DS σ' st rw_ → Q (.ref st) σ') : WC B (n + 1) "_law_draws" [.ref sa] σ Q := by
  refine WC.enter1 (p1 := "script") (D.f 89 rfl) ?_
  refine WSs.cons (WS.assign (WE.list (WEs.nil ⟨Nat.zero_le _, fun rw0 hrw0 => ?_⟩)))
  have e₁ := (Ext.new (o := .list []) hrw0)
  refine WSs.cons (WS.for (WE.upto (WE.nm rfl ⟨_, _, rfl, hs.ext e₁, by rw [iV_len, sizeLine_eq]; omega, fun ls hls => ⟨_, _, IterOk.list (.inl (upd_self ..)), fun i => DrI rw0 ls ((iV is).take 48) _ σ (40 * i), ⟨Agree.refl _ _, e₁.trans (Ext.new hls _), upd_self .., [], (Ext.new hls _).get _ _ (upd_self ..), Nat.zero_le _, fun r hr => by cases hr⟩, fun _ _ _ q => .inl q.l, fun i u m' σ' hu q => ?_, fun m' σ₃ q => ?_⟩⟩)))
  · have hlr : ls ≠ rw0 := fun q => by rw [q, upd_self] at hls; cases hls
    have hu' : ∃ c, u = .int c ∧ i < 48 := by
      have := List.getElem?_eq_some_iff.mp hu
      obtain ⟨h1, h2⟩ := this
      have h3 : i < 48 := by rw [List.length_take] at h1; exact Nat.lt_of_lt_of_le h1 (Nat.min_le_left _ _)
      rw [List.getElem?_take, if_pos h3] at hu
      obtain ⟨k, hk, _⟩ := iV_get hu
      exact ⟨k, hk, h3⟩
    obtain ⟨c, rfl, hi⟩ := hu'
    have ag' := q.ag.up (x := "cell") rfl (.int c)
    have key : ∀ z : Int, WSs B n (fn 89).2.2.2 ((bodyF ((fn 89).2.2.1.drop 1)).drop 1) (upL (upL m' "cell" (.int c)) "rest" (.int z)) σ' (DrI rw0 ls ((iV is).take 48) (upL (mOf [("script", .ref sa)] fun _ => none) "row" (.ref rw0)) σ (40 * (i + 1))) Q := fun z => by
      refine WSs.cons (WS.assign (WE.cInt ?_))
      refine WSs.cons (WS.while (fun k m' σ' => DrI rw0 ls ((iV is).take 48) _ σ (40 * i + (40 - k)) m' σ' ∧ k ≤ 40 ∧ m' "lap" = some (.int ((40 - k : Nat) : Int)) ∧ ∃ r : Int, m' "rest" = some (.int r)) 40 ⟨⟨(ag'.up (x := "rest") rfl _).up (x := "lap") rfl _, q.e, q.l, ?_⟩, Nat.le_refl _, rfl, z, rfl⟩ fun k m₂ σ₂ q₂ => ?_)
      · obtain ⟨row, r1, r2, r3⟩ := q.row
        exact ⟨row, r1, r2, r3⟩
      · obtain ⟨q₂, hk, hlap, r, hr⟩ := q₂
        refine WT.and (WT.cmp (WE.nm hlap (WE.cInt (WO.ltInt (QB.mk ?_)))))
        have fin : k = 0 ∨ True → DrI rw0 ls ((iV is).take 48) (upL (mOf [("script", .ref sa)] fun _ => none) "row" (.ref rw0)) σ (40 * (i + 1)) m₂ σ₂ := fun _ => ⟨q₂.ag, q₂.e, q₂.l, let ⟨row, r1, r2, r3⟩ := q₂.row; ⟨row, r1, by omega, r3⟩⟩
        by_cases hk0 : k = 0
        · refine iteF (decide_eq_false (by omega)) (iteF rfl (WSs.nil (fin (.inl hk0))))
        · refine iteT (decide_eq_true (by omega)) ?_
          have step : WSs B n (fn 89).2.2.2 (bodyW (((bodyF ((fn 89).2.2.1.drop 1)).drop 2))) m₂ σ₂ (fun m₂ σ₂ => ∃ j, j < k ∧ (DrI rw0 ls ((iV is).take 48) (upL (mOf [("script", .ref sa)] fun _ => none) "row" (.ref rw0)) σ (40 * i + (40 - j)) m₂ σ₂ ∧ j ≤ 40 ∧ m₂ "lap" = some (.int ((40 - j : Nat) : Int)) ∧ ∃ r : Int, m₂ "rest" = some (.int r))) Q := by
            obtain ⟨row, r1, r2, r3⟩ := q₂.row
            refine WSs.cons (WS.expr (WE.append (WE.nm ((q₂.ag.get rfl).trans rfl) ⟨_, rfl, ⟨_, r1⟩, WE.bin (WE.nm hr (WE.cInt (WO.modInt (by decide) ⟨_, r1, by rw [iV_len, sizeLine_eq]; omega, ?_⟩)))⟩)))
            refine WSs.cons (WS.aug hr (WE.cInt (WO.ifloordivInt (by decide) (by decide) ?_)))
            refine WSs.cons (WS.aug (u := .int ((40 - k : Nat) : Int)) hlap (WE.cInt (WO.iaddInt (WSs.nil ⟨k - 1, by omega, ⟨(q₂.ag.up (x := "rest") rfl _).up (x := "lap") rfl _, q₂.e.up (hrw0) _, (upd_ne hlr).trans q₂.l, row ++ [r.fmod 660], by rw [upd_self, iV_snoc], by rw [List.length_append, List.length_singleton]; omega, fun x hx => (List.mem_append.mp hx).elim (r3 x) fun w => by rw [List.mem_singleton.mp w]; exact Int.fmod_nonneg_of_pos _ (by decide)⟩, by omega, ?_, _, rfl⟩))))
            show some (V.int (((40 - k : Nat) : Int) + 1)) = _
            rw [show ((40 - k : Nat) : Int) + 1 = ((40 - (k - 1) : Nat) : Int) by omega]
          refine WT.and (WT.or (WT.cmp (WE.nm hlap (WE.cInt (WO.eqInt (QB.mk ?_))))))
          cases h1 : (((40 - k : Nat) : Int) == 0) with
          | true => exact iteT rfl (iteT rfl (WT.andNil (iteT rfl step)))
          | false =>
            refine iteF rfl (WT.or (WT.cmp (WE.nm hr (WE.cInt (WO.gtInt (QB.mk ?_))))))
            by_cases h2 : r > 0
            · exact iteT (decide_eq_true h2) (iteT rfl (WT.andNil (iteT rfl step)))
            · exact iteF (decide_eq_false h2) (WT.orNil (iteF rfl (iteF rfl (WSs.nil (fin (.inr trivial))))))
    refine WSs.cons (WS.assign (WE.bin (WE.bin (WE.absC (WE.intC (WE.nm rfl (WO.int (WO.abs (WE.cInt (WO.mulInt (IntMulOk.of_right (by decide)) (WE.ifExp (WT.cmp (WE.nm rfl (WE.cInt (WO.ltInt (QB.mk ?_))))))))))))))))
    by_cases hc : c < 0
    · exact iteT (decide_eq_true hc) (WE.cInt (WO.addInt (key _)))
    · exact iteF (decide_eq_false hc) (WE.cInt (WO.addInt (key _)))
  · have hlen : ((iV is).take 48).length ≤ 48 := by rw [List.length_take]; exact Nat.min_le_left _ _
    obtain ⟨row, r1, r2, r3⟩ := q.row
    have r2' : row.length ≤ 40 * ((iV is).take 48).length := r2
    have hz1 : row.length ≤ 2000 := by omega
    refine WSs.cons (WS.assign (WE.upto (WE.nm ((q.ag.get rfl).trans rfl) ⟨_, _, rfl, .inl r1, by rw [iV_len, sizeLine_eq]; omega, fun rw_ hrw => ?_⟩)))
    have e₄ := q.e.trans (Ext.new (o := .list ((iV row).take 300)) hrw)
    have hl : ((iV row).take 300).length ≤ 300 := by rw [List.length_take]; exact Nat.min_le_left _ _
    refine WSs.cons (WS.expr (WE.meth F.plainAttrs_list F.slot_list_reverse F.type_list_reverse rfl (WE.nm rfl ⟨plainT_list (.inl (upd_self ..)), WEs.nil (WO.reverse (upd_self ..) (by rw [sizeLine_eq]; exact Nat.lt_of_le_of_lt hl (by decide)) ?_)⟩)))
    refine WSs.cons (WS.assign (WE.cInt ?_))
    have hrev : ((iV row).take 300).reverse = iV ((row.take 300).reverse) := by unfold iV; rw [← List.map_take, ← List.map_reverse]
    have e₅ : Ext σ (upd (upd σ₃ rw_ (.list ((iV row).take 300))) rw_ (.list ((iV row).take 300).reverse)) := by rw [upd_upd]; exact q.e.trans (Ext.new hrw _)
    rw [hrev] at e₅ ⊢
    have rest : ∀ (m₂ : Loc) (seed : Int), 0 ≤ seed → m₂ "row" = some (.ref rw_) → m₂ "seed" = some (.int seed) → WSs B n (fn 89).2.2.2 ((fn 89).2.2.1.drop 6) m₂ (upd (upd σ₃ rw_ (.list ((iV row).take 300))) rw_ (.list (iV ((row.take 300).reverse)))) (fun _ σ' => Q .none σ') Q := fun m₂ seed hseed hm1 hm2 => by
      refine WSs.cons (WS.ret (WE.list (WEs.cons (WE.nm hm1 (WEs.cons (WE.nm hm2 (WEs.nil ⟨Nat.le_of_ble_eq_true rfl, fun st hst => ?_⟩)))))))
      refine h st rw_ _ (e₅.trans (Ext.new hst _)) ⟨(row.take 300).reverse, seed, upd_self .., ?_, (Ext.new hst _).get _ _ (upd_self ..), fun r hr => r3 r (List.mem_of_mem_take (List.mem_reverse.mp hr)), ?_, hseed⟩
      · exact fun w => by rw [w, upd_self] at hst; cases hst
      · rw [List.length_reverse, List.length_take]; exact Nat.le_trans (Nat.min_le_left _ _) (by decide)
    refine WSs.cons (WS.if (WT.cmp (WE.len (WE.nm ((q.ag.get rfl).trans rfl) (WO.lenList (hs.ext e₅) (by rw [iV_len]; omega) (WE.cInt (WO.gtInt (QB.mk ?_))))))))
    rw [iV_len]
    cases is with
    | nil => exact iteF rfl (WSs.nil (rest _ 0 (by decide) rfl rfl))
    | cons a r =>
      refine iteT (decide_eq_true (by simp)) (WSs.cons (WS.assign (WE.bin (WE.cInt (WE.bin (WE.absC (WE.intC (WE.sub (WE.nm ((q.ag.get rfl).trans rfl) (WE.cInt (WO.subList (hs.ext e₅) (by decide) (by decide) rfl (WO.int (WO.abs (WE.cInt (WO.modInt (by decide) (WO.addInt (WSs.nil (rest _ _ ?_ rfl rfl))))))))))))))))))
      have := Int.fmod_nonneg_of_pos (if a < 0 then -a else a) (show (0 : Int) < 1009 by decide)
      omega
end
end Mine

namespace Mine
section
variable {B : Base} {n : Nat} {sc scope : Scope} {m : Loc} {σ σ' σ₀ σ₁ : St} {Q : V → St → Prop} {P : Bool → St → Prop}

theorem CompQ.draws {x : Str} {elt : Expr} {N : Nat} {v : V} {st rw_ : Addr} (hI : IterOk B v (natsV N) (fun _ => True) σ₁) (hN : N ≤ 1000) (p : V → Prop) (hd : DS σ₁ st rw_)
    (step : ∀ (i : Nat) σ', i < N → ExtS st rw_ σ₁ σ' → DS σ' st rw_ → WE B n (relab scope sc) elt (upL (mC scope m) x (.int (i : Int))) σ' fun w σ'' => p w ∧ ExtS st rw_ σ₁ σ'' ∧ DS σ'' st rw_)
    (fin : ∀ D ys σ', ExtS st rw_ σ₁ σ' → DS σ' st rw_ → σ' D = none → ys.length = N → (∀ w ∈ ys, p w) → Q (.ref D) (upd σ' D (.list ys))) : CompQ B n sc scope m x [] elt Q v σ₁ := by
  refine ⟨natsV N, _, fun i ys σ' => ExtS st rw_ σ₁ σ' ∧ DS σ' st rw_ ∧ ys.length = i ∧ ∀ w ∈ ys, p w, hI, by rw [natsV_len]; omega, ⟨ExtS.refl _, hd, rfl, fun w hw => by cases hw⟩, ⟨fun i ys σ' h => ⟨trivial, by omega⟩, fun i u ys σ' hu h => ?_⟩, fun D ys σ' h _ hD => ?_⟩
  · obtain ⟨rfl, hi⟩ := natsV_get hu
    exact (step i σ' hi h.1 h.2.1).mono fun w σ'' q => ⟨q.2.1, q.2.2, by rw [List.length_append, h.2.2.1]; rfl, fun y hy => (List.mem_append.mp hy).elim (h.2.2.2 y) fun e => by rw [List.mem_singleton.mp e]; exact q.1⟩
  · exact fin D ys σ' h.1 h.2.1 hD (h.2.2.1.trans (natsV_len N)) h.2.2.2
def isT (v : V) : Prop := ∃ s : Str, v = .str s
def isI (v : V) : Prop := ∃ k : Int, v = .int k
theorem allT : ∀ {ys : List V}, (∀ w ∈ ys, isT w) → ∃ ts : List Str, ys = tV ts
  | [], _ => ⟨[], rfl⟩
  | y :: r, h => by
    obtain ⟨s, hs⟩ := h y (.head _)
    obtain ⟨ts, ht⟩ := allT fun w hw => h w (.tail _ hw)
    exact ⟨s :: ts, by rw [hs, ht]; rfl⟩
theorem flatT {ys : List V} (h : ∀ w ∈ ys, isT w) : ∀ w ∈ ys, flat w = true := fun w hw => by obtain ⟨s, rfl⟩ := h w hw; rfl
theorem flatI {ys : List V} (h : ∀ w ∈ ys, isI w) : ∀ w ∈ ys, flat w = true := fun w hw => by obtain ⟨s, rfl⟩ := h w hw; rfl
theorem flatC {cs : List (Option Int)} : ∀ w ∈ csV cs, flat w = true := fun w hw => by
  obtain ⟨c, _, rfl⟩ := List.mem_map.mp hw
  cases c <;> rfl
def LvV (σ : St) (v : V) : Option (List Str × List Str) → Prop
  | none => v = .none
  | some (ts, ks) => ∃ t a b, v = .ref t ∧ σ t = some (.tup [.ref a, .ref b]) ∧ σ a = some (.list (tV ts)) ∧ σ b = some (.list (tV ks))
def LvVN (σ₀ σ : St) (v : V) : Option (List Str × List Str) → Prop
  | none => v = .none
  | some (ts, ks) => ∃ t a b, v = .ref t ∧ σ t = some (.tup [.ref a, .ref b]) ∧ σ a = some (.list (tV ts)) ∧ σ b = some (.list (tV ks)) ∧ σ₀ t = none ∧ σ₀ a = none ∧ σ₀ b = none
def HdV (σ : St) (v : V) : Option (List Str) → Prop
  | none => v = .none
  | some hs => ∃ a, v = .ref a ∧ σ a = some (.list (tV hs))
theorem LvVN.extS {st rw_ : Addr} {v : V} : ∀ {o : Option (List Str × List Str)}, LvVN σ₀ σ v o → DS σ₀ st rw_ → ExtS st rw_ σ σ' → LvVN σ₀ σ' v o
  | none, h, _, _ => h
  | some _, ⟨t, a, b, h1, h2, h3, h4, h5, h6, h7⟩, hd, e => ⟨t, a, b, h1, e.get _ _ (hd.nn h5).1 (hd.nn h5).2 h2, e.get _ _ (hd.nn h6).1 (hd.nn h6).2 h3, e.get _ _ (hd.nn h7).1 (hd.nn h7).2 h4, h5, h6, h7⟩
theorem LvVN.lv {v : V} : ∀ {o : Option (List Str × List Str)}, LvVN σ₀ σ v o → LvV σ v o
  | none, h => h
  | some _, ⟨t, a, b, h1, h2, h3, h4, h5, h6, h7⟩ => ⟨t, a, b, h1, h2, h3, h4⟩
theorem LvV.ext {v : V} : ∀ {o : Option (List Str × List Str)}, LvV σ v o → Ext σ σ' → LvV σ' v o
  | none, h, _ => h
  | some _, ⟨t, a, b, h1, h2, h3, h4⟩, e => ⟨t, a, b, h1, e.get _ _ h2, e.get _ _ h3, e.get _ _ h4⟩
theorem HdV.ext {v : V} : ∀ {o : Option (List Str)}, HdV σ v o → Ext σ σ' → HdV σ' v o
  | none, h, _ => h
  | some _, ⟨a, h1, h2⟩, e => ⟨a, h1, e.get _ _ h2⟩
/-- a vector drawn, ahead of its names -/
inductive PreV (B : Base) (σ₀ σ : St) (x : Addr) (kind : Str) (xs : List V) : Option (List Str × List Str) → Prop
  | plain {d l : Addr} (hv : Vd B σ x d kind l .none) (hl : σ l = some (.list xs)) (hk : kind = "integer" ∨ kind = "character") (n0 : σ₀ x = none) (n1 : σ₀ d = none) (n2 : σ₀ l = none) : PreV B σ₀ σ x kind xs none
  | fac {ts : List Str} {bo : Bool} {cs : List (Option Int)} (hv : FacN B σ₀ σ x ts (kindsOf bo) cs) (hk : kind = "integer") (hx : xs = csV cs) (hz : ts.length ≤ 1000) : PreV B σ₀ σ x kind xs (some (ts, kindsOf bo))
theorem PreV.extS {x st rw_ : Addr} {kind : Str} {xs : List V} {lv : Option (List Str × List Str)} (h : PreV B σ₀ σ x kind xs lv) (hd : DS σ₀ st rw_) (e : ExtS st rw_ σ σ') : PreV B σ₀ σ' x kind xs lv := by
  cases h with
  | plain hv hl hk n0 n1 n2 => exact .plain (hv.extS (hd.nn n0) (hd.nn n1) e) (e.get _ _ (hd.nn n2).1 (hd.nn n2).2 hl) hk n0 n1 n2
  | fac hv hk hx hz => exact .fac (hv.extS hd e) hk hx hz
theorem PreV.bv {x : Addr} {kind : Str} {xs : List V} {lv : Option (List Str × List Str)} (h : PreV B σ₀ σ x kind xs lv) : BV B σ x kind xs none lv := by
  cases h with
  | plain hv hl hk n0 n1 n2 => exact .plain hv.vc .none rfl rfl (.inl ⟨rfl, rfl⟩) rfl hl hk
  | fac hv hk hx hz => exact .fac hv.fac hk hx hz
/-- what the law knows of the vector -/
structure Blt (B : Base) (σ : St) (x : Addr) (kind : Str) (xs : List V) (o : Option (List Str)) (lv : Option (List Str × List Str)) (N : Nat) (hv lvv : V) : Prop where
  bv : BV B σ x kind xs o lv
  hd : HdV σ hv o
  lv : LvV σ lvv lv
  len : xs.length = N
  ol : ∀ hs, o = some hs → hs.length = N
  fl : ∀ w ∈ xs, flat w = true
end
end Mine

namespace Mine
section
variable {B : Base} {n : Nat} {sc scope : Scope} {m : Loc} {σ σ' σ₀ σ₁ : St} {Q : V → St → Prop} {P : Bool → St → Prop}

theorem Vd.butS {x d l a : Addr} {kind : Str} {at_ : V} (h : Vd B σ x d kind l at_) (hx : x ≠ a) (hd : d ≠ a) (e : ExtB a σ σ') : Vd B σ' x d kind l at_ := by
  obtain ⟨sh, lo, h1, h2⟩ := h.ex
  exact ⟨sh, lo, e.get _ _ hx h1, e.get _ _ hd h2⟩
theorem LvV.but {v : V} {d : Addr} : ∀ {o : Option (List Str × List Str)}, LvV σ v o → ExtB d σ σ' → (∀ a xs, σ a = some (.list xs) → a ≠ d) → (∀ a xs, σ a = some (.tup xs) → a ≠ d) → LvV σ' v o
  | none, h, _, _, _ => h
  | some _, ⟨t, a, b, h1, h2, h3, h4⟩, e, hl, ht => ⟨t, a, b, h1, e.get _ _ (ht _ _ h2) h2, e.get _ _ (hl _ _ h3) h3, e.get _ _ (hl _ _ h4) h4⟩
theorem vec_names (D : Defs B) {st rw_ x ha : Addr} {kind : Str} {xs : List V} {lv : Option (List Str × List Str)} {hs : List Str} {lvv : V} {N : Nat} (e : ExtS st rw_ σ₀ σ) (d : DS σ st rw_) (hN : N ≤ 500) (hp : PreV B σ₀ σ x kind xs lv) (hlv : LvV σ lvv lv) (hlen : xs.length = N) (hf : ∀ w ∈ xs, flat w = true)
    (hh : σ ha = some (.list (tV hs))) (hhl : hs.length = N) (m1 : m "v" = some (.ref x)) (m2 : m "levels" = some lvv) (m3 : m "heads" = some (.ref ha))
    (h : ∀ t x kind xs o lv hv lvv σ', ExtS st rw_ σ₀ σ' → Blt B σ' x kind xs o lv N hv lvv → σ' t = some (.tup [.ref x, hv, lvv]) → Q (.ref t) σ') :
    WSs B (n + 7) (fn 92).2.2.2 ((bodyF ((fn 92).2.2.1.drop 4)).drop 1) m σ (fun m' σ' => WSs B (n + 7) (fn 92).2.2.2 ((fn 92).2.2.1.drop 5) m' σ' (fun _ σ' => Q .none σ') Q) Q := by
  have ret : ∀ σ' , ExtS st rw_ σ₀ σ' → Blt B σ' x kind xs (some hs) lv N (.ref ha) lvv → WSs B (n + 7) (fn 92).2.2.2 ((fn 92).2.2.1.drop 5) m σ' (fun _ σ' => Q .none σ') Q := fun σ' e' b => by
    refine WSs.cons (WS.ret (WE.tuple (WEs.cons (WE.nm m1 (WEs.cons (WE.nm m3 (WEs.cons (WE.nm m2 (WEs.nil ⟨Nat.le_of_ble_eq_true rfl, fun t ht => ?_⟩))))))))) 
    have et := Ext.new (o := .tup [.ref x, .ref ha, lvv]) ht
    exact h t x kind xs (some hs) lv (.ref ha) lvv _ (e'.trans (et.s st rw_)) ⟨b.bv.ext et, b.hd.ext et, b.lv.ext et, b.len, b.ol, b.fl⟩ (upd_self ..)
  cases hp with
  | plain hv hl hk n0 n1 n2 =>
    rename_i d' l
    obtain ⟨sh, lo, h1, h2⟩ := hv.ex
    refine WSs.cons (WS.if (WT.isNone (WE.attrs (WE.nm m1 ⟨_, _, _, _, rfl, hv.vc, rfl, iteT rfl ?_⟩))))
    refine WSs.cons (WS.attr rfl (WE.dict0s fun ad ep had => WE.nm m1 ⟨x, d', _, rfl, (Ext.new had _).get _ _ h1, (Ext.new had _).get _ _ h2, Nat.le_of_ble_eq_true rfl, WSs.nil ?_⟩))
    rw [vkv_attrs]
    have hda : ad ≠ d' := fun q => by rw [q, h2] at had; cases had
    have hxd := hv.ne
    have B₀ : ExtB d' σ (upd (upd σ ad (.sdict [] ep)) d' (.attrs (vkv kind l (.ref ad) sh lo))) := ((Ext.new had _).toB d').trans (ExtB.upd _ _ _)
    generalize hτ : (upd (upd σ ad (.sdict [] ep)) d' (.attrs (vkv kind l (.ref ad) sh lo))) = τ at *
    have had' : τ ad = some (.sdict [] ep) := by rw [← hτ]; exact (upd_ne hda).trans (upd_self ..)
    have hv' : Vd B τ x d' kind l (.ref ad) := by rw [← hτ]; exact ⟨sh, lo, (upd_ne hxd).trans ((Ext.new had _).get _ _ h1), upd_self ..⟩
    have eτ : ExtS st rw_ σ₀ τ := by rw [← hτ]; exact (e.up (e.noneOf d had) _).up n1 _
    have ll : ∀ a xs, σ a = some (.list xs) → a ≠ d' := fun a xs q w => by rw [w, h2] at q; cases q
    have lt : ∀ a xs, σ a = some (.tup xs) → a ≠ d' := fun a xs q w => by rw [w, h2] at q; cases q
    refine WSs.cons (WS.item (WE.call1 (D.f 23 rfl) (WE.nm m3 (chrN_c D (.inl (B₀.get _ _ (ll _ _ hh) hh)) (by omega) fun nv σ₂ e₂ c2 => WE.attrs (WE.nm m1 ⟨_, _, _, _, rfl, (hv'.ext e₂).vc, rfl, WE.cStr (SItem.sdict (e₂.get _ _ had') (Nat.zero_le _) fun ep₂ => WSs.nil (ret _ ?_ ?_))⟩)))))
    · exact (eτ.trans (e₂.s st rw_)).up (e.noneOf d had) _
    · have B₂ : ExtB ad σ₂ (upd σ₂ ad (.sdict (stS [] "names" nv) ep₂)) := ExtB.upd _ _ _
      have l1 : ∀ a xs, σ₂ a = some (.list xs) → a ≠ ad := fun a xs q w => by rw [w, e₂.get _ _ had'] at q; cases q
      have l2 : ∀ a xs, σ₂ a = some (.tup xs) → a ≠ ad := fun a xs q w => by rw [w, e₂.get _ _ had'] at q; cases q
      have hl₂ := e₂.get _ _ (B₀.get _ _ (ll _ _ hl) hl)
      have hh₂ := e₂.get _ _ (B₀.get _ _ (ll _ _ hh) hh)
      exact ⟨.plain ((hv'.ext e₂).butD (e₂.get _ _ had') B₂).vc (.some (upd_self ..)) rfl rfl (.inl ⟨rfl, rfl⟩) ⟨nv, rfl, c2.chr.butD (e₂.get _ _ had') B₂⟩ (B₂.get _ _ (l1 _ _ hl₂) hl₂) hk,
        ⟨ha, rfl, B₂.get _ _ (l1 _ _ hh₂) hh₂⟩, ((hlv.but B₀ ll lt).ext e₂).but B₂ l1 l2, hlen, fun _ q => by cases q; exact hhl, hf⟩
  | fac hv hk hx hz =>
    obtain ⟨d', l, ad, ep, lv, cv, hv', had, c1, c2, hl, n0, n1, n2, n3⟩ := hv.ex
    subst hk hx
    refine WSs.cons (WS.if (WT.isNone (WE.attrs (WE.nm m1 ⟨_, _, _, _, rfl, hv'.vc, rfl, iteF rfl (WSs.nil ?_)⟩))))
    refine WSs.cons (WS.item (WE.call1 (D.f 23 rfl) (WE.nm m3 (chrN_c D (.inl hh) (by omega) fun nv σ₂ e₂ c3 => WE.attrs (WE.nm m1 ⟨_, _, _, _, rfl, (hv'.ext e₂).vc, rfl, WE.cStr (SItem.sdict (e₂.get _ _ had) (Nat.le_of_ble_eq_true rfl) fun ep₂ => WSs.nil (ret _ ?_ ?_))⟩)))))
    · exact (e.trans (e₂.s st rw_)).up n3 _
    · have B₂ : ExtB ad σ₂ (upd σ₂ ad (.sdict (stS [("levels", lv), ("class", cv)] "names" nv) ep₂)) := ExtB.upd _ _ _
      have l1 : ∀ a xs, σ₂ a = some (.list xs) → a ≠ ad := fun a xs q w => by rw [w, e₂.get _ _ had] at q; cases q
      have l2 : ∀ a xs, σ₂ a = some (.tup xs) → a ≠ ad := fun a xs q w => by rw [w, e₂.get _ _ had] at q; cases q
      have hl₂ := e₂.get _ _ hl
      have hh₂ := e₂.get _ _ hh
      have hd₂ := e₂.get _ _ had
      exact ⟨.fac ⟨d', l, ad, ep₂, lv, cv, some nv, (hv'.ext e₂).butD hd₂ B₂, upd_self .., (c1.chr.ext e₂).butD hd₂ B₂, (c2.chr.ext e₂).butD hd₂ B₂, B₂.get _ _ (l1 _ _ hl₂) hl₂, c3.chr.butD hd₂ B₂⟩ rfl rfl hz,
        ⟨ha, rfl, B₂.get _ _ (l1 _ _ hh₂) hh₂⟩, (hlv.ext e₂).but B₂ l1 l2, hlen, fun _ q => by cases q; exact hhl, hf⟩
end
end Mine

namespace Mine
section
variable {B : Base} {n : Nat} {sc scope : Scope} {m : Loc} {σ σ' σ₀ σ₁ : St} {Q : V → St → Prop} {P : Bool → St → Prop}

theorem vec_rest (D : Defs B) {st rw_ x : Addr} {kind : Str} {xs : List V} {lv : Option (List Str × List Str)} {lvv : V} {N : Nat} (d₀ : DS σ₀ st rw_) (e : ExtS st rw_ σ₀ σ) (d : DS σ st rw_) (hN : N ≤ 500) (hp : PreV B σ₀ σ x kind xs lv) (hlv : LvVN σ₀ σ lvv lv) (hlen : xs.length = N) (hf : ∀ w ∈ xs, flat w = true)
    (m0 : m "state" = some (.ref st)) (m1 : m "v" = some (.ref x)) (m2 : m "levels" = some lvv) (m3 : m "size" = some (.int (N : Int)))
    (h : ∀ t x kind xs o lv hv lvv σ', ExtS st rw_ σ₀ σ' → Blt B σ' x kind xs o lv N hv lvv → σ' t = some (.tup [.ref x, hv, lvv]) → Q (.ref t) σ') :
    WSs B (n + 7) (fn 92).2.2.2 ((fn 92).2.2.1.drop 3) m σ (fun _ σ' => Q .none σ') Q := by
  refine WSs.cons (WS.assign (WE.cNone ?_))
  have up : ∀ {y : Str} {u v : V}, m y = some u → y ≠ "heads" → upL m "heads" v y = some u := fun hy hne => (if_neg hne).trans hy
  refine WSs.cons (WS.if (WT.cmp (WE.call2 (D.f 90 rfl) (WE.nm (up m0 (by decide)) (WE.cInt (take_c D d (by decide) (by decide) fun w σ₁ w0 w1 k₁ d₁ => WE.cInt (WO.eqInt (QB.mk ?_))))))))
  have e₁ := DS.tk e k₁
  have k₁' : ExtS st rw_ σ σ₁ := DS.tk (ExtS.refl σ) k₁
  cases hw : (w == 1) with
  | true =>
    refine iteT rfl ?_
    refine WSs.cons (WS.assignC (WE.range (WE.nm (up m3 (by decide)) (WO.range fun r hr => CompQ.draws (IterOk.range (upd_self ..) (by omega)) (by omega) isT (st := st) (rw_ := rw_) (d₁.ext (Ext.new hr _)) (fun i τ hi ex dx => ?_) (fun ha ys τ ex dx hha hys hall => ?_)))))
    · refine WE.bin (WE.cStr (WE.strC (WE.bin (WE.bin (WE.nm rfl (WE.cInt (WO.mulInt (IntMulOk.of_right (by decide)) (WE.call2 (D.f 90 rfl) (WE.nm (up (v := .none) m0 (by decide)) (WE.cInt (take_c D dx (by decide) (by decide) fun w σ₁ w0 w1 k₁ d₁ => WO.addInt (WO.str (log2_small (by omega)) (WO.addStr ?_ ⟨⟨_, rfl⟩, DS.tk ex k₁, d₁⟩)))))))))))))
      have := str_len (x := (i : Int) * 7 + w) (by omega)
      have : ("n" : Str).length = 1 := rfl
      rw [sizeLine_eq]; omega
    · obtain ⟨hs, rfl⟩ := allT hall
      have ee := ((k₁'.trans ((Ext.new hr _).s st rw_)).trans ex).trans ((Ext.new (o := .list (tV hs)) hha).s st rw_)
      exact vec_names D (e.trans ee) (dx.ext (Ext.new hha _)) hN (hp.extS d₀ ee) (hlv.extS d₀ ee).lv hlen hf (upd_self ..) (by rw [tV_len] at hys; exact hys) (up (v := .ref ha) (up (v := .none) m1 (by decide)) (by decide)) (up (v := .ref ha) (up (v := .none) m2 (by decide)) (by decide)) rfl h
  | false =>
    refine iteF rfl (WSs.nil ?_)
    refine WSs.cons (WS.ret (WE.tuple (WEs.cons (WE.nm (up m1 (by decide)) (WEs.cons (WE.nm rfl (WEs.cons (WE.nm (up m2 (by decide)) (WEs.nil ⟨Nat.le_of_ble_eq_true rfl, fun t ht => ?_⟩)))))))))
    have et := Ext.new (o := .tup [.ref x, .none, lvv]) ht
    exact h t x kind xs none lv .none lvv _ (e₁.trans (et.s st rw_)) ⟨(hp.extS d₀ k₁').bv.ext et, rfl, (hlv.extS d₀ k₁').lv.ext et, hlen, (fun _ q => by cases q), hf⟩ (upd_self ..)
end
end Mine

namespace Mine
section
variable {B : Base} {n : Nat} {sc scope : Scope} {m : Loc} {σ σ' σ₀ σ₁ : St} {Q : V → St → Prop} {P : Bool → St → Prop}

theorem allI : ∀ {ys : List V}, (∀ w ∈ ys, isI w) → ∃ ts : List Int, ys = iV ts
  | [], _ => ⟨[], rfl⟩
  | y :: r, h => by
    obtain ⟨s, hs⟩ := h y (.head _)
    obtain ⟨ts, ht⟩ := allI fun w hw => h w (.tail _ hw)
    exact ⟨s :: ts, by rw [hs, ht]; rfl⟩
def ceV : V → V
  | .int c => .int ((if c < 0 then -c else c).fmod (2 * 10 ^ (9 : Int).toNat) - 10 ^ (9 : Int).toNat)
  | v => v
theorem ceV_map (is : List Int) : ((iV is).take 4).map ceV = iV ((is.take 4).map fun c => (if c < 0 then -c else c).fmod (2 * 10 ^ (9 : Int).toNat) - 10 ^ (9 : Int).toNat) := by
  unfold iV
  rw [← List.map_take, List.map_map, List.map_map]
  rfl
theorem law_vector_c (D : Defs B) {st rw_ sa : Addr} {is : List Int} {N : Nat} (hd : DS σ st rw_) (hN : N ≤ 500) (hs : B.ro sa = some (.list (iV is))) (hz : is.length ≤ 63)
    (h : ∀ t x kind xs o lv hv lvv σ', ExtS st rw_ σ σ' → Blt B σ' x kind xs o lv N hv lvv → σ' t = some (.tup [.ref x, hv, lvv]) → Q (.ref t) σ') :
    WC B (n + 8) "_law_vector" [.ref st, .ref sa, .int (N : Int)] σ Q := by
  refine WC.enter3 (p1 := "state") (p2 := "script") (p3 := "size") (D.f 92 rfl) ?_
  refine WSs.cons (WS.assign (WE.call2 (D.f 90 rfl) (WE.nm rfl (WE.cInt (take_c D hd (by decide) (by decide) fun v σ₁ v0 v1 k₁ d₁ => ?_)))))
  have e₁ : ExtS st rw_ σ σ₁ := DS.tk (ExtS.refl σ) k₁
  refine WSs.cons (WS.assign (WE.cNone ?_))
  refine WSs.cons (WS.if (WT.cmp (WE.nm rfl (WE.cInt (WO.eqInt (QB.mk ?_))))))
  cases h2 : (v == 2) with
  | true =>
    refine iteT rfl ?_
    refine WSs.cons (WS.assign (WE.call2 (D.f 91 rfl) (WE.nm rfl (WE.nm rfl (law_factor_c D hN d₁ fun t f tx cl kn ts bo cs σ₂ e₂ d₂ fac htx hcl hkn ht htl hts hcs ⟨nt, ntx, ncl, nkn⟩ => ?_)))))
    have e₂' := e₁.trans e₂
    refine WSs.cons (WS.assign (WE.sub (WE.nm rfl (WE.cInt (WO.subTup (.inl ht) (by decide) (by decide) rfl ?_)))))
    refine WSs.cons (WS.assign (WE.tuple (WEs.cons (WE.sub (WE.nm rfl (WE.cInt (WO.subTup (.inl ht) (by decide) (by decide) rfl (WEs.cons (WE.sub (WE.nm rfl (WE.cInt (WO.subTup (.inl ht) (by decide) (by decide) rfl (WEs.nil ⟨Nat.le_of_ble_eq_true rfl, fun t2 ht2 => ?_⟩)))))))))))))
    have et := Ext.new (o := .tup [.ref tx, .ref kn]) ht2
    have e₃ := e₂.trans (et.s st rw_)
    exact WSs.nil (vec_rest D d₁ (e₃ : ExtS st rw_ σ₁ _) (d₂.ext et) hN (.fac (fac.extS d₁ (et.s st rw_)) rfl rfl (by omega)) ⟨t2, tx, kn, rfl, upd_self .., et.get _ _ htx, et.get _ _ hkn, e₂.noneOf d₂ ht2, ntx, nkn⟩ (by rw [csV_len]; exact hcs) flatC rfl rfl rfl rfl fun t x kind xs o lv hv lvv σ' e' => h t x kind xs o lv hv lvv σ' (e₁.trans e'))
  | false =>
    refine iteF rfl (WSs.cons (WS.if (WT.cmp (WE.nm rfl (WE.cInt (WO.eqInt (QB.mk ?_)))))))
    cases h1 : (v == 1) with
    | true =>
      refine iteT rfl (WSs.cons (WS.assign (WE.vec2 D (WE.cStr (WE.comp (WE.range (WE.nm rfl (WO.range fun r hr => CompQ.draws (IterOk.range (upd_self ..) (by omega)) (by omega) isT (st := st) (rw_ := rw_) (d₁.ext (Ext.new hr _)) (fun i τ hi ex dx => ?_) (fun l ys τ ex dx hl hys hall => newQ.vd fun x dd τ' hx hdd ee vv => ?_))))))))) 
      · refine WE.bin (WE.cStr (WE.strC (WE.call2 (D.f 90 rfl) (WE.nm rfl (WE.cInt (take_c D dx (by decide) (by decide) fun w σ₁ w0 w1 k₁ d₁ => WO.str (log2_small (by omega)) (WO.addStr ?_ ⟨⟨_, rfl⟩, DS.tk ex k₁, d₁⟩)))))))
        have := str_len (x := w) (by omega)
        have : ("t" : Str).length = 1 := rfl
        rw [sizeLine_eq]; omega
      · have er := ((Ext.new (o := .range N) hr).s st rw_).trans ex
        have e3 := (er.trans ((Ext.new (o := .list ys) hl).s st rw_)).trans (ee.s st rw_)
        have dl := dx.ext (Ext.new (o := .list ys) hl)
        have d3 := dl.ext ee
        have q1 : Dm σ₁ (upd τ l (.list ys)) := fun a ha => (er.trans ((Ext.new (o := .list ys) hl).s st rw_)).noneOf dl ha
        exact WSs.nil (WSs.nil (vec_rest D d₁ e3 d3 hN (.plain vv (ee.get _ _ (upd_self ..)) (.inr rfl) (q1 _ hx) (q1 _ hdd) (er.noneOf dx hl)) (show LvVN σ₁ τ' .none none from rfl) hys (flatT hall) rfl rfl rfl rfl fun t x kind xs o lv hv lvv σ' e' => h t x kind xs o lv hv lvv σ' (e₁.trans e')))
    | false =>
      refine iteF rfl (WSs.cons (WS.assign (WE.bin (WE.list (WEs.cons (WE.cInt (WEs.nil ⟨Nat.le_of_ble_eq_true rfl, fun l7 hl7 => WE.comp (WE.upto (WE.nm rfl ⟨_, _, rfl, .inr hs, by rw [iV_len, sizeLine_eq]; omega, fun ls hls => CompQ.map (IterOk.list (.inl (upd_self ..))) (fun σ' e => .inl (e.get _ _ (upd_self ..))) (by rw [List.length_take]; exact Nat.le_trans (Nat.min_le_left _ _) (by decide)) ceV (fun i u τ hu e => ?_) (fun lc τ e hlc => WO.addList (.inl ((e.trans (Ext.new hlc _)).get _ _ ((Ext.new hls _).get _ _ (upd_self ..)))) (.inl (upd_self ..)) ?_ fun ce hce => ?_)⟩))⟩)))))))
      · obtain ⟨c, rfl⟩ : ∃ c, u = .int c := by
          have h1 : (iV (is.take 4))[i]? = some u := by unfold iV; rw [List.map_take]; exact hu
          obtain ⟨c, hc, _⟩ := iV_get h1
          exact ⟨c, hc⟩
        exact WE.bin (WE.bin (WE.absC (WE.intC (WE.nm rfl (WO.int (WO.abs (WE.bin (WE.cInt (WE.bin (WE.cInt (WE.cInt (WO.powInt (by decide) (by decide) (by decide) (WO.mulInt (IntMulOk.of_left (by decide)) (WO.modInt (by decide) (WE.bin (WE.cInt (WE.cInt (WO.powInt (by decide) (by decide) (by decide) (WO.subInt ⟨rfl, e⟩)))))))))))))))))))
      · rw [List.length_map, List.length_take, sizeLine_eq]
        exact Nat.le_trans (Nat.add_le_add_left (Nat.min_le_left _ _) 1) (by decide)
      · rw [ceV_map] at hce ⊢
        generalize hcs : (is.take 4).map (fun c => (if c < 0 then -c else c).fmod (2 * 10 ^ (9 : Int).toNat) - 10 ^ (9 : Int).toNat) = cs at *
        have hcl : cs.length ≤ 4 := by rw [← hcs, List.length_map, List.length_take]; exact Nat.min_le_left _ _
        have ec := ((Ext.new (o := .list [.int 7]) hl7).trans (Ext.new (o := .list ((iV is).take 4)) hls)).trans (e.trans ((Ext.new (o := .list (iV cs)) hlc).trans (Ext.new (o := .list ([.int 7] ++ iV cs)) hce)))
        have dc := d₁.ext ec
        have nce : σ₁ ce = none := (((Ext.new (o := .list [.int 7]) hl7).trans (Ext.new (o := .list ((iV is).take 4)) hls)).trans (e.trans (Ext.new (o := .list (iV cs)) hlc))).noneOf hce
        have ecs : ([.int 7] ++ iV cs : List V) = iV (7 :: cs) := rfl
        rw [ecs] at ec dc ⊢
        have hce' := upd_self (σ := upd τ lc (.list (iV cs))) (a := ce) (o := .list (iV (7 :: cs)))
        generalize hρ : upd (upd τ lc (.list (iV cs))) ce (.list (iV (7 :: cs))) = ρ at *
        refine WSs.cons (WS.assign (WE.vec2 D (WE.cStr (WE.comp (WE.range (WE.nm rfl (WO.range fun r hr => CompQ.draws (IterOk.range (upd_self ..) (by omega)) (by omega) isI (st := st) (rw_ := rw_) (dc.ext (Ext.new hr _)) (fun i τ hi ex dx => ?_) (fun l ys τ ex dx hl hys hall => newQ.vd fun x dd τ' hx hdd ee vv => ?_)))))))) 
        · have hcx := ex.get _ _ (d₁.nn nce).1 (d₁.nn nce).2 ((Ext.new (o := .range N) hr).get _ _ hce')
          refine WE.bin (WE.sub (WE.nm rfl (WE.call2 (D.f 90 rfl) (WE.nm rfl (WE.len (WE.nm rfl (WO.lenList (.inl hcx) (by rw [iV_len, List.length_cons]; omega) (take_c D dx ?_ ?_ fun w σ₁ w0 w1 k₁ d₁' => ?_))))))))
          · rw [iV_len, List.length_cons]; omega
          · rw [iV_len, List.length_cons]; omega
          · rw [iV_len] at w1
            have hcy := (k₁ ce (d₁.nn nce).1 (d₁.nn nce).2).trans hcx
            obtain ⟨j, rfl⟩ : ∃ j : Nat, w = (j : Int) := ⟨w.toNat, by omega⟩
            exact WO.subList (.inl hcy) (by omega) (by rw [List.length_cons] at w1; omega) (iV_getD (by omega)) (WE.nm rfl (WO.addInt ⟨⟨_, rfl⟩, DS.tk ex k₁, d₁'⟩))
        · have er := (ec.s st rw_).trans (((Ext.new (o := .range N) hr).s st rw_).trans ex)
          have e3 := (er.trans ((Ext.new (o := .list ys) hl).s st rw_)).trans (ee.s st rw_)
          have dl := dx.ext (Ext.new (o := .list ys) hl)
          have d3 := dl.ext ee
          have q1 : Dm σ₁ (upd τ l (.list ys)) := fun a ha => (er.trans ((Ext.new (o := .list ys) hl).s st rw_)).noneOf dl ha
          exact WSs.nil (WSs.nil (vec_rest D d₁ e3 d3 hN (.plain vv (ee.get _ _ (upd_self ..)) (.inl rfl) (q1 _ hx) (q1 _ hdd) (er.noneOf dx hl)) (show LvVN σ₁ τ' .none none from rfl) hys (flatI hall) rfl rfl rfl rfl fun t x kind xs o lv hv lvv σ' e' => h t x kind xs o lv hv lvv σ' (e₁.trans e')))
end
end Mine

namespace Mine
section
variable {B : Base} {n : Nat} {sc scope : Scope} {m : Loc} {σ σ' σ₀ σ₁ : St} {Q : V → St → Prop} {P : Bool → St → Prop}

def gV (xs : List V) : V → V
  | .int i => xs.getD i.toNat .none
  | v => v
theorem gV_map (xs : List V) (js : List Nat) : (nV js).map (gV xs) = pick xs js := by
  unfold nV pick
  rw [List.map_map]
  exact List.map_congr_left fun k _ => by show xs.getD ((k : Int)).toNat .none = _; rw [Int.toNat_natCast]
def gS (hs : List Str) : V → V
  | .int i => .str (hs.getD i.toNat "")
  | v => v
theorem gS_map (hs : List Str) (js : List Nat) : (nV js).map (gS hs) = tV (pickS hs js) := by
  unfold nV pickS tV
  rw [List.map_map, List.map_map]
  exact List.map_congr_left fun k _ => by show V.str (hs.getD ((k : Int)).toNat "") = V.str _; rw [Int.toNat_natCast]
theorem pick_flat {xs : List V} {js : List Nat} (h : ∀ w ∈ xs, flat w = true) : ∀ w ∈ pick xs js, flat w = true := fun w hw => by
  obtain ⟨k, _, rfl⟩ := List.mem_map.mp hw
  rw [List.getD_eq_getElem?_getD]
  cases q : xs[k]? with
  | none => rfl
  | some v => exact h v (List.mem_of_getElem? q)
/-- items of a built vector, by a name -/
theorem Blt.vc {x : Addr} {kind : Str} {xs : List V} {o : Option (List Str)} {lv : Option (List Str × List Str)} {N : Nat} {hv lvv : V} (h : Blt B σ x kind xs o lv N hv lvv) : ∃ l at_, Vc B σ x kind l at_ ∧ σ l = some (.list xs) :=
  let ⟨l, a, h1, h2, _⟩ := h.bv.vc; ⟨l, a, h1, h2⟩
theorem Blt.ext {x : Addr} {kind : Str} {xs : List V} {o : Option (List Str)} {lv : Option (List Str × List Str)} {N : Nat} {hv lvv : V} (h : Blt B σ x kind xs o lv N hv lvv) (e : Ext σ σ') : Blt B σ' x kind xs o lv N hv lvv := ⟨h.bv.ext e, h.hd.ext e, h.lv.ext e, h.len, h.ol, h.fl⟩

theorem hk3 {a b c : Str × Pos} {p : Str × Pos → Prop} (h1 : p a) (h2 : p b) (h3 : p c) : ∀ x ∈ [a, b, c], p x := fun x hx => by
  rcases List.mem_cons.mp hx with rfl | hx
  · exact h1
  rcases List.mem_cons.mp hx with rfl | hx
  · exact h2
  rcases List.mem_cons.mp hx with rfl | hx
  · exact h3
  cases hx
theorem part_right_c (D : Defs B) {u : V} {tb x pl : Addr} {kind : Str} {xs : List V} {o : Option (List Str)} {lv : Option (List Str × List Str)} {N : Nat} {hv lvv : V} {js : List Nat} (hp : PartV B σ₀ σ u kind (pick xs js) (opick o js) lv) (hb : Blt B σ x kind xs o lv N hv lvv) (ht : σ tb = some (.tup [.ref x, hv, lvv])) (hpl : σ pl = some (.list (nV js)))
    (hj : ∀ j ∈ js, j < N) (hjz : js.length ≤ 1000) (hN : N ≤ 1000) (h : ∀ σ', Ext σ σ' → Q (.bool true) σ') : WC B (n + 1) "_law_part_right" [u, .ref tb, .ref pl] σ Q := by
  obtain ⟨y, d, l, at_, f, rfl, n1, n2, n3, v1, hl, ha, n4, hnm, hlv⟩ := hp.ex
  obtain ⟨lx, ax, v2, hlx⟩ := hb.vc
  refine WC.enter3 (p1 := "law_part") (p2 := "built") (p3 := "places") (D.f 93 rfl) ?_
  refine WSs.cons (WS.unpack (xs := [("v", _), ("heads", _), ("levels", _)]) (hk3 rfl rfl rfl) (WE.nm rfl ⟨_, _, rfl, .inl ht, rfl, ?_⟩))
  have hlen := hb.len
  refine WSs.cons (WS.if (WT.or (WT.cmp (WE.kind (WE.nm rfl ⟨_, _, _, _, rfl, v1.vc, WE.kind (WE.nm rfl ⟨_, _, _, _, rfl, v2, WO.neFlat rfl (QB.mk (iteF rfl ?_))⟩)⟩)))))
  refine WT.or (WT.cmp (WE.items (WE.nm rfl ⟨_, _, _, _, rfl, v1.vc, WE.comp (WE.nm rfl (CompQ.map (IterOk.list (.inl hpl)) (fun σ' e => .inl (e.get _ _ hpl)) (by rw [nV_len]; omega) (gV xs) (fun i w τ hu e => ?_) (fun D' τ e hD => WO.neList (.inl ((e.trans (Ext.new hD _)).get _ _ hl)) (.inl (by rw [gV_map]; exact upd_self ..)) (pick_flat hb.fl) (QB.mk (iteF rfl (WT.orNil (iteF rfl (WSs.nil ?_))))))))⟩)))
  · obtain ⟨k, rfl, hk⟩ := nV_get hu
    have hkN := hj k (List.mem_of_getElem? hk)
    exact WE.sub (WE.items (WE.nm rfl ⟨_, _, _, _, rfl, v2.ext e, WE.nm rfl (WO.subList (.inl (e.get _ _ hlx)) (by omega) (by omega) (get_getD (by omega)) ⟨by show _ = xs.getD ((k : Int)).toNat .none; rw [Int.toNat_natCast], e⟩)⟩))
  · have e₁ := e.trans (Ext.new (o := .list ((nV js).map (gV xs))) hD)
    generalize hτ : (upd τ D' (.list ((nV js).map (gV xs)))) = σ₁ at *
    have rest : ∀ (m₂ : Loc) (ad : Addr) (kvs : List (Str × V)) (ep : Nat) (σ₂ : St), Ext σ σ₂ → σ₂ ad = some (.sdict kvs ep) → (∀ y, lkS kvs y = f y) → m₂ "attrs" = some (.ref ad) → m₂ "heads" = some hv → m₂ "levels" = some lvv → m₂ "places" = some (.ref pl) → WSs B n (fn 93).2.2.2 ((fn 93).2.2.1.drop 3) m₂ σ₂ (fun _ σ' => Q .none σ') Q := fun m₂ ad kvs ep σ₂ e₂ had hk ma mh ml mp => by
      have rest2 : ∀ σ₃, Ext σ₂ σ₃ → WSs B n (fn 93).2.2.2 ((fn 93).2.2.1.drop 5) m₂ σ₃ (fun _ σ' => Q .none σ') Q := fun σ₃ e₃ => by
        have had₃ := e₃.get _ _ had
        have E₃ := e₂.trans e₃
        cases lv with
        | none =>
          obtain ⟨q1, q2⟩ := hlv
          rw [show lvv = .none from hb.lv] at ml
          refine WSs.cons (WS.if (WT.isNone (WE.nm ml (iteT rfl (WSs.cons (WS.ret (WE.and2 (WE.cmp (WE.cStr (WE.nm ma (WO.notInSdict had₃ (QB.mk (iteT (by rw [hk, q1]; rfl) (WE.cmp (WE.cStr (WE.nm ma (WO.notInSdict had₃ ?_)))))))))))))))))
          rw [hk, q2]
          exact h _ E₃
        | some tk =>
          obtain ⟨ts, ks⟩ := tk
          obtain ⟨lw, cw, q1, q2, c1, c2⟩ := hlv
          obtain ⟨t, a, b, rfl, ht', ha', hb'⟩ := hb.lv
          obtain ⟨yl, ll, rfl, vl, hll⟩ := c1.chr.ex
          obtain ⟨yc, lc, rfl, vc, hlc⟩ := c2.chr.ex
          refine WSs.cons (WS.if (WT.isNone (WE.nm ml (iteF rfl (WSs.nil ?_)))))
          refine WSs.cons (WS.ret (WE.and2 (WE.cmp (WE.items (WE.sub (WE.nm ma (WE.cStr (WO.subSdict had₃ ((hk _).trans q1) ⟨_, _, _, _, rfl, vl.ext E₃, WE.sub (WE.nm ml (WE.cInt (WO.subTup (.inl (E₃.get _ _ ht')) (by decide) (by decide) rfl (WO.eqList (.inl (E₃.get _ _ hll)) (.inl (E₃.get _ _ ha')) flat_tV (QB.mk (iteT rfl ?_))))))⟩))))))))
          exact WE.cmp (WE.items (WE.sub (WE.nm ma (WE.cStr (WO.subSdict had₃ ((hk _).trans q2) ⟨_, _, _, _, rfl, vc.ext E₃, WE.sub (WE.nm ml (WE.cInt (WO.subTup (.inl (E₃.get _ _ ht')) (by decide) (by decide) rfl (WO.eqList (.inl (E₃.get _ _ hlc)) (.inl (E₃.get _ _ hb')) flat_tV (h _ E₃)))))⟩)))))
      cases o with
      | none =>
        rw [show hv = .none from hb.hd] at mh
        refine WSs.cons (WS.if (WT.and (WT.isNotNone (WE.nm mh (iteF rfl (iteF rfl (WSs.nil ?_)))))))
        refine WSs.cons (WS.if (WT.and (WT.isNone (WE.nm mh (iteT rfl (WT.and (WT.cmp (WE.cStr (WE.nm ma (WO.inSdict had (QB.mk (iteF ?_ (iteF rfl (WSs.nil (rest2 _ (Ext.refl _))))))))))))))))
        rw [hk, show f "names" = none from hnm]; rfl
      | some hs =>
        obtain ⟨ha, rfl, hha⟩ := hb.hd
        have hol := hb.ol _ rfl
        obtain ⟨nv, q1, c1⟩ := hnm
        obtain ⟨yl, ll, rfl, vl, hll⟩ := c1.chr.ex
        have fin : ∀ σ₃, Ext σ₂ σ₃ → WSs B n (fn 93).2.2.2 ((fn 93).2.2.1.drop 4) m₂ σ₃ (fun _ σ' => Q .none σ') Q := fun σ₃ e₃ =>
          WSs.cons (WS.if (WT.and (WT.isNone (WE.nm mh (iteF rfl (iteF rfl (WSs.nil (rest2 _ e₃))))))))
        refine WSs.cons (WS.if (WT.and (WT.isNotNone (WE.nm mh (iteT rfl (WT.and (WT.cmp (WE.len (WE.nm mp (WO.lenList (.inl (e₂.get _ _ hpl)) (by rw [nV_len]; omega) (WE.cInt (WO.gtInt (QB.mk ?_)))))))))))))
        rw [nV_len]
        by_cases h0 : js.length = 0
        · exact iteF (decide_eq_false (by omega)) (iteF rfl (WSs.nil (fin _ (Ext.refl _))))
        · refine iteT (decide_eq_true (by omega)) (WT.andNil (iteT rfl ?_))
          refine WSs.cons (WS.if (WT.or (WT.cmp (WE.cStr (WE.nm ma (WO.notInSdict had (QB.mk (iteF (by rw [hk, q1]; rfl) ?_))))))))
          refine WT.or (WT.cmp (WE.items (WE.sub (WE.nm ma (WE.cStr (WO.subSdict had ((hk _).trans q1) ⟨_, _, _, _, rfl, vl.ext e₂, WE.comp (WE.nm mp (CompQ.map (IterOk.list (.inl (e₂.get _ _ hpl))) (fun σ' e => .inl (e.get _ _ (e₂.get _ _ hpl))) (by rw [nV_len]; omega) (gS hs) (fun i w τ hu e => ?_) (fun D' τ e hD => WO.neList (.inl ((e.trans (Ext.new hD _)).get _ _ (e₂.get _ _ hll))) (.inl (by rw [gS_map]; exact upd_self ..)) flat_tV (QB.mk (iteF rfl (WT.orNil (iteF rfl (WSs.nil (WSs.nil (fin _ (e.trans (Ext.new hD _))))))))))))⟩))))))
          obtain ⟨k, rfl, hk'⟩ := nV_get hu
          have hkN := hj k (List.mem_of_getElem? hk')
          exact WE.sub (WE.nm mh (WE.nm rfl (WO.subList (.inl (e.get _ _ (e₂.get _ _ hha))) (by omega) (by omega) (tV_getD (by omega)) ⟨by show _ = V.str (hs.getD ((k : Int)).toNat ""); rw [Int.toNat_natCast], e⟩)))
    cases ha with
    | none => exact WSs.cons (WS.assign (WE.ifExp (WT.isNone (WE.attrs (WE.nm rfl ⟨_, _, _, _, rfl, (v1.ext e₁).vc, rfl, iteT rfl (WE.dict0s fun ad ep had => rest _ ad [] ep _ (e₁.trans (Ext.new had _)) (upd_self ..) (fun _ => rfl) rfl rfl rfl rfl)⟩)))))
    | some hat => exact WSs.cons (WS.assign (WE.ifExp (WT.isNone (WE.attrs (WE.nm rfl ⟨_, _, _, _, rfl, (v1.ext e₁).vc, rfl, iteF rfl (WE.attrs (WE.nm rfl ⟨_, _, _, _, rfl, (v1.ext e₁).vc, rfl, rest _ _ _ _ _ e₁ (e₁.get _ _ hat) (fun _ => rfl) rfl rfl rfl rfl⟩))⟩)))))
end
end Mine

namespace Mine
section
variable {B : Base} {n : Nat} {sc scope : Scope} {m : Loc} {σ σ' σ₀ σ₁ : St} {Q : V → St → Prop} {P : Bool → St → Prop}

def kp (keys : List Int) (k : Nat) : List Nat := (List.range keys.length).filter fun p => keys.getD p 0 == (k : Int)
def kpP (keys : List Int) (k : Nat) : V → Bool
  | .int p => keys.getD p.toNat 0 == (k : Int)
  | _ => false
theorem kp_eq (keys : List Int) (k : Nat) : ((natsV keys.length).filter (kpP keys k)).map id = nV (kp keys k) := by
  unfold natsV nV kp
  rw [List.map_id, List.filter_map]
  rfl
theorem kp_lt {keys : List Int} {k p : Nat} (h : p ∈ kp keys k) : p < keys.length := by simpa using (List.mem_filter.mp h).1
theorem kp_len (keys : List Int) (k : Nat) : (kp keys k).length ≤ keys.length := by
  have := List.length_filter_le (fun p => keys.getD p 0 == (k : Int)) (List.range keys.length)
  rw [List.length_range] at this
  exact this
theorem pick_getD {xs : List V} {js : List Nat} {i j : Nat} (h : js[i]? = some j) : (pick xs js)[((i : Nat) : Int).toNat]? = some (xs.getD j .none) := by
  rw [Int.toNat_natCast]; unfold pick; rw [List.getElem?_map, h]; rfl
theorem nV_getD {js : List Nat} {i j : Nat} (h : js[i]? = some j) : (nV js)[((i : Nat) : Int).toNat]? = some (.int (j : Int)) := by
  rw [Int.toNat_natCast]; unfold nV; rw [List.getElem?_map, h]; rfl
theorem flat_getD {xs : List V} (h : ∀ w ∈ xs, flat w = true) (j : Nat) : flat (xs.getD j .none) = true := by
  rw [List.getD_eq_getElem?_getD]
  cases q : xs[j]? with
  | none => rfl
  | some v => exact h v (List.mem_of_getElem? q)

theorem parts_right_c (D : Defs B) {v : V} {tb x tx kl : Addr} {kind : Str} {xs : List V} {o : Option (List Str)} {lv : Option (List Str × List Str)} {N : Nat} {hv lvv : V} {vs : List V} {ts : List Str} {keys : List Int} (hp : NewV B σ₀ σ v "list" vs (some ts)) (hvs : vs.length = ts.length)
    (hparts : ∀ k u, vs[k]? = some u → PartV B σ₁ σ u kind (pick xs (kp keys k)) (opick o (kp keys k)) lv) (hb : Blt B σ x kind xs o lv N hv lvv) (ht : σ tb = some (.tup [.ref x, hv, lvv])) (htx : σ tx = some (.list (tV ts))) (hkl : σ kl = some (.list (iV keys)))
    (hkN : keys.length = N) (hN : N ≤ 500) (htz : ts.length ≤ 1000) (h : ∀ σ', Ext σ σ' → Q (.bool true) σ') : WC B (n + 2) "_law_parts_right" [v, .ref tb, .ref tx, .ref kl] σ Q := by
  obtain ⟨y, d, l, at_, rfl, n1, n2, n3, v1, hl, ha⟩ := hp.ex
  obtain ⟨ad, nv, ep, rfl, n4, had, cn⟩ := ha
  obtain ⟨yn, ln, rfl, vn, hln⟩ := cn.chr.ex
  obtain ⟨lx, ax, v2, hlx⟩ := hb.vc
  have hlen := hb.len
  refine WC.enter4 (p1 := "parts") (p2 := "built") (p3 := "texts") (p4 := "keys") (D.f 94 rfl) ?_
  refine WSs.cons (WS.if (WT.or (WT.cmp (WE.kind (WE.nm rfl ⟨_, _, _, _, rfl, v1.vc, WE.cStr (WO.neFlat rfl (QB.mk (iteF rfl ?_)))⟩)))))
  refine WT.or (WT.cmp (WE.len (WE.items (WE.nm rfl ⟨_, _, _, _, rfl, v1.vc, WO.lenList (.inl hl) (by omega) (WE.len (WE.nm rfl (WO.lenList (.inl htx) (by rw [tV_len]; omega) ?_)))⟩))))
  rw [tV_len, hvs]
  refine WO.neFlat rfl (QB.mk (iteF rfl (WT.orNil (iteF rfl (WSs.nil ?_)))))
  have rest : WSs B (n + 1) (fn 94).2.2.2 ((fn 94).2.2.1.drop 2) (mOf [("parts", .ref y), ("built", .ref tb), ("texts", .ref tx), ("keys", .ref kl)] fun _ => none) σ (fun _ σ' => Q .none σ') Q := by
    refine WSs.cons (WS.assign (WE.listC (WE.items (WE.sub (WE.nm rfl (WE.cInt (WO.subTup (.inl ht) (by decide) (by decide) rfl ⟨_, _, _, _, rfl, v2, WO.listOf (.inl hlx) (by rw [sizeLine_eq]; omega) fun bk hbk => ?_⟩)))))))
    have eb := Ext.new (o := .list xs) hbk
    refine WSs.cons (WS.for (WE.range (WE.len (WE.nm rfl (WO.lenList (.inl (eb.get _ _ htx)) (by rw [tV_len]; omega) (WO.range fun r hr => ⟨_, _, IterOk.range (upd_self ..) (by rw [tV_len]; omega), fun i m' σ' => Agree ["k", "places", "law_lap"] _ m' ∧ Ext (upd σ bk (.list xs)) σ', ⟨Agree.refl _ _, Ext.new hr _⟩, fun _ _ _ _ => trivial, fun i u m' σ' hu q => ?_, fun m' σ₃ q => WSs.cons (WS.ret (WE.cBool (h _ (eb.trans q.2))))⟩))))))
    obtain ⟨rfl, hi⟩ := natsV_get hu
    rw [tV_len] at hi
    obtain ⟨ag, e0⟩ := q
    have E := eb.trans e0
    have ag' := ag.up (x := "k") rfl (.int (i : Int))
    have hlx' := E.get _ _ hlx
    obtain ⟨u, hu'⟩ : ∃ u, vs[i]? = some u := ⟨vs[i]'(by omega), List.getElem?_eq_getElem _⟩
    refine WSs.cons (WS.assignC (WE.range (WE.len (WE.nm ((ag'.get rfl).trans rfl) (WO.lenList (.inl (E.get _ _ hkl)) (by rw [iV_len]; omega) (WO.range fun r hr => CompQ.filt (IterOk.range (upd_self ..) (by rw [iV_len]; omega)) (fun _ _ => trivial) (by rw [natsV_len, iV_len]; omega) (kpP keys i) id (fun p u τ hu e => ?_) (fun p u τ hu hp e => ?_) (fun pd τ e hpd => ?_)))))))
    · obtain ⟨rfl, hp⟩ := natsV_get hu
      rw [iV_len] at hp
      have hk2 := ((Ext.new (o := .range (iV keys).length) hr).trans e).get _ _ (E.get _ _ hkl)
      refine WT.cmp (WE.sub (WE.nm ((ag.get rfl).trans rfl) (WE.nm rfl (WO.subList (.inl hk2) (by omega) (by omega) (iV_getD hp) (WE.nm rfl (WO.eqInt (QB.mk ⟨?_, e⟩)))))))
      show _ = (keys.getD ((p : Int)).toNat 0 == (i : Int))
      rw [Int.toNat_natCast]
    · obtain ⟨rfl, hp⟩ := natsV_get hu
      exact WE.nm rfl ⟨rfl, e⟩
    · have e2 := (Ext.new (o := .range (iV keys).length) hr).trans (e.trans (Ext.new (o := .list (((natsV (iV keys).length).filter (kpP keys i)).map id)) hpd))
      have hpd' : (upd τ pd (.list (((natsV (iV keys).length).filter (kpP keys i)).map id))) pd = some (.list (nV (kp keys i))) := by rw [upd_self, iV_len, kp_eq]
      generalize hτ : (upd τ pd (.list (((natsV (iV keys).length).filter (kpP keys i)).map id))) = σ₂ at *
      have E₂ := E.trans e2
      generalize hjs : kp keys i = js at *
      have jlt : ∀ j ∈ js, j < N := fun j hj => by rw [← hjs] at hj; rw [← hkN]; exact kp_lt hj
      have jlen : js.length ≤ N := by rw [← hjs, ← hkN]; exact kp_len _ _
      have hpart : PartV B σ₁ σ u kind (pick xs js) (opick o js) lv := by rw [← hjs]; exact hparts i u hu'
      have ag2 := ag'.up (x := "places") rfl (.ref pd)
      have hui : vs[((i : Nat) : Int).toNat]? = some u := by rw [Int.toNat_natCast]; exact hu'
      refine WSs.cons (WS.if (WT.not (WT.val (WE.call3 (D.f 93 rfl) (WE.sub (WE.items (WE.nm ((ag2.get rfl).trans rfl) ⟨_, _, _, _, rfl, (v1.ext E₂).vc, WE.nm rfl (WO.subList (.inl (E₂.get _ _ hl)) (by omega) (by omega) hui (WE.nm ((ag2.get rfl).trans rfl) (WE.nm rfl (part_right_c D (hpart.old (Ext.refl _) |> fun p => E₂.vw.part p) (hb.ext E₂) (E₂.get _ _ ht) hpd' jlt (by omega) (by omega) fun σ₃ e₃ => QB.mk (iteF rfl (WSs.nil ?_))))))⟩)))))))
      have E₃ := E₂.trans e₃
      obtain ⟨z, dz, lz, az, fz, rfl, _, _, _, vz, hlz, _⟩ := hpart.ex
      refine WSs.cons (WS.for (WE.range (WE.len (WE.nm rfl (WO.lenList (.inl (e₃.get _ _ hpd')) (by rw [nV_len]; omega) (WO.range fun r₂ hr₂ => ⟨_, _, IterOk.range (upd_self ..) (by rw [nV_len]; omega), fun j m'' σ' => (Agree ["k", "places", "law_lap"] _ m'' ∧ m'' "k" = some (.int (i : Int)) ∧ m'' "places" = some (.ref pd)) ∧ Ext σ₃ σ', ⟨⟨ag2, rfl, rfl⟩, Ext.new hr₂ _⟩, fun _ _ _ _ => trivial, fun j u2 m'' σ' hu2 q => ?_, fun m'' σ₄ q => WSs.nil ⟨q.1.1, e0.trans (e2.trans (e₃.trans q.2))⟩⟩))))))
      obtain ⟨rfl, hj⟩ := natsV_get hu2
      rw [nV_len] at hj
      obtain ⟨⟨ag3, mk, mp⟩, e4⟩ := q
      have ag4 := ag3.up (x := "law_lap") rfl (.int (j : Int))
      have E₄ := E₃.trans e4
      have hjj : js[j]? = some js[j] := List.getElem?_eq_getElem hj
      have hpl := e4.get _ _ (e₃.get _ _ hpd')
      have jN := jlt _ (List.mem_of_getElem? hjj)
      refine WSs.cons (WS.if (WT.cmp (WE.sub (WE.items (WE.sub (WE.items (WE.nm ((ag3.get rfl).trans rfl) ⟨_, _, _, _, rfl, (v1.ext E₄).vc, WE.nm mk (WO.subList (.inl (E₄.get _ _ hl)) (by omega) (by omega) hui ⟨_, _, _, _, rfl, (vz.ext E₄).vc, WE.nm rfl (WO.subList (.inl (E₄.get _ _ hlz)) (by omega) (by omega) (pick_getD hjj) (WE.sub (WE.nm ((ag3.get rfl).trans rfl) (WE.sub (WE.nm mp (WE.nm rfl (WO.subList (.inl hpl) (by omega) (by omega) (nV_getD hjj) (WO.subList (.inl ((e0.trans (e2.trans (e₃.trans e4))).get _ _ (upd_self ..))) (by omega) (by omega) (get_getD (by omega)) (WO.neFlat (flat_getD hb.fl _) (QB.mk (iteF rfl (WSs.nil (WSs.nil ⟨⟨ag4, mk, mp⟩, e4⟩)))))))))))))⟩)⟩)))))))
  refine WSs.cons (WS.if (WT.and (WT.cmp (WE.len (WE.nm rfl (WO.lenList (.inl htx) (by rw [tV_len]; omega) (WE.cInt (WO.gtInt (QB.mk ?_)))))))))
  rw [tV_len]
  by_cases h0 : ts.length = 0
  · exact iteF (decide_eq_false (by omega)) (iteF rfl (WSs.nil rest))
  · exact iteT (decide_eq_true (by omega)) (WT.and (WT.cmp (WE.items (WE.sub (WE.attrs (WE.nm rfl ⟨_, _, _, _, rfl, v1.vc, rfl, WE.cStr (WO.subSdict had rfl ⟨_, _, _, _, rfl, vn, WE.nm rfl (WO.neList (.inl hln) (.inl htx) flat_tV (QB.mk (iteF rfl (iteF rfl (WSs.nil rest)))))⟩)⟩))))))
end
end Mine

namespace Mine

theorem keysL_len (cl : List Int) (N : Nat) : (keysL cl N).length = N := by
  unfold keysL; split <;> simp
theorem cl_cln {K : Nat} (c : Option Int) (k : Nat) : (cl K c == some ((k : Int) + 1)) = (cln K c == (k : Int)) := by
  cases c with
  | none => 
    have : ((-1 : Int) == (k : Int)) = false := beq_eq_false_iff_ne.mpr (by omega)
    exact this.symm
  | some c =>
    show ((if 1 ≤ c ∧ c ≤ (K : Int) then some c else none) == some ((k : Int) + 1)) = ((if 0 < c ∧ c ≤ (K : Int) then c - 1 else -1) == (k : Int))
    by_cases h : 1 ≤ c ∧ c ≤ (K : Int)
    · rw [if_pos h, if_pos (show 0 < c ∧ c ≤ (K : Int) from ⟨by omega, h.2⟩)]
      rw [Bool.eq_iff_iff, beq_iff_eq, beq_iff_eq]
      constructor
      · intro e; cases e; omega
      · intro e; rw [show c = (k : Int) + 1 by omega]
    · rw [if_neg h, if_neg (show ¬ (0 < c ∧ c ≤ (K : Int)) from fun q => h ⟨by omega, q.2⟩)]
      exact (beq_eq_false_iff_ne.mpr (show (-1 : Int) ≠ (k : Int) by omega)).symm
theorem getD_map_lt {α β : Type} (f : α → β) {l : List α} {i : Nat} (h : i < l.length) (d : β) : (l.map f).getD i d = f l[i] := by
  rw [List.getD_eq_getElem?_getD, List.getElem?_map, List.getElem?_eq_getElem h]; rfl
/-- split_by's places are the law's -/
theorem grp_kp (cs : List (Option Int)) (K N k : Nat) : grp (code (cs.map (cl K))) k N = kp (keysL (cs.map (cln K)) N) k := by
  unfold grp kp
  rw [keysL_len]
  refine List.filter_congr fun p hp => ?_
  have hp : p < N := by simpa using hp
  unfold code keysL
  rw [List.length_map, List.length_map]
  by_cases h0 : cs.length = 0
  · rw [if_pos h0, if_pos h0, List.getD_eq_getElem?_getD, List.getElem?_replicate, if_pos hp]
    exact (beq_eq_false_iff_ne.mpr (show (-1 : Int) ≠ (k : Int) by omega)).symm
  · have hm : p % cs.length < cs.length := Nat.mod_lt _ (by omega)
    rw [if_neg h0, if_neg h0, getD_map_lt _ hm, getD_map_lt (l := List.range N) _ (by simpa using hp), List.getElem_range, getD_map_lt _ hm]
    exact cl_cln _ k
/-- split_places -/
theorem grp_kp0 (cs : List (Option Int)) (K k : Nat) : grp (fun i => (cs.map (cl K)).getD i none) k cs.length = kp (cs.map (cln K)) k := by
  unfold grp kp
  rw [List.length_map]
  refine List.filter_congr fun p hp => ?_
  have hp : p < cs.length := by simpa using hp
  show ((cs.map (cl K)).getD p none == some ((k : Int) + 1)) = _
  rw [getD_map_lt _ hp, getD_map_lt _ hp]
  exact cl_cln _ k
def pairAt (c1 c2 : List Int) (K : Nat) (p : Nat) : Int :=
  let l := c1.getD (p % c1.length) 0
  let r := c2.getD (p % c2.length) 0
  if l < 0 ∨ r < 0 then -1 else r * K + l
def pairsL (c1 c2 : List Int) (K : Nat) : List Int := (List.range (iN c1.length c2.length)).map (pairAt c1 c2 K)
theorem iN_pos {a b p : Nat} (h : p < iN a b) : 0 < a ∧ 0 < b := by
  unfold iN at h
  split at h
  · omega
  · omega
theorem pair_icode (cs ds : List (Option Int)) (K L p : Nat) (h1 : 0 < cs.length) (h2 : 0 < ds.length) :
    cln ((L * K : Nat) : Int) (icode (cs.map (cl K)) (ds.map (cl L)) K p) = pairAt (cs.map (cln K)) (ds.map (cln L)) K p ∧ (icode (cs.map (cl K)) (ds.map (cl L)) K p = if pairAt (cs.map (cln K)) (ds.map (cln L)) K p < 0 then none else some (pairAt (cs.map (cln K)) (ds.map (cln L)) K p + 1)) := by
  have m1 : p % cs.length < cs.length := Nat.mod_lt _ h1
  have m2 : p % ds.length < ds.length := Nat.mod_lt _ h2
  unfold icode pairAt
  simp only [List.length_map, getD_map_lt _ m1, getD_map_lt _ m2]
  generalize cs[p % cs.length] = a
  generalize ds[p % ds.length] = b
  have neg : ∀ (K : Nat) (c : Option Int), cl K c = none ∧ cln K c = -1 ∨ ∃ v : Int, cl K c = some v ∧ cln K c = v - 1 ∧ 1 ≤ v ∧ v ≤ K := fun K c => by
    cases c with
    | none => exact .inl ⟨rfl, rfl⟩
    | some c =>
      by_cases h : 1 ≤ c ∧ c ≤ (K : Int)
      · exact .inr ⟨c, if_pos h, if_pos (show 0 < c ∧ c ≤ (K : Int) from ⟨by omega, h.2⟩), h.1, h.2⟩
      · exact .inl ⟨if_neg h, if_neg (show ¬ (0 < c ∧ c ≤ (K : Int)) from fun q => h ⟨by omega, q.2⟩)⟩
  rcases neg K a with ⟨e1, e2⟩ | ⟨v, e1, e2, v1, v2⟩
  · rw [e1, e2, if_pos (.inl (by decide))]
    exact ⟨rfl, rfl⟩
  · rcases neg L b with ⟨e3, e4⟩ | ⟨w, e3, e4, w1, w2⟩
    · rw [e1, e3, e4, if_pos (.inr (by decide))]
      exact ⟨rfl, rfl⟩
    · rw [e1, e2, e3, e4, if_neg (show ¬ (v - 1 < 0 ∨ w - 1 < 0) by omega)]
      have hmul : 0 ≤ (w - 1) * (K : Int) := Int.mul_nonneg (by omega) (by omega)
      have hle : (w - 1) * (K : Int) ≤ ((L : Int) - 1) * K := Int.mul_le_mul_of_nonneg_right (by omega) (by omega)
      have hLK : ((L : Int) - 1) * K = ((L * K : Nat) : Int) - K := by rw [Int.sub_mul, Int.one_mul, Int.natCast_mul]
      constructor
      · show (if 0 < v + (w - 1) * (K : Int) ∧ v + (w - 1) * (K : Int) ≤ ((L * K : Nat) : Int) then v + (w - 1) * (K : Int) - 1 else -1) = _
        rw [if_pos ⟨by omega, by omega⟩]; omega
      · rw [if_neg (by omega)]
        show some (v + (w - 1) * (K : Int)) = _
        congr 1; omega
theorem pairs_cln (cs ds : List (Option Int)) (K L : Nat) : ((List.range (iN cs.length ds.length)).map (icode (cs.map (cl K)) (ds.map (cl L)) K)).map (cln ((L * K : Nat) : Int)) = pairsL (cs.map (cln K)) (ds.map (cln L)) K := by
  unfold pairsL
  rw [List.map_map, List.length_map, List.length_map]
  refine List.map_congr_left fun p hp => ?_
  have := iN_pos (p := p) (by simpa using hp)
  exact (pair_icode cs ds K L p this.1 this.2).1
def upC (k : Int) : Option Int := if k < 0 then none else some (k + 1)
theorem pairs_up (cs ds : List (Option Int)) (K L : Nat) : (List.range (iN cs.length ds.length)).map (icode (cs.map (cl K)) (ds.map (cl L)) K) = (pairsL (cs.map (cln K)) (ds.map (cln L)) K).map upC := by
  unfold pairsL
  rw [List.map_map, List.length_map, List.length_map]
  refine List.map_congr_left fun p hp => ?_
  have := iN_pos (p := p) (by simpa using hp)
  exact (pair_icode cs ds K L p this.1 this.2).2
/-- the used levels -/
def usedL (clean : List Int) (K : Nat) : List Nat := (List.range K).filter fun k => clean.any fun c => c == (k : Int)
theorem used_kept (cs : List (Option Int)) (K : Nat) : usedL (cs.map (cln K)) K = keptL (cs.map (cl K)) K := by
  unfold usedL keptL usedB
  refine List.filter_congr fun k _ => ?_
  rw [List.any_map, List.any_map]
  congr 1
  funext c
  exact (cl_cln c k).symm
theorem idx_cast (ks : List Nat) (k : Nat) : (ks.map fun (i : Nat) => (i : Int)).idxOf (k : Int) = ks.idxOf k := by
  induction ks with
  | nil => rfl
  | cons a r ih =>
    rw [List.map_cons, List.idxOf_cons, List.idxOf_cons, ih]
    by_cases h : a = k
    · subst h; simp
    · rw [beq_eq_false_iff_ne.mpr h, beq_eq_false_iff_ne.mpr (show (a : Int) ≠ (k : Int) by omega)]
def rnK (ks : List Nat) (key : Int) : Option Int := if key < 0 then none else some (((ks.map fun (i : Nat) => (i : Int)).idxOf key : Nat) + 1)
theorem rn_keys (cs : List (Option Int)) (K : Nat) (ks : List Nat) : (cs.map (cl K)).map (rn ks) = (cs.map (cln K)).map (rnK ks) := by
  rw [List.map_map, List.map_map]
  refine List.map_congr_left fun c _ => ?_
  show rn ks (cl K c) = rnK ks (cln K c)
  cases c with
  | none => rfl
  | some c =>
    by_cases h : 1 ≤ c ∧ c ≤ (K : Int)
    · rw [show cl K (some c) = some c from if_pos h, show cln K (some c) = c - 1 from if_pos (show 0 < c ∧ c ≤ (K : Int) from ⟨by omega, h.2⟩)]
      show some (((ks.idxOf (c - 1).toNat : Nat) : Int) + 1) = rnK ks (c - 1)
      unfold rnK
      obtain ⟨j, hj⟩ : ∃ j : Nat, c - 1 = (j : Int) := ⟨(c - 1).toNat, by omega⟩
      rw [if_neg (by omega), hj, idx_cast, Int.toNat_natCast]
    · rw [show cl K (some c) = none from if_neg h, show cln K (some c) = -1 from if_neg (show ¬ (0 < c ∧ c ≤ (K : Int)) from fun q => h ⟨by omega, q.2⟩)]
      rfl
theorem clean_mem {cs : List (Option Int)} {K : Nat} {key : Int} (h : key ∈ cs.map (cln K)) (h0 : ¬ key < 0) : key ∈ (usedL (cs.map (cln K)) K).map fun (i : Nat) => (i : Int) := by
  obtain ⟨c, _, hc⟩ := List.mem_map.mp h
  have hK : key < K := by
    cases c with
    | none => have : key = -1 := hc.symm; omega
    | some c =>
      by_cases h : 0 < c ∧ c ≤ (K : Int)
      · have : cln K (some c) = c - 1 := if_pos h
        omega
      · have : cln K (some c) = -1 := if_neg h
        omega
  refine List.mem_map.mpr ⟨key.toNat, List.mem_filter.mpr ⟨by simpa using by omega, List.any_eq_true.mpr ⟨key, h, ?_⟩⟩, by omega⟩
  rw [beq_iff_eq]; omega
end Mine

namespace Mine
/-- what the law holds after its draws -/
structure LD where
  f : Addr
  g : Addr
  tx : Addr
  cl : Addr
  kn : Addr
  ox : Addr
  se : Addr
  tb : Addr
  x : Addr
  bf : Addr
  ts : List Str
  us : List Str
  bo : Bool
  bo2 : Bool
  cs : List (Option Int)
  ds : List (Option Int)
  kind : Str
  xs : List V
  o : Option (List Str)
  lv : Option (List Str × List Str)
  N : Nat
  hv : V
  lvv : V
def LD.c1 (L : LD) : List Int := L.cs.map (cln L.ts.length)
def LD.c2 (L : LD) : List Int := L.ds.map (cln L.us.length)
structure LM (L : LD) (m : Loc) : Prop where
  f : m "f" = some (.ref L.f)
  g : m "g" = some (.ref L.g)
  tx : m "texts" = some (.ref L.tx)
  cl : m "clean" = some (.ref L.cl)
  kn : m "kinds" = some (.ref L.kn)
  ox : m "others" = some (.ref L.ox)
  se : m "second" = some (.ref L.se)
  tb : m "built" = some (.ref L.tb)
  bf : m "before" = some (.ref L.bf)
  sz : m "size" = some (.int (L.N : Int))
def lnames : List Str := ["f", "g", "texts", "clean", "kinds", "others", "second", "built", "before", "size"]
theorem LM.up {L : LD} {m : Loc} (h : LM L m) {x : Str} (hx : lnames.contains x = false) (v : V) : LM L (upL m x v) := by
  have q : ∀ y : Str, lnames.contains y = true → y ≠ x := fun y hy e => by rw [e, hx] at hy; cases hy
  exact ⟨(if_neg (q _ rfl)).trans h.f, (if_neg (q _ rfl)).trans h.g, (if_neg (q _ rfl)).trans h.tx, (if_neg (q _ rfl)).trans h.cl, (if_neg (q _ rfl)).trans h.kn, (if_neg (q _ rfl)).trans h.ox, (if_neg (q _ rfl)).trans h.se, (if_neg (q _ rfl)).trans h.tb, (if_neg (q _ rfl)).trans h.bf, (if_neg (q _ rfl)).trans h.sz⟩
structure LS (B : Base) (L : LD) (σ : St) : Prop where
  ff : Fac B σ L.f L.ts (kindsOf L.bo) L.cs none
  fg : Fac B σ L.g L.us (kindsOf L.bo2) L.ds none
  tx : σ L.tx = some (.list (tV L.ts))
  cl : σ L.cl = some (.list (iV L.c1))
  kn : σ L.kn = some (.list (tV (kindsOf L.bo)))
  ox : σ L.ox = some (.list (tV L.us))
  se : σ L.se = some (.list (iV L.c2))
  bl : Blt B σ L.x L.kind L.xs L.o L.lv L.N L.hv L.lvv
  tb : σ L.tb = some (.tup [.ref L.x, L.hv, L.lvv])
  bf : σ L.bf = some (.list L.xs)
  b1 : L.ts.length ≤ 4
  b2 : L.us.length ≤ 4
  b3 : L.cs.length ≤ 8
  b4 : L.ds.length ≤ 8
  b5 : L.N ≤ 8
  b6 : ∀ s ∈ L.ts, s.length ≤ 100
  b7 : ∀ s ∈ L.us, s.length ≤ 100
theorem LS.ext {B : Base} {L : LD} {σ σ' : St} (h : LS B L σ) (e : Ext σ σ') : LS B L σ' :=
  ⟨h.ff.ext e, h.fg.ext e, e.get _ _ h.tx, e.get _ _ h.cl, e.get _ _ h.kn, e.get _ _ h.ox, e.get _ _ h.se, h.bl.ext e, e.get _ _ h.tb, e.get _ _ h.bf, h.b1, h.b2, h.b3, h.b4, h.b5, h.b6, h.b7⟩
section
variable {B : Base} {n : Nat} {sc scope : Scope} {m : Loc} {σ σ' σ₀ σ₁ : St} {Q : V → St → Prop} {P : Bool → St → Prop} {N : Loc → St → Prop} {R : V → St → Prop} {L : LD}

theorem NewV.fwd {v : V} {kind : Str} {xs : List V} {o : Option (List Str)} (h : NewV B σ₀ σ v kind xs o) (e : Ext σ σ') : NewV B σ₀ σ' v kind xs o := by
  obtain ⟨x, d, l, at_, h1, h2, h3, h4, h5, h6, h7⟩ := h.ex
  exact ⟨x, d, l, at_, h1, h2, h3, h4, h5.ext e, e.get _ _ h6, h7.ext e⟩
theorem law7 (D : Defs B) (hm : LM L m) (hs : LS B L σ) (k : ∀ σ', LS B L σ' → WSs B (n + 12) (fn 96).2.2.2 ((fn 96).2.2.1.drop 8) m σ' N R) : WSs B (n + 12) (fn 96).2.2.2 ((fn 96).2.2.1.drop 7) m σ N R := by
  obtain ⟨l, at_, fa, lv, cv, f1, f2, f3, f4, f5, f6, f7⟩ := hs.ff.parts
  have hN := hs.bl.len
  have b1 := hs.b1; have b3 := hs.b3; have b5 := hs.b5
  refine WSs.cons (WS.if (WT.not (WT.val (WE.call4 (D.f 94 rfl) (WE.call2 (D.f 87 rfl) (WE.sub (WE.nm hm.tb (WE.cInt (WO.subTup (.inl hs.tb) (by decide) (by decide) rfl (WE.nm hm.f (split_by_c D hs.bl.bv (by omega) (fun q e => (hs.bl.ol q e).trans hN.symm) f1 f2 f3 f4 (by omega) f7 (by omega) fun v vs σ₁ e₁ nv hvs hparts => ?_)))))))))))
  refine WE.nm hm.tb (WE.nm hm.tx (WE.call2 (D.f 95 rfl) (WE.nm hm.cl (WE.nm hm.sz (law_keys_c D (e₁.get _ _ hs.cl) ?_ (by omega) fun kl σ₂ e₂ hk0 hkl => ?_)))))
  · unfold LD.c1; rw [List.length_map]; omega
  · have E := e₁.trans e₂
    refine parts_right_c D (σ₀ := σ) (σ₁ := σ) (vs := vs) (ts := L.ts) (keys := keysL L.c1 L.N) ?_ hvs (fun k u hu => ?_) (hs.bl.ext E) (E.get _ _ hs.tb) (E.get _ _ hs.tx) hkl (keysL_len _ _) (by omega) (by omega) fun σ₃ e₃ => QB.mk (iteF rfl (WSs.nil (k _ (hs.ext (E.trans e₃)))))
    · exact nv.fwd e₂
    · have := hparts k u hu
      rw [hN, grp_kp] at this
      exact e₂.vw.part this
end
end Mine

namespace Mine
section
variable {B : Base} {n : Nat} {sc scope : Scope} {m : Loc} {σ σ' σ₀ σ₁ : St} {Q : V → St → Prop} {P : Bool → St → Prop} {N : Loc → St → Prop} {R : V → St → Prop} {L : LD}

theorem nV_flat {js : List Nat} : ∀ w ∈ nV js, flat w = true := fun w hw => by
  obtain ⟨k, _, rfl⟩ := List.mem_map.mp hw; rfl
theorem iV_flat {js : List Int} : ∀ w ∈ iV js, flat w = true := fun w hw => by
  obtain ⟨k, _, rfl⟩ := List.mem_map.mp hw; rfl
theorem c1_len (hs : LS B L σ) : L.c1.length = L.cs.length := by unfold LD.c1; rw [List.length_map]
theorem c2_len (hs : LS B L σ) : L.c2.length = L.ds.length := by unfold LD.c2; rw [List.length_map]
structure GrI (σ₁ : St) (c : List Int) (i : Nat) (ys : List V) (σ' : St) : Prop where
  e : Ext σ₁ σ'
  ex : ∃ bs : List Addr, ys = bs.map V.ref ∧ bs.length = i ∧ ∀ (j : Nat) b, bs[j]? = some b → σ' b = some (.list (nV (kp c j)))
theorem law8 (D : Defs B) (hm : LM L m) (hs : LS B L σ) (k : ∀ m' σ', LM L m' → LS B L σ' → WSs B (n + 12) (fn 96).2.2.2 ((fn 96).2.2.1.drop 10) m' σ' N R) : WSs B (n + 12) (fn 96).2.2.2 ((fn 96).2.2.1.drop 8) m σ N R := by
  obtain ⟨l, at_, fa, lv, cv, f1, f2, f3, f4, f5, f6, f7⟩ := hs.ff.parts
  have b1 := hs.b1; have b3 := hs.b3; have b5 := hs.b5
  have hc1 := c1_len hs
  refine WSs.cons (WS.assign (WE.call1 (D.f 86 rfl) (WE.nm hm.f (split_places_c D f1 f2 f3 f4 (by omega) f7 (by omega) fun ga as σ₁ e₁ hal hg => ?_))))
  have hm1 := hm.up (x := "groups") rfl (.ref ga)
  have hs1 := hs.ext e₁
  refine WSs.cons (WS.if (WT.cmp (WE.nm rfl (WE.comp (WE.range (WE.len (WE.nm hm1.tx (WO.lenList (.inl hs1.tx) (by rw [tV_len]; omega) (WO.range fun r hr => ⟨_, _, GrI (upd σ₁ r (.range (tV L.ts).length)) L.c1, IterOk.range (upd_self ..) (by rw [tV_len]; omega), by rw [natsV_len, tV_len]; omega, ⟨Ext.refl _, [], rfl, rfl, fun j b h => by cases h⟩, ⟨fun i ys τ h => ⟨trivial, ?_⟩, fun i u ys τ hu h => ?_⟩, fun G ys τ h hy hG => ?_⟩)))))))))
  · obtain ⟨e, bs, rfl, h1, h2⟩ := h
    rw [List.length_map, h1]; exact Nat.le_refl _
  · obtain ⟨rfl, hi⟩ := natsV_get hu
    obtain ⟨e, bs, rfl, h1, h2⟩ := h
    have hcl := ((Ext.new (o := .range (tV L.ts).length) hr).trans e).get _ _ hs1.cl
    refine WE.comp (WE.range (WE.len (WE.nm hm1.cl (WO.lenList (.inl hcl) (by rw [iV_len]; omega) (WO.range fun r₂ hr₂ => CompQ.filt (IterOk.range (upd_self ..) (by rw [iV_len]; omega)) (fun _ _ => trivial) (by rw [natsV_len, iV_len]; omega) (kpP L.c1 i) id (fun p u ρ hu e2 => ?_) (fun p u ρ hu hp e2 => ?_) (fun pd ρ e2 hpd => ?_))))))
    · obtain ⟨rfl, hp⟩ := natsV_get hu
      rw [iV_len] at hp
      have hk2 := ((Ext.new (o := .range (iV L.c1).length) hr₂).trans e2).get _ _ hcl
      refine WT.cmp (WE.sub (WE.nm hm1.cl (WE.nm rfl (WO.subList (.inl hk2) (by omega) (by omega) (iV_getD hp) (WE.nm rfl (WO.eqInt (QB.mk ⟨?_, e2⟩)))))))
      show _ = (L.c1.getD ((p : Int)).toNat 0 == (i : Int))
      rw [Int.toNat_natCast]
    · obtain ⟨rfl, hp⟩ := natsV_get hu
      exact WE.nm rfl ⟨rfl, e2⟩
    · have e3 := (Ext.new (o := .range (iV L.c1).length) hr₂).trans (e2.trans (Ext.new (o := .list (((natsV (iV L.c1).length).filter (kpP L.c1 i)).map id)) hpd))
      refine ⟨e.trans e3, bs ++ [pd], by rw [List.map_append]; rfl, by rw [List.length_append, h1]; rfl, fun j b hb => ?_⟩
      by_cases hj : j < bs.length
      · rw [List.getElem?_append_left hj] at hb
        exact e3.get _ _ (h2 j b hb)
      · rw [List.getElem?_append_right (by omega)] at hb
        obtain ⟨hj0, rfl⟩ := List.getElem?_eq_some_iff.mp hb
        have hj1 : j = i := by simp at hj0; omega
        subst hj1
        have : [pd][j - bs.length] = pd := by simp
        rw [this, upd_self, iV_len, kp_eq]
  · obtain ⟨e, bs, rfl, h1, h2⟩ := h
    have eG := e.trans (Ext.new (o := .list (bs.map V.ref)) hG)
    have e2 := (Ext.new (o := .range (tV L.ts).length) hr).trans eG
    rw [natsV_len, tV_len] at h1
    have get : ∀ (i : Nat) (xs : List V), ((List.range L.ts.length).map fun k => nV (kp L.c1 k))[i]? = some xs → xs = nV (kp L.c1 i) := fun i xs h => by
      rw [List.getElem?_map] at h
      obtain ⟨j, hj, rfl⟩ := Option.map_eq_some_iff.mp h
      obtain ⟨h3, rfl⟩ := List.getElem?_eq_some_iff.mp hj
      rw [List.getElem_range]
    refine WO.neLists (xss := (List.range L.ts.length).map fun k => nV (kp L.c1 k)) (.inl (e2.get _ _ hg.g)) (.inl (upd_self ..)) (by rw [List.length_map, List.length_range]; exact hal) (by rw [List.length_map, List.length_range]; exact h1) (fun i a xs ha hx => ?_) (fun i a xs ha hx => ?_) (fun xs hx w hw => ?_) (QB.mk (iteF rfl (WSs.nil (k _ _ hm1 (hs1.ext e2)))))
    · rw [get i xs hx]
      have := hg.at_ i a ha
      rw [show L.c1 = L.cs.map (cln L.ts.length) from rfl, ← grp_kp0]
      exact .inl (e2.get _ _ this)
    · rw [get i xs hx]
      exact .inl ((Ext.new hG _).get _ _ (h2 i a ha))
    · obtain ⟨j, _, rfl⟩ := List.mem_map.mp hx
      exact nV_flat w hw
end
end Mine

namespace Mine
section
variable {B : Base} {n : Nat} {sc scope : Scope} {m : Loc} {σ σ' σ₀ σ₁ : St} {Q : V → St → Prop} {P : Bool → St → Prop} {N : Loc → St → Prop} {R : V → St → Prop} {L : LD}

def LD.pr (L : LD) : List Int := pairsL L.c1 L.c2 L.ts.length
theorem pr_len (hs : LS B L σ) : L.pr.length ≤ 8 := by
  unfold LD.pr pairsL
  rw [List.length_map, List.length_range, c1_len hs, c2_len hs]
  have := hs.b3; have := hs.b4
  unfold iN; split <;> omega
theorem range_snoc (c1 c2 : List Int) (K i : Nat) : (List.range (i + 1)).map (pairAt c1 c2 K) = (List.range i).map (pairAt c1 c2 K) ++ [pairAt c1 c2 K i] := by
  rw [List.range_succ, List.map_append]; rfl
theorem law10 (D : Defs B) (hm : LM L m) (hs : LS B L σ) (k : ∀ m' σ' pa, LM L m' → LS B L σ' → m' "pairs" = some (.ref pa) → σ' pa = some (.list (iV L.pr)) → WSs B (n + 12) (fn 96).2.2.2 ((fn 96).2.2.1.drop 13) m' σ' N R) : WSs B (n + 12) (fn 96).2.2.2 ((fn 96).2.2.1.drop 10) m σ N R := by
  have b1 := hs.b1; have b3 := hs.b3; have b4 := hs.b4
  have hc1 := c1_len hs
  have hc2 := c2_len hs
  refine WSs.cons (WS.assign (WE.list (WEs.nil ⟨Nat.zero_le _, fun pa hpa => ?_⟩)))
  have hm1 := hm.up (x := "pairs") rfl (.ref pa)
  have ep := Ext.new (o := .list []) hpa
  have hs1 := hs.ext ep
  have rest : WSs B (n + 12) (fn 96).2.2.2 ((fn 96).2.2.1.drop 12) (upL (upL m "pairs" (.ref pa)) "long" (.int (iN L.c1.length L.c2.length : Nat))) (upd σ pa (.list [])) N R := by
    have hm2 := hm1.up (x := "long") rfl (.int (iN L.c1.length L.c2.length : Nat))
    have hz : iN L.c1.length L.c2.length ≤ 8 := by unfold iN; split <;> omega
    refine WSs.cons (WS.for (WE.range (WE.nm rfl (WO.range fun r hr => ⟨_, _, IterOk.range (upd_self ..) (by omega), fun i m' σ' => LM L m' ∧ m' "pairs" = some (.ref pa) ∧ Ext σ σ' ∧ σ' pa = some (.list (iV ((List.range i).map (pairAt L.c1 L.c2 L.ts.length)))), ⟨hm2, rfl, ep.trans (Ext.new hr _), (Ext.new hr _).get _ _ (upd_self ..)⟩, fun _ _ _ _ => trivial, fun i u m' σ' hu q => ?_, fun m' σ₃ q => ?_⟩))))
    · obtain ⟨rfl, hi⟩ := natsV_get hu
      obtain ⟨hmi, hp, e, hl⟩ := q
      have hsi := hs.ext e
      have hpos := iN_pos hi
      have m1 : i % L.c1.length < L.c1.length := Nat.mod_lt _ hpos.1
      have m2 : i % L.c2.length < L.c2.length := Nat.mod_lt _ hpos.2
      have h3 := hmi.up (x := "place") rfl (.int (i : Int))
      refine WSs.cons (WS.assign (WE.sub (WE.nm h3.cl (WE.bin (WE.nm rfl (WE.len (WE.nm h3.cl (WO.lenList (.inl hsi.cl) (by rw [iV_len]; omega) (WO.modInt (by rw [iV_len]; omega) ?_)))))))))
      rw [iV_len, fmod_nat]
      refine WO.subList (.inl hsi.cl) (by omega) (by omega) (iV_getD m1) ?_
      have h4 := h3.up (x := "left") rfl (.int (L.c1.getD (i % L.c1.length) 0))
      refine WSs.cons (WS.assign (WE.sub (WE.nm h4.se (WE.bin (WE.nm rfl (WE.len (WE.nm h4.se (WO.lenList (.inl hsi.se) (by rw [iV_len]; omega) (WO.modInt (by rw [iV_len]; omega) ?_)))))))))
      rw [iV_len, fmod_nat]
      refine WO.subList (.inl hsi.se) (by omega) (by omega) (iV_getD m2) ?_
      have h5 := h4.up (x := "right") rfl (.int (L.c2.getD (i % L.c2.length) 0))
      have fin : ∀ v : Int, v = pairAt L.c1 L.c2 L.ts.length i → (LM L (upL (upL (upL m' "place" (.int (i : Int))) "left" (.int (L.c1.getD (i % L.c1.length) 0))) "right" (.int (L.c2.getD (i % L.c2.length) 0))) ∧ m' "pairs" = some (.ref pa) ∧ Ext σ (upd σ' pa (.list (iV ((List.range i).map (pairAt L.c1 L.c2 L.ts.length)) ++ [.int v]))) ∧ (upd σ' pa (.list (iV ((List.range i).map (pairAt L.c1 L.c2 L.ts.length)) ++ [.int v]))) pa = some (.list (iV ((List.range (i + 1)).map (pairAt L.c1 L.c2 L.ts.length))))) := fun v hv =>
        ⟨h5, hp, e.up hpa _, by rw [upd_self, range_snoc, iV_snoc, hv]⟩
      have hz1 : (iV ((List.range i).map (pairAt L.c1 L.c2 L.ts.length))).length < sizeLine := by rw [iV_len, List.length_map, List.length_range, sizeLine_eq]; omega
      refine WSs.cons (WS.expr (WE.append (WE.nm hp ⟨_, rfl, ⟨_, hl⟩, WE.ifExp (WT.or (WT.cmp (WE.nm rfl (WE.cInt (WO.ltInt (QB.mk ?_))))))⟩)))
      by_cases hl0 : L.c1.getD (i % L.c1.length) 0 < 0
      · exact iteT (decide_eq_true hl0) (iteT rfl (WE.neg (WE.cInt (WO.negInt ⟨_, hl, hz1, WSs.nil (fin _ (if_pos (.inl hl0)).symm)⟩))))
      · refine iteF (decide_eq_false hl0) (WT.or (WT.cmp (WE.nm rfl (WE.cInt (WO.ltInt (QB.mk ?_))))))
        by_cases hr0 : L.c2.getD (i % L.c2.length) 0 < 0
        · exact iteT (decide_eq_true hr0) (iteT rfl (WE.neg (WE.cInt (WO.negInt ⟨_, hl, hz1, WSs.nil (fin _ (if_pos (.inr hr0)).symm)⟩))))
        · refine iteF (decide_eq_false hr0) (WT.orNil (iteF rfl (WE.bin (WE.bin (WE.nm rfl (WE.len (WE.nm h5.tx (WO.lenList (.inl hsi.tx) (by rw [tV_len]; omega) (WO.mulInt (IntMulOk.of_right ?_) (WE.nm rfl (WO.addInt ⟨_, hl, hz1, WSs.nil (fin _ ?_)⟩)))))))))))
          · rw [tV_len]
            rcases (show L.ts.length = 0 ∨ L.ts.length = 1 ∨ L.ts.length = 2 ∨ L.ts.length = 3 ∨ L.ts.length = 4 by omega) with w | w | w | w | w <;> rw [w] <;> decide
          · rw [tV_len]; exact (if_neg (fun q => q.elim hl0 hr0)).symm
    · obtain ⟨hmi, hp, e, hl⟩ := q
      rw [natsV_len] at hl
      exact k _ _ pa hmi (hs.ext e) hp hl
  refine WSs.cons (WS.assign (WE.ifExp (WT.and (WT.cmp (WE.len (WE.nm hm1.cl (WO.lenList (.inl hs1.cl) (by rw [iV_len]; omega) (WE.cInt (WO.gtInt (QB.mk ?_))))))))))
  rw [iV_len]
  by_cases h1 : L.c1.length = 0
  · refine iteF (decide_eq_false (by omega)) (iteF rfl (WE.cInt ?_))
    have : iN L.c1.length L.c2.length = 0 := if_pos (.inl h1)
    rw [this] at rest
    exact rest
  · refine iteT (decide_eq_true (by omega)) (WT.and (WT.cmp (WE.len (WE.nm hm1.se (WO.lenList (.inl hs1.se) (by rw [iV_len]; omega) (WE.cInt (WO.gtInt (QB.mk ?_))))))))
    rw [iV_len]
    by_cases h2 : L.c2.length = 0
    · refine iteF (decide_eq_false (by omega)) (iteF rfl (WE.cInt ?_))
      have : iN L.c1.length L.c2.length = 0 := if_pos (.inr h2)
      rw [this] at rest
      exact rest
    · refine iteT (decide_eq_true (by omega)) (WT.andNil (iteT rfl ?_))
      refine WE.maxC (WE.len (WE.nm hm1.cl (WO.lenList (.inl hs1.cl) (by rw [iV_len]; omega) (WE.len (WE.nm hm1.se (WO.lenList (.inl hs1.se) (by rw [iV_len]; omega) (WO.max ?_)))))))
      rw [iV_len, iV_len]
      have : (if (L.c2.length : Int) > (L.c1.length : Int) then (L.c2.length : Int) else (L.c1.length : Int)) = ((iN L.c1.length L.c2.length : Nat) : Int) := by
        have hi : iN L.c1.length L.c2.length = max L.c1.length L.c2.length := if_neg (by omega)
        rw [hi]
        split <;> omega
      rw [this]
      exact rest
end
end Mine

namespace Mine
section
variable {B : Base} {n : Nat} {sc scope : Scope} {m : Loc} {σ σ' σ₀ σ₁ : St} {Q : V → St → Prop} {P : Bool → St → Prop} {N : Loc → St → Prop} {R : V → St → Prop} {L : LD}

def upV : V → V
  | .int k => if k < 0 then .none else .int (k + 1)
  | v => v
theorem upV_map (ks : List Int) : (iV ks).map upV = csV (ks.map upC) := by
  unfold iV csV
  rw [List.map_map, List.map_map]
  refine List.map_congr_left fun k _ => ?_
  show (if k < 0 then V.none else .int (k + 1)) = cV (if k < 0 then none else some (k + 1))
  split <;> rfl
def LD.nm (L : LD) : List Str := nmL "&" L.us L.ts
theorem nm_len (hs : LS B L σ) : L.nm.length = L.us.length * L.ts.length ∧ L.nm.length ≤ 16 := by
  have b1 := hs.b1; have b2 := hs.b2
  have h := nmL_len "&" L.us L.ts
  exact ⟨h, by show (nmL "&" L.us L.ts).length ≤ 16; rw [h]; exact Nat.le_trans (Nat.mul_le_mul b2 b1) (by decide)⟩
theorem Fac.at {x : Addr} {ts kinds : List Str} {cs : List (Option Int)} {o : Option (List Str)} (h : Fac B σ x ts kinds cs o) : ∃ l ad kvs ep lv, Vc B σ x "integer" l (.ref ad) ∧ σ ad = some (.sdict kvs ep) ∧ lkS kvs "levels" = some lv ∧ Chr B σ lv ts ∧ σ l = some (.list (csV cs)) := by
  obtain ⟨d, l, ad, ep, lv, cv, nvo, v1, had, c1, c2, hl, hn⟩ := h.ex
  exact ⟨l, ad, _, ep, lv, v1.vc, had, facKvs_levels _ _ _, c1, hl⟩
theorem law13 (D : Defs B) (hm : LM L m) (hs : LS B L σ) {pa : Addr} (mp : m "pairs" = some (.ref pa)) (hp : σ pa = some (.list (iV L.pr))) (k : ∀ m' σ', LM L m' → LS B L σ' → WSs B (n + 12) (fn 96).2.2.2 ((fn 96).2.2.1.drop 17) m' σ' N R) : WSs B (n + 12) (fn 96).2.2.2 ((fn 96).2.2.1.drop 13) m σ N R := by
  have b1 := hs.b1; have b2 := hs.b2; have b3 := hs.b3; have b4 := hs.b4; have b5 := hs.b5
  have hc1 := c1_len hs
  have hc2 := c2_len hs
  refine WSs.cons (WS.assign (WE.call3 (D.f 83 rfl) (WE.nm hm.f (WE.nm hm.g (WE.cStr (interaction_c D hs.ff hs.fg (by omega) (by omega) (by omega) (by omega) (fun s q => Nat.le_trans (hs.b6 s q) (by decide)) (fun s q => Nat.le_trans (hs.b7 s q) (by decide)) (by decide) fun z σ₁ e₁ fz => ?_))))))
  have hs1 := hs.ext e₁
  have hm1 := hm.up (x := "law_pair") rfl (.ref z)
  have hp1 := e₁.get _ _ hp
  refine WSs.cons (WS.assignC2 (WE.nm hm1.ox ⟨_, _, fun i ys σ' => Ext σ₁ σ' ∧ ys = tV (nmL "&" (L.us.take i) L.ts), IterOk.list (.inl hs1.ox), ⟨Ext.refl _, rfl⟩, ⟨fun i ys σ' h => ⟨.inl (h.1.get _ _ hs1.ox), ?_⟩, fun i u ys σ' m' hu h hb hx1 => ?_⟩, fun H ys σ₂ h hH => ?_⟩))
  · rw [h.2, tV_len, nmL_len]
    exact Nat.le_trans (Nat.mul_le_mul (Nat.le_trans (by rw [List.length_take]; exact Nat.min_le_right _ _) b2) b1) (by decide)
  · obtain ⟨r, rfl, hr⟩ := tV_get hu
    obtain ⟨e, rfl⟩ := h
    have hsi := hs1.ext e
    refine WE.nm ((hb _ (by decide) (by decide)).trans hm1.tx) ⟨_, _, fun j ys' σ'' => Ext σ₁ σ'' ∧ ys' = tV (nmL "&" (L.us.take i) L.ts ++ (L.ts.take j).map fun l => l ++ "&" ++ r), IterOk.list (.inl hsi.tx), ⟨e, by simp⟩, fun j ys' σ'' h => ⟨.inl (h.1.get _ _ hs1.tx), ?_⟩, fun j u2 ys' σ'' m'' hu2 h hb2 hy1 hy2 => ?_, fun ys' σ'' h => ?_⟩
    · rw [h.2, tV_len, List.length_append, nmL_len, List.length_map]
      have h1 : (L.us.take i).length * L.ts.length ≤ 4 * 4 := Nat.mul_le_mul (Nat.le_trans (by rw [List.length_take]; exact Nat.min_le_right _ _) b2) b1
      have h2 : (L.ts.take j).length ≤ L.ts.length := by rw [List.length_take]; exact Nat.min_le_right _ _
      omega
    · obtain ⟨l, rfl, hl⟩ := tV_get hu2
      have l1 := hs.b6 l (List.mem_of_getElem? hl)
      have l2 := hs.b7 r (List.mem_of_getElem? hr)
      have a1 : (l ++ ("&" : Str)).length = l.length + 1 := app_len
      refine WE.bin (WE.bin (WE.nm hy2 (WE.cStr (WO.addStr (by rw [sizeLine_eq]; show l.length + 1 ≤ _; omega) (WE.nm hy1 (WO.addStr (by rw [sizeLine_eq, a1]; omega) ⟨h.1, ?_⟩))))))
      rw [h.2, ← tV_snoc, List.append_assoc, take_one hl, List.map_append]
      rfl
    · rw [tV_len, List.take_length] at h
      exact ⟨h.1, by rw [h.2, nmL_one hr]⟩
  · obtain ⟨e₂, rfl⟩ := h
    rw [tV_len, List.take_length]
    have e3 := e₂.trans (Ext.new (o := .list (tV L.nm)) hH)
    have hm2 := hm1.up (x := "heads") rfl (.ref H)
    have hs2 := hs1.ext e3
    have hp2 := e3.get _ _ hp1
    have fz2 := fz.ext e3
    have hH' := upd_self (σ := σ₂) (a := H) (o := .list (tV L.nm))
    change WSs B (n + 12) _ _ _ (upd σ₂ H (.list (tV L.nm))) N R
    generalize hτ : upd σ₂ H (.list (tV L.nm)) = σ₃ at *
    have hz := pr_len hs
    have hnz := nm_len hs
    obtain ⟨lz, adz, kvz, epz, lvz, z1, z2, z3, z4, z5⟩ := fz2.at
    obtain ⟨yl, ll, rfl, vl, hll⟩ := z4.ex
    have hcsz : csV ((List.range (iN L.cs.length L.ds.length)).map (icode (L.cs.map (cl L.ts.length)) (L.ds.map (cl L.us.length)) L.ts.length)) = csV (L.pr.map upC) := by
      rw [pairs_up]; rfl
    have mp2 : (upL (upL m "law_pair" (.ref z)) "heads" (.ref H)) "pairs" = some (.ref pa) := mp
    have mz2 : (upL (upL m "law_pair" (.ref z)) "heads" (.ref H)) "law_pair" = some (.ref z) := rfl
    have mH2 : (upL (upL m "law_pair" (.ref z)) "heads" (.ref H)) "heads" = some (.ref H) := rfl
    generalize (upL (upL m "law_pair" (.ref z)) "heads" (.ref H)) = m₂ at *
    refine WSs.cons (WS.if (WT.or (WT.cmp (WE.items (WE.nm mz2 ⟨_, _, _, _, rfl, z1, WE.comp (WE.nm mp2 (CompQ.map (IterOk.list (.inl hp2)) (fun σ' e => .inl (e.get _ _ hp2)) (by rw [iV_len]; omega) upV (fun i u τ hu e => ?_) (fun D' τ e hD => ?_)))⟩)))))
    · obtain ⟨key, rfl, _⟩ := iV_get hu
      refine WE.ifExp (WT.cmp (WE.nm rfl (WE.cInt (WO.ltInt (QB.mk ?_)))))
      by_cases h0 : key < 0
      · exact iteT (decide_eq_true h0) (WE.cNone ⟨(if_pos h0).symm, e⟩)
      · exact iteF (decide_eq_false h0) (WE.bin (WE.nm rfl (WE.cInt (WO.addInt ⟨(if_neg h0).symm, e⟩))))
    · rw [upV_map]
      have e4 := e.trans (Ext.new (o := .list (csV (L.pr.map upC))) hD)
      rw [hcsz] at z5
      have hD2 := upd_self (σ := τ) (a := D') (o := .list (csV (L.pr.map upC)))
      generalize upd τ D' (.list (csV (L.pr.map upC))) = σ₄ at *
      have hs4 := hs2.ext e4
      refine WO.neList (.inl (e4.get _ _ z5)) (.inl hD2) flatC (QB.mk (iteF rfl (WT.or (WT.cmp (WE.items (WE.sub (WE.attrs (WE.nm mz2 ⟨_, _, _, _, rfl, z1.ext e4, rfl, WE.cStr (WO.subSdict (e4.get _ _ z2) z3 ⟨_, _, _, _, rfl, vl.ext e4, WE.nm mH2 (WO.neList (.inl (e4.get _ _ hll)) (.inl (e4.get _ _ hH')) flat_tV (QB.mk (iteF rfl (WT.orNil (iteF rfl (WSs.nil ?_))))))⟩)⟩))))))))
      obtain ⟨lq, at_, fa, lv, cv, f1, f2, f3, f4, f5, f6, f7⟩ := (fz2.ext e4).parts
      change Chr B σ₄ lv L.nm at f4
      have hN := hs4.bl.len
      have hkeys : ((List.range (iN L.cs.length L.ds.length)).map (icode (L.cs.map (cl L.ts.length)) (L.ds.map (cl L.us.length)) L.ts.length)).map (cln (L.nm.length : Int)) = L.pr := by
        rw [hnz.1]; exact pairs_cln L.cs L.ds L.ts.length L.us.length
      have hlz : ((List.range (iN L.cs.length L.ds.length)).map (icode (L.cs.map (cl L.ts.length)) (L.ds.map (cl L.us.length)) L.ts.length)).length ≤ 1000 := by
        have := congrArg List.length hkeys
        rw [List.length_map] at this
        omega
      generalize (List.range (iN L.cs.length L.ds.length)).map (icode (L.cs.map (cl L.ts.length)) (L.ds.map (cl L.us.length)) L.ts.length) = cz at *
      refine WSs.cons (WS.if (WT.not (WT.val (WE.call4 (D.f 94 rfl) (WE.call2 (D.f 87 rfl) (WE.sub (WE.nm hm2.tb (WE.cInt (WO.subTup (.inl hs4.tb) (by decide) (by decide) rfl (WE.nm mz2 (split_by_c D hs4.bl.bv (by omega) (fun q e => (hs4.bl.ol q e).trans hN.symm) f1 f2 f3 f4 (by omega) f7 hlz fun v vs σ₅ e₅ nv hvs hparts => ?_)))))))))))
      refine WE.nm hm2.tb (WE.nm mH2 (WE.call2 (D.f 95 rfl) (WE.nm mp2 (WE.nm hm2.sz (law_keys_c D (e₅.get _ _ (e4.get _ _ hp2)) (by omega) (by omega) fun kl σ₆ e₆ hk0 hkl => ?_)))))
      have E := e₅.trans e₆
      refine parts_right_c D (σ₀ := σ₄) (σ₁ := σ₄) (vs := vs) (ts := L.nm) (keys := keysL L.pr L.N) (nv.fwd e₆) hvs (fun k u hu => ?_) (hs4.bl.ext E) (E.get _ _ hs4.tb) (E.get _ _ (e4.get _ _ hH')) hkl (keysL_len _ _) (by omega) (by omega) fun σ₇ e₇ => QB.mk (iteF rfl (WSs.nil (k _ _ hm2 (hs4.ext (E.trans e₇)))))
      have := hparts k u hu
      rw [hN, grp_kp, hkeys] at this
      exact e₆.vw.part this
end
end Mine

namespace Mine
section
variable {B : Base} {n : Nat} {sc scope : Scope} {m : Loc} {σ σ' σ₀ σ₁ : St} {Q : V → St → Prop} {P : Bool → St → Prop} {N : Loc → St → Prop} {R : V → St → Prop} {L : LD}

def usP (c : List Int) : V → Bool
  | .int k => c.any fun x => x == k
  | _ => false
theorem any_iV (c : List Int) (k : Int) : ((iV c).any fun y => eqV y (.int k)) = c.any fun x => x == k := by
  unfold iV; rw [List.any_map]; rfl
theorem us_eq (c : List Int) (K : Nat) : ((natsV K).filter (usP c)).map id = nV (usedL c K) := by
  unfold natsV nV usedL
  rw [List.map_id, List.filter_map]
  rfl
def rnKV (ks : List Nat) : V → V
  | .int k => cV (rnK ks k)
  | v => v
theorem rnKV_map (ks : List Nat) (c : List Int) : (iV c).map (rnKV ks) = csV (c.map (rnK ks)) := by
  unfold iV csV
  rw [List.map_map, List.map_map]
  rfl
theorem nV_iV (ks : List Nat) : nV ks = (ks.map fun (i : Nat) => (i : Int)).map V.int := by
  unfold nV; rw [List.map_map]; rfl
theorem rnKV_neg {ks : List Nat} {key : Int} (h : key < 0) : V.none = rnKV ks (.int key) := by
  show V.none = cV (rnK ks key)
  unfold rnK; rw [if_pos h]; rfl
theorem rnKV_pos {ks : List Nat} {key : Int} (h : ¬ key < 0) : V.int (((ks.map fun (i : Nat) => (i : Int)).idxOf key : Nat) + 1) = rnKV ks (.int key) := by
  show _ = cV (rnK ks key)
  unfold rnK; rw [if_neg h]; rfl
theorem law17 (D : Defs B) (hm : LM L m) (hs : LS B L σ) (k : ∀ σ', Q (.bool true) σ') : WSs B (n + 12) (fn 96).2.2.2 ((fn 96).2.2.1.drop 17) m σ (fun _ σ' => Q .none σ') Q := by
  have b1 := hs.b1; have b2 := hs.b2; have b3 := hs.b3; have b4 := hs.b4; have b5 := hs.b5
  have hc1 := c1_len hs
  refine WSs.cons (WS.assignC (WE.range (WE.len (WE.nm hm.tx (WO.lenList (.inl hs.tx) (by rw [tV_len]; omega) (WO.range fun r hr => CompQ.filt (IterOk.range (upd_self ..) (by rw [tV_len]; omega)) (fun _ _ => trivial) (by rw [natsV_len, tV_len]; omega) (usP L.c1) id (fun i u τ hu e => ?_) (fun i u τ hu hp e => ?_) (fun ud τ e hud => ?_)))))))
  · obtain ⟨rfl, hi⟩ := natsV_get hu
    exact WT.cmp (WE.nm rfl (WE.nm hm.cl (WO.inList (.inl (((Ext.new hr _).trans e).get _ _ hs.cl)) iV_flat rfl (QB.mk ⟨any_iV _ _, e⟩))))
  · obtain ⟨rfl, hi⟩ := natsV_get hu
    exact WE.nm rfl ⟨rfl, e⟩
  · have e1 := (Ext.new (o := .range (tV L.ts).length) hr).trans (e.trans (Ext.new (o := .list (((natsV (tV L.ts).length).filter (usP L.c1)).map id)) hud))
    have hud' : (upd τ ud (.list (((natsV (tV L.ts).length).filter (usP L.c1)).map id))) ud = some (.list (nV (usedL L.c1 L.ts.length))) := by rw [upd_self, tV_len, us_eq]
    generalize upd τ ud (.list (((natsV (tV L.ts).length).filter (usP L.c1)).map id)) = σ₁ at *
    have hs1 := hs.ext e1
    have hm1 := hm.up (x := "used") rfl (.ref ud)
    refine WSs.cons (WS.assign (WE.call1 (D.f 82 rfl) (WE.nm hm1.f (drop_levels_c D hs1.ff (by omega) (by omega) fun v σ₂ e₂ hv => ?_))))
    have hks : usedL L.c1 L.ts.length = keptL (L.cs.map (cl L.ts.length)) L.ts.length := used_kept L.cs L.ts.length
    rw [rn_keys, ← hks] at hv
    change PartV B σ₁ σ₂ v "integer" (csV (L.c1.map (rnK (usedL L.c1 L.ts.length)))) none _ at hv
    have hmem : ∀ key ∈ L.c1, ¬ key < 0 → key ∈ (usedL L.c1 L.ts.length).map fun (i : Nat) => (i : Int) := fun key h h0 => clean_mem h h0
    have hklt : ∀ j ∈ usedL L.c1 L.ts.length, j < L.ts.length := fun j hj => by simpa using (List.mem_filter.mp hj).1
    have hkz : (usedL L.c1 L.ts.length).length ≤ 4 := by
      have := List.length_filter_le (fun k : Nat => L.c1.any fun c => c == (k : Int)) (List.range L.ts.length)
      rw [List.length_range] at this
      exact Nat.le_trans this b1
    generalize usedL L.c1 L.ts.length = ks at *
    obtain ⟨z, dz, lz, az, fz, rfl, _, _, _, vz, hlz, haz, _, hnm, hlv⟩ := hv.ex
    obtain ⟨lw, cw, q1, q2, w1, w2⟩ := hlv
    have hs2 := hs1.ext e₂
    have hm2 := hm1.up (x := "small") rfl (.ref z)
    have hud2 := e₂.get _ _ hud'
    cases haz with
    | none => cases q1
    | some had =>
    obtain ⟨yl, ll, rfl, vl, hll⟩ := w1.chr.ex
    obtain ⟨yc, lc, rfl, vc, hlc⟩ := w2.chr.ex
    refine WSs.cons (WS.if (WT.cmp (WE.items (WE.nm rfl ⟨_, _, _, _, rfl, vz.vc, WE.comp (WE.nm hm2.cl (CompQ.map (IterOk.list (.inl hs2.cl)) (fun σ' e => .inl (e.get _ _ hs2.cl)) (by rw [iV_len]; omega) (rnKV ks) (fun i u τ' hu e => ?_) (fun D' τ' e hD => ?_)))⟩))))
    · obtain ⟨key, rfl, hkey⟩ := iV_get hu
      refine WE.ifExp (WT.cmp (WE.nm rfl (WE.cInt (WO.ltInt (QB.mk ?_)))))
      by_cases h0 : key < 0
      · exact iteT (decide_eq_true h0) (WE.cNone ⟨rnKV_neg h0, e⟩)
      · refine iteF (decide_eq_false h0) (WE.bin (WE.meth F.plainAttrs_list F.slot_list_index F.type_list_index rfl (WE.nm rfl ⟨plainT_list (.inl (e.get _ _ hud2)), WEs.cons (WE.nm rfl (WEs.nil (WO.index (is := ks.map fun (i : Nat) => (i : Int)) (.inl (by rw [← nV_iV]; exact e.get _ _ hud2)) (hmem key (List.mem_of_getElem? hkey) h0) (by rw [List.length_map]; omega) (WE.cInt (WO.addInt ⟨rnKV_pos h0, e⟩)))))⟩)))
    · rw [rnKV_map]
      have e3 := e.trans (Ext.new (o := .list (csV (L.c1.map (rnK ks)))) hD)
      have hD2 := upd_self (σ := τ') (a := D') (o := .list (csV (L.c1.map (rnK ks))))
      generalize upd τ' D' (.list (csV (L.c1.map (rnK ks)))) = σ₃ at *
      have hs3 := hs2.ext e3
      refine WO.neList (.inl (e3.get _ _ hlz)) (.inl hD2) flatC (QB.mk (iteF rfl (WSs.nil ?_)))
      refine WSs.cons (WS.if (WT.or (WT.cmp (WE.items (WE.sub (WE.attrs (WE.nm rfl ⟨_, _, _, _, rfl, vz.vc.ext e3, rfl, WE.cStr (WO.subSdict (e3.get _ _ had) q1 ⟨_, _, _, _, rfl, vl.ext e3, WE.comp (WE.nm rfl (CompQ.map (IterOk.list (.inl (e3.get _ _ hud2))) (fun σ' e => .inl (e.get _ _ (e3.get _ _ hud2))) (by rw [nV_len]; omega) (gS L.ts) (fun i u τ' hu e => ?_) (fun D' τ' e hD => ?_)))⟩)⟩)))))))
      · obtain ⟨j, rfl, hj⟩ := nV_get hu
        have hjl := hklt j (List.mem_of_getElem? hj)
        exact WE.sub (WE.nm hm2.tx (WE.nm rfl (WO.subList (.inl (e.get _ _ hs3.tx)) (by omega) (by omega) (tV_getD hjl) ⟨by show _ = V.str (L.ts.getD ((j : Int)).toNat ""); rw [Int.toNat_natCast], e⟩)))
      · rw [gS_map]
        have e4 := e.trans (Ext.new (o := .list (tV (pickS L.ts ks))) hD)
        have hD4 := upd_self (σ := τ') (a := D') (o := .list (tV (pickS L.ts ks)))
        generalize upd τ' D' (.list (tV (pickS L.ts ks))) = σ₄ at *
        have e5 := e3.trans e4
        have hs4 := hs3.ext e4
        refine WO.neList (.inl (e5.get _ _ hll)) (.inl hD4) flat_tV (QB.mk (iteF rfl (WT.or (WT.cmp (WE.items (WE.sub (WE.attrs (WE.nm rfl ⟨_, _, _, _, rfl, vz.vc.ext e5, rfl, WE.cStr (WO.subSdict (e5.get _ _ had) q2 ⟨_, _, _, _, rfl, vc.ext e5, WE.nm hm2.kn (WO.neList (.inl (e5.get _ _ hlc)) (.inl hs4.kn) flat_tV (QB.mk (iteF rfl (WT.orNil (iteF rfl (WSs.nil ?_))))))⟩)⟩))))))))
        obtain ⟨lx, ax, v2, hlx⟩ := hs4.bl.vc
        exact WSs.cons (WS.ret (WE.cmp (WE.items (WE.sub (WE.nm hm2.tb (WE.cInt (WO.subTup (.inl hs4.tb) (by decide) (by decide) rfl ⟨_, _, _, _, rfl, v2, WE.nm hm2.bf (WO.eqList (.inl hlx) (.inl hs4.bf) hs4.bl.fl (k _))⟩)))))))
end
end Mine

namespace Mine
section
variable {B : Base} {n : Nat} {sc scope : Scope} {m : Loc} {σ σ' σ₀ σ₁ : St} {Q : V → St → Prop} {P : Bool → St → Prop} {N : Loc → St → Prop} {R : V → St → Prop} {L : LD}

theorem hk4 {a b c d : Str × Pos} {p : Str × Pos → Prop} (h1 : p a) (h2 : p b) (h3 : p c) (h4 : p d) : ∀ x ∈ [a, b, c, d], p x := fun x hx => by
  rcases List.mem_cons.mp hx with rfl | hx
  · exact h1
  exact hk3 h2 h3 h4 x hx
theorem size_at {N M : Nat} (hN : N ≤ 8) (hM : M ≤ 8) {w : Int} (w0 : 0 ≤ w) (w1 : w < 4) : ∃ k : Nat, [V.int (N : Int), .int (N : Int), .int (M : Int), .int 0][w.toNat]? = some (.int (k : Int)) ∧ k ≤ 8 := by
  obtain ⟨j, rfl⟩ : ∃ j : Nat, w = (j : Int) := ⟨w.toNat, by omega⟩
  rcases (show j = 0 ∨ j = 1 ∨ j = 2 ∨ j = 3 by omega) with rfl | rfl | rfl | rfl
  · exact ⟨N, rfl, hN⟩
  · exact ⟨N, rfl, hN⟩
  · exact ⟨M, rfl, hM⟩
  · exact ⟨0, rfl, by decide⟩
theorem fmod_to {v : Int} {b : Int} (hb : 0 < b) (hb8 : b ≤ 9) : ∃ k : Nat, v.fmod b = (k : Int) ∧ k ≤ 8 := by
  have a := Int.fmod_nonneg_of_pos v hb
  have c := Int.fmod_lt_of_pos v hb
  exact ⟨(v.fmod b).toNat, by omega, by omega⟩
theorem ExtS.at {st rw_ a : Addr} {o : AO} (e : ExtS st rw_ σ σ') (hd : DS σ₀ st rw_) (hn : σ₀ a = none) (h : σ a = some o) : σ' a = some o := e.get _ _ (hd.nn hn).1 (hd.nn hn).2 h
theorem law_run (D : Defs B) {sa : Addr} {is : List Int} (hs : B.ro sa = some (.list (iV is))) (hz : is.length ≤ 63) (h : ∀ σ', Q (.bool true) σ') :
    WC B (n + 13) "law" [.ref sa] σ Q := by
  refine WC.enter1 (p1 := "script") (D.f 96 rfl) ?_
  refine WSs.cons (WS.assign (WE.call1 (D.f 89 rfl) (WE.nm rfl (law_draws_c D (.inr hs) hz fun st rw_ σ₁ e₁ d₁ => ?_))))
  refine WSs.cons (WS.assign (WE.bin (WE.bin (WE.call2 (D.f 90 rfl) (WE.nm rfl (WE.cInt (take_c D d₁ (by decide) (by decide) fun v σ₂ v0 v1 k₂ d₂ => WE.cInt (WO.addInt (WE.cInt (WO.modInt (by decide) ?_))))))))))
  obtain ⟨N, hN, hN8⟩ := fmod_to (v := v + 4) (b := 9) (by decide) (by decide)
  rw [hN]
  refine WSs.cons (WS.assign (WE.list (WEs.cons (WE.nm rfl (WEs.cons (WE.nm rfl (WEs.cons (WE.bin (WE.bin (WE.call2 (D.f 90 rfl) (WE.nm rfl (WE.cInt (take_c D d₂ (by decide) (by decide) fun w σ₃ w0 w1 k₃ d₃ => WE.cInt (WO.addInt (WE.cInt (WO.modInt (by decide) (WEs.cons (WE.cInt (WEs.nil ⟨Nat.le_of_ble_eq_true rfl, fun sz hsz => ?_⟩)))))))))))))))))))
  obtain ⟨M, hM, hM8⟩ := fmod_to (v := w + 3) (b := 7) (by decide) (by decide)
  rw [hM]
  have es := Ext.new (o := .list [V.int (N : Int), .int (N : Int), .int (M : Int), .int 0]) hsz
  have d₄ := d₃.ext es
  have hsz' := upd_self (σ := σ₃) (a := sz) (o := .list [V.int (N : Int), .int (N : Int), .int (M : Int), .int 0])
  generalize upd σ₃ sz (.list [V.int (N : Int), .int (N : Int), .int (M : Int), .int 0]) = σ₄ at *
  refine WSs.cons (WS.unpack (xs := [("f", _), ("texts", _), ("clean", _), ("kinds", _)]) (hk4 rfl rfl rfl rfl) (WE.call2 (D.f 91 rfl) (WE.nm rfl (WE.sub (WE.nm rfl (WE.call2 (D.f 90 rfl) (WE.nm rfl (WE.cInt (take_c D d₄ (by decide) (by decide) fun w σ₅ w0 w1 k₅ d₅ => ?_)))))))))
  have hsz5 := (k₅ sz (d₃.nn hsz).1 (d₃.nn hsz).2).trans hsz'
  obtain ⟨n1, hn1, hn1'⟩ := size_at hN8 hM8 w0 w1
  refine WO.subList (.inl hsz5) w0 (by omega) hn1 (law_factor_c D (by omega) d₅ fun t f tx cl kn ts bo cs σ₆ e₆ d₆ ff htx hcl hkn ht b1 b6 hcs ⟨nt, ntx, ncl, nkn⟩ => ⟨_, _, rfl, .inl ht, rfl, ?_⟩)
  have hsz6 := e₆.at d₃ hsz hsz5
  refine WSs.cons (WS.unpack (xs := [("g", _), ("others", _), ("second", _), ("more", _)]) (hk4 rfl rfl rfl rfl) (WE.call2 (D.f 91 rfl) (WE.nm rfl (WE.sub (WE.nm rfl (WE.call2 (D.f 90 rfl) (WE.nm rfl (WE.cInt (take_c D d₆ (by decide) (by decide) fun w' σ₇ w0' w1' k₇ d₇ => ?_)))))))))
  have hsz7 := (k₇ sz (d₃.nn hsz).1 (d₃.nn hsz).2).trans hsz6
  obtain ⟨n2, hn2, hn2'⟩ := size_at hN8 hM8 w0' w1'
  refine WO.subList (.inl hsz7) w0' (by omega) hn2 (law_factor_c D (by omega) d₇ fun t2 g ox se mo us bo2 ds σ₈ e₈ d₈ fg hox hse hmo ht2 b2 b7 hds ⟨nt2, nox, nse, nmo⟩ => ⟨_, _, rfl, .inl ht2, rfl, ?_⟩)
  refine WSs.cons (WS.assign (WE.call3 (D.f 92 rfl) (WE.nm rfl (WE.nm rfl (WE.nm rfl (law_vector_c D d₈ (by omega) hs hz fun tb x kind xs o lv hv lvv σ₉ e₉ bl htb => ?_))))))
  obtain ⟨lx, ax, v2, hlx⟩ := bl.vc
  refine WSs.cons (WS.assign (WE.listC (WE.items (WE.sub (WE.nm rfl (WE.cInt (WO.subTup (.inl htb) (by decide) (by decide) rfl ⟨_, _, _, _, rfl, v2, WO.listOf (.inl hlx) (by have := bl.len; rw [sizeLine_eq]; omega) fun bf hbf => ?_⟩)))))))
  have e68 : ExtS st rw_ σ₆ σ₈ := (DS.tk (ExtS.refl _) k₇).trans e₈
  have e69 := e68.trans e₉
  have eb := Ext.new (o := .list xs) hbf
  let L : LD := ⟨f, g, tx, cl, kn, ox, se, tb, x, bf, ts, us, bo, bo2, cs, ds, kind, xs, o, lv, N, hv, lvv⟩
  have hL : LS B L (upd σ₉ bf (.list xs)) :=
    ⟨(ff.extS d₅ e69).fac.ext eb, (fg.extS d₇ e₉).fac.ext eb, eb.get _ _ (e69.at d₅ ntx htx), eb.get _ _ (e69.at d₅ ncl hcl), eb.get _ _ (e69.at d₅ nkn hkn), eb.get _ _ (e₉.at d₇ nox hox), eb.get _ _ (e₉.at d₇ nse hse), bl.ext eb, eb.get _ _ htb, upd_self .., b1, b2, by show cs.length ≤ 8; omega, by show ds.length ≤ 8; omega, hN8, b6, b7⟩
  refine law7 (L := L) D ⟨rfl, rfl, rfl, rfl, rfl, rfl, rfl, rfl, rfl, rfl⟩ hL fun σ' hs' => ?_
  refine law8 (L := L) D ⟨rfl, rfl, rfl, rfl, rfl, rfl, rfl, rfl, rfl, rfl⟩ hs' fun m₂ σ₂ hm₂ hs₂ => ?_
  refine law10 D hm₂ hs₂ fun m₃ σ₃ pa hm₃ hs₃ mp hp => ?_
  refine law13 D hm₃ hs₃ mp hp fun m₄ σ₄ hm₄ hs₄ => ?_
  exact law17 D hm₄ hs₄ h
end
end Mine

namespace Mine
set_option maxRecDepth 100000
noncomputable def goT (stp : SharedT → Thread → Option (SharedT × Thread)) (ok thr : Thread → Bool) : Nat → SharedT → Thread → Option SharedT :=
  fun n => @Nat.rec (fun _ => SharedT → Thread → Option SharedT) (fun _ _ => none) (fun _ ih s t => match thr t with
    | true => some s
    | false => match ok t with
      | false => none
      | true => match stp s t with
        | some r => ih r.1 r.2
        | none => none) n
theorem goT_of {tb : String → Option Builtin} {p : Program} {w : World} {n₀ : Nat} {ann : Option Value} : ∀ {n : Nat} {s s' : SharedT} {t : Thread}, goT (stepT (denote tb) p w) (stepOk n₀ ann) through n s t = some s' → topRun tb p w n₀ ann n s.abs t = some s'.abs
  | 0, _, _, _, h => by cases h
  | n + 1, s, s', t, h => by
    have h : (match through t with
      | true => some s
      | false => match stepOk n₀ ann t with
        | false => none
        | true => match stepT (denote tb) p w s t with
          | some r => goT (stepT (denote tb) p w) (stepOk n₀ ann) through n r.1 r.2
          | none => none) = some s' := h
    unfold topRun
    cases ht : through t with
    | true => rw [ht] at h; cases h; rfl
    | false =>
      rw [ht] at h
      cases hk : stepOk n₀ ann t with
      | false => rw [hk] at h; cases h
      | true =>
        rw [hk] at h
        cases hs : stepT (denote tb) p w s t with
        | none => rw [hs] at h; cases h
        | some r =>
          obtain ⟨s₂, t₂⟩ := r
          rw [hs] at h
          rw [stepT_spec hs]
          exact goT_of h
noncomputable def boot_tree (P : Params) : BT := ((((((((((((BT.nil.ins 0 (boot_o_0 P)).ins 1 (boot_o_1 P)).ins 2 (boot_o_2 P)).ins 3 (boot_o_3 P)).ins 4 (boot_o_4 P)).ins 5 (boot_o_5 P)).ins 6 (boot_o_6 P)).ins 7 (boot_o_7 P)).ins 8 (boot_o_8 P)).ins 9 (boot_o_9 P)).ins 10 (boot_o_10 P)))
theorem boot_abs (P : Params) : absHeap (boot_tree P) 11 (boot_heap P).life = boot_heap P := by kernel_rfl
theorem left_of_boot {p q : Program} {loose : List Str} {Xt : Shared → Bool} {α : Type} {Yf : Shared → α} {Ya : World → α} {N : Nat} {g0 : Bool} (e : opening p = plainProg p.main.scope.names) (hN : Nat.ble 600 N = true) (f : ∀ s, fenceModules? p s = some s)
    {n₀ : Nat} {ann : Option Value} (size : ∀ P : Params, ((boot_heap P).isNs mainGlobals, (boot_heap P).objs.size, (boot_heap P).nsMap mainGlobals "__annotations__") = (true, n₀, ann))
    (h : ∀ (w : World), (fun os : OsState => (goT (stepT (denote treeTable) p w) (stepOk n₀ ann) through N ⟨boot_tree w.params, 11, (boot_heap w.params).life, Array.mk [], boot_drawn, boot_toks, os⟩ (topStub p)).map (fun s =>
      (staticsOk (importedModules p.main.body) (boot_heap w.params) s.abs.heap && namesBound p s.abs.heap && gensDone s.abs && laidKept (boot_heap w.params) s.abs.heap, openSeen q loose (importedModules p.main.body) Xt g0 s.abs, Yf s.abs))) = fun _ => some (true, openGood q loose, Ya w)) : LeftO p q loose Xt Yf Ya N g0 := fun w => by
  obtain ⟨⟨hh, gs, d, k, os⟩, e1, e2⟩ := Option.map_eq_some_iff.mp (boot_open e hN f w)
  obtain ⟨rfl, rfl, rfl, rfl⟩ : hh = boot_heap w.params ∧ gs = Array.mk [] ∧ d = boot_drawn ∧ k = boot_toks := by simpa using e2
  obtain ⟨z1, z2, z3⟩ : _ ∧ _ ∧ _ := by simpa only [Prod.mk.injEq] using size w.params
  obtain ⟨s, g1, g2⟩ := Option.map_eq_some_iff.mp (congrFun (h w) os)
  obtain ⟨l1, l2, l3⟩ : _ ∧ _ ∧ _ := by simpa only [Prod.mk.injEq] using g2
  have r := goT_of g1
  have hb : (⟨boot_tree w.params, 11, (boot_heap w.params).life, Array.mk [], boot_drawn, boot_toks, os⟩ : SharedT).abs = ⟨boot_heap w.params, Array.mk [], boot_drawn, boot_toks, os⟩ := by
    show (⟨absHeap _ _ _, _, _, _, _⟩ : Shared) = _
    rw [boot_abs]
  rw [hb] at r
  unfold openEnds
  rw [e1]
  show (topFrom treeTable p w N _).map _ = _
  unfold topFrom
  dsimp only
  rw [z1, z2, z3]
  show Option.map _ ((topRun treeTable p w n₀ ann N _ (topStub p)).bind _) = _
  rw [r]
  show Option.map _ (match staticsOk (importedModules p.main.body) (boot_heap w.params) s.abs.heap && namesBound p s.abs.heap && gensDone s.abs && laidKept (boot_heap w.params) s.abs.heap with | true => some s.abs | false => none) = _
  rw [l1]
  exact congrArg some (Prod.ext l2 l3)
/-- the objects that the proof reads, written out -/
def kF (f : Str × Arguments × List Stmt × Scope) (q : Str) (dV : Value) (m : Str) (t : Nat) (c : Addr) : Obj :=
  { cls := .type "function", dict := none, data := .func (fnX f.1 q f.2.1 f.2.2.1 f.2.2.2 [] dV .none .none (.str m t) none (.ref c) .none), slots := #[] }
def kC (vs : Array Value) : Obj := { cls := .type "code", dict := none, data := .fields vs, slots := #[] }
abbrev kh (P : Params) (s : Str) : Int := PyData.keyHash P s
def kK (P : Params) : Frag := [
  (3, Obj.mk (Value.type "dict") none (Data.dict #[DictEntry.mk (kh P "__name__") (Value.str "__name__" 165) (Value.str "law_nz0517_01" 1035), DictEntry.mk (kh P "__doc__") (Value.str "__doc__" 166) Value.none, DictEntry.mk (kh P "__package__") (Value.str "__package__" 167) Value.none, DictEntry.mk (kh P "__loader__") (Value.str "__loader__" 168) (Value.builtin "__main__.__loader__#opaque"), DictEntry.mk (kh P "__spec__") (Value.str "__spec__" 169) Value.none, DictEntry.mk (kh P "__annotations__") (Value.str "__annotations__" 170) (Value.ref 6), DictEntry.mk (kh P "__builtins__") (Value.str "__builtins__" 171) (Value.ref 4), DictEntry.mk (kh P "__file__") (Value.str "__file__" 173) (Value.str "/claim/cut.py" 172), DictEntry.mk (kh P "__cached__") (Value.str "__cached__" 174) Value.none, DictEntry.mk (kh P "is_finite") (Value.str "is_finite" 195) (Value.ref 21), DictEntry.mk (kh P "to_whole") (Value.str "to_whole" 203) (Value.ref 28), DictEntry.mk (kh P "nearest_whole") (Value.str "nearest_whole" 213) (Value.ref 35), DictEntry.mk (kh P "exponent") (Value.str "exponent" 223) (Value.ref 42), DictEntry.mk (kh P "whole_text") (Value.str "whole_text" 235) (Value.ref 49), DictEntry.mk (kh P "special_text") (Value.str "special_text" 242) (Value.ref 56), DictEntry.mk (kh P "scaled") (Value.str "scaled" 252) (Value.ref 63), DictEntry.mk (kh P "significant") (Value.str "significant" 262) (Value.ref 70), DictEntry.mk (kh P "without_tail") (Value.str "without_tail" 270) (Value.ref 77), DictEntry.mk (kh P "scientific_text") (Value.str "scientific_text" 282) (Value.ref 84), DictEntry.mk (kh P "fixed_text") (Value.str "fixed_text" 292) (Value.ref 91), DictEntry.mk (kh P "measures") (Value.str "measures" 305) (Value.ref 98), DictEntry.mk (kh P "chosen_form") (Value.str "chosen_form" 322) (Value.ref 105), DictEntry.mk (kh P "formed") (Value.str "formed" 331) (Value.ref 112), DictEntry.mk (kh P "common_texts") (Value.str "common_texts" 337) (Value.ref 117), DictEntry.mk (kh P "number_text") (Value.str "number_text" 346) (Value.ref 125), DictEntry.mk (kh P "Null") (Value.str "Null" 377) (Value.ref 142), DictEntry.mk (kh P "Vector") (Value.str "Vector" 420) (Value.ref 171), DictEntry.mk (kh P "Call") (Value.str "Call" 455) (Value.ref 193), DictEntry.mk (kh P "integer") (Value.str "integer" 462) (Value.ref 204), DictEntry.mk (kh P "character") (Value.str "character" 469) (Value.ref 211), DictEntry.mk (kh P "named") (Value.str "named" 477) (Value.ref 218), DictEntry.mk (kh P "list_of") (Value.str "list_of" 483) (Value.ref 224), DictEntry.mk (kh P "length") (Value.str "length" 491) (Value.ref 231), DictEntry.mk (kh P "is_vector") (Value.str "is_vector" 498) (Value.ref 238), DictEntry.mk (kh P "is_atomic") (Value.str "is_atomic" 505) (Value.ref 245), DictEntry.mk (kh P "share") (Value.str "share" 512) (Value.ref 252), DictEntry.mk (kh P "get_attr") (Value.str "get_attr" 522) (Value.ref 259), DictEntry.mk (kh P "label_text") (Value.str "label_text" 530) (Value.ref 266), DictEntry.mk (kh P "level_at") (Value.str "level_at" 538) (Value.ref 273), DictEntry.mk (kh P "label_texts") (Value.str "label_texts" 544) (Value.ref 278), DictEntry.mk (kh P "names_of") (Value.str "names_of" 550) (Value.ref 283), DictEntry.mk (kh P "dim_of") (Value.str "dim_of" 558) (Value.ref 290), DictEntry.mk (kh P "dimnames_of") (Value.str "dimnames_of" 564) (Value.ref 295), DictEntry.mk (kh P "class_attr") (Value.str "class_attr" 572) (Value.ref 302), DictEntry.mk (kh P "CoveError") (Value.str "CoveError" 594) (Value.ref 312), DictEntry.mk (kh P "Refusal") (Value.str "Refusal" 619) (Value.ref 332), DictEntry.mk (kh P "whole_subscripts") (Value.str "whole_subscripts" 630) (Value.ref 341), DictEntry.mk (kh P "logical_places") (Value.str "logical_places" 642) (Value.ref 348), DictEntry.mk (kh P "whole_places") (Value.str "whole_places" 648) (Value.ref 353), DictEntry.mk (kh P "first_places") (Value.str "first_places" 658) (Value.ref 360), DictEntry.mk (kh P "name_places") (Value.str "name_places" 669) (Value.ref 367), DictEntry.mk (kh P "extending_places") (Value.str "extending_places" 683) (Value.ref 374), DictEntry.mk (kh P "positions") (Value.str "positions" 694) (Value.ref 381), DictEntry.mk (kh P "axis") (Value.str "axis" 706) (Value.ref 388), DictEntry.mk (kh P "strides") (Value.str "strides" 716) (Value.ref 395), DictEntry.mk (kh P "is_matrix_index") (Value.str "is_matrix_index" 725) (Value.ref 402), DictEntry.mk (kh P "row_place") (Value.str "row_place" 737) (Value.ref 409), DictEntry.mk (kh P "named_subscripts") (Value.str "named_subscripts" 753) (Value.ref 416), DictEntry.mk (kh P "matrix_index") (Value.str "matrix_index" 759) (Value.ref 422), DictEntry.mk (kh P "lacking_item") (Value.str "lacking_item" 768) (Value.ref 429), DictEntry.mk (kh P "refuse_subset") (Value.str "refuse_subset" 775) (Value.ref 436), DictEntry.mk (kh P "result_kind") (Value.str "result_kind" 782) (Value.ref 443), DictEntry.mk (kh P "items_at") (Value.str "items_at" 793) (Value.ref 450), DictEntry.mk (kh P "names_at") (Value.str "names_at" 803) (Value.ref 457), DictEntry.mk (kh P "subset_vector") (Value.str "subset_vector" 814) (Value.ref 464), DictEntry.mk (kh P "array_places") (Value.str "array_places" 828) (Value.ref 471), DictEntry.mk (kh P "array_axes") (Value.str "array_axes" 841) (Value.ref 478), DictEntry.mk (kh P "heads_of_dimnames") (Value.str "heads_of_dimnames" 849) (Value.ref 485), DictEntry.mk (kh P "picked_dimnames") (Value.str "picked_dimnames" 860) (Value.ref 492), DictEntry.mk (kh P "dimnames_value") (Value.str "dimnames_value" 871) (Value.ref 499), DictEntry.mk (kh P "put_shape") (Value.str "put_shape" 882) (Value.ref 506), DictEntry.mk (kh P "only_names") (Value.str "only_names" 891) (Value.ref 513), DictEntry.mk (kh P "put_dropped") (Value.str "put_dropped" 897) (Value.ref 518), DictEntry.mk (kh P "subset_array") (Value.str "subset_array" 903) (Value.ref 523), DictEntry.mk (kh P "subset_row") (Value.str "subset_row" 915) (Value.ref 530), DictEntry.mk (kh P "subset_call") (Value.str "subset_call" 921) (Value.ref 535), DictEntry.mk (kh P "subset_any") (Value.str "subset_any" 933) (Value.ref 542), DictEntry.mk (kh P "is_factor") (Value.str "is_factor" 942) (Value.ref 549), DictEntry.mk (kh P "is_ordered") (Value.str "is_ordered" 949) (Value.ref 556), DictEntry.mk (kh P "level_texts") (Value.str "level_texts" 955) (Value.ref 561), DictEntry.mk (kh P "codes_in") (Value.str "codes_in" 961) (Value.ref 566), DictEntry.mk (kh P "factor_class") (Value.str "factor_class" 968) (Value.ref 573), DictEntry.mk (kh P "with_levels") (Value.str "with_levels" 977) (Value.ref 580), DictEntry.mk (kh P "drop_levels") (Value.str "drop_levels" 983) (Value.ref 585), DictEntry.mk (kh P "interaction") (Value.str "interaction" 1001) (Value.ref 592), DictEntry.mk (kh P "codes_alone") (Value.str "codes_alone" 1011) (Value.ref 599), DictEntry.mk (kh P "subset_factor") (Value.str "subset_factor" 1022) (Value.ref 606), DictEntry.mk (kh P "split_places") (Value.str "split_places" 1028) (Value.ref 611), DictEntry.mk (kh P "split_by") (Value.str "split_by" 1034) (Value.ref 616), DictEntry.mk (kh P "_law_draws") (Value.str "_law_draws" 1048) (Value.ref 623), DictEntry.mk (kh P "_law_take") (Value.str "_law_take" 1056) (Value.ref 630), DictEntry.mk (kh P "_law_factor") (Value.str "_law_factor" 1062) (Value.ref 635), DictEntry.mk (kh P "_law_vector") (Value.str "_law_vector" 1068) (Value.ref 640), DictEntry.mk (kh P "_law_part_right") (Value.str "_law_part_right" 1074) (Value.ref 645), DictEntry.mk (kh P "_law_parts_right") (Value.str "_law_parts_right" 1080) (Value.ref 650), DictEntry.mk (kh P "_law_keys") (Value.str "_law_keys" 1086) (Value.ref 655), DictEntry.mk (kh P "law") (Value.str "law" 1092) (Value.ref 660)] 97) #[]),
  (154, Obj.mk (Value.type "tuple") none (Data.seq #[Value.none]) #[]),
  (160, kC #[.str "__init__" 390, .str "Vector.__init__" 391, .str "/claim/cut.py" 392, .int 128 0, .int 4 0, .int 0 0, .int 0 0, .int 3 0, .ref 155, .bool true, .int 181 0, .ref 156, .none, .ref 157, .ref 158, .ref 159, .int 397 0, .int 128 0, .str "/claim/cut.py" 398]),
  (161, kF (mt 0) "Vector.__init__" (.ref 154) "vectorcove.values" 347 160),
  (167, kC #[.str "copy" 400, .str "Vector.copy" 401, .str "/claim/cut.py" 402, .int 135 0, .int 1 0, .int 0 0, .int 0 0, .int 3 0, .ref 162, .bool true, .int 181 0, .ref 163, .none, .ref 164, .ref 165, .ref 166, .int 405 0, .int 135 0, .str "/claim/cut.py" 406]),
  (168, kF (mt 1) "Vector.copy" .none "vectorcove.values" 347 167),
  (170, Obj.mk (Value.type "dict") none (Data.dict #[DictEntry.mk (kh P "__module__") (Value.str "__module__" 385) (Value.str "vectorcove.values" 347), DictEntry.mk (kh P "__firstlineno__") (Value.str "__firstlineno__" 389) (Value.int 126 388), DictEntry.mk (kh P "__init__") (Value.str "__init__" 399) (Value.ref 161), DictEntry.mk (kh P "copy") (Value.str "copy" 407) (Value.ref 168), DictEntry.mk (kh P "__static_attributes__") (Value.str "__static_attributes__" 413) (Value.ref 169), DictEntry.mk (kh P "__dict__") (Value.str "__dict__" 415) (Value.ref 172), DictEntry.mk (kh P "__weakref__") (Value.str "__weakref__" 417) (Value.ref 173), DictEntry.mk (kh P "__doc__") (Value.str "__doc__" 418) Value.none] 4) #[]),
  (171, Obj.mk (Value.type "type") none (Data.cls (ClassData.mk "Vector" [Value.type "object"] [Value.ref 171, Value.type "object"] 170 "Vector" true [] [] false none false)) #[none, none, some (Value.str "Vector" 378), some (Value.str "Vector" 386), some (Value.builtin "object.__new__"), some (Value.bool true)]),
  (203, kC #[.str "integer" 456, .str "integer" 457, .str "/claim/cut.py" 458, .int 148 0, .int 1 0, .int 0 0, .int 0 0, .int 3 0, .ref 198, .bool true, .int 181 0, .ref 199, .none, .ref 200, .ref 201, .ref 202, .int 460 0, .int 148 0, .str "/claim/cut.py" 461]),
  (204, kF (fn 22) "integer" .none "vectorcove.values" 347 203),
  (210, kC #[.str "character" 463, .str "character" 464, .str "/claim/cut.py" 465, .int 150 0, .int 1 0, .int 0 0, .int 0 0, .int 3 0, .ref 205, .bool true, .int 181 0, .ref 206, .none, .ref 207, .ref 208, .ref 209, .int 467 0, .int 150 0, .str "/claim/cut.py" 468]),
  (211, kF (fn 23) "character" .none "vectorcove.values" 347 210),
  (217, kC #[.str "named" 470, .str "named" 471, .str "/claim/cut.py" 472, .int 152 0, .int 2 0, .int 0 0, .int 0 0, .int 3 0, .ref 212, .bool true, .int 181 0, .ref 213, .none, .ref 214, .ref 215, .ref 216, .int 475 0, .int 152 0, .str "/claim/cut.py" 476]),
  (218, kF (fn 24) "named" .none "vectorcove.values" 347 217),
  (219, Obj.mk (Value.type "tuple") none (Data.seq #[Value.none]) #[]),
  (223, kC #[.str "list_of" 478, .str "list_of" 479, .str "/claim/cut.py" 480, .int 156 0, .int 2 0, .int 0 0, .int 0 0, .int 3 0, .ref 220, .bool true, .int 181 0, .ref 221, .none, .none, .none, .ref 222, .int 481 0, .int 156 0, .str "/claim/cut.py" 482]),
  (224, kF (fn 25) "list_of" (.ref 219) "vectorcove.values" 347 223),
  (230, kC #[.str "length" 484, .str "length" 485, .str "/claim/cut.py" 486, .int 158 0, .int 1 0, .int 0 0, .int 0 0, .int 3 0, .ref 225, .bool true, .int 181 0, .ref 226, .none, .ref 227, .ref 228, .ref 229, .int 489 0, .int 158 0, .str "/claim/cut.py" 490]),
  (231, kF (fn 26) "length" .none "vectorcove.values" 347 230),
  (237, kC #[.str "is_vector" 492, .str "is_vector" 493, .str "/claim/cut.py" 494, .int 169 0, .int 1 0, .int 0 0, .int 0 0, .int 3 0, .ref 232, .bool true, .int 181 0, .ref 233, .none, .ref 234, .ref 235, .ref 236, .int 496 0, .int 169 0, .str "/claim/cut.py" 497]),
  (238, kF (fn 27) "is_vector" .none "vectorcove.values" 347 237),
  (244, kC #[.str "is_atomic" 499, .str "is_atomic" 500, .str "/claim/cut.py" 501, .int 171 0, .int 1 0, .int 0 0, .int 0 0, .int 3 0, .ref 239, .bool true, .int 181 0, .ref 240, .none, .ref 241, .ref 242, .ref 243, .int 503 0, .int 171 0, .str "/claim/cut.py" 504]),
  (245, kF (fn 28) "is_atomic" .none "vectorcove.values" 347 244),
  (251, kC #[.str "share" 506, .str "share" 507, .str "/claim/cut.py" 508, .int 173 0, .int 1 0, .int 0 0, .int 0 0, .int 3 0, .ref 246, .bool true, .int 181 0, .ref 247, .none, .ref 248, .ref 249, .ref 250, .int 510 0, .int 173 0, .str "/claim/cut.py" 511]),
  (252, kF (fn 29) "share" .none "vectorcove.values" 347 251),
  (258, kC #[.str "get_attr" 515, .str "get_attr" 516, .str "/claim/cut.py" 517, .int 178 0, .int 2 0, .int 0 0, .int 0 0, .int 3 0, .ref 253, .bool true, .int 181 0, .ref 254, .none, .ref 255, .ref 256, .ref 257, .int 520 0, .int 178 0, .str "/claim/cut.py" 521]),
  (259, kF (fn 31) "get_attr" .none "vectorcove.attrs" 513 258),
  (265, kC #[.str "label_text" 523, .str "label_text" 524, .str "/claim/cut.py" 525, .int 182 0, .int 2 0, .int 0 0, .int 0 0, .int 3 0, .ref 260, .bool true, .int 181 0, .ref 261, .none, .ref 262, .ref 263, .ref 264, .int 528 0, .int 182 0, .str "/claim/cut.py" 529]),
  (266, kF (fn 32) "label_text" .none "vectorcove.attrs" 513 265),
  (277, kC #[.str "label_texts" 539, .str "label_texts" 540, .str "/claim/cut.py" 541, .int 194 0, .int 1 0, .int 0 0, .int 0 0, .int 3 0, .ref 274, .bool true, .int 181 0, .ref 275, .none, .none, .none, .ref 276, .int 542 0, .int 194 0, .str "/claim/cut.py" 543]),
  (278, kF (fn 34) "label_texts" .none "vectorcove.attrs" 513 277),
  (282, kC #[.str "names_of" 545, .str "names_of" 546, .str "/claim/cut.py" 547, .int 200 0, .int 1 0, .int 0 0, .int 0 0, .int 3 0, .ref 279, .bool true, .int 181 0, .ref 280, .none, .none, .none, .ref 281, .int 548 0, .int 200 0, .str "/claim/cut.py" 549]),
  (283, kF (fn 35) "names_of" .none "vectorcove.attrs" 513 282),
  (289, kC #[.str "dim_of" 551, .str "dim_of" 552, .str "/claim/cut.py" 553, .int 216 0, .int 1 0, .int 0 0, .int 0 0, .int 3 0, .ref 284, .bool true, .int 181 0, .ref 285, .none, .ref 286, .ref 287, .ref 288, .int 556 0, .int 216 0, .str "/claim/cut.py" 557]),
  (290, kF (fn 36) "dim_of" .none "vectorcove.attrs" 513 289),
  (294, kC #[.str "dimnames_of" 559, .str "dimnames_of" 560, .str "/claim/cut.py" 561, .int 221 0, .int 1 0, .int 0 0, .int 0 0, .int 3 0, .ref 291, .bool true, .int 181 0, .ref 292, .none, .none, .none, .ref 293, .int 562 0, .int 221 0, .str "/claim/cut.py" 563]),
  (295, kF (fn 37) "dimnames_of" .none "vectorcove.attrs" 513 294),
  (301, kC #[.str "class_attr" 565, .str "class_attr" 566, .str "/claim/cut.py" 567, .int 226 0, .int 1 0, .int 0 0, .int 0 0, .int 3 0, .ref 296, .bool true, .int 181 0, .ref 297, .none, .ref 298, .ref 299, .ref 300, .int 570 0, .int 226 0, .str "/claim/cut.py" 571]),
  (302, kF (fn 38) "class_attr" .none "vectorcove.attrs" 513 301),
  (340, kC #[.str "whole_subscripts" 622, .str "whole_subscripts" 623, .str "/claim/cut.py" 624, .int 239 0, .int 1 0, .int 0 0, .int 0 0, .int 3 0, .ref 335, .bool true, .int 181 0, .ref 336, .none, .ref 337, .ref 338, .ref 339, .int 628 0, .int 239 0, .str "/claim/cut.py" 629]),
  (341, kF (fn 43) "whole_subscripts" .none "vectorcove.index" 620 340),
  (352, kC #[.str "whole_places" 643, .str "whole_places" 644, .str "/claim/cut.py" 645, .int 261 0, .int 2 0, .int 0 0, .int 0 0, .int 3 0, .ref 349, .bool true, .int 181 0, .ref 350, .none, .none, .none, .ref 351, .int 646 0, .int 261 0, .str "/claim/cut.py" 647]),
  (353, kF (fn 45) "whole_places" .none "vectorcove.index" 620 352),
  (380, kC #[.str "positions" 684, .str "positions" 685, .str "/claim/cut.py" 686, .int 311 0, .int 4 0, .int 0 0, .int 0 0, .int 3 0, .ref 375, .bool true, .int 181 0, .ref 376, .none, .ref 377, .ref 378, .ref 379, .int 692 0, .int 311 0, .str "/claim/cut.py" 693]),
  (381, kF (fn 49) "positions" .none "vectorcove.index" 620 380),
  (401, kC #[.str "is_matrix_index" 717, .str "is_matrix_index" 718, .str "/claim/cut.py" 719, .int 345 0, .int 2 0, .int 0 0, .int 0 0, .int 3 0, .ref 396, .bool true, .int 181 0, .ref 397, .none, .ref 398, .ref 399, .ref 400, .int 723 0, .int 345 0, .str "/claim/cut.py" 724]),
  (402, kF (fn 52) "is_matrix_index" .none "vectorcove.index" 620 401),
  (417, Obj.mk (Value.type "tuple") none (Data.seq #[Value.none]) #[]),
  (421, kC #[.str "matrix_index" 754, .str "matrix_index" 755, .str "/claim/cut.py" 756, .int 387 0, .int 3 0, .int 0 0, .int 0 0, .int 3 0, .ref 418, .bool true, .int 181 0, .ref 419, .none, .none, .none, .ref 420, .int 757 0, .int 387 0, .str "/claim/cut.py" 758]),
  (422, kF (fn 55) "matrix_index" (.ref 417) "vectorcove.index" 620 421),
  (442, kC #[.str "result_kind" 776, .str "result_kind" 777, .str "/claim/cut.py" 778, .int 409 0, .int 1 0, .int 0 0, .int 0 0, .int 3 0, .ref 437, .bool true, .int 181 0, .ref 438, .none, .ref 439, .ref 440, .ref 441, .int 780 0, .int 409 0, .str "/claim/cut.py" 781]),
  (443, kF (fn 59) "result_kind" .none "vectorcove.subset" 760 442),
  (449, kC #[.str "items_at" 783, .str "items_at" 784, .str "/claim/cut.py" 785, .int 413 0, .int 2 0, .int 0 0, .int 0 0, .int 3 0, .ref 444, .bool true, .int 181 0, .ref 445, .none, .ref 446, .ref 447, .ref 448, .int 791 0, .int 413 0, .str "/claim/cut.py" 792]),
  (450, kF (fn 60) "items_at" .none "vectorcove.subset" 760 449),
  (456, kC #[.str "names_at" 794, .str "names_at" 795, .str "/claim/cut.py" 796, .int 422 0, .int 2 0, .int 0 0, .int 0 0, .int 3 0, .ref 451, .bool true, .int 181 0, .ref 452, .none, .ref 453, .ref 454, .ref 455, .int 801 0, .int 422 0, .str "/claim/cut.py" 802]),
  (457, kF (fn 61) "names_at" .none "vectorcove.subset" 760 456),
  (463, kC #[.str "subset_vector" 804, .str "subset_vector" 805, .str "/claim/cut.py" 806, .int 430 0, .int 2 0, .int 0 0, .int 0 0, .int 3 0, .ref 458, .bool true, .int 181 0, .ref 459, .none, .ref 460, .ref 461, .ref 462, .int 812 0, .int 430 0, .str "/claim/cut.py" 813]),
  (464, kF (fn 62) "subset_vector" .none "vectorcove.subset" 760 463),
  (541, kC #[.str "subset_any" 922, .str "subset_any" 923, .str "/claim/cut.py" 924, .int 552 0, .int 4 0, .int 0 0, .int 0 0, .int 3 0, .ref 536, .bool true, .int 181 0, .ref 537, .none, .ref 538, .ref 539, .ref 540, .int 931 0, .int 552 0, .str "/claim/cut.py" 932]),
  (542, kF (fn 74) "subset_any" .none "vectorcove.subset" 760 541),
  (548, kC #[.str "is_factor" 936, .str "is_factor" 937, .str "/claim/cut.py" 938, .int 575 0, .int 1 0, .int 0 0, .int 0 0, .int 3 0, .ref 543, .bool true, .int 181 0, .ref 544, .none, .ref 545, .ref 546, .ref 547, .int 940 0, .int 575 0, .str "/claim/cut.py" 941]),
  (549, kF (fn 76) "is_factor" .none "vectorcove.factors" 934 548),
  (555, kC #[.str "is_ordered" 943, .str "is_ordered" 944, .str "/claim/cut.py" 945, .int 577 0, .int 1 0, .int 0 0, .int 0 0, .int 3 0, .ref 550, .bool true, .int 181 0, .ref 551, .none, .ref 552, .ref 553, .ref 554, .int 947 0, .int 577 0, .str "/claim/cut.py" 948]),
  (556, kF (fn 77) "is_ordered" .none "vectorcove.factors" 934 555),
  (560, kC #[.str "level_texts" 950, .str "level_texts" 951, .str "/claim/cut.py" 952, .int 579 0, .int 1 0, .int 0 0, .int 0 0, .int 3 0, .ref 557, .bool true, .int 181 0, .ref 558, .none, .none, .none, .ref 559, .int 953 0, .int 579 0, .str "/claim/cut.py" 954]),
  (561, kF (fn 78) "level_texts" .none "vectorcove.factors" 934 560),
  (565, kC #[.str "codes_in" 956, .str "codes_in" 957, .str "/claim/cut.py" 958, .int 584 0, .int 1 0, .int 0 0, .int 0 0, .int 3 0, .ref 562, .bool true, .int 181 0, .ref 563, .none, .none, .none, .ref 564, .int 959 0, .int 584 0, .str "/claim/cut.py" 960]),
  (566, kF (fn 79) "codes_in" .none "vectorcove.factors" 934 565),
  (572, kC #[.str "factor_class" 962, .str "factor_class" 963, .str "/claim/cut.py" 964, .int 587 0, .int 1 0, .int 0 0, .int 0 0, .int 3 0, .ref 567, .bool true, .int 181 0, .ref 568, .none, .ref 569, .ref 570, .ref 571, .int 966 0, .int 587 0, .str "/claim/cut.py" 967]),
  (573, kF (fn 80) "factor_class" .none "vectorcove.factors" 934 572),
  (579, kC #[.str "with_levels" 969, .str "with_levels" 970, .str "/claim/cut.py" 971, .int 591 0, .int 3 0, .int 0 0, .int 0 0, .int 3 0, .ref 574, .bool true, .int 181 0, .ref 575, .none, .ref 576, .ref 577, .ref 578, .int 975 0, .int 591 0, .str "/claim/cut.py" 976]),
  (580, kF (fn 81) "with_levels" .none "vectorcove.factors" 934 579),
  (584, kC #[.str "drop_levels" 978, .str "drop_levels" 979, .str "/claim/cut.py" 980, .int 597 0, .int 1 0, .int 0 0, .int 0 0, .int 3 0, .ref 581, .bool true, .int 181 0, .ref 582, .none, .none, .none, .ref 583, .int 981 0, .int 597 0, .str "/claim/cut.py" 982]),
  (585, kF (fn 82) "drop_levels" .none "vectorcove.factors" 934 584),
  (591, kC #[.str "interaction" 984, .str "interaction" 985, .str "/claim/cut.py" 986, .int 611 0, .int 3 0, .int 0 0, .int 0 0, .int 3 0, .ref 586, .bool true, .int 181 0, .ref 587, .none, .ref 588, .ref 589, .ref 590, .int 999 0, .int 611 0, .str "/claim/cut.py" 1000]),
  (592, kF (fn 83) "interaction" .none "vectorcove.factors" 934 591),
  (598, kC #[.str "codes_alone" 1002, .str "codes_alone" 1003, .str "/claim/cut.py" 1004, .int 631 0, .int 1 0, .int 0 0, .int 0 0, .int 3 0, .ref 593, .bool true, .int 181 0, .ref 594, .none, .ref 595, .ref 596, .ref 597, .int 1009 0, .int 631 0, .str "/claim/cut.py" 1010]),
  (599, kF (fn 84) "codes_alone" .none "vectorcove.factors" 934 598),
  (605, kC #[.str "subset_factor" 1012, .str "subset_factor" 1013, .str "/claim/cut.py" 1014, .int 641 0, .int 3 0, .int 0 0, .int 0 0, .int 3 0, .ref 600, .bool true, .int 181 0, .ref 601, .none, .ref 602, .ref 603, .ref 604, .int 1020 0, .int 641 0, .str "/claim/cut.py" 1021]),
  (606, kF (fn 85) "subset_factor" .none "vectorcove.factors" 934 605),
  (610, kC #[.str "split_places" 1023, .str "split_places" 1024, .str "/claim/cut.py" 1025, .int 647 0, .int 1 0, .int 0 0, .int 0 0, .int 3 0, .ref 607, .bool true, .int 181 0, .ref 608, .none, .none, .none, .ref 609, .int 1026 0, .int 647 0, .str "/claim/cut.py" 1027]),
  (611, kF (fn 86) "split_places" .none "vectorcove.factors" 934 610),
  (615, kC #[.str "split_by" 1029, .str "split_by" 1030, .str "/claim/cut.py" 1031, .int 654 0, .int 2 0, .int 0 0, .int 0 0, .int 3 0, .ref 612, .bool true, .int 181 0, .ref 613, .none, .none, .none, .ref 614, .int 1032 0, .int 654 0, .str "/claim/cut.py" 1033]),
  (616, kF (fn 87) "split_by" .none "vectorcove.factors" 934 615),
  (622, kC #[.str "_law_draws" 1037, .str "_law_draws" 1038, .str "/claim/cut.py" 1039, .int 669 0, .int 1 0, .int 0 0, .int 0 0, .int 3 0, .ref 617, .bool true, .int 181 0, .ref 618, .none, .ref 619, .ref 620, .ref 621, .int 1046 0, .int 669 0, .str "/claim/cut.py" 1047]),
  (623, kF (fn 89) "_law_draws" .none "law_nz0517_01" 1035 622),
  (629, kC #[.str "_law_take" 1049, .str "_law_take" 1050, .str "/claim/cut.py" 1051, .int 684 0, .int 2 0, .int 0 0, .int 0 0, .int 3 0, .ref 624, .bool true, .int 181 0, .ref 625, .none, .ref 626, .ref 627, .ref 628, .int 1054 0, .int 684 0, .str "/claim/cut.py" 1055]),
  (630, kF (fn 90) "_law_take" .none "law_nz0517_01" 1035 629),
  (634, kC #[.str "_law_factor" 1057, .str "_law_factor" 1058, .str "/claim/cut.py" 1059, .int 690 0, .int 2 0, .int 0 0, .int 0 0, .int 3 0, .ref 631, .bool true, .int 181 0, .ref 632, .none, .none, .none, .ref 633, .int 1060 0, .int 690 0, .str "/claim/cut.py" 1061]),
  (635, kF (fn 91) "_law_factor" .none "law_nz0517_01" 1035 634),
  (639, kC #[.str "_law_vector" 1063, .str "_law_vector" 1064, .str "/claim/cut.py" 1065, .int 711 0, .int 3 0, .int 0 0, .int 0 0, .int 3 0, .ref 636, .bool true, .int 181 0, .ref 637, .none, .none, .none, .ref 638, .int 1066 0, .int 711 0, .str "/claim/cut.py" 1067]),
  (640, kF (fn 92) "_law_vector" .none "law_nz0517_01" 1035 639),
  (644, kC #[.str "_law_part_right" 1069, .str "_law_part_right" 1070, .str "/claim/cut.py" 1071, .int 730 0, .int 3 0, .int 0 0, .int 0 0, .int 3 0, .ref 641, .bool true, .int 181 0, .ref 642, .none, .none, .none, .ref 643, .int 1072 0, .int 730 0, .str "/claim/cut.py" 1073]),
  (645, kF (fn 93) "_law_part_right" .none "law_nz0517_01" 1035 644),
  (649, kC #[.str "_law_parts_right" 1075, .str "_law_parts_right" 1076, .str "/claim/cut.py" 1077, .int 743 0, .int 4 0, .int 0 0, .int 0 0, .int 3 0, .ref 646, .bool true, .int 181 0, .ref 647, .none, .none, .none, .ref 648, .int 1078 0, .int 743 0, .str "/claim/cut.py" 1079]),
  (650, kF (fn 94) "_law_parts_right" .none "law_nz0517_01" 1035 649),
  (654, kC #[.str "_law_keys" 1081, .str "_law_keys" 1082, .str "/claim/cut.py" 1083, .int 757 0, .int 2 0, .int 0 0, .int 0 0, .int 3 0, .ref 651, .bool true, .int 181 0, .ref 652, .none, .none, .none, .ref 653, .int 1084 0, .int 757 0, .str "/claim/cut.py" 1085]),
  (655, kF (fn 95) "_law_keys" .none "law_nz0517_01" 1035 654),
  (659, kC #[.str "law" 1087, .str "law" 1088, .str "/claim/cut.py" 1089, .int 761 0, .int 1 0, .int 0 0, .int 0 0, .int 3 0, .ref 656, .bool true, .int 181 0, .ref 657, .none, .none, .none, .ref 658, .int 1090 0, .int 761 0, .str "/claim/cut.py" 1091]),
  (660, kF (fn 96) "law" .none "law_nz0517_01" 1035 659)]
def kA : List Addr := [3, 154, 160, 161, 167, 168, 170, 171, 203, 204, 210, 211, 217, 218, 219, 223, 224, 230, 231, 237, 238, 244, 245, 251, 252, 258, 259, 265, 266, 277, 278, 282, 283, 289, 290, 294, 295, 301, 302, 340, 341, 352, 353, 380, 381, 401, 402, 417, 421, 422, 442, 443, 449, 450, 456, 457, 463, 464, 541, 542, 548, 549, 555, 556, 560, 561, 565, 566, 572, 573, 579, 580, 584, 585, 591, 592, 598, 599, 605, 606, 610, 611, 615, 616, 622, 623, 629, 630, 634, 635, 639, 640, 644, 645, 649, 650, 654, 655, 659, 660]
theorem kA_eq : ∀ P : Params, kA = (kK P).map (·.1) := fun P => rfl
abbrev pr : Program := PySem.Challenge.pw_nz0517_01
/-- the law's def alone is held by the view; every other name is loose -/
def vw : Program := { pr with main := { pr.main with body := pr.main.body.drop 96 } }
def ls : List Str := (pr.main.body.take 96).flatMap bindsAtTop
theorem hl : LeftO PySem.Challenge.rw_nz0517_01.row.prog vw ls (fun s => xlAt vw [] s && recOk PySem.Challenge.rw_nz0517_01.row.toRowW.records s) (kHook kK kA kA_eq).obs (kHook kK kA kA_eq).val 7640 := by
  refine left_of_boot (n₀ := 11) (ann := some (.ref 6)) rfl rfl (fun _ => rfl) (fun P => by kernel_rfl) fun w => ?_
  rw [PySem.W.Fast.te10156331382660048174, PySem.W.Fast.te6613529449190102663, PySem.W.Fast.te4187177175401517315, PySem.W.Fast.te11892475500146522536, PySem.W.Fast.te14364793385576792824]
  kernel_rfl
end Mine

namespace Mine
set_option maxRecDepth 100000
noncomputable def baseOf (w : World) (s₁ : Shared) (mg mb : Str → Option Value) (la : Addr) (is : List Int) : Base :=
  { prog := PySem.Challenge.rw_nz0517_01.row.prog, w := w, s₀ := s₁, K := kK w.params, mg := mg, mb := mb, ro := fun a => if a = la then some (.list (iV is)) else none, C := 171 }
section
variable {w : World} {s₁ : Shared} {mg mb : Str → Option Value} {la : Addr} {is : List Int}
theorem fa_22 (KX : (kK w.params).In s₁.heap) (G : s₁.heap.Ns mainGlobals mg) : FnAt (baseOf w s₁ mg mb la is) (fn 22).1 (fn 22).2.1 (fn 22).2.2.1 (fn 22).2.2.2 (dvOf 22) :=
  ⟨⟨204, mg_of KX G (by kernel_rfl), ⟨_, _, _, _, _, _, _, _, _, _, KX 204 _ rfl, codeRec_of KX (by kernel_rfl), .inl ⟨rfl, rfl⟩⟩, by kernel_rfl⟩⟩
theorem fa_23 (KX : (kK w.params).In s₁.heap) (G : s₁.heap.Ns mainGlobals mg) : FnAt (baseOf w s₁ mg mb la is) (fn 23).1 (fn 23).2.1 (fn 23).2.2.1 (fn 23).2.2.2 (dvOf 23) :=
  ⟨⟨211, mg_of KX G (by kernel_rfl), ⟨_, _, _, _, _, _, _, _, _, _, KX 211 _ rfl, codeRec_of KX (by kernel_rfl), .inl ⟨rfl, rfl⟩⟩, by kernel_rfl⟩⟩
theorem fa_24 (KX : (kK w.params).In s₁.heap) (G : s₁.heap.Ns mainGlobals mg) : FnAt (baseOf w s₁ mg mb la is) (fn 24).1 (fn 24).2.1 (fn 24).2.2.1 (fn 24).2.2.2 (dvOf 24) :=
  ⟨⟨218, mg_of KX G (by kernel_rfl), ⟨_, _, _, _, _, _, _, _, _, _, KX 218 _ rfl, codeRec_of KX (by kernel_rfl), .inl ⟨rfl, rfl⟩⟩, by kernel_rfl⟩⟩
theorem fa_25 (KX : (kK w.params).In s₁.heap) (G : s₁.heap.Ns mainGlobals mg) : FnAt (baseOf w s₁ mg mb la is) (fn 25).1 (fn 25).2.1 (fn 25).2.2.1 (fn 25).2.2.2 (dvOf 25) :=
  ⟨⟨224, mg_of KX G (by kernel_rfl), ⟨_, _, _, _, _, _, _, _, _, _, KX 224 _ rfl, codeRec_of KX (by kernel_rfl), .inr ⟨219, _, _, _, rfl, KX 219 _ rfl, rfl, rfl, by decide⟩⟩, by kernel_rfl⟩⟩
theorem fa_26 (KX : (kK w.params).In s₁.heap) (G : s₁.heap.Ns mainGlobals mg) : FnAt (baseOf w s₁ mg mb la is) (fn 26).1 (fn 26).2.1 (fn 26).2.2.1 (fn 26).2.2.2 (dvOf 26) :=
  ⟨⟨231, mg_of KX G (by kernel_rfl), ⟨_, _, _, _, _, _, _, _, _, _, KX 231 _ rfl, codeRec_of KX (by kernel_rfl), .inl ⟨rfl, rfl⟩⟩, by kernel_rfl⟩⟩
theorem fa_27 (KX : (kK w.params).In s₁.heap) (G : s₁.heap.Ns mainGlobals mg) : FnAt (baseOf w s₁ mg mb la is) (fn 27).1 (fn 27).2.1 (fn 27).2.2.1 (fn 27).2.2.2 (dvOf 27) :=
  ⟨⟨238, mg_of KX G (by kernel_rfl), ⟨_, _, _, _, _, _, _, _, _, _, KX 238 _ rfl, codeRec_of KX (by kernel_rfl), .inl ⟨rfl, rfl⟩⟩, by kernel_rfl⟩⟩
theorem fa_28 (KX : (kK w.params).In s₁.heap) (G : s₁.heap.Ns mainGlobals mg) : FnAt (baseOf w s₁ mg mb la is) (fn 28).1 (fn 28).2.1 (fn 28).2.2.1 (fn 28).2.2.2 (dvOf 28) :=
  ⟨⟨245, mg_of KX G (by kernel_rfl), ⟨_, _, _, _, _, _, _, _, _, _, KX 245 _ rfl, codeRec_of KX (by kernel_rfl), .inl ⟨rfl, rfl⟩⟩, by kernel_rfl⟩⟩
theorem fa_29 (KX : (kK w.params).In s₁.heap) (G : s₁.heap.Ns mainGlobals mg) : FnAt (baseOf w s₁ mg mb la is) (fn 29).1 (fn 29).2.1 (fn 29).2.2.1 (fn 29).2.2.2 (dvOf 29) :=
  ⟨⟨252, mg_of KX G (by kernel_rfl), ⟨_, _, _, _, _, _, _, _, _, _, KX 252 _ rfl, codeRec_of KX (by kernel_rfl), .inl ⟨rfl, rfl⟩⟩, by kernel_rfl⟩⟩
theorem fa_31 (KX : (kK w.params).In s₁.heap) (G : s₁.heap.Ns mainGlobals mg) : FnAt (baseOf w s₁ mg mb la is) (fn 31).1 (fn 31).2.1 (fn 31).2.2.1 (fn 31).2.2.2 (dvOf 31) :=
  ⟨⟨259, mg_of KX G (by kernel_rfl), ⟨_, _, _, _, _, _, _, _, _, _, KX 259 _ rfl, codeRec_of KX (by kernel_rfl), .inl ⟨rfl, rfl⟩⟩, by kernel_rfl⟩⟩
theorem fa_32 (KX : (kK w.params).In s₁.heap) (G : s₁.heap.Ns mainGlobals mg) : FnAt (baseOf w s₁ mg mb la is) (fn 32).1 (fn 32).2.1 (fn 32).2.2.1 (fn 32).2.2.2 (dvOf 32) :=
  ⟨⟨266, mg_of KX G (by kernel_rfl), ⟨_, _, _, _, _, _, _, _, _, _, KX 266 _ rfl, codeRec_of KX (by kernel_rfl), .inl ⟨rfl, rfl⟩⟩, by kernel_rfl⟩⟩
theorem fa_34 (KX : (kK w.params).In s₁.heap) (G : s₁.heap.Ns mainGlobals mg) : FnAt (baseOf w s₁ mg mb la is) (fn 34).1 (fn 34).2.1 (fn 34).2.2.1 (fn 34).2.2.2 (dvOf 34) :=
  ⟨⟨278, mg_of KX G (by kernel_rfl), ⟨_, _, _, _, _, _, _, _, _, _, KX 278 _ rfl, codeRec_of KX (by kernel_rfl), .inl ⟨rfl, rfl⟩⟩, by kernel_rfl⟩⟩
theorem fa_35 (KX : (kK w.params).In s₁.heap) (G : s₁.heap.Ns mainGlobals mg) : FnAt (baseOf w s₁ mg mb la is) (fn 35).1 (fn 35).2.1 (fn 35).2.2.1 (fn 35).2.2.2 (dvOf 35) :=
  ⟨⟨283, mg_of KX G (by kernel_rfl), ⟨_, _, _, _, _, _, _, _, _, _, KX 283 _ rfl, codeRec_of KX (by kernel_rfl), .inl ⟨rfl, rfl⟩⟩, by kernel_rfl⟩⟩
theorem fa_36 (KX : (kK w.params).In s₁.heap) (G : s₁.heap.Ns mainGlobals mg) : FnAt (baseOf w s₁ mg mb la is) (fn 36).1 (fn 36).2.1 (fn 36).2.2.1 (fn 36).2.2.2 (dvOf 36) :=
  ⟨⟨290, mg_of KX G (by kernel_rfl), ⟨_, _, _, _, _, _, _, _, _, _, KX 290 _ rfl, codeRec_of KX (by kernel_rfl), .inl ⟨rfl, rfl⟩⟩, by kernel_rfl⟩⟩
theorem fa_37 (KX : (kK w.params).In s₁.heap) (G : s₁.heap.Ns mainGlobals mg) : FnAt (baseOf w s₁ mg mb la is) (fn 37).1 (fn 37).2.1 (fn 37).2.2.1 (fn 37).2.2.2 (dvOf 37) :=
  ⟨⟨295, mg_of KX G (by kernel_rfl), ⟨_, _, _, _, _, _, _, _, _, _, KX 295 _ rfl, codeRec_of KX (by kernel_rfl), .inl ⟨rfl, rfl⟩⟩, by kernel_rfl⟩⟩
theorem fa_38 (KX : (kK w.params).In s₁.heap) (G : s₁.heap.Ns mainGlobals mg) : FnAt (baseOf w s₁ mg mb la is) (fn 38).1 (fn 38).2.1 (fn 38).2.2.1 (fn 38).2.2.2 (dvOf 38) :=
  ⟨⟨302, mg_of KX G (by kernel_rfl), ⟨_, _, _, _, _, _, _, _, _, _, KX 302 _ rfl, codeRec_of KX (by kernel_rfl), .inl ⟨rfl, rfl⟩⟩, by kernel_rfl⟩⟩
theorem fa_43 (KX : (kK w.params).In s₁.heap) (G : s₁.heap.Ns mainGlobals mg) : FnAt (baseOf w s₁ mg mb la is) (fn 43).1 (fn 43).2.1 (fn 43).2.2.1 (fn 43).2.2.2 (dvOf 43) :=
  ⟨⟨341, mg_of KX G (by kernel_rfl), ⟨_, _, _, _, _, _, _, _, _, _, KX 341 _ rfl, codeRec_of KX (by kernel_rfl), .inl ⟨rfl, rfl⟩⟩, by kernel_rfl⟩⟩
theorem fa_45 (KX : (kK w.params).In s₁.heap) (G : s₁.heap.Ns mainGlobals mg) : FnAt (baseOf w s₁ mg mb la is) (fn 45).1 (fn 45).2.1 (fn 45).2.2.1 (fn 45).2.2.2 (dvOf 45) :=
  ⟨⟨353, mg_of KX G (by kernel_rfl), ⟨_, _, _, _, _, _, _, _, _, _, KX 353 _ rfl, codeRec_of KX (by kernel_rfl), .inl ⟨rfl, rfl⟩⟩, by kernel_rfl⟩⟩
theorem fa_49 (KX : (kK w.params).In s₁.heap) (G : s₁.heap.Ns mainGlobals mg) : FnAt (baseOf w s₁ mg mb la is) (fn 49).1 (fn 49).2.1 (fn 49).2.2.1 (fn 49).2.2.2 (dvOf 49) :=
  ⟨⟨381, mg_of KX G (by kernel_rfl), ⟨_, _, _, _, _, _, _, _, _, _, KX 381 _ rfl, codeRec_of KX (by kernel_rfl), .inl ⟨rfl, rfl⟩⟩, by kernel_rfl⟩⟩
theorem fa_52 (KX : (kK w.params).In s₁.heap) (G : s₁.heap.Ns mainGlobals mg) : FnAt (baseOf w s₁ mg mb la is) (fn 52).1 (fn 52).2.1 (fn 52).2.2.1 (fn 52).2.2.2 (dvOf 52) :=
  ⟨⟨402, mg_of KX G (by kernel_rfl), ⟨_, _, _, _, _, _, _, _, _, _, KX 402 _ rfl, codeRec_of KX (by kernel_rfl), .inl ⟨rfl, rfl⟩⟩, by kernel_rfl⟩⟩
theorem fa_55 (KX : (kK w.params).In s₁.heap) (G : s₁.heap.Ns mainGlobals mg) : FnAt (baseOf w s₁ mg mb la is) (fn 55).1 (fn 55).2.1 (fn 55).2.2.1 (fn 55).2.2.2 (dvOf 55) :=
  ⟨⟨422, mg_of KX G (by kernel_rfl), ⟨_, _, _, _, _, _, _, _, _, _, KX 422 _ rfl, codeRec_of KX (by kernel_rfl), .inr ⟨417, _, _, _, rfl, KX 417 _ rfl, rfl, rfl, by decide⟩⟩, by kernel_rfl⟩⟩
theorem fa_59 (KX : (kK w.params).In s₁.heap) (G : s₁.heap.Ns mainGlobals mg) : FnAt (baseOf w s₁ mg mb la is) (fn 59).1 (fn 59).2.1 (fn 59).2.2.1 (fn 59).2.2.2 (dvOf 59) :=
  ⟨⟨443, mg_of KX G (by kernel_rfl), ⟨_, _, _, _, _, _, _, _, _, _, KX 443 _ rfl, codeRec_of KX (by kernel_rfl), .inl ⟨rfl, rfl⟩⟩, by kernel_rfl⟩⟩
theorem fa_60 (KX : (kK w.params).In s₁.heap) (G : s₁.heap.Ns mainGlobals mg) : FnAt (baseOf w s₁ mg mb la is) (fn 60).1 (fn 60).2.1 (fn 60).2.2.1 (fn 60).2.2.2 (dvOf 60) :=
  ⟨⟨450, mg_of KX G (by kernel_rfl), ⟨_, _, _, _, _, _, _, _, _, _, KX 450 _ rfl, codeRec_of KX (by kernel_rfl), .inl ⟨rfl, rfl⟩⟩, by kernel_rfl⟩⟩
theorem fa_61 (KX : (kK w.params).In s₁.heap) (G : s₁.heap.Ns mainGlobals mg) : FnAt (baseOf w s₁ mg mb la is) (fn 61).1 (fn 61).2.1 (fn 61).2.2.1 (fn 61).2.2.2 (dvOf 61) :=
  ⟨⟨457, mg_of KX G (by kernel_rfl), ⟨_, _, _, _, _, _, _, _, _, _, KX 457 _ rfl, codeRec_of KX (by kernel_rfl), .inl ⟨rfl, rfl⟩⟩, by kernel_rfl⟩⟩
theorem fa_62 (KX : (kK w.params).In s₁.heap) (G : s₁.heap.Ns mainGlobals mg) : FnAt (baseOf w s₁ mg mb la is) (fn 62).1 (fn 62).2.1 (fn 62).2.2.1 (fn 62).2.2.2 (dvOf 62) :=
  ⟨⟨464, mg_of KX G (by kernel_rfl), ⟨_, _, _, _, _, _, _, _, _, _, KX 464 _ rfl, codeRec_of KX (by kernel_rfl), .inl ⟨rfl, rfl⟩⟩, by kernel_rfl⟩⟩
theorem fa_74 (KX : (kK w.params).In s₁.heap) (G : s₁.heap.Ns mainGlobals mg) : FnAt (baseOf w s₁ mg mb la is) (fn 74).1 (fn 74).2.1 (fn 74).2.2.1 (fn 74).2.2.2 (dvOf 74) :=
  ⟨⟨542, mg_of KX G (by kernel_rfl), ⟨_, _, _, _, _, _, _, _, _, _, KX 542 _ rfl, codeRec_of KX (by kernel_rfl), .inl ⟨rfl, rfl⟩⟩, by kernel_rfl⟩⟩
theorem fa_76 (KX : (kK w.params).In s₁.heap) (G : s₁.heap.Ns mainGlobals mg) : FnAt (baseOf w s₁ mg mb la is) (fn 76).1 (fn 76).2.1 (fn 76).2.2.1 (fn 76).2.2.2 (dvOf 76) :=
  ⟨⟨549, mg_of KX G (by kernel_rfl), ⟨_, _, _, _, _, _, _, _, _, _, KX 549 _ rfl, codeRec_of KX (by kernel_rfl), .inl ⟨rfl, rfl⟩⟩, by kernel_rfl⟩⟩
theorem fa_77 (KX : (kK w.params).In s₁.heap) (G : s₁.heap.Ns mainGlobals mg) : FnAt (baseOf w s₁ mg mb la is) (fn 77).1 (fn 77).2.1 (fn 77).2.2.1 (fn 77).2.2.2 (dvOf 77) :=
  ⟨⟨556, mg_of KX G (by kernel_rfl), ⟨_, _, _, _, _, _, _, _, _, _, KX 556 _ rfl, codeRec_of KX (by kernel_rfl), .inl ⟨rfl, rfl⟩⟩, by kernel_rfl⟩⟩
theorem fa_78 (KX : (kK w.params).In s₁.heap) (G : s₁.heap.Ns mainGlobals mg) : FnAt (baseOf w s₁ mg mb la is) (fn 78).1 (fn 78).2.1 (fn 78).2.2.1 (fn 78).2.2.2 (dvOf 78) :=
  ⟨⟨561, mg_of KX G (by kernel_rfl), ⟨_, _, _, _, _, _, _, _, _, _, KX 561 _ rfl, codeRec_of KX (by kernel_rfl), .inl ⟨rfl, rfl⟩⟩, by kernel_rfl⟩⟩
theorem fa_79 (KX : (kK w.params).In s₁.heap) (G : s₁.heap.Ns mainGlobals mg) : FnAt (baseOf w s₁ mg mb la is) (fn 79).1 (fn 79).2.1 (fn 79).2.2.1 (fn 79).2.2.2 (dvOf 79) :=
  ⟨⟨566, mg_of KX G (by kernel_rfl), ⟨_, _, _, _, _, _, _, _, _, _, KX 566 _ rfl, codeRec_of KX (by kernel_rfl), .inl ⟨rfl, rfl⟩⟩, by kernel_rfl⟩⟩
theorem fa_80 (KX : (kK w.params).In s₁.heap) (G : s₁.heap.Ns mainGlobals mg) : FnAt (baseOf w s₁ mg mb la is) (fn 80).1 (fn 80).2.1 (fn 80).2.2.1 (fn 80).2.2.2 (dvOf 80) :=
  ⟨⟨573, mg_of KX G (by kernel_rfl), ⟨_, _, _, _, _, _, _, _, _, _, KX 573 _ rfl, codeRec_of KX (by kernel_rfl), .inl ⟨rfl, rfl⟩⟩, by kernel_rfl⟩⟩
theorem fa_81 (KX : (kK w.params).In s₁.heap) (G : s₁.heap.Ns mainGlobals mg) : FnAt (baseOf w s₁ mg mb la is) (fn 81).1 (fn 81).2.1 (fn 81).2.2.1 (fn 81).2.2.2 (dvOf 81) :=
  ⟨⟨580, mg_of KX G (by kernel_rfl), ⟨_, _, _, _, _, _, _, _, _, _, KX 580 _ rfl, codeRec_of KX (by kernel_rfl), .inl ⟨rfl, rfl⟩⟩, by kernel_rfl⟩⟩
theorem fa_82 (KX : (kK w.params).In s₁.heap) (G : s₁.heap.Ns mainGlobals mg) : FnAt (baseOf w s₁ mg mb la is) (fn 82).1 (fn 82).2.1 (fn 82).2.2.1 (fn 82).2.2.2 (dvOf 82) :=
  ⟨⟨585, mg_of KX G (by kernel_rfl), ⟨_, _, _, _, _, _, _, _, _, _, KX 585 _ rfl, codeRec_of KX (by kernel_rfl), .inl ⟨rfl, rfl⟩⟩, by kernel_rfl⟩⟩
theorem fa_83 (KX : (kK w.params).In s₁.heap) (G : s₁.heap.Ns mainGlobals mg) : FnAt (baseOf w s₁ mg mb la is) (fn 83).1 (fn 83).2.1 (fn 83).2.2.1 (fn 83).2.2.2 (dvOf 83) :=
  ⟨⟨592, mg_of KX G (by kernel_rfl), ⟨_, _, _, _, _, _, _, _, _, _, KX 592 _ rfl, codeRec_of KX (by kernel_rfl), .inl ⟨rfl, rfl⟩⟩, by kernel_rfl⟩⟩
theorem fa_84 (KX : (kK w.params).In s₁.heap) (G : s₁.heap.Ns mainGlobals mg) : FnAt (baseOf w s₁ mg mb la is) (fn 84).1 (fn 84).2.1 (fn 84).2.2.1 (fn 84).2.2.2 (dvOf 84) :=
  ⟨⟨599, mg_of KX G (by kernel_rfl), ⟨_, _, _, _, _, _, _, _, _, _, KX 599 _ rfl, codeRec_of KX (by kernel_rfl), .inl ⟨rfl, rfl⟩⟩, by kernel_rfl⟩⟩
theorem fa_85 (KX : (kK w.params).In s₁.heap) (G : s₁.heap.Ns mainGlobals mg) : FnAt (baseOf w s₁ mg mb la is) (fn 85).1 (fn 85).2.1 (fn 85).2.2.1 (fn 85).2.2.2 (dvOf 85) :=
  ⟨⟨606, mg_of KX G (by kernel_rfl), ⟨_, _, _, _, _, _, _, _, _, _, KX 606 _ rfl, codeRec_of KX (by kernel_rfl), .inl ⟨rfl, rfl⟩⟩, by kernel_rfl⟩⟩
theorem fa_86 (KX : (kK w.params).In s₁.heap) (G : s₁.heap.Ns mainGlobals mg) : FnAt (baseOf w s₁ mg mb la is) (fn 86).1 (fn 86).2.1 (fn 86).2.2.1 (fn 86).2.2.2 (dvOf 86) :=
  ⟨⟨611, mg_of KX G (by kernel_rfl), ⟨_, _, _, _, _, _, _, _, _, _, KX 611 _ rfl, codeRec_of KX (by kernel_rfl), .inl ⟨rfl, rfl⟩⟩, by kernel_rfl⟩⟩
theorem fa_87 (KX : (kK w.params).In s₁.heap) (G : s₁.heap.Ns mainGlobals mg) : FnAt (baseOf w s₁ mg mb la is) (fn 87).1 (fn 87).2.1 (fn 87).2.2.1 (fn 87).2.2.2 (dvOf 87) :=
  ⟨⟨616, mg_of KX G (by kernel_rfl), ⟨_, _, _, _, _, _, _, _, _, _, KX 616 _ rfl, codeRec_of KX (by kernel_rfl), .inl ⟨rfl, rfl⟩⟩, by kernel_rfl⟩⟩
theorem fa_89 (KX : (kK w.params).In s₁.heap) (G : s₁.heap.Ns mainGlobals mg) : FnAt (baseOf w s₁ mg mb la is) (fn 89).1 (fn 89).2.1 (fn 89).2.2.1 (fn 89).2.2.2 (dvOf 89) :=
  ⟨⟨623, mg_of KX G (by kernel_rfl), ⟨_, _, _, _, _, _, _, _, _, _, KX 623 _ rfl, codeRec_of KX (by kernel_rfl), .inl ⟨rfl, rfl⟩⟩, by kernel_rfl⟩⟩
theorem fa_90 (KX : (kK w.params).In s₁.heap) (G : s₁.heap.Ns mainGlobals mg) : FnAt (baseOf w s₁ mg mb la is) (fn 90).1 (fn 90).2.1 (fn 90).2.2.1 (fn 90).2.2.2 (dvOf 90) :=
  ⟨⟨630, mg_of KX G (by kernel_rfl), ⟨_, _, _, _, _, _, _, _, _, _, KX 630 _ rfl, codeRec_of KX (by kernel_rfl), .inl ⟨rfl, rfl⟩⟩, by kernel_rfl⟩⟩
theorem fa_91 (KX : (kK w.params).In s₁.heap) (G : s₁.heap.Ns mainGlobals mg) : FnAt (baseOf w s₁ mg mb la is) (fn 91).1 (fn 91).2.1 (fn 91).2.2.1 (fn 91).2.2.2 (dvOf 91) :=
  ⟨⟨635, mg_of KX G (by kernel_rfl), ⟨_, _, _, _, _, _, _, _, _, _, KX 635 _ rfl, codeRec_of KX (by kernel_rfl), .inl ⟨rfl, rfl⟩⟩, by kernel_rfl⟩⟩
theorem fa_92 (KX : (kK w.params).In s₁.heap) (G : s₁.heap.Ns mainGlobals mg) : FnAt (baseOf w s₁ mg mb la is) (fn 92).1 (fn 92).2.1 (fn 92).2.2.1 (fn 92).2.2.2 (dvOf 92) :=
  ⟨⟨640, mg_of KX G (by kernel_rfl), ⟨_, _, _, _, _, _, _, _, _, _, KX 640 _ rfl, codeRec_of KX (by kernel_rfl), .inl ⟨rfl, rfl⟩⟩, by kernel_rfl⟩⟩
theorem fa_93 (KX : (kK w.params).In s₁.heap) (G : s₁.heap.Ns mainGlobals mg) : FnAt (baseOf w s₁ mg mb la is) (fn 93).1 (fn 93).2.1 (fn 93).2.2.1 (fn 93).2.2.2 (dvOf 93) :=
  ⟨⟨645, mg_of KX G (by kernel_rfl), ⟨_, _, _, _, _, _, _, _, _, _, KX 645 _ rfl, codeRec_of KX (by kernel_rfl), .inl ⟨rfl, rfl⟩⟩, by kernel_rfl⟩⟩
theorem fa_94 (KX : (kK w.params).In s₁.heap) (G : s₁.heap.Ns mainGlobals mg) : FnAt (baseOf w s₁ mg mb la is) (fn 94).1 (fn 94).2.1 (fn 94).2.2.1 (fn 94).2.2.2 (dvOf 94) :=
  ⟨⟨650, mg_of KX G (by kernel_rfl), ⟨_, _, _, _, _, _, _, _, _, _, KX 650 _ rfl, codeRec_of KX (by kernel_rfl), .inl ⟨rfl, rfl⟩⟩, by kernel_rfl⟩⟩
theorem fa_95 (KX : (kK w.params).In s₁.heap) (G : s₁.heap.Ns mainGlobals mg) : FnAt (baseOf w s₁ mg mb la is) (fn 95).1 (fn 95).2.1 (fn 95).2.2.1 (fn 95).2.2.2 (dvOf 95) :=
  ⟨⟨655, mg_of KX G (by kernel_rfl), ⟨_, _, _, _, _, _, _, _, _, _, KX 655 _ rfl, codeRec_of KX (by kernel_rfl), .inl ⟨rfl, rfl⟩⟩, by kernel_rfl⟩⟩
theorem fa_96 (KX : (kK w.params).In s₁.heap) (G : s₁.heap.Ns mainGlobals mg) : FnAt (baseOf w s₁ mg mb la is) (fn 96).1 (fn 96).2.1 (fn 96).2.2.1 (fn 96).2.2.2 (dvOf 96) :=
  ⟨⟨660, mg_of KX G (by kernel_rfl), ⟨_, _, _, _, _, _, _, _, _, _, KX 660 _ rfl, codeRec_of KX (by kernel_rfl), .inl ⟨rfl, rfl⟩⟩, by kernel_rfl⟩⟩
def reachedL : List Nat := [22, 23, 24, 25, 26, 27, 28, 29, 31, 32, 34, 35, 36, 37, 38, 43, 45, 49, 52, 55, 59, 60, 61, 62, 74, 76, 77, 78, 79, 80, 81, 82, 83, 84, 85, 86, 87, 89, 90, 91, 92, 93, 94, 95, 96]
theorem all_fa (KX : (kK w.params).In s₁.heap) (G : s₁.heap.Ns mainGlobals mg) : ∀ i ∈ reachedL, FnAt (baseOf w s₁ mg mb la is) (fn i).1 (fn i).2.1 (fn i).2.2.1 (fn i).2.2.2 (dvOf i) :=
  List.forall_mem_cons.mpr ⟨fa_22 KX G, List.forall_mem_cons.mpr ⟨fa_23 KX G, List.forall_mem_cons.mpr ⟨fa_24 KX G, List.forall_mem_cons.mpr ⟨fa_25 KX G, List.forall_mem_cons.mpr ⟨fa_26 KX G, List.forall_mem_cons.mpr ⟨fa_27 KX G, List.forall_mem_cons.mpr ⟨fa_28 KX G, List.forall_mem_cons.mpr ⟨fa_29 KX G, List.forall_mem_cons.mpr ⟨fa_31 KX G, List.forall_mem_cons.mpr ⟨fa_32 KX G, List.forall_mem_cons.mpr ⟨fa_34 KX G, List.forall_mem_cons.mpr ⟨fa_35 KX G, List.forall_mem_cons.mpr ⟨fa_36 KX G, List.forall_mem_cons.mpr ⟨fa_37 KX G, List.forall_mem_cons.mpr ⟨fa_38 KX G, List.forall_mem_cons.mpr ⟨fa_43 KX G, List.forall_mem_cons.mpr ⟨fa_45 KX G, List.forall_mem_cons.mpr ⟨fa_49 KX G, List.forall_mem_cons.mpr ⟨fa_52 KX G, List.forall_mem_cons.mpr ⟨fa_55 KX G, List.forall_mem_cons.mpr ⟨fa_59 KX G, List.forall_mem_cons.mpr ⟨fa_60 KX G, List.forall_mem_cons.mpr ⟨fa_61 KX G, List.forall_mem_cons.mpr ⟨fa_62 KX G, List.forall_mem_cons.mpr ⟨fa_74 KX G, List.forall_mem_cons.mpr ⟨fa_76 KX G, List.forall_mem_cons.mpr ⟨fa_77 KX G, List.forall_mem_cons.mpr ⟨fa_78 KX G, List.forall_mem_cons.mpr ⟨fa_79 KX G, List.forall_mem_cons.mpr ⟨fa_80 KX G, List.forall_mem_cons.mpr ⟨fa_81 KX G, List.forall_mem_cons.mpr ⟨fa_82 KX G, List.forall_mem_cons.mpr ⟨fa_83 KX G, List.forall_mem_cons.mpr ⟨fa_84 KX G, List.forall_mem_cons.mpr ⟨fa_85 KX G, List.forall_mem_cons.mpr ⟨fa_86 KX G, List.forall_mem_cons.mpr ⟨fa_87 KX G, List.forall_mem_cons.mpr ⟨fa_89 KX G, List.forall_mem_cons.mpr ⟨fa_90 KX G, List.forall_mem_cons.mpr ⟨fa_91 KX G, List.forall_mem_cons.mpr ⟨fa_92 KX G, List.forall_mem_cons.mpr ⟨fa_93 KX G, List.forall_mem_cons.mpr ⟨fa_94 KX G, List.forall_mem_cons.mpr ⟨fa_95 KX G, List.forall_mem_cons.mpr ⟨fa_96 KX G, fun _ h => nomatch h⟩⟩⟩⟩⟩⟩⟩⟩⟩⟩⟩⟩⟩⟩⟩⟩⟩⟩⟩⟩⟩⟩⟩⟩⟩⟩⟩⟩⟩⟩⟩⟩⟩⟩⟩⟩⟩⟩⟩⟩⟩⟩⟩⟩⟩
theorem defs_of (KX : (kK w.params).In s₁.heap) (G : s₁.heap.Ns mainGlobals mg) : Defs (baseOf w s₁ mg mb la is) where
  f := fun i hi => all_fa KX G i (List.elem_iff.mp hi)
  init := ⟨161, by kernel_rfl, by kernel_rfl, ⟨⟨_, _, _, _, _, _, _, _, _, _, KX 161 _ rfl, codeRec_of KX (by kernel_rfl), .inr ⟨154, _, _, _, rfl, KX 154 _ rfl, rfl, rfl, by decide⟩⟩, by kernel_rfl⟩⟩
  copy := ⟨168, by kernel_rfl, by kernel_rfl, by kernel_rfl, ⟨⟨_, _, _, _, _, _, _, _, _, _, KX 168 _ rfl, codeRec_of KX (by kernel_rfl), .inl ⟨rfl, rfl⟩⟩, by kernel_rfl⟩⟩
theorem bnames_all {p : Str → Prop} (h1 : p "len") (h2 : p "range") (h3 : p "max") (h4 : p "abs") (h5 : p "int") (h6 : p "str") (h7 : p "list") (h8 : p "isinstance") (h9 : p "dict") : ∀ x, bnames.contains x = true → p x := fun x hx => by
  have hx : x ∈ bnames := List.elem_iff.mp hx
  exact (List.forall_mem_cons.mpr ⟨h1, List.forall_mem_cons.mpr ⟨h2, List.forall_mem_cons.mpr ⟨h3, List.forall_mem_cons.mpr ⟨h4, List.forall_mem_cons.mpr ⟨h5, List.forall_mem_cons.mpr ⟨h6, List.forall_mem_cons.mpr ⟨h7, List.forall_mem_cons.mpr ⟨h8, List.forall_mem_cons.mpr ⟨h9, fun _ h => nomatch h⟩⟩⟩⟩⟩⟩⟩⟩⟩ : ∀ x ∈ bnames, p x) x hx
theorem anames_all {p : Str → Prop} (h1 : p "kind") (h2 : p "items") (h3 : p "attrs") (h4 : p "shared") (h5 : p "loose") : ∀ x, anames.contains x = true → p x := fun x hx => by
  have hx : x ∈ anames := List.elem_iff.mp hx
  exact (List.forall_mem_cons.mpr ⟨h1, List.forall_mem_cons.mpr ⟨h2, List.forall_mem_cons.mpr ⟨h3, List.forall_mem_cons.mpr ⟨h4, List.forall_mem_cons.mpr ⟨h5, fun _ h => nomatch h⟩⟩⟩⟩⟩ : ∀ x ∈ anames, p x) x hx
theorem vec_of (KX : (kK w.params).In s₁.heap) (G : s₁.heap.Ns mainGlobals mg) : VecOk (baseOf w s₁ mg mb la is) where
  g := mg_of KX G (by kernel_rfl)
  makes := by kernel_rfl
  keepC := by kernel_rfl
  setattr := by kernel_rfl
  over := by kernel_rfl
  hasDict := by kernel_rfl
  get := by kernel_rfl
  attr := anames_all (by kernel_rfl) (by kernel_rfl) (by kernel_rfl) (by kernel_rfl) (by kernel_rfl)
  taker := anames_all (by kernel_rfl) (by kernel_rfl) (by kernel_rfl) (by kernel_rfl) (by kernel_rfl)
  inst := by kernel_rfl
theorem bok_of (KX : (kK w.params).In s₁.heap) (G : s₁.heap.Ns mainGlobals mg) (Gb : s₁.heap.Ns builtinsNs mb) (hlim : s₁.heap.NoLimit) (hbt : ∀ x : Str, x ≠ "__name__" → mb x = bootBuiltins x) {items : Array Value} {k : Nat}
    (hl : s₁.heap.get? la = some { cls := .type "list", dict := none, data := .seq items k, slots := #[] }) (hi : items.toList.map er = iV is) : BOk (baseOf w s₁ mg mb la is) where
  vec := vec_of KX G
  bn := bnames_all (mg_none_of KX G (by kernel_rfl)) (mg_none_of KX G (by kernel_rfl)) (mg_none_of KX G (by kernel_rfl)) (mg_none_of KX G (by kernel_rfl)) (mg_none_of KX G (by kernel_rfl)) (mg_none_of KX G (by kernel_rfl)) (mg_none_of KX G (by kernel_rfl)) (mg_none_of KX G (by kernel_rfl)) (mg_none_of KX G (by kernel_rfl))
  g := G
  b := Gb
  nolimit := hlim
  builtins := hbt
  kin := KX
  ro := fun a o h => by
    have h : (if a = la then some (AO.list (iV is)) else none) = some o := h
    by_cases e : a = la
    · rw [if_pos e] at h
      cases h
      exact ⟨_, e ▸ hl, items, k, rfl, hi⟩
    · rw [if_neg e] at h; cases h
theorem aok_caller : AOk callerA 13 := ⟨rfl, rfl, by decide, by decide⟩
end
end Mine

namespace Mine
theorem intsAre_er : ∀ {vs : List Value} {ns : List Int}, IntsAre vs ns → vs.map er = iV ns
  | _, _, .nil => rfl
  | _, _, .cons n t h => by
    show er _ :: _ = _
    rw [intsAre_er h]; rfl
theorem joined {w : World} {s₁ : Shared} {mg mb : Str → Option Value} {fa la : Addr} {is : List Int} {items : Array Value} {k : Nat} {R : Result → Shared → Prop} (KX : (kK w.params).In s₁.heap) (G : s₁.heap.Ns mainGlobals mg) (Gb : s₁.heap.Ns builtinsNs mb) (hlim : s₁.heap.NoLimit) (hbt : ∀ x : Str, x ≠ "__name__" → mb x = bootBuiltins x)
    (hl : s₁.heap.get? la = some { cls := .type "list", dict := none, data := .seq items k, slots := #[] }) (hi : items.toList.map er = iV is) (hz : is.length ≤ 63) (hmg : mg "law" = some (.ref fa))
    (h : ∀ s', (∀ b o, s₁.heap.get? b = some o → s'.heap.get? b = some o) → s'.os = s₁.os → s'.gens = s₁.gens → R (.ok (.ret (.bool true))) s') :
    codeAny (model PySem.Challenge.rw_nz0517_01.row.prog w) callerA (.call (.ref fa) ⟨[.ref la], []⟩) R s₁ := by
  have S : Sh (baseOf w s₁ mg mb la is) (fun _ => none) s₁ := ⟨bok_of KX G Gb hlim hbt hl hi, ⟨s₁.heap, s₁.toks, rfl⟩, fun _ _ e => e, fun _ h => absurd rfl h, fun _ h => absurd rfl h, fun _ _ h => by cases h⟩
  obtain ⟨fa', h1, h2⟩ := (law_run (n := 0) (Q := fun v _ => v = .bool true) (σ := fun _ => none) (defs_of (is := is) (la := la) (mb := mb) KX G) (sa := la) (is := is) (if_pos rfl) hz fun _ => rfl).run
  have e : fa' = fa := by
    have h1 : mg "law" = some (.ref fa') := h1
    rw [hmg] at h1; cases h1; rfl
  subst e
  refine codeAny_mono (h2.run callerA s₁ [.ref la] aok_caller S rfl) fun r s' q => ?_
  obtain ⟨v, rfl, σ', S', M, hv⟩ := q
  rw [er_bool hv]
  obtain ⟨hh, tk, hs⟩ := S'.same
  refine h s' S'.base ?_ ?_
  · rw [hs]; rfl
  · rw [hs]; rfl
end Mine

namespace Mine
set_option maxRecDepth 100000
theorem sl1 : sreFenced pr.main = true := by
  rw [PySem.W.Fast.te11788848310118352699]; kernel_rfl
theorem sl2 : ((moduleNames pr.main.body).isEmpty || lookedIntoSs (moduleNames pr.main.body) pr.main.body) = true := by
  rw [PySem.W.Fast.te9807087744658564304, PySem.W.Fast.te12862048085361865435]; kernel_rfl
theorem sl3 : namesResolve pr = true := by
  rw [PySem.W.Fast.te8377067652309620493]; kernel_rfl
theorem sl4 : (pr.boundNames.all fun n => !worldNames.contains n) = true := by
  rw [PySem.W.Fast.te18344453789297297638, PySem.W.Fast.te14412699480532031325]; kernel_rfl
theorem sl5 : noRoadLSs { strict := !(importedModules pr.main.body).all cThrough.contains, foot := none, bare := (["vars", "dir", "locals"] : List Str).filter (readsOut pr pr.main.body) } pr.main.body = true := by
  rw [PySem.W.Fast.te8326940854005059898, PySem.W.Fast.te13343964577679436407]; kernel_rfl
theorem sl6 : (namesMeet pr pr.main.body fun _ n => attrL n) = true := by
  rw [PySem.W.Fast.te17119622794617984870, PySem.W.Fast.te17868728402115742887]; kernel_rfl
theorem sL : looksOpen pr = true := look_both (look_both (look_both (look_both (look_both sl1 sl2) sl3) sl4) sl5) sl6
theorem sP : PySem.Challenge.rw_nz0517_01.row.partSaid = true := by
  refine look_both (look_both (look_both (look_both (look_both (look_both (look_both (look_both (look_both (look_both (look_both (look_both (look_both (sL) ?_) ?_) ?_) ?_) ?_) ?_) ?_) ?_) ?_) ?_) ?_) ?_) ?_
  all_goals kernel_rfl
theorem sR : PySem.Challenge.rw_nz0517_01.row.wellSaid = true := by
  refine look_both (look_both (sP) ?_) ?_
  all_goals kernel_rfl
theorem said : PySem.Challenge.rw_nz0517_01.wellSaid = true := by
  unfold OpenLaw.wellSaid
  rw [PySem.W.Fast.te8326940854005059898, PySem.W.Fast.te9558739934217749035, PySem.W.Fast.te16286561074155671207, PySem.W.Fast.te17119622794617984870, PySem.W.Fast.te10501279942588096481, PySem.W.Fast.te8179353310426384613]
  refine look_both (look_both (look_both (look_both (look_both (look_both (look_both (look_both (look_both (look_both (look_both (look_both (look_both (look_both (look_both (look_both (look_both (look_both (sR) ?_) ?_) ?_) ?_) ?_) ?_) ?_) ?_) ?_) ?_) ?_) ?_) ?_) ?_) ?_) ?_) ?_) ?_
  all_goals kernel_rfl
theorem opens : (chainsOk vw && opensWell PySem.Challenge.rw_nz0517_01.row.prog && (frees PySem.Challenge.rw_nz0517_01.row.toRowW && PySem.Challenge.rw_nz0517_01.row.within.isEmpty)) = true := by kernel_rfl
theorem bare : PySem.Challenge.rw_nz0517_01.row.prog.bare := ⟨rfl, rfl, rfl, rfl, rfl, by kernel_rfl⟩
end Mine
set_option maxRecDepth 100000 in
set_option maxHeartbeats 8000000 in
theorem PySem.Challenge.cw_nz0517_01_holds : PySem.Challenge.rw_nz0517_01.Holds := by
  refine holds_law Mine.said fun sd => ?_
  refine holds_open (q := Mine.vw) (loose := Mine.ls) (XP := XL Mine.vw []) (YP := (kHook Mine.kK Mine.kA Mine.kA_eq).says) Mine.hl (kHook Mine.kK Mine.kA Mine.kA_eq).of (kHook Mine.kK Mine.kA Mine.kA_eq).keeps (fun s e => xl_of s (Bool.and_eq_true_iff.mp e).1) XL.keeps (by rfl) (by rfl) (by rfl) (fun s e => recFacts_of (Bool.and_eq_true_iff.mp e).2) rfl sd Mine.opens Mine.bare ?hw ?hc
  case hw => w_witness2
  case hc =>
    intro w s₀ s₁ mg mb G Y fa o pm cd doc dV kV ho hd hcd hD hmg hg args vals as hpre hlay hrd hwl hlo
    have KX := kIn_of Y
    have hmg' : mg "law" = some (.ref fa) := hmg
    clear hmg hd hD hcd ho Y
    refine Ground.open G ?_
    intro T B D TE TW
    wrow_args hpre hlay hrd hwl hlo
    rename_i ws _ _ _ _ _ _ _ la vs' _ hL _ w1 _ hI _ hcond _
    refine enter_call ?_
    obtain ⟨ol, g1, g2, nl, g3⟩ := hL
    have w1' : Well w.params s₁.heap (.ref la) (.list (ofPys (ws.map PyData.int))) := w1
    cases w1' with
    | list hget hall =>
      rename_i vs2
      have e := g1.symm.trans hget
      cases e
      have hvs : vs2 = vs' := congrArg Array.toList (show vs2.toArray = vs'.toArray by cases g3; rfl)
      subst hvs
      refine Mine.joined (mg := mg) (mb := mb) (is := ws) (la := la) KX T.g T.b T.nolimit T.builtins hget (Mine.intsAre_er hI) (by omega) hmg' fun s' hk hos hgs => GoodW.toG ⟨.inl ⟨_, .bool true, [], rfl, fun cls => rfl, .bool true, postW_of (by wrow_shape) (by wtm_val) (by str_meet; first | done | w_fin), fun _ => ⟨List.nodup_nil, fun _ h => nomatch h⟩⟩, hk, hos, hgs.trans hg⟩
