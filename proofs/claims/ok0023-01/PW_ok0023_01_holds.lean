import PyProof.Rows.All
import Wide.All
import OpenK.AllK
import Wide.FinOn
import PySem.Challenge.RW_ok0023_01
open PySem PySem.W PyProof.Rows
set_option Elab.async false
set_option linter.all false
set_option autoImplicit false
set_option maxRecDepth 10000
set_option maxHeartbeats 4000000
set_option compiler.extract_closed false
set_option tactic.hygienic false
namespace Mine.Lake

theorem no {α : Type} {v : α} {P : Prop} (h : none = some v) : P := nomatch h

inductive Bi where
  | len | range | tuple | list | set
  deriving Inhabited, DecidableEq

inductive MV where
  | unb
  | none
  | bool (b : Bool)
  | int (i : Int)
  | str (s : Str)
  | tup (xs : List MV)
  | rng (a b c : Int)
  | obj (i : Nat)
  | val (v : Value)
  | bi (b : Bi)
  deriving Inhabited

inductive MO where
  | list (xs : List MV)
  | dictI (kvs : List (Int × MV))
  | dictS (kvs : List (Str × MV))
  | dictT (kvs : List (List Int × MV))
  | set (xs : List Int)
  | inst (c : Addr) (as : List (Nat × MV))
  deriving Inhabited

noncomputable abbrev Objs := List MO

inductive ME where
  | loc (i : Nat)
  | cst (v : MV)
  | attr (e : ME) (a : Nat)
  | sub (e i : ME)
  | slc (e lo hi st : ME)
  | tup (es : List ME)
  | lst (es : List ME)
  | dict0
  | bin (op : Operator) (a b : ME)
  | neg (a : ME)
  | not (a : ME)
  | cmp (op : CmpOp) (a b : ME)
  | and (a b : ME)
  | or (a b : ME)
  | ife (t a b : ME)
  | call (f : ME) (es : List ME)
  | meth (o : ME) (m : Nat) (es : List ME)
  | comp (elt : ME) (tgt : List Nat) (one : Bool) (iter : ME)
  deriving Inhabited

inductive MT where
  | loc (i : Nat)
  | tup (is : List Nat)
  | attr (o : ME) (a : Nat)
  | sub (o i : ME)
  deriving Inhabited

inductive MS where
  | expr (e : ME)
  | asg (t : MT) (e : ME)
  | augL (i : Nat) (op : Operator) (e : ME)
  | augS (o i : ME) (op : Operator) (e : ME)
  | ret (e : ME)
  | ife (t : ME) (a b : List MS)
  | wh (t : ME) (b : List MS)
  | for_ (t : MT) (it : ME) (b : List MS)
  | cont
  | delS (o lo : ME)
  | bad
  deriving Inhabited

noncomputable def anms : List Str := (["symbols", "max_heap", "heap", "stack", "trail", "hb", "bb", "texts", "atom_numbers", "functors", "functor_numbers", "span", "met", "append", "pop", "get", "add", "atom", "text", "functor", "func", "name", "arity", "count", "known", "push", "new_var", "reserve", "deref", "bind", "bind_pair", "globalise", "mark", "undo_to", "is_compound", "functor_of", "width", "base", "new_block", "put_term", "take_term"] : List String).map Str.ofString

noncomputable def idx (x : Str) : List Str → Option Nat
  | [] => none
  | y :: r => if y = x then some 0 else (idx x r).map (· + 1)

noncomputable def scOK (sc : Scope) : Bool := sc.kind == .function && sc.names.all fun x => x.2 == .local && sc.names.lookup x.1 == some .local

noncomputable def baseOK (e : Expr) : Bool := !(e.ctorIdx == 16)

structure TEnv where
  ns : List Str
  glob : Str → Option MV

noncomputable def isSlice (e : Expr) : Bool := e.ctorIdx == 26

noncomputable def nameOf (e : Expr) : Option Str := match e with
  | .Name x _ => some x
  | _ => none
noncomputable def twoE (es : List Expr) : Option (Expr × Expr) := match es with
  | [] => none
  | a :: r => match r with
    | [] => none
    | b :: r => match r with
      | [] => some (a, b)
      | _ :: _ => none
noncomputable def tgtV (tg : Expr) : Option (List Str) := match tg with
  | .Name x _ => some [x]
  | .Tuple es _ _ => do let p ← twoE es; let x ← nameOf p.1; let y ← nameOf p.2; if x ≠ y then some [x, y] else none
  | _ => none

noncomputable def compOK (sc : Scope) (ns : List Str) : Bool := scOK sc && ns.all fun x => decide (sc.names.lookup x = some .local) && decide (x ≠ Str.ofString "__debug__")

mutual
noncomputable def trE (t : TEnv) : Expr → Option ME
  | .Constant v _ _ => match v with
    | .int i => some (.cst (.int i))
    | .str s => some (.cst (.str s))
    | .bool b => some (.cst (.bool b))
    | .none => some (.cst .none)
    | _ => none
  | .Name x _ => match idx x t.ns with
    | some i => some (.loc i)
    | none => (t.glob x).map .cst
  | .BoolOp op vs _ => trB t op vs
  | .BinOp l op r _ => do let a ← trE t l; let b ← trE t r; return .bin op a b
  | .UnaryOp op x _ => match op with
    | .USub => (trE t x).map .neg
    | .Not => (trE t x).map .not
    | _ => none
  | .IfExp c a b _ => match c with
    | .Compare l ops rs _ => match ops with
      | [op] => match rs with
        | [r] => do let x ← trE t l; let y ← trE t r; let a ← trE t a; let b ← trE t b; return .ife (.cmp op x y) a b
        | _ => none
      | _ => none
    | _ => none
  | .Dict ks vs _ => match ks with
    | [] => match vs with
      | [] => some .dict0
      | _ => none
    | _ => none
  | .List es _ => if es.length ≤ 1000 then (trEs t es).map .lst else none
  | .Tuple es _ _ => if es.length ≤ 1000 then (trEs t es).map .tup else none
  | .Compare l ops rs _ => match ops with
    | [op] => match rs with
      | [r] => do let a ← trE t l; let b ← trE t r; return .cmp op a b
      | _ => none
    | _ => none
  | .Call f args kws p => match kws with
    | [] => match f with
      | .Attribute o name ap => if baseOK o = true ∧ (ap.endLine == p.line) = true ∧ args.length < 30 then do let o ← trE t o; let m ← idx name anms; let es ← trEs t args; return .meth o m es else none
      | .Name f p => do let f ← trE t (.Name f p); let es ← trEs t args; return .call f es
      | _ => none
    | _ => none
  | .Attribute v a _ => if baseOK v = true then do let v ← trE t v; let a ← idx a anms; return .attr v a else none
  | .Subscript v i _ => match isSlice i with
    | true => do let v ← trE t v; let x ← trL t i; return .slc v x.1 x.2.1 x.2.2
    | false => do let v ← trE t v; let i ← trE t i; return .sub v i
  | .ListComp elt gens sc _ => match gens with
    | [g] => match g with
      | ⟨tg, it, ifs, asy⟩ => match ifs with
        | [] => if asy = 0 then (match tgtV tg with
          | some ns => do
            let it ← trE t it
            let elt ← trE ⟨ns, fun _ => none⟩ elt
            if compOK sc ns = true then return .comp elt (List.range ns.length) (ns.length == 1) it else none
          | none => none) else none
        | _ => none
    | _ => none
  | _ => none
noncomputable def trL (t : TEnv) : Expr → Option (ME × ME × ME)
  | .Slice lo hi st _ => do let lo ← trO t lo; let hi ← trO t hi; let st ← trO t st; return (lo, hi, st)
  | _ => none
noncomputable def trEs (t : TEnv) : List Expr → Option (List ME)
  | [] => some []
  | e :: r => do let a ← trE t e; let b ← trEs t r; return a :: b
noncomputable def trO (t : TEnv) : Option Expr → Option ME
  | none => some (.cst .none)
  | some e => trE t e
noncomputable def trB (t : TEnv) (op : BoolOp) : List Expr → Option ME
  | [] => none
  | [x] => trE t x
  | x :: r => do let a ← trE t x; let b ← trB t op r; return (match op with | .And => .and a b | .Or => .or a b)
end

noncomputable def trNames (t : TEnv) : List Expr → Option (List Nat)
  | [] => some []
  | e :: r => do let x ← nameOf e; let i ← idx x t.ns; let s ← trNames t r; return i :: s

noncomputable def trT (t : TEnv) : Expr → Option MT
  | .Name x _ => (idx x t.ns).map .loc
  | .Tuple es _ _ => (trNames t es).map .tup
  | .Attribute o a _ => do let o ← trE t o; let a ← idx a anms; return .attr o a
  | .Subscript o i _ => do let o ← trE t o; let i ← trE t i; return .sub o i
  | _ => none

noncomputable def assignOK (x v : Expr) : Bool := !(v.ctorIdx == 8) && !(v.ctorIdx == 25 && x.ctorIdx == 25)

mutual
noncomputable def trS (t : TEnv) : Stmt → Option MS
  | .Expr v _ => if assignOK v v = true then (trE t v).map .expr else none
  | .Assign xs v _ => match xs with
    | [x] => if assignOK x v = true then do let e ← trE t v; let x ← trT t x; return .asg x e else none
    | _ => none
  | .AugAssign tg op v _ => match tg with
    | .Name x _ => do let i ← idx x t.ns; let e ← trE t v; return .augL i op e
    | .Subscript o i _ => do let o ← trE t o; let i ← trE t i; let e ← trE t v; return .augS o i op e
    | _ => none
  | .Return v _ => match v with
    | some v => (trE t v).map .ret
    | none => some (.ret (.cst .none))
  | .If c a b _ => do let c ← trE t c; let a ← trSs t a; let b ← trSs t b; return .ife c a b
  | .While c b els _ => match els with
    | [] => do let c ← trE t c; let b ← trSs t b; return .wh c b
    | _ => none
  | .For x it b els _ => match els with
    | [] => do let x ← trT t x; let it ← trE t it; let b ← trSs t b; return .for_ x it b
    | _ => none
  | .Continue _ => some .cont
  | .Delete ds _ => match ds with
    | [d] => match d with
      | .Subscript o i _ => match i with
        | .Slice lo hi st _ => match lo with
          | some lo => match hi with
            | none => match st with
              | none => do let o ← trE t o; let lo ← trE t lo; return .delS o lo
              | _ => none
            | _ => none
          | _ => none
        | _ => none
      | _ => none
    | _ => none
  | .Raise .. => some .bad
  | _ => none
noncomputable def trSs (t : TEnv) : List Stmt → Option (List MS)
  | [] => some []
  | e :: r => do let a ← trS t e; let b ← trSs t r; return a :: b
end


end Mine.Lake

set_option tactic.hygienic true

set_option tactic.hygienic false
namespace Mine.Lake

structure Cx where
  prog : Program
  w : World
  K : Frag
  h0 : Heap
  os : OsState
  gens : Array GenState

noncomputable abbrev Mu := List (Addr × Option Addr)

noncomputable def pa (p : Addr × Option Addr) : List Addr := p.1 :: p.2.toList

noncomputable def inMu (μ : Mu) (a : Addr) : Prop := ∃ (i : Nat) (p : Addr × Option Addr), μ[i]? = some p ∧ a ∈ pa p

noncomputable def Bi.value : Bi → Value
  | .len => .builtin "len"
  | .range => .type "range"
  | .tuple => .type "tuple"
  | .list => .type "list"
  | .set => .type "set"

mutual
noncomputable def VR (μ : Mu) (h : Heap) : MV → Value → Prop
  | .unb, _ => False
  | .none, v => v = .none
  | .bool b, v => v = .bool b
  | .int i, v => ∃ t, v = .int i t
  | .str x, v => ∃ t, v = .str x t
  | .tup xs, v => ∃ a items, v = .ref a ∧ h.get? a = some { cls := .type "tuple", data := .seq items } ∧ VRs μ h xs items.toList
  | .rng a b c, v => ∃ r t u w, v = .ref r ∧ h.get? r = some { cls := .type "range", data := .fields #[.int a t, .int b u, .int c w] }
  | .obj i, v => ∃ p, μ[i]? = some p ∧ v = .ref p.1
  | .val x, v => v = x
  | .bi b, v => v = b.value
noncomputable def VRs (μ : Mu) (h : Heap) : List MV → List Value → Prop
  | [], vs => vs = []
  | x :: xs, vs => ∃ v r, vs = v :: r ∧ VR μ h x v ∧ VRs μ h xs r
end

inductive All2 {α β : Type} (R : α → β → Prop) : List α → List β → Prop
  | nil : All2 R [] []
  | cons {a : α} {b : β} {as : List α} {bs : List β} : R a b → All2 R as bs → All2 R (a :: as) (b :: bs)

section
variable {α β : Type} {R S : α → β → Prop}
theorem All2.mono (h : ∀ a b, R a b → S a b) {as : List α} {bs : List β} (x : All2 R as bs) : All2 S as bs := by
  induction x with
  | nil => exact .nil
  | cons a _ ih => exact .cons (h _ _ a) ih
theorem All2.length {as : List α} {bs : List β} (x : All2 R as bs) : as.length = bs.length := by
  induction x with
  | nil => rfl
  | cons _ _ ih => exact congrArg Nat.succ ih
theorem All2.get {as : List α} {bs : List β} (x : All2 R as bs) : ∀ {i : Nat} {a : α}, as[i]? = some a → ∃ b, bs[i]? = some b ∧ R a b := by
  induction x with
  | nil => intro i a h; exact no h
  | cons x y ih =>
    intro i a h
    cases i with
    | zero => cases h; exact ⟨_, rfl, x⟩
    | succ i => exact ih h
theorem All2.append {as : List α} {bs : List β} {cs : List α} {ds : List β} (x : All2 R as bs) (k : All2 R cs ds) : All2 R (as ++ cs) (bs ++ ds) := by
  induction x with
  | nil => exact k
  | cons a _ ih => exact .cons a ih
theorem All2.set {as : List α} {bs : List β} {i : Nat} {a : α} {b : β} (x : All2 R as bs) (k : R a b) : All2 R (as.set i a) (bs.set i b) := by
  induction x generalizing i with
  | nil => exact .nil
  | cons x y ih => cases i with
    | zero => exact .cons k y
    | succ i => exact .cons x ih
theorem All2.drop (n : Nat) {as : List α} {bs : List β} (x : All2 R as bs) : All2 R (as.drop n) (bs.drop n) := by
  induction n generalizing as bs with
  | zero => exact x
  | succ n ih => cases x with
    | nil => exact .nil
    | cons x y => exact ih y
theorem All2.take (n : Nat) {as : List α} {bs : List β} (x : All2 R as bs) : All2 R (as.take n) (bs.take n) := by
  induction n generalizing as bs with
  | zero => exact .nil
  | succ n ih => cases x with
    | nil => exact .nil
    | cons x y => exact .cons x (ih y)
theorem All2.reverse {as : List α} {bs : List β} (x : All2 R as bs) : All2 R as.reverse bs.reverse := by
  induction x with
  | nil => exact .nil
  | cons x _ ih => rw [List.reverse_cons, List.reverse_cons]; exact ih.append (.cons x .nil)
theorem All2.replicate {a : α} {b : β} (h : R a b) : ∀ n, All2 R (List.replicate n a) (List.replicate n b)
  | 0 => .nil
  | n+1 => .cons h (replicate h n)
end

theorem VRs_all2 {μ : Mu} {h : Heap} : ∀ {xs : List MV} {vs : List Value}, VRs μ h xs vs ↔ All2 (VR μ h) xs vs
  | [], vs => by
    constructor
    · intro h; rw [VRs] at h; subst h; exact .nil
    · intro h; (first | exact no h | cases h); rw [VRs]
  | x :: xs, vs => by
    constructor
    · intro h; rw [VRs] at h; obtain ⟨v, r, rfl, a, b⟩ := h; exact .cons a (VRs_all2.mp b)
    · intro h; cases h with | cons a b => rw [VRs]; exact ⟨_, _, rfl, a, VRs_all2.mpr b⟩

noncomputable abbrev anm (a : Nat) : Str := anms.getD a (Str.ofString "")

noncomputable def clsOK (K : Frag) (C : Addr) : Bool :=
  hasDictIn K C && findIn K (.ref C) "__setattr__" == some (some (.builtin "object.__setattr__")) && plainOver K C && plainGet K C "" &&
  (List.range 13).all fun i => findIn K (.ref C) (anm i) == some none && takerIn K C (anm i) == some none

noncomputable abbrev AR (μ : Mu) (h : Heap) := All2 (fun (a : Nat × MV) (e : DictEntry) => a.1 < 13 ∧ (∃ t, e.key = .str (anm a.1) t) ∧ VR μ h a.2 e.val ∧ handedIn e.val = true)

noncomputable def imm (o : Obj) : Bool := match o.data with
  | .seq .. => o.cls == .type "tuple"
  | .fields .. => o.cls == .type "range"
  | _ => false

noncomputable def OR (c : Cx) (μ : Mu) (h : Heap) : MO → Addr × Option Addr → Prop
  | .list xs, p => p.2 = none ∧ ∃ items, h.PlainList p.1 items ∧ All2 (VR μ h) xs items.toList
  | .dictI kvs, p => p.2 = none ∧ (p.1 == sysModules) = false ∧ ∃ es, h.DictOf (intKind c.prog c.w) p.1 es ∧ All2 (fun a b => a.1 = b.1 ∧ VR μ h a.2 b.2) kvs es
  | .dictS kvs, p => p.2 = none ∧ (p.1 == sysModules) = false ∧ ∃ es, h.DictOf (strKind c.prog c.w) p.1 es ∧ All2 (fun a b => a.1 = b.1 ∧ VR μ h a.2 b.2) kvs es
  | .dictT kvs, p => p.2 = none ∧ (p.1 == sysModules) = false ∧ ∃ es, h.DictOfH (tupleKind (intKind c.prog c.w)) p.1 es ∧ All2 (fun a b => a.1 = b.1 ∧ VR μ h a.2 b.2.2) kvs es
  | .set xs, p => p.2 = none ∧ ∃ S, h.SetOf (intKind c.prog c.w) p.1 S xs.length ∧ ∀ k, S k = true ↔ k ∈ xs
  | .inst C as, p => clsOK c.K C = true ∧ ∃ d es n, p.2 = some d ∧ h.get? p.1 = some (instObj C d) ∧ h.get? d = some (dictOf es n) ∧ AR μ h as es

theorem OR.mut {c : Cx} {μ : Mu} {h : Heap} {mo : MO} {p : Addr × Option Addr} (x : OR c μ h mo p) : ∀ a ∈ pa p, ∃ o, h.get? a = some o ∧ imm o = false := by
  obtain ⟨a, d⟩ := p
  cases mo with
  | list xs => obtain ⟨e, items, ⟨n, ho⟩, _⟩ := x; (first | exact no e | cases e); intro b hb; simp [pa] at hb; subst hb; exact ⟨_, ho, rfl⟩
  | dictI => obtain ⟨e, _, es, ⟨o, _, _, ho, hc, hd, _⟩, _⟩ := x; (first | exact no e | cases e); intro b hb; simp [pa] at hb; subst hb; exact ⟨_, ho, by simp [imm, hd]⟩
  | dictS => obtain ⟨e, _, es, ⟨o, _, _, ho, hc, hd, _⟩, _⟩ := x; (first | exact no e | cases e); intro b hb; simp [pa] at hb; subst hb; exact ⟨_, ho, by simp [imm, hd]⟩
  | dictT => obtain ⟨e, _, es, ⟨o, _, _, ho, hc, hd, _⟩, _⟩ := x; (first | exact no e | cases e); intro b hb; simp [pa] at hb; subst hb; exact ⟨_, ho, by simp [imm, hd]⟩
  | set => obtain ⟨e, S, ⟨o, _, _, _, ho, hc, hd, _⟩, _⟩ := x; (first | exact no e | cases e); intro b hb; simp [pa] at hb; subst hb; exact ⟨_, ho, by simp [imm, hd]⟩
  | inst C as =>
    obtain ⟨_, d', es, n, e, ho, hd, _⟩ := x; (first | exact no e | cases e); intro b hb; simp [pa] at hb
    rcases hb with rfl | rfl
    · exact ⟨_, ho, by simp [imm]⟩
    · exact ⟨_, hd, rfl⟩

structure SR (c : Cx) (μ : Mu) (st : Objs) (h : Heap) : Prop where
  keep : ∀ b o, c.h0.get? b = some o → h.get? b = some o
  len : μ.length = st.length
  new : ∀ a, inMu μ a → c.h0.get? a = none
  apart : ∀ (i j : Nat) p q a, μ[i]? = some p → μ[j]? = some q → a ∈ pa p → a ∈ pa q → i = j
  inner : ∀ (i : Nat) a d, μ[i]? = some (a, some d) → a ≠ d
  objs : ∀ (i : Nat) p o, μ[i]? = some p → st[i]? = some o → OR c μ h o p

theorem SR.mut {c : Cx} {μ : Mu} {st : Objs} {h : Heap} (S : SR c μ st h) {a : Addr} (m : inMu μ a) : ∃ o, h.get? a = some o ∧ imm o = false := by
  obtain ⟨i, p, hp, ha⟩ := m
  have : i < st.length := by rw [← S.len]; exact (List.getElem?_eq_some_iff.mp hp).1
  exact (S.objs i p _ hp (List.getElem?_eq_getElem this)).mut a ha

structure Grow (X : Addr → Prop) (μ : Mu) (h : Heap) (μ' : Mu) (h' : Heap) : Prop where
  pre : ∀ (i : Nat) p, μ[i]? = some p → μ'[i]? = some p
  old : ∀ a o, h.get? a = some o → ¬ inMu μ a → ¬ X a → h'.get? a = some o
  fresh : ∀ (i : Nat) p, μ'[i]? = some p → μ[i]? = none → ∀ a ∈ pa p, h.get? a = none
  live : ∀ a o, h.get? a = some o → ∃ o', h'.get? a = some o'

theorem Grow.refl (X : Addr → Prop) (μ : Mu) (h : Heap) : Grow X μ h μ h := ⟨fun _ _ e => e, fun _ _ e _ _ => e, fun _ _ e1 e2 => (by rw [e1] at e2; exact nomatch e2), fun _ o e => ⟨o, e⟩⟩

theorem Grow.notIn {X : Addr → Prop} {μ μ' : Mu} {h h' : Heap} (G : Grow X μ h μ' h') {a : Addr} {o : Obj} (e : h.get? a = some o) (n : ¬ inMu μ a) : ¬ inMu μ' a := by
  rintro ⟨i, p, hp, ha⟩
  cases hi : μ[i]? with
  | none => have := G.fresh i p hp hi a ha; rw [e] at this; (first | exact no this | cases this)
  | some q =>
    have := G.pre i q hi
    rw [hp] at this; (first | exact no this | cases this)
    exact n ⟨i, p, hi, ha⟩

theorem Grow.trans {X : Addr → Prop} {μ μ' μ'' : Mu} {h h' h'' : Heap} (G : Grow X μ h μ' h') (H : Grow X μ' h' μ'' h'') : Grow X μ h μ'' h'' where
  pre i p e := H.pre i p (G.pre i p e)
  old a o e n x := H.old a o (G.old a o e n x) (G.notIn e n) x
  fresh i p e1 e2 a ha := by
    cases hi : μ'[i]? with
    | none =>
      cases q : h.get? a with
      | none => rfl
      | some o => obtain ⟨o', z⟩ := G.live a o q; rw [H.fresh i p e1 hi a ha] at z; (first | exact no z | cases z)
    | some q =>
      have := H.pre i q hi
      rw [e1] at this; (first | exact no this | cases this)
      exact G.fresh i p hi e2 a ha
  live a o e := let ⟨o', z⟩ := G.live a o e; H.live a o' z

noncomputable def none_ (_ : Addr) : Prop := False
noncomputable abbrev Grow0 := Grow none_

theorem Grow.weak {X Y : Addr → Prop} {μ μ' : Mu} {h h' : Heap} (G : Grow X μ h μ' h') (hx : ∀ a, X a → Y a) : Grow Y μ h μ' h' :=
  ⟨G.pre, fun a o e n x => G.old a o e n fun q => x (hx a q), G.fresh, G.live⟩

noncomputable def Safe (X : Addr → Prop) (h : Heap) : Prop := ∀ a o, X a → h.get? a = some o → imm o = false
theorem safe_none (h : Heap) : Safe none_ h := fun _ _ x => x.elim

structure Keep (X : Addr → Prop) (μ : Mu) (h : Heap) (μ' : Mu) (h' : Heap) : Prop where
  pre : ∀ (i : Nat) p, μ[i]? = some p → μ'[i]? = some p
  old : ∀ a o, h.get? a = some o → ¬ inMu μ a → ¬ X a → h'.get? a = some o
theorem Grow.keep {X : Addr → Prop} {μ μ' : Mu} {h h' : Heap} (G : Grow X μ h μ' h') : Keep X μ h μ' h' := ⟨G.pre, G.old⟩

mutual
theorem VR.monoK {c : Cx} {μ μ' : Mu} {st : Objs} {h h' : Heap} {X : Addr → Prop} (S : SR c μ st h) (G : Keep X μ h μ' h') (sf : Safe X h) : ∀ {x : MV} {v : Value}, VR μ h x v → VR μ' h' x v
  | .unb, _, k => False.elim k
  | .none, _, k => k
  | .bool b, _, k => k
  | .int b, _, k => k
  | .str b, _, k => k
  | .tup xs, v, k => by
    obtain ⟨a, items, rfl, ho, r⟩ := k
    show ∃ (a' : Addr) (items' : Array Value), Value.ref a = .ref a' ∧ h'.get? a' = some { cls := .type "tuple", data := .seq items' } ∧ VRs μ' h' xs items'.toList
    refine ⟨a, items, rfl, G.old a _ ho (fun m => ?_) (fun x => ?_), VRs.monoK S G sf r⟩
    · obtain ⟨o, e, f⟩ := S.mut m
      rw [ho] at e; (first | exact no e | cases e); cases f
    · have := sf a _ x ho; (first | exact no this | cases this)
  | .rng a b d, v, k => by
    obtain ⟨r, t, u, w, rfl, ho⟩ := k
    show ∃ (r' : Addr) (t u w : Tok), Value.ref r = .ref r' ∧ h'.get? r' = some { cls := .type "range", data := .fields #[.int a t, .int b u, .int d w] }
    refine ⟨r, t, u, w, rfl, G.old r _ ho (fun m => ?_) (fun x => ?_)⟩
    · obtain ⟨o, e, f⟩ := S.mut m
      rw [ho] at e; (first | exact no e | cases e); cases f
    · have := sf r _ x ho; (first | exact no this | cases this)
  | .obj i, v, k => by
    obtain ⟨p, hp, rfl⟩ := k
    show ∃ p', μ'[i]? = some p' ∧ Value.ref p.1 = .ref p'.1
    exact ⟨p, G.pre i p hp, rfl⟩
  | .val w, v, k => k
  | .bi b, v, k => k
theorem VRs.monoK {c : Cx} {μ μ' : Mu} {st : Objs} {h h' : Heap} {X : Addr → Prop} (S : SR c μ st h) (G : Keep X μ h μ' h') (sf : Safe X h) : ∀ {xs : List MV} {vs : List Value}, VRs μ h xs vs → VRs μ' h' xs vs
  | [], _, k => k
  | x :: xs, _, k => by
    obtain ⟨v, r, rfl, a, b⟩ := k
    show ∃ v' r', v :: r = v' :: r' ∧ VR μ' h' x v' ∧ VRs μ' h' xs r'
    exact ⟨v, r, rfl, VR.monoK S G sf a, VRs.monoK S G sf b⟩
end

theorem VR.mono {c : Cx} {μ μ' : Mu} {st : Objs} {h h' : Heap} {X : Addr → Prop} (S : SR c μ st h) (G : Grow X μ h μ' h') (sf : Safe X h) {x : MV} {v : Value} (k : VR μ h x v) : VR μ' h' x v := k.monoK S G.keep sf

theorem dictOf_live {A : Type} [DecidableEq A] {prog : Program} {w : World} {K : PySem.KeyKind prog w A} {h : Heap} {a : Addr} {es : List (A × Value)} (x : h.DictOf K a es) : ∃ o, h.get? a = some o := by
  obtain ⟨o, _, _, ho, _⟩ := x
  exact ⟨o, ho⟩
theorem dictOf_moved {A : Type} [DecidableEq A] {prog : Program} {w : World} {K : PySem.KeyKind prog w A} {h h' : Heap} {a : Addr} {es : List (A × Value)} (ha : h'.get? a = h.get? a) (x : h.DictOf K a es) : h'.DictOf K a es := by
  obtain ⟨o, x1, x2, ho, r⟩ := x
  exact ⟨o, x1, x2, ha.trans ho, r⟩
theorem OR.monoK {c : Cx} {μ μ' : Mu} {st : Objs} {h h' : Heap} {X : Addr → Prop} (S : SR c μ st h) (G : Keep X μ h μ' h') (sf : Safe X h) {mo : MO} {p : Addr × Option Addr}
    (hp : ∀ a ∈ pa p, h'.get? a = h.get? a) (k : OR c μ h mo p) : OR c μ' h' mo p := by
  obtain ⟨a, d⟩ := p
  have ha : h'.get? a = h.get? a := hp a (by simp [pa])
  cases mo with
  | list xs =>
    obtain ⟨items, ⟨n, ho⟩, r⟩ := k.2
    exact ⟨k.1, items, ⟨n, ha.trans ho⟩, r.mono fun _ _ q => q.monoK S G sf⟩
  | dictI =>
    obtain ⟨es, d, r⟩ := k.2.2
    exact ⟨k.1, k.2.1, es, dictOf_moved ha d, r.mono fun _ _ q => ⟨q.1, q.2.monoK S G sf⟩⟩
  | dictS =>
    obtain ⟨es, d, r⟩ := k.2.2
    exact ⟨k.1, k.2.1, es, dictOf_moved ha d, r.mono fun _ _ q => ⟨q.1, q.2.monoK S G sf⟩⟩
  | dictT =>
    obtain ⟨es, ⟨o, x1, x2, ho, r1, r2, r3, r4, r5⟩, r⟩ := k.2.2
    refine ⟨k.1, k.2.1, es, ⟨o, x1, x2, ha.trans ho, r1, r2, r3, fun x hx => ?_, r5⟩, r.mono fun _ _ q => ⟨q.1, q.2.monoK S G sf⟩⟩
    obtain ⟨o', items, n, ho', hc', hd', z⟩ := r4 x hx
    have hi : imm o' = true := by simp [imm, hc', hd']
    refine ⟨o', items, n, G.old _ _ ho' (fun m => ?_) (fun x => ?_), hc', hd', z⟩
    · obtain ⟨o2, e, f⟩ := S.mut m
      rw [ho'] at e; cases e; rw [hi] at f; cases f
    · have := sf _ _ x ho'; rw [hi] at this; cases this
  | set =>
    obtain ⟨Q, ⟨o, x1, x2, x3, ho, r1⟩, r⟩ := k.2
    exact ⟨k.1, Q, ⟨o, x1, x2, x3, ha.trans ho, r1⟩, r⟩
  | inst C as =>
    obtain ⟨d', es, n, e, ho, hd, r⟩ := k.2
    cases e
    exact ⟨k.1, d', es, n, rfl, ha.trans ho, (hp d' (by simp [pa])).trans hd, r.mono fun _ _ q => ⟨q.1, q.2.1, q.2.2.1.monoK S G sf, q.2.2.2⟩⟩

theorem OR.mono {c : Cx} {μ μ' : Mu} {st : Objs} {h h' : Heap} {X : Addr → Prop} (S : SR c μ st h) (G : Grow X μ h μ' h') (sf : Safe X h) {mo : MO} {p : Addr × Option Addr}
    (hp : ∀ a ∈ pa p, h'.get? a = h.get? a) (k : OR c μ h mo p) : OR c μ' h' mo p := k.monoK S G.keep sf hp

theorem SR.stepK {c : Cx} {μ : Mu} {st : Objs} {h h' : Heap} {X : Addr → Prop} (S : SR c μ st h) (G : Keep X μ h μ h') (sf : Safe X h) (hk : ∀ a, inMu μ a → h'.get? a = h.get? a) (hx : ∀ a, X a → c.h0.get? a = none) : SR c μ st h' where
  keep b o e := G.old b o (S.keep b o e) (fun m => by rw [S.new b m] at e; (first | exact no e | cases e)) (fun x => by rw [hx b x] at e; (first | exact no e | cases e))
  len := S.len
  new := S.new
  apart := S.apart
  inner := S.inner
  objs i p o hp ho := (S.objs i p o hp ho).monoK S G sf fun a ha => hk a ⟨i, p, hp, ha⟩
theorem SR.step {c : Cx} {μ : Mu} {st : Objs} {h h' : Heap} {X : Addr → Prop} (S : SR c μ st h) (G : Grow X μ h μ h') (sf : Safe X h) (hk : ∀ a, inMu μ a → h'.get? a = h.get? a) (hx : ∀ a, X a → c.h0.get? a = none) : SR c μ st h' :=
  S.stepK G.keep sf hk hx

theorem Grow.skip {X : Addr → Prop} {μ μ1 : Mu} {h h1 h2 : Heap} {I : Addr} (G : Grow X μ h μ1 h1) (hI : h.get? I = none) (e : ∀ a o, a ≠ I → h1.get? a = some o → h2.get? a = some o) : Grow X μ h μ1 h2 :=
  ⟨G.pre, fun a o ha n x => e a o (fun q => by rw [q, hI] at ha; (first | exact no ha | cases ha)) (G.old a o ha n x), G.fresh, fun a o ha => by
    obtain ⟨o', z⟩ := G.live a o ha
    exact ⟨o', e a o' (fun q => by rw [q, hI] at ha; (first | exact no ha | cases ha)) z⟩⟩

theorem Grow.push (X : Addr → Prop) (μ : Mu) (h : Heap) (o : Obj) : Grow X μ h μ (h.push o) :=
  ⟨fun _ _ e => e, fun a x e _ _ => Heap.get?_push_of_some o e, fun _ _ e1 e2 => (by rw [e1] at e2; exact nomatch e2), fun a x e => ⟨x, Heap.get?_push_of_some o e⟩⟩

theorem SR.push {c : Cx} {μ : Mu} {st : Objs} {h : Heap} (S : SR c μ st h) (o : Obj) : SR c μ st (h.push o) :=
  S.step (Grow.push none_ μ h o) (safe_none h) (fun a m => by
    obtain ⟨x, e, _⟩ := S.mut m
    rw [e]; exact Heap.get?_push_of_some o e) (fun _ x => x.elim)

theorem inMu_snoc {μ : Mu} {p : Addr × Option Addr} {a : Addr} : inMu (μ ++ [p]) a ↔ inMu μ a ∨ a ∈ pa p := by
  constructor
  · rintro ⟨i, q, hq, ha⟩
    rw [List.getElem?_append] at hq
    split at hq
    · exact .inl ⟨i, q, hq, ha⟩
    · right
      have : q = p := by
        cases hn : i - μ.length with
        | zero => rw [hn] at hq; simpa using hq.symm
        | succ k => rw [hn] at hq; simp at hq
      exact this ▸ ha
  · rintro (⟨i, q, hq, ha⟩ | ha)
    · exact ⟨i, q, by rw [List.getElem?_append_left (List.getElem?_eq_some_iff.mp hq).1]; exact hq, ha⟩
    · exact ⟨μ.length, p, by simp, ha⟩

theorem get_snoc {α : Type} {l : List α} {p q : α} {i : Nat} (h : (l ++ [p])[i]? = some q) : (l[i]? = some q) ∨ (i = l.length ∧ q = p) := by
  rw [List.getElem?_append] at h
  split at h
  · exact .inl h
  · right
    cases hn : i - l.length with
    | zero => rw [hn] at h; exact ⟨by lia, by simpa using h.symm⟩
    | succ k => rw [hn] at h; simp at h

theorem SR.alloc {c : Cx} {μ : Mu} {st : Objs} {h h' : Heap} {p : Addr × Option Addr} {mo : MO} (S : SR c μ st h)
    (hk : ∀ a o, h.get? a = some o → h'.get? a = some o)
    (hp : ∀ a ∈ pa p, h.get? a = none) (hin : ∀ d, p.2 = some d → p.1 ≠ d)
    (ho : OR c (μ ++ [p]) h' mo p) : SR c (μ ++ [p]) (st ++ [mo]) h' ∧ Grow0 μ h (μ ++ [p]) h' := by
  have G : Grow0 μ h (μ ++ [p]) h' := ⟨fun i q e => by rw [List.getElem?_append_left (List.getElem?_eq_some_iff.mp e).1]; exact e,
    fun a o e _ _ => hk a o e, fun i q e1 e2 a ha => by
      rcases get_snoc e1 with e | ⟨_, rfl⟩
      · rw [e] at e2; (first | exact no e2 | cases e2)
      · exact hp a ha, fun a o e => ⟨o, hk a o e⟩⟩
  have nw : ∀ a ∈ pa p, ∀ o, h.get? a ≠ some o := fun a ha o e => by rw [hp a ha] at e; (first | exact no e | cases e)
  refine ⟨⟨fun b o e => hk b o (S.keep b o e), by simp [S.len], ?_, ?_, ?_, ?_⟩, G⟩
  · intro a m
    rcases inMu_snoc.mp m with m | m
    · exact S.new a m
    · cases e : c.h0.get? a with
      | none => rfl
      | some o => exact absurd (S.keep a o e) (nw a m o)
  · intro i j q r a hq hr ha hb
    rcases get_snoc hq with e1 | ⟨e1, rfl⟩ <;> rcases get_snoc hr with e2 | ⟨e2, rfl⟩
    · exact S.apart i j q r a e1 e2 ha hb
    · obtain ⟨o, e, _⟩ := S.mut ⟨i, q, e1, ha⟩; exact absurd e (nw a hb o)
    · obtain ⟨o, e, _⟩ := S.mut ⟨j, r, e2, hb⟩; exact absurd e (nw a ha o)
    · lia
  · intro i a d hq
    rcases get_snoc hq with e | ⟨_, rfl⟩
    · exact S.inner i a d e
    · exact hin d rfl
  · intro i q o hq ho'
    rcases get_snoc hq with e | ⟨e, rfl⟩
    · have : st[i]? = some o := by
        rw [List.getElem?_append_left (by rw [← S.len]; exact (List.getElem?_eq_some_iff.mp e).1)] at ho'; exact ho'
      exact (S.objs i q o e this).mono S G (safe_none h) fun a ha => by
        obtain ⟨o2, e2, _⟩ := S.mut ⟨i, q, e, ha⟩; rw [e2]; exact hk a o2 e2
    · have : o = mo := by
        rw [e, S.len] at ho'; simpa using ho'.symm
      subst this; exact ho

theorem SR.set {c : Cx} {μ : Mu} {st : Objs} {h h' : Heap} {i : Nat} {p : Addr × Option Addr} {mo : MO} {b : Addr} (S : SR c μ st h) (hp : μ[i]? = some p) (hb : b ∈ pa p)
    (hs : Heap.SameBut b h h') (ho : OR c μ h' mo p) : SR c μ (st.set i mo) h' ∧ Grow0 μ h μ h' := by
  have G : Grow0 μ h μ h' := ⟨fun _ _ e => e, fun a o e n _ => (hs.2 a (fun q => n (q ▸ ⟨i, p, hp, hb⟩))).trans e, fun _ _ e1 e2 => (by rw [e1] at e2; exact nomatch e2), fun a o e => by
    by_cases q : a = b
    · subst q; obtain ⟨o', z, _⟩ := ho.mut a hb; exact ⟨o', z⟩
    · exact ⟨o, (hs.2 a q).trans e⟩⟩
  refine ⟨⟨fun a o e => ?_, by simp [S.len], S.new, S.apart, S.inner, ?_⟩, G⟩
  · exact G.old a o (S.keep a o e) (fun m => by rw [S.new a m] at e; (first | exact no e | cases e)) (fun x => x.elim)
  · intro j q o hq ho'
    by_cases e : i = j
    · subst e
      rw [hp] at hq; (first | exact no hq | cases hq)
      have hlt : i < st.length := by rw [← S.len]; exact (List.getElem?_eq_some_iff.mp hp).1
      rw [List.getElem?_set_self hlt] at ho'
      cases ho'; exact ho
    · rw [List.getElem?_set_ne e] at ho'
      exact (S.objs j q o hq ho').mono S G (safe_none h) fun a ha => hs.2 a (fun r => e (S.apart i j p q b hp hq hb (r ▸ ha)))

structure LR (c : Cx) (μ : Mu) (h : Heap) (L : Addr) (ns : List Str) (loc : List MV) : Prop where
  fr : ∃ m, h.Ns L m ∧ ∀ (i : Nat) x v, ns[i]? = some x → loc[i]? = some v → (v = .unb ∧ m x = none) ∨ (∃ cv, m x = some cv ∧ VR μ h v cv)
  len : ns.length = loc.length
  new : c.h0.get? L = none
  out : ¬ inMu μ L

theorem LR.get {c : Cx} {μ : Mu} {h : Heap} {L : Addr} {ns : List Str} {loc : List MV} (x : LR c μ h L ns loc) : ∃ o, h.get? L = some o ∧ imm o = false := by
  obtain ⟨m, ⟨o, es, ep, ho, hd, _⟩, _⟩ := x.fr
  exact ⟨o, ho, by simp [imm, hd]⟩

theorem LR.safe {c : Cx} {μ : Mu} {h : Heap} {L : Addr} {ns : List Str} {loc : List MV} (x : LR c μ h L ns loc) : Safe (· = L) h := fun a o e g => by
  obtain ⟨o', e', i⟩ := x.get
  subst e
  rw [g] at e'; cases e'; exact i

theorem LR.monoK {c : Cx} {μ μ' : Mu} {h h' : Heap} {st : Objs} {L : Addr} {ns : List Str} {loc : List MV} {X : Addr → Prop} (x : LR c μ h L ns loc) (S : SR c μ st h) (G : Keep X μ h μ' h') (sf : Safe X h) (hL : ¬ X L) (ho' : ¬ inMu μ' L) : LR c μ' h' L ns loc := by
  obtain ⟨o, ho, _⟩ := x.get
  obtain ⟨m, hn, r⟩ := x.fr
  refine ⟨⟨m, ?_, fun i y v hy hv => (r i y v hy hv).imp id fun ⟨cv, e, k⟩ => ⟨cv, e, k.monoK S G sf⟩⟩, x.len, x.new, ho'⟩
  obtain ⟨o', es, ep, ho', z⟩ := hn
  exact ⟨o', es, ep, G.old L o' ho' x.out hL, z⟩
theorem LR.mono {c : Cx} {μ μ' : Mu} {h h' : Heap} {st : Objs} {L : Addr} {ns : List Str} {loc : List MV} (x : LR c μ h L ns loc) (S : SR c μ st h) (G : Grow0 μ h μ' h') : LR c μ' h' L ns loc :=
  x.monoK S G.keep (safe_none h) (fun q => q.elim) (let ⟨o, ho, _⟩ := x.get; G.notIn ho x.out)
end Mine.Lake

set_option tactic.hygienic true

set_option tactic.hygienic false
namespace Mine.Lake

@[irreducible] noncomputable def big : Int := 4611686018427387904
noncomputable def lim : Nat := 1000000

noncomputable def getL (loc : List MV) (i : Nat) : Option MV := match loc[i]? with
  | some .unb => none
  | x => x

section
variable {K : Type} [DecidableEq K]
noncomputable def lookM (kvs : List (K × MV)) (k : K) : Option MV := (kvs.find? fun kv => decide (kv.1 = k)).map (·.2)
noncomputable def putM (kvs : List (K × MV)) (k : K) (v : MV) : List (K × MV) :=
  if kvs.any (fun kv => decide (kv.1 = k)) then kvs.map (fun kv => if kv.1 = k then (kv.1, v) else kv) else kvs ++ [(k, v)]
end

noncomputable def lookA (as : List (Nat × MV)) (a : Nat) : Option MV := match as with
  | [] => none
  | (b, v) :: r => if b = a then some v else lookA r a
noncomputable def putA (as : List (Nat × MV)) (a : Nat) (v : MV) : List (Nat × MV) := match as with
  | [] => [(a, v)]
  | (b, w) :: r => if b = a then (b, v) :: r else (b, w) :: putA r a v

noncomputable def attrM (st : Objs) : MV → Nat → Option MV
  | .obj i, a => match st[i]? with
    | some (.inst _ as) => lookA as a
    | _ => none
  | _, _ => none

noncomputable def plainV : MV → Bool
  | .val _ | .bi _ | .unb => false
  | _ => true

noncomputable def setAttrM (st : Objs) : MV → Nat → MV → Option Objs
  | .obj i, a, v => match st[i]? with
    | some (.inst C as) => if a < 13 ∧ as.length < 13 ∧ plainV v = true then some (st.set i (.inst C (putA as a v))) else none
    | _ => none
  | _, _, _ => none

noncomputable def keyOf : List MV → Option (List Int)
  | [] => some []
  | .int i :: r => (keyOf r).map (i :: ·)
  | _ => none

noncomputable def subM (st : Objs) (v k : MV) : Option MV := match k with
  | .int n => match v with
    | .tup xs => if 0 ≤ n ∧ n < big then xs[n.toNat]? else none
    | .obj k => match st[k]? with
      | some (.list xs) => if 0 ≤ n ∧ n < big then xs[n.toNat]? else none
      | some (.dictI kvs) => lookM kvs n
      | _ => none
    | _ => none
  | _ => none

noncomputable def setSubM (st : Objs) (o i v : MV) : Option Objs := match o with
  | .obj k => match i with
    | .int n => match st[k]? with
      | some (.list xs) => if 0 ≤ n ∧ n < big ∧ n < xs.length then some (st.set k (.list (xs.set n.toNat v))) else none
      | some (.dictI kvs) => if kvs.length ≤ lim then some (st.set k (.dictI (putM kvs n v))) else none
      | _ => none
    | .str x => match st[k]? with
      | some (.dictS kvs) => if kvs.length ≤ lim then some (st.set k (.dictS (putM kvs x v))) else none
      | _ => none
    | .tup ks => match st[k]? with
      | some (.dictT kvs) => match keyOf ks with
        | some key => if kvs.length ≤ lim then some (st.set k (.dictT (putM kvs key v))) else none
        | none => none
      | _ => none
    | _ => none
  | _ => none

@[irreducible] noncomputable def smallR (a b c : Int) : Bool := Builtin.Range.small a b c
@[irreducible] noncomputable def rngL (a b c : Int) : List MV := (List.range (Builtin.Range.rangeSize a b c).toNat).map fun (i : Nat) => .int (a + (i : Int) * c)

noncomputable def itemsM (st : Objs) : MV → Option (List MV)
  | .tup xs => some xs
  | .rng a b c => if smallR a b c = true then some (rngL a b c) else none
  | .obj k => match st[k]? with
    | some (.list xs) => some xs
    | _ => none
  | _ => none

noncomputable def slcL (xs : List MV) (a b d : MV) : Option (List MV) := match d with
  | .none => match a with
    | .none => match b with
      | .int n => if 0 ≤ n ∧ n < big then some (xs.take n.toNat) else none
      | _ => none
    | .int n => match b with
      | .none => if 0 ≤ n ∧ n < big then some (xs.drop n.toNat) else none
      | _ => none
    | _ => none
  | .int n => match a with
    | .none => match b with
      | .none => if n = -1 then some xs.reverse else none
      | _ => none
    | _ => none
  | _ => none

noncomputable def listM (st : Objs) : MV → Option (List MV)
  | .obj k => match st[k]? with
    | some (.list xs) => if xs.length ≤ lim then some xs else none
    | _ => none
  | _ => none

noncomputable def callB (b : Bi) (vs : List MV) (st : Objs) : Option (MV × Objs) := match b with
  | .len => match vs with
    | [v] => match v with
      | .obj k => match st[k]? with
        | some (.list xs) => if xs.length ≤ lim then some (.int xs.length, st) else none
        | some (.dictI kvs) => if kvs.length ≤ lim then some (.int kvs.length, st) else none
        | _ => none
      | _ => none
    | _ => none
  | .range => match vs with
    | v :: r => match v with
      | .int a => match r with
        | [] => if -big < a ∧ a < big then some (.rng 0 a 1, st) else none
        | w :: r => match w with
          | .int b => match r with
            | [u] => match u with
              | .int c => if -big < a ∧ a < big ∧ b = -1 ∧ c = -1 then some (.rng a b c, st) else none
              | _ => none
            | _ => none
          | _ => none
      | _ => none
    | _ => none
  | .tuple => match vs with
    | [v] => match listM st v with
      | some xs => some (.tup xs, st)
      | none => none
    | _ => none
  | .list => match vs with
    | [v] => match v with
      | .obj k => match st[k]? with
        | some (.list xs) => if xs.length ≤ lim then some (.obj st.length, st ++ [.list xs]) else none
        | some (.dictI kvs) => if kvs.length ≤ lim then some (.obj st.length, st ++ [.list (kvs.map fun kv => .int kv.1)]) else none
        | _ => none
      | _ => none
    | _ => none
  | .set => match vs with
    | [] => some (.obj st.length, st ++ [.set []])
    | _ => none

noncomputable def binM (op : Operator) (a b : MV) (st : Objs) : Option (MV × Objs) := match a with
  | .int a => match b with
    | .int b => match op with
      | .Add => some (.int (a + b), st)
      | .Sub => some (.int (a - b), st)
      | .Mult => if -big < a ∧ a < big ∧ -big < b ∧ b < big then some (.int (a * b), st) else none
      | .Mod => if 0 < b then some (.int (a % b), st) else none
      | _ => none
    | _ => none
  | .obj i => match b with
    | .obj j => match op with
      | .Add => match listM st (.obj i) with
        | some xs => match listM st (.obj j) with
          | some ys => some (.obj st.length, st ++ [.list (xs ++ ys)])
          | none => none
        | none => none
      | _ => none
    | .int n => match op with
      | .Mult => match listM st (.obj i) with
        | some [x] => if n = 5 then some (.obj st.length, st ++ [.list (List.replicate n.toNat x)]) else none
        | _ => none
      | _ => none
    | _ => none
  | _ => none

mutual
noncomputable def pyOf : MV → Option PyData
  | .none => some .none
  | .bool b => some (.bool b)
  | .int i => some (.int i)
  | .str x => if PyData.strOk x = true then some (.str x) else none
  | .tup xs => (pyOfs xs).map .tuple
  | _ => none
noncomputable def pyOfs : List MV → Option (List PyData)
  | [] => some []
  | x :: r => match pyOf x, pyOfs r with
    | some a, some b => some (a :: b)
    | _, _ => none
end

noncomputable def pyE (st : Objs) : MV → Option PyData
  | .obj k => match st[k]? with
    | some (.list xs) => (pyOfs xs).map .list
    | _ => none
  | v => pyOf v

noncomputable def pyEs (st : Objs) : List MV → Option (List PyData)
  | [] => some []
  | x :: r => match pyE st x, pyEs st r with
    | some a, some b => some (a :: b)
    | _, _ => none

noncomputable def pyV (st : Objs) : MV → Option PyData
  | .tup xs => (pyEs st xs).map .tuple
  | v => pyE st v

noncomputable def eqM (st : Objs) (a b : MV) : Option Bool := match pyV st a, pyV st b with
  | some da, some db => if min da.depth db.depth ≤ 1000 then some (PyData.eqv da db) else none
  | _, _ => none

noncomputable def inM (st : Objs) : MV → MV → Option Bool
  | .int n, .obj k => match st[k]? with
    | some (.dictI kvs) => some (lookM kvs n).isSome
    | some (.set xs) => some (decide (n ∈ xs))
    | _ => none
  | _, _ => none

noncomputable def isNoneM : MV → Option Bool
  | .none => some true
  | .bool _ | .int _ | .str _ | .tup _ | .obj _ => some false
  | _ => none

noncomputable def cmpM (st : Objs) (op : CmpOp) (a b : MV) : Option Bool := match op with
  | .Lt => match a, b with | .int x, .int y => some (decide (x < y)) | _, _ => none
  | .Gt => match a, b with | .int x, .int y => some (decide (y < x)) | _, _ => none
  | .GtE => match a, b with | .int x, .int y => some (decide (y ≤ x)) | _, _ => none
  | .Eq => eqM st a b
  | .NotEq => (eqM st a b).map (!·)
  | .In => inM st a b
  | .NotIn => (inM st a b).map (!·)
  | .Is => match b with | .none => isNoneM a | _ => none
  | .IsNot => match b with | .none => (isNoneM a).map (!·) | _ => none
  | _ => none

noncomputable def truthM : MV → Option Bool
  | .bool b => some b
  | _ => none

noncomputable def cstV (v : MV) : Option MV := match v with
  | .int _ => some v
  | .str _ => some v
  | _ => none
noncomputable def intV (v : MV) : Option Int := match v with
  | .int n => some n
  | _ => none
noncomputable def intC (e : ME) : Option Int := match e with
  | .cst v => intV v
  | _ => none
noncomputable def tupAt (v : MV) (n : Int) : Option MV := match v with
  | .tup xs => if 0 ≤ n ∧ n < big then xs[n.toNat]? else none
  | _ => none
mutual
noncomputable def pev (loc : List MV) : ME → Option MV
  | .loc i => getL loc i
  | .cst v => cstV v
  | .tup es => (pevs loc es).map .tup
  | .sub e i => do let n ← intC i; let v ← pev loc e; tupAt v n
  | _ => none
noncomputable def pevs (loc : List MV) : List ME → Option (List MV)
  | [] => some []
  | e :: r => do let a ← pev loc e; let b ← pevs loc r; return a :: b
end

noncomputable def bindC (one : Bool) (x : MV) : Option (List MV) := match one, x with
  | true, x => some [x]
  | false, .tup [a, b] => some [a, b]
  | _, _ => none

noncomputable def compL (one : Bool) (elt : ME) : List MV → Option (List MV)
  | [] => some []
  | x :: r => match bindC one x with
    | some l => match pev l elt, compL one elt r with
      | some y, some ys => some (y :: ys)
      | _, _ => none
    | none => none

theorem ite_some {α : Type} {c : Prop} [Decidable c] {x : Option α} {y : α} (h : (if c then x else none) = some y) : c ∧ x = some y := by
  by_cases q : c
  · rw [if_pos q] at h; exact ⟨q, h⟩
  · rw [if_neg q] at h; (first | exact no h | cases h)

noncomputable abbrev EP := MV → Objs → Prop

structure Sg where
  C : Addr → List MV → Objs → EP → Prop
  M : Addr → Nat → Option Addr
  L : Value → Option (List MV)

noncomputable def listS (S : Sg) (st : Objs) : MV → Option (List MV)
  | .val x => S.L x
  | v => listM st v

noncomputable def opt {α : Type} (x : Option α) (Q : α → Prop) : Prop := match x with
  | some a => Q a
  | none => False
theorem opt_some {α : Type} (a : α) (Q : α → Prop) : opt (some a) Q = Q a := of_eq_true (eq_true rfl)
theorem opt_iff {α : Type} {x : Option α} {Q : α → Prop} : opt x Q ↔ ∃ a, x = some a ∧ Q a := by
  cases x with
  | none => simp [opt]
  | some a => simp [opt]

noncomputable def methO (S : Sg) (k m : Nat) (vs : List MV) (st : Objs) (Q : EP) : MO → Prop
  | .inst Cc _ => opt (S.M Cc m) fun f => S.C f (.obj k :: vs) st Q
  | .list xs => if m = 13 then ∃ v, vs = [v] ∧ xs.length ≤ lim ∧ Q .none (st.set k (.list (xs ++ [v]))) else if m = 14 then vs = [] ∧ xs.length ≤ lim ∧ opt xs.getLast? fun v => Q v (st.set k (.list xs.dropLast)) else False
  | .dictS kvs => if m = 15 then ∃ x d, vs = [.str x, d] ∧ Q ((lookM kvs x).getD d) st else False
  | .dictT kvs => if m = 15 then ∃ ks d, vs = [.tup ks, d] ∧ opt (keyOf ks) fun key => Q ((lookM kvs key).getD d) st else False
  | .set xs => if m = 16 then ∃ n, vs = [.int n] ∧ xs.length < 4000 ∧ Q .none (if n ∈ xs then st else st.set k (.set (xs ++ [n]))) else False
  | _ => False
noncomputable def methM (S : Sg) (o : MV) (m : Nat) (vs : List MV) (st : Objs) (Q : EP) : Prop := match o with
  | .obj k => match st[k]? with
    | some x => methO S k m vs st Q x
    | none => False
  | _ => False
theorem methM_at {S : Sg} {k m : Nat} {vs : List MV} {st : Objs} {Q : EP} {x : MO} (h : st[k]? = some x) : methM S (.obj k) m vs st Q = methO S k m vs st Q x := by
  show (match st[k]? with
    | some x => methO S k m vs st Q x
    | none => False) = _
  rw [h]

noncomputable def mvalK (S : Sg) (x : MO) (m : Nat) : Option Value := match x with
  | .inst C _ => (S.M C m).map .ref
  | .list _ => if m = 13 then some (.builtin "list.append") else if m = 14 then some (.builtin "list.pop") else none
  | .dictS _ => if m = 15 then some (.builtin "dict.get") else none
  | .dictT _ => if m = 15 then some (.builtin "dict.get") else none
  | .set _ => if m = 16 then some (.builtin "set.add") else none
  | _ => none

noncomputable def mval (S : Sg) (o : MV) (m : Nat) (st : Objs) : Option Value := match o with
  | .obj k => match st[k]? with
    | some x => mvalK S x m
    | none => none
  | _ => none
theorem mval_at {S : Sg} {k m : Nat} {st : Objs} {x : MO} (h : st[k]? = some x) : mval S (.obj k) m st = mvalK S x m := by
  show (match st[k]? with
    | some x => mvalK S x m
    | none => none) = _
  rw [h]

mutual
noncomputable def wpE (S : Sg) (loc : List MV) : ME → Objs → EP → Prop
  | .loc i, st, Q => opt (getL loc i) fun v => Q v st
  | .cst v, st, Q => Q v st
  | .attr e a, st, Q => wpE S loc e st fun v st1 => opt (attrM st1 v a) fun x => Q x st1
  | .sub e i, st, Q => wpE S loc e st fun v st1 => wpE S loc i st1 fun k st2 => opt (subM st2 v k) fun x => Q x st2
  | .slc e lo hi sp, st, Q => wpE S loc e st fun v st1 => wpE S loc lo st1 fun a st2 => wpE S loc hi st2 fun b st3 => wpE S loc sp st3 fun d st4 =>
      opt (listS S st4 v) fun xs => opt (slcL xs a b d) fun ys => Q (.obj st4.length) (st4 ++ [.list ys])
  | .tup es, st, Q => wpEs S loc es st fun vs st1 => Q (.tup vs) st1
  | .lst es, st, Q => wpEs S loc es st fun vs st1 => Q (.obj st1.length) (st1 ++ [.list vs])
  | .dict0, st, Q => ∃ o, (o = .dictI [] ∨ o = .dictS [] ∨ o = .dictT []) ∧ Q (.obj st.length) (st ++ [o])
  | .bin op a b, st, Q => wpE S loc a st fun x st1 => wpE S loc b st1 fun y st2 => opt (binM op x y st2) fun r => Q r.1 r.2
  | .neg a, st, Q => wpE S loc a st fun x st1 => match x with | .int n => Q (.int (-n)) st1 | _ => False
  | .not _, _, _ => False
  | .cmp op a b, st, Q => wpE S loc a st fun x st1 => wpE S loc b st1 fun y st2 => opt (cmpM st2 op x y) fun c => Q (.bool c) st2
  | .and a b, st, Q => wpE S loc a st fun x st1 => opt (truthM x) fun c => if c = true then wpE S loc b st1 Q else Q x st1
  | .or a b, st, Q => wpE S loc a st fun x st1 => opt (truthM x) fun c => if c = true then Q x st1 else wpE S loc b st1 Q
  | .ife (.cmp op x y) a b, st, Q => wpE S loc x st fun u st1 => wpE S loc y st1 fun v st2 => opt (cmpM st2 op u v) fun c =>
      if c = true then wpE S loc a st2 Q else wpE S loc b st2 Q
  | .ife _ _ _, _, _ => False
  | .call f es, st, Q => wpE S loc f st fun g st0 => wpEs S loc es st0 fun vs st1 => match g with
      | .bi b => opt (callB b vs st1) fun r => Q r.1 r.2
      | .val (.ref a) => S.C a vs st1 Q
      | _ => False
  | .meth o m es, st, Q => wpE S loc o st fun w st0 => (mval S w m st0).isSome = true ∧ wpEs S loc es st0 fun vs st1 => mval S w m st1 = mval S w m st0 ∧ methM S w m vs st1 Q
  | .comp elt _ one it, st, Q => wpE S loc it st fun v st1 => opt (itemsM st1 v) fun xs => xs.length ≤ lim ∧ opt (compL one elt xs) fun ys => Q (.obj st1.length) (st1 ++ [.list ys])
noncomputable def wpEs (S : Sg) (loc : List MV) : List ME → Objs → (List MV → Objs → Prop) → Prop
  | [], st, Q => Q [] st
  | e :: r, st, Q => wpE S loc e st fun v st1 => wpEs S loc r st1 fun vs st2 => Q (v :: vs) st2
end

noncomputable def wpB (S : Sg) (loc : List MV) : ME → Objs → (Bool → Objs → Prop) → Prop
  | .not x, st, Q => wpB S loc x st fun c => Q (!c)
  | .and a b, st, Q => wpB S loc a st fun c st1 => if c = true then wpB S loc b st1 Q else Q false st1
  | .or a b, st, Q => wpB S loc a st fun c st1 => if c = true then Q true st1 else wpB S loc b st1 Q
  | .ife .., _, _ => False
  | e, st, Q => wpE S loc e st fun v st1 => opt (truthM v) fun c => Q c st1

noncomputable def setAll (loc : List MV) : List Nat → List MV → Option (List MV)
  | [], [] => some loc
  | i :: is, v :: vs => if i < loc.length then setAll (loc.set i v) is vs else none
  | _, _ => none

noncomputable def wpG (S : Sg) (t : MT) (v : MV) (loc : List MV) (st : Objs) (N : List MV → Objs → Prop) : Prop := match t with
  | .loc i => i < loc.length ∧ N (loc.set i v) st
  | .tup is => match v with
    | .tup xs => opt (setAll loc is xs) fun l => N l st
    | _ => False
  | .attr o a => wpE S loc o st fun w st1 => opt (setAttrM st1 w a v) fun st2 => N loc st2
  | .sub o i => wpE S loc o st fun w st1 => wpE S loc i st1 fun k st2 => opt (setSubM st2 w k v) fun st3 => N loc st3

mutual
noncomputable def wpS (S : Sg) : MS → List MV → Objs → (List MV → Objs → Prop) → (List MV → Objs → Prop) → EP → Prop
  | .expr e, loc, st, N, _, _ => wpE S loc e st fun _ st1 => N loc st1
  | .asg t e, loc, st, N, _, _ => wpE S loc e st fun v st1 => wpG S t v loc st1 N
  | .augL i op e, loc, st, N, _, _ => opt (getL loc i) fun o => wpE S loc e st fun v st1 => match op, o, v with
      | .Add, .int a, .int b => N (loc.set i (.int (a + b))) st1
      | _, _, _ => False
  | .augS o i op e, loc, st, N, _, _ => wpE S loc o st fun w st1 => wpE S loc i st1 fun k st2 => opt (subM st2 w k) fun x => wpE S loc e st2 fun v st3 => match op, x, v with
      | .Add, .int a, .int b => opt (setSubM st3 w k (.int (a + b))) fun st4 => N loc st4
      | _, _, _ => False
  | .ret e, loc, st, _, _, R => wpE S loc e st R
  | .ife t a b, loc, st, N, Ct, R => wpB S loc t st fun c st1 => if c = true then wpSs S a loc st1 N Ct R else wpSs S b loc st1 N Ct R
  | .wh t b, loc, st, N, _, R => ∃ Inv : Nat → List MV → Objs → Prop, (∃ n, Inv n loc st) ∧ ∀ n loc1 st1, Inv n loc1 st1 →
      wpB S loc1 t st1 fun c st2 => if c = true then wpSs S b loc1 st2 (fun l s => ∃ m, m < n ∧ Inv m l s) (fun l s => ∃ m, m < n ∧ Inv m l s) R else N loc1 st2
  | .for_ t it b, loc, st, N, _, R => wpE S loc it st fun v st1 => opt (itemsM st1 v) fun xs => xs.length ≤ lim ∧
      ∃ Inv : Nat → List MV → Objs → Prop, Inv 0 loc st1 ∧ ∀ k loc1 st2, Inv k loc1 st2 → itemsM st2 v = some xs ∧
        (match xs[k]? with
          | some x => wpG S t x loc1 st2 fun loc2 st3 => wpSs S b loc2 st3 (fun l s => Inv (k + 1) l s) (fun l s => Inv (k + 1) l s) R
          | none => k = xs.length → N loc1 st2)
  | .cont, loc, st, _, Ct, _ => Ct loc st
  | .delS o lo, loc, st, N, _, _ => wpE S loc o st fun w st1 => wpE S loc lo st1 fun k st2 => match w, k with
      | .obj j, .int n => match st2[j]? with
        | some (.list xs) => 0 ≤ n ∧ n < big ∧ n ≤ xs.length ∧ xs.length ≤ lim ∧ N loc (st2.set j (.list (xs.take n.toNat)))
        | _ => False
      | _, _ => False
  | .bad, _, _, _, _, _ => False
noncomputable def wpSs (S : Sg) : List MS → List MV → Objs → (List MV → Objs → Prop) → (List MV → Objs → Prop) → EP → Prop
  | [], loc, st, N, _, _ => N loc st
  | s :: r, loc, st, N, Ct, R => wpS S s loc st (fun loc1 st1 => wpSs S r loc1 st1 N Ct R) Ct R
end

noncomputable def wpF (S : Sg) (b : List MS) (loc : List MV) (st : Objs) (Q : EP) : Prop :=
  wpSs S b loc st (fun _ st1 => Q .none st1) (fun _ _ => False) Q

end Mine.Lake

set_option tactic.hygienic true

set_option tactic.hygienic false
namespace Mine.Lake

theorem anm_inj : ∀ i, i < 41 → ∀ j, j < 41 → anm i = anm j → i = j := by decide +kernel

theorem idx_get : ∀ {l : List Str} {x : Str} {i : Nat}, idx x l = some i → l[i]? = some x
  | [], _, _, h => by (first | exact no h | cases h)
  | y :: r, x, i, h => by
    unfold idx at h
    split at h
    · rename_i e; (first | exact no h | cases h); subst e; rfl
    · cases e : idx x r with
      | none => rw [e] at h; (first | exact no h | cases h)
      | some j => rw [e] at h; (first | exact no h | cases h); simpa using idx_get e
theorem anm_of {x : Str} {i : Nat} (h : idx x anms = some i) : x = anm i ∧ i < 41 := by
  have := idx_get h
  refine ⟨?_, ?_⟩
  · simp [anm, List.getD, this]
  · have h2 := (List.getElem?_eq_some_iff.mp this).1
    have : anms.length = 41 := by decide
    lia

structure Rel (c : Cx) (μ : Mu) (st : Objs) (s : Shared) : Prop where
  sr : SR c μ st s.heap
  os : s.os = c.os
  gens : s.gens = c.gens

noncomputable def Room (n : Nat) (A : Around) : Prop := A.handled = none ∧ A.depth + 4 * n ≤ 700 ∧ A.units + 16 * n ≤ 4000

theorem Room.handled {n : Nat} {A : Around} (r : Room n A) : A.handled = none := r.1
theorem Room.units {n : Nat} {A : Around} (r : Room n A) : A.units + 1200 < cLine := by
  have := r.2.2
  have e : cLine = 9900 := rfl
  lia

section attrs
variable {c : Cx} {μ : Mu} {h : Heap}

theorem isStr_str (x y : Str) (t : Tok) : (Value.str x t).isStr y = (x == y) := rfl

theorem AR.find {as : List (Nat × MV)} {es : List DictEntry} (r : AR μ h as es) {a : Nat} {x : MV} (ha : lookA as a = some x) :
    ∃ e, es.find? (·.key.isStr (anm a)) = some e ∧ VR μ h x e.val ∧ handedIn e.val = true := by
  induction r with
  | nil => (first | exact no ha | cases ha)
  | @cons b e as es hb r ih =>
    obtain ⟨b1, b2⟩ := b
    obtain ⟨h1, ⟨t, h2⟩, h3⟩ := hb
    unfold lookA at ha
    split at ha
    · rename_i q; (first | exact no ha | cases ha); subst q
      exact ⟨e, by rw [List.find?_cons, h2, isStr_str]; simp, h3⟩
    · rename_i q
      obtain ⟨e', h4, h5⟩ := ih ha
      refine ⟨e', ?_, h5⟩
      rw [List.find?_cons, h2, isStr_str]
      have : (anm b1 == anm a) = false := by
        rw [beq_eq_false_iff_ne]
        intro z
        by_cases la : a < 41
        · exact q (anm_inj b1 (by lia) a la z)
        · have : anm a = Str.ofString "" := by
            have hl : anms.length = 41 := by decide
            simp [anm, List.getD, List.getElem?_eq_none (show anms.length ≤ a by lia)]
          rw [this] at z
          have h13 : ∀ i, i < 13 → anm i ≠ Str.ofString "" := by decide +kernel
          exact h13 b1 h1 z
      rw [this]; exact h4

theorem AR.noRef {as : List (Nat × MV)} {es : List DictEntry} (r : AR μ h as es) : es.any (·.refKey) = false := by
  induction r with
  | nil => rfl
  | @cons b e as es hb r ih =>
    obtain ⟨h1, ⟨t, h2⟩, h3⟩ := hb
    rw [List.any_cons, ih, Bool.or_false]
    simp [DictEntry.refKey, h2]

theorem AR.getL {as : List (Nat × MV)} {es : List DictEntry} (r : AR μ h as es) {a : Nat} {x : MV} (ha : lookA as a = some x) :
    ∃ v, W.getL (anm a) es = some (some v) ∧ VR μ h x v ∧ handedIn v = true := by
  obtain ⟨e, h1, h2⟩ := r.find ha
  exact ⟨e.val, by unfold W.getL; rw [h1], h2⟩

theorem AR.miss {as : List (Nat × MV)} {es : List DictEntry} (r : AR μ h as es) {m : Nat} (hm : 13 ≤ m) (hm' : m < 41) : es.find? (·.key.isStr (anm m)) = none := by
  induction r with
  | nil => rfl
  | @cons b e as es hb r ih =>
    obtain ⟨h1, ⟨t, h2⟩, h3⟩ := hb
    rw [List.find?_cons, h2, isStr_str]
    have : (anm b.1 == anm m) = false := by
      rw [beq_eq_false_iff_ne]
      intro z
      have := anm_inj b.1 (by lia) m hm' z
      lia
    rw [this]; exact ih

theorem AR.getL_none {as : List (Nat × MV)} {es : List DictEntry} (r : AR μ h as es) {m : Nat} (hm : 13 ≤ m) (hm' : m < 41) : W.getL (anm m) es = some none := by
  unfold W.getL
  rw [r.miss hm hm']
  simp only
  rw [r.noRef]; rfl

theorem AR.getL_some {as : List (Nat × MV)} {es : List DictEntry} (r : AR μ h as es) (a : Nat) : (W.getL (anm a) es).isSome = true := by
  unfold W.getL
  split
  · rfl
  · rw [r.noRef]; rfl

theorem AR.put {as : List (Nat × MV)} {es : List DictEntry} (r : AR μ h as es) {a : Nat} (ha : a < 13) (hsh : Int) (t : Tok) {v : MV} {cv : Value} (hv : VR μ h v cv) (hh : handedIn cv = true) :
    AR μ h (putA as a v) (putL (anm a) hsh (.str (anm a) t) cv es) := by
  induction r with
  | nil => exact .cons ⟨ha, ⟨t, rfl⟩, hv, hh⟩ .nil
  | @cons b e as es hb r ih =>
    obtain ⟨b1, b2⟩ := b
    obtain ⟨h1, ⟨t', h2⟩, h3⟩ := hb
    unfold putA putL
    rw [h2, isStr_str]
    by_cases q : b1 = a
    · subst q
      simp only [beq_self_eq_true, if_true]
      exact .cons ⟨h1, ⟨t', rfl⟩, hv, hh⟩ r
    · have : (anm b1 == anm a) = false := by
        rw [beq_eq_false_iff_ne]
        intro z
        exact q (anm_inj b1 (by lia) a (by lia) z)
      rw [this, if_neg q]
      simp only [Bool.false_eq_true, if_false]
      exact .cons ⟨h1, ⟨t', h2⟩, h3⟩ ih
end attrs

theorem handed_of {μ : Mu} {h : Heap} {x : MV} {v : Value} (k : VR μ h x v) (hp : plainV x = true) : handedIn v = true := by
  cases x with
  | unb => (first | exact no hp | cases hp)
  | none => subst k; rfl
  | bool => subst k; rfl
  | int => obtain ⟨_, rfl⟩ := k; rfl
  | str => obtain ⟨_, rfl⟩ := k; rfl
  | tup => obtain ⟨_, _, rfl, _⟩ := k; rfl
  | rng => obtain ⟨_, _, _, _, rfl, _⟩ := k; rfl
  | obj => obtain ⟨_, _, rfl⟩ := k; rfl
  | val y => (first | exact no hp | cases hp)
  | bi b => (first | exact no hp | cases hp)

end Mine.Lake

set_option tactic.hygienic true

open PySem PySem.W PyProof.Rows PySem.Calls
namespace Mine.Lake
set_option tactic.hygienic false

theorem AR.lt {μ : Mu} {h : Heap} {as : List (Nat × MV)} {es : List DictEntry} (r : AR μ h as es) {a : Nat} {x : MV} (ha : lookA as a = some x) : a < 13 := by
  induction r with
  | nil => (first | exact no ha | cases ha)
  | @cons b e as es hb r ih =>
    obtain ⟨b1, b2⟩ := b
    unfold lookA at ha
    split at ha
    · rename_i q; subst q; exact hb.1
    · exact ih ha

structure ClsOK (K : Frag) (C : Addr) : Prop where
  dict : hasDictIn K C = true
  set : findIn K (.ref C) "__setattr__" = some (some (.builtin "object.__setattr__"))
  over : plainOver K C = true
  ga : findIn K (.ref C) "__getattribute__" = some (some (.builtin "object.__getattribute__"))
  gattr : findIn K (.ref C) "__getattr__" = some Option.none
  free : ∀ i, i < 13 → findIn K (.ref C) (anm i) = some none
  take : ∀ i, i < 13 → takerIn K C (anm i) = some none

theorem clsOK_of {K : Frag} {C : Addr} (h : clsOK K C = true) : ClsOK K C := by
  unfold clsOK at h
  rw [Bool.and_eq_true, Bool.and_eq_true, Bool.and_eq_true, Bool.and_eq_true, List.all_eq_true] at h
  obtain ⟨⟨⟨⟨h1, h2⟩, h3⟩, h4⟩, h5⟩ := h
  have h6 : ∀ i, i < 13 → findIn K (.ref C) (anm i) = some none ∧ takerIn K C (anm i) = some none := fun i hi => by
    have := h5 i (List.mem_range.mpr hi)
    rw [Bool.and_eq_true, beq_iff_eq, beq_iff_eq] at this
    exact this
  exact ⟨h1, beq_iff_eq.mp h2, h3, (plainGet_of h4).1, (plainGet_of h4).2, fun i hi => (h6 i hi).1, fun i hi => (h6 i hi).2⟩

section
variable {c : Cx} {μ : Mu} {st : Objs} {s : Shared} {A : Around} {E : Value → Shared → Prop}

theorem Rel.K (R : Rel c μ st s) (X : c.K.In c.h0) : c.K.In s.heap := X.keeps R.sr.keep

theorem Rel.at (R : Rel c μ st s) {i : Nat} {o : MO} (h : st[i]? = some o) : ∃ p, μ[i]? = some p ∧ OR c μ s.heap o p := by
  have hi : i < μ.length := by rw [R.sr.len]; exact (List.getElem?_eq_some_iff.mp h).1
  exact ⟨_, List.getElem?_eq_getElem hi, R.sr.objs i _ o (List.getElem?_eq_getElem hi) h⟩

theorem Rel.ref (R : Rel c μ st s) {i : Nat} {o : MO} {v : Value} (hv : VR μ s.heap (.obj i) v) (h : st[i]? = some o) : ∃ p, v = .ref p.1 ∧ μ[i]? = some p ∧ OR c μ s.heap o p := by
  obtain ⟨p, hp, rfl⟩ := hv
  obtain ⟨q, hq, r⟩ := R.at h
  rw [hp] at hq; (first | exact no hq | cases hq)
  exact ⟨p, rfl, hp, r⟩

theorem instAt_of {C : Addr} {h : Heap} {a d : Addr} {es : List DictEntry} {n : Nat} (ho : h.get? a = some (instObj C d)) (hd : h.get? d = some (dictOf es n)) : W.InstAt h a (instObj C d) C (some (dictOf es n)) :=
  ⟨ho, rfl, rfl, hd⟩

inductive AttrI (st : Objs) (a : Nat) (x : MV) : MV → Prop
  | mk {i : Nat} {C : Addr} {as : List (Nat × MV)} (h1 : st[i]? = some (.inst C as)) (h2 : lookA as a = some x) : AttrI st a x (.obj i)
theorem attrM_inv {st : Objs} {a : Nat} {v x : MV} (h : attrM st v a = some x) : AttrI st a x v := by
  cases v with
  | obj i =>
    unfold attrM at h
    dsimp only at h
    generalize e : st[i]? = o at h
    cases o with
    | none => exact no h
    | some y => cases y with
      | inst => exact .mk e h
      | _ => exact no h
  | _ => exact no h
theorem getAttr_ok (X : c.K.In c.h0) (R : Rel c μ st s) {v : MV} {cv : Value} {a' : Nat} {x : MV} (hv : VR μ s.heap v cv) (h : attrM st v a' = some x) {Q : Value → Shared → Prop}
    (k : ∀ cx, VR μ s.heap x cx → Q cx { s with toks := s.toks + 1 }) : wpAny (model c.prog c.w) A (getAttr cv (anm a') true) Q E s := by
  cases attrM_inv h with | @mk i C as hst h2 => ?_
  · · skip
      obtain ⟨p, rfl, hp, ck, d, es, n, e1, ho, hd, r⟩ := R.ref hv hst
      have CK := clsOK_of ck
      have h13 := AR.lt r h2
      obtain ⟨v', g1, g2, g3⟩ := r.getL h2
      exact get_value (R.K X) (instAt_of ho hd) CK.ga (findObj_own CK.dict (CK.free a' h13) rfl (by rw [lookIn_dict]; exact g1)) g3 (k v' g2)

set_option tactic.hygienic true in
theorem setAttr_core (X : c.K.In s.heap) {C x dx : Addr} {es : List DictEntry} {n : Nat} {name : Str} {v : Value} (CK : ClsOK c.K C) (ht : takerIn c.K C name = some none)
    (ho : s.heap.get? x = some (instObj C dx)) (hd : s.heap.get? dx = some (dictOf es n)) (hl : (W.getL name es).isSome = true) (hz : (putL name (PyData.keyHash c.w.params name) (.str name (s.toks + 1)) v es).length ≤ 1000) {Q : Unit → Shared → Prop}
    (k : Q () { s with heap := s.heap.update dx (Obj.putName name (PyData.keyHash c.w.params name) (.str name (s.toks + 1)) v), toks := s.toks + 2 }) :
    wpAny (model c.prog c.w) A (setAttr (.ref x) name v) Q E s := by
  refine set_plain X (instAt_of ho hd) CK.set (osa_open (s := { s with toks := s.toks + 1 }) X (instAt_of ho hd) CK.over ht fun b => ?_)
  obtain ⟨cd, hc, hcd⟩ := any_some CK.dict
  refine wpAny_bind (wpAny_pure (wpAny_bind (wpAny_bind (wpAny_loadPart ho (wpAny_bind ((looks_clsIn X hc) _ _ _ _ (fun _ _ e => e) ?_))))))
  rw [hcd]
  refine wpAny_pure (a := some dx) (wpAny_bind (wpAny_pure (wpAny_bind ?_)))
  unfold nsSet
  refine wpAny_bind (wpAny_bind (wpAny_askSetting (wpAny_pure (wpAny_bind (wpAny_mkText (wpAny_bind (wpAny_loadPart hd ?_)))))))
  have c0 : (!es.toArray.any (·.key.isStr name) && es.toArray.any (·.refKey)) = false := by
    rw [← Array.any_toList, ← Array.any_toList]
    unfold W.getL at hl
    split at hl
    · rename_i en he
      show (!es.any _ && _) = false
      rw [List.any_eq_true.mpr ⟨en, List.mem_of_find?_eq_some he, List.find?_some he⟩]; rfl
    · split at hl
      · (first | exact no hl | cases hl)
      · rename_i z
        show (!es.any _ && es.any _) = false
        rw [Bool.not_eq_true] at z; rw [z, Bool.and_false]
  dsimp only
  rw [aRefKeyMayBeTheName_at, c0]
  refine wpAny_updatePart hd ?_
  have D' : (s.heap.update dx (Obj.putName name (PyData.keyHash c.w.params name) (.str name (s.toks + 1)) v)).get? dx =
      some (dictOf (putL name (PyData.keyHash c.w.params name) (.str name (s.toks + 1)) v es) (putN name es n)) := by
    rw [← putName_dict]; exact Heap.get?_update_self _ hd (by rw [putName_dict]; rfl)
  refine wpAny_bind (wpAny_lookBehind D' (pastItsLine_dict (by rw [List.size_toArray, sizeLine_eq]; lia)) ?_)
  exact wpAny_pure k

theorem putA_len (as : List (Nat × MV)) (a : Nat) (v : MV) : (putA as a v).length ≤ as.length + 1 := by
  induction as with
  | nil => simp [putA]
  | cons b r ih =>
    obtain ⟨b1, b2⟩ := b
    unfold putA
    split
    · simp
    · simp [ih]

set_option tactic.hygienic true in
theorem setAttr_ok (X : c.K.In c.h0) (R : Rel c μ st s) {v x : MV} {cv cx : Value} {a : Nat} {st' : Objs} (hv : VR μ s.heap v cv) (hx : VR μ s.heap x cx) (h : setAttrM st v a x = some st') {Q : Unit → Shared → Prop}
    (k : ∀ s', Rel c μ st' s' → Grow0 μ s.heap μ s'.heap → Q () s') : wpAny (model c.prog c.w) A (setAttr cv (anm a) cx) Q E s := by
  unfold setAttrM at h
  split at h
  · split at h
    · rename_i C as hst
      split at h
      · rename_i hc
        (first | exact no h | cases h)
        obtain ⟨p, rfl, hp, ck, d, es, n, e1, ho, hd, r⟩ := R.ref hv hst
        have CK := clsOK_of ck
        have P : ∀ hsh t, AR μ s.heap (putA as a x) (putL (anm a) hsh (.str (anm a) t) cx es) := fun hsh t => r.put hc.1 hsh t hx (handed_of hx hc.2.2)
        refine setAttr_core (R.K X) CK (CK.take a hc.1) ho hd (r.getL_some a) ?_ ?_
        · rw [← (P _ _).length]
          have := putA_len as a x
          lia
        have hne : p.1 ≠ d := R.sr.inner _ p.1 d (hp.trans (by cases p; (first | exact no e1 | cases e1); rfl))
        have sb := Heap.SameBut.update s.heap d (Obj.putName (anm a) (PyData.keyHash c.w.params (anm a)) (.str (anm a) (s.toks + 1)) cx)
        have G0 : Grow0 μ s.heap μ (s.heap.update d (Obj.putName (anm a) (PyData.keyHash c.w.params (anm a)) (.str (anm a) (s.toks + 1)) cx)) :=
          ⟨fun _ _ e => e, fun b o e nm _ => (sb.2 b (fun q => nm (q ▸ ⟨_, p, hp, by simp [pa, e1]⟩))).trans e, fun _ _ e1 e2 => (by rw [e1] at e2; exact nomatch e2), fun b o e => by
            by_cases q : b = d
            · subst q; exact ⟨_, Heap.get?_update_self _ hd (by rw [putName_dict]; rfl)⟩
            · exact ⟨o, (sb.2 b q).trans e⟩⟩
        have O : OR c μ (s.heap.update d (Obj.putName (anm a) (PyData.keyHash c.w.params (anm a)) (.str (anm a) (s.toks + 1)) cx)) (.inst C (putA as a x)) p :=
          ⟨ck, d, _, _, e1, (sb.2 p.1 hne).trans ho, by rw [← putName_dict]; exact Heap.get?_update_self _ hd (by rw [putName_dict]; rfl),
            (P _ _).mono fun _ _ q => ⟨q.1, q.2.1, q.2.2.1.mono R.sr G0 (safe_none _), q.2.2.2⟩⟩
        have z := R.sr.set hp (by simp [pa, e1]) sb O
        exact k _ ⟨z.1, R.os, R.gens⟩ z.2
      · (first | exact no h | cases h)
    · (first | exact no h | cases h)
  · (first | exact no h | cases h)
end
end Mine.Lake

set_option tactic.hygienic true

open PySem PySem.W PyProof.Rows PySem.Calls
namespace Mine.Lake
set_option tactic.hygienic false

theorem big_lt {n : Int} (h : n < big) : n < 2 ^ 63 := by unfold big at h; lia

theorem All2.arr {α : Type} {R : α → Value → Prop} {as : List α} {items : Array Value} (h : All2 R as items.toList) {i : Nat} {a : α} (e : as[i]? = some a) : ∃ v, items[i]? = some v ∧ R a v := by
  obtain ⟨v, h1, h2⟩ := h.get e
  exact ⟨v, by rw [← Array.getElem?_toList]; exact h1, h2⟩
theorem All2.size {α : Type} {R : α → Value → Prop} {as : List α} {items : Array Value} (h : All2 R as items.toList) : items.size = as.length := by
  rw [h.length]; rfl

section inv
variable {μ : Mu} {h : Heap}
theorem VR.tup_inv {xs : List MV} {v : Value} (k : VR μ h (.tup xs) v) : ∃ a items, v = .ref a ∧ h.get? a = some { cls := .type "tuple", data := .seq items } ∧ All2 (VR μ h) xs items.toList := by
  obtain ⟨a, items, e, ho, r⟩ := k
  exact ⟨a, items, e, ho, VRs_all2.mp r⟩
theorem VR.int_inv {n : Int} {v : Value} (k : VR μ h (.int n) v) : ∃ t, v = .int n t := k
theorem VR.str_inv {n : Str} {v : Value} (k : VR μ h (.str n) v) : ∃ t, v = .str n t := k
theorem VR.bool_inv {n : Bool} {v : Value} (k : VR μ h (.bool n) v) : v = .bool n := k
theorem VR.none_inv {v : Value} (k : VR μ h .none v) : v = .none := k
theorem VR.int_mk (n : Int) (t : Tok) : VR μ h (.int n) (.int n t) := show ∃ t', Value.int n t = .int n t' from ⟨t, rfl⟩
theorem VR.str_mk (n : Str) (t : Tok) : VR μ h (.str n) (.str n t) := show ∃ t', Value.str n t = .str n t' from ⟨t, rfl⟩
theorem VR.bool_mk (n : Bool) : VR μ h (.bool n) (.bool n) := show Value.bool n = .bool n from rfl
theorem VR.none_mk : VR μ h .none .none := show Value.none = .none from rfl
theorem VR.obj_mk {i : Nat} {p : Addr × Option Addr} (e : μ[i]? = some p) : VR μ h (.obj i) (.ref p.1) := show ∃ p', μ[i]? = some p' ∧ Value.ref p.1 = .ref p'.1 from ⟨p, e, rfl⟩
theorem VR.tup_mk {xs : List MV} {a : Addr} {items : Array Value} (ho : h.get? a = some { cls := .type "tuple", data := .seq items }) (r : All2 (VR μ h) xs items.toList) : VR μ h (.tup xs) (.ref a) := by
  show ∃ (a' : Addr) (items' : Array Value), Value.ref a = .ref a' ∧ h.get? a' = some { cls := .type "tuple", data := .seq items' } ∧ VRs μ h xs items'.toList
  exact ⟨a, items, rfl, ho, VRs_all2.mpr r⟩
theorem VR.rng_mk {a b c : Int} {r : Addr} {t u w : Tok} (ho : h.get? r = some { cls := .type "range", data := .fields #[.int a t, .int b u, .int c w] }) : VR μ h (.rng a b c) (.ref r) := by
  show ∃ (r' : Addr) (t u w : Tok), Value.ref r = .ref r' ∧ h.get? r' = some { cls := .type "range", data := .fields #[.int a t, .int b u, .int c w] }
  exact ⟨r, t, u, w, rfl, ho⟩
end inv

theorem All2.any {α β : Type} {R : α → β → Prop} {p : α → Bool} {q : β → Bool} (h : ∀ a b, R a b → p a = q b) : ∀ {as : List α} {bs : List β}, All2 R as bs → as.any p = bs.any q
  | _, _, .nil => rfl
  | _, _, .cons x y => by rw [List.any_cons, List.any_cons, h _ _ x, y.any h]
theorem All2.map {α β γ δ : Type} {R : α → β → Prop} {S : γ → δ → Prop} {f : α → γ} {g : β → δ} (h : ∀ a b, R a b → S (f a) (g b)) : ∀ {as : List α} {bs : List β}, All2 R as bs → All2 S (as.map f) (bs.map g)
  | _, _, .nil => .nil
  | _, _, .cons x y => .cons (h _ _ x) (y.map h)

section kv
variable {K : Type} [DecidableEq K] {μ : Mu} {h : Heap}
noncomputable abbrev KV (K : Type) (μ : Mu) (h : Heap) := All2 (fun (a : K × MV) (b : K × Value) => a.1 = b.1 ∧ VR μ h a.2 b.2)
theorem KV.look {kvs : List (K × MV)} {es : List (K × Value)} (r : KV K μ h kvs es) (k : K) : (lookM kvs k = none ∧ valueAt es k = none) ∨ ∃ x v, lookM kvs k = some x ∧ valueAt es k = some v ∧ VR μ h x v := by
  unfold lookM valueAt
  induction r with
  | nil => exact .inl ⟨rfl, rfl⟩
  | @cons a b as bs hab r ih =>
    obtain ⟨e, hv⟩ := hab
    rw [List.find?_cons, List.find?_cons, ← e]
    by_cases q : a.1 = k
    · simp only [q, decide_true]
      exact .inr ⟨_, _, rfl, rfl, hv⟩
    · simp only [q, decide_false]
      exact ih
theorem KV.isSome {kvs : List (K × MV)} {es : List (K × Value)} (r : KV K μ h kvs es) (k : K) : (valueAt es k).isSome = (lookM kvs k).isSome := by
  rcases r.look k with ⟨a, b⟩ | ⟨x, v, a, b, _⟩ <;> rw [a, b] <;> rfl
theorem KV.put {kvs : List (K × MV)} {es : List (K × Value)} (r : KV K μ h kvs es) (k : K) {x : MV} {v : Value} (hv : VR μ h x v) : KV K μ h (putM kvs k x) (stored es k v) := by
  unfold putM stored
  have e : (kvs.any fun kv => decide (kv.1 = k)) = es.any fun kv => decide (kv.1 = k) := r.any fun a b q => by rw [q.1]
  rw [e]
  split
  · exact All2.map (fun a b q => by
      obtain ⟨e, w⟩ := q
      rw [← e]
      by_cases z : a.1 = k
      · rw [if_pos z, if_pos z]; exact ⟨rfl, hv⟩
      · rw [if_neg z, if_neg z]; exact ⟨e, w⟩) r
  · exact All2.append r (.cons ⟨rfl, hv⟩ .nil)

noncomputable abbrev KT (K : Type) (μ : Mu) (h : Heap) := All2 (fun (a : K × MV) (b : K × Addr × Value) => a.1 = b.1 ∧ VR μ h a.2 b.2.2)
theorem KT.look {kvs : List (K × MV)} {es : List (K × Addr × Value)} (r : KT K μ h kvs es) (k : K) : (lookM kvs k = none ∧ atKey es k = none) ∨ ∃ x p, lookM kvs k = some x ∧ atKey es k = some p ∧ VR μ h x p.2 := by
  unfold lookM atKey
  induction r with
  | nil => exact .inl ⟨rfl, rfl⟩
  | @cons a b as bs hab r ih =>
    obtain ⟨e, hv⟩ := hab
    rw [List.find?_cons, List.find?_cons, ← e]
    by_cases q : a.1 = k
    · simp only [q, decide_true]
      exact .inr ⟨_, _, rfl, rfl, hv⟩
    · simp only [q, decide_false]
      exact ih
theorem any_atKey (es : List (K × Addr × Value)) (k : K) : (atKey es k).isSome = es.any fun x => decide (x.1 = k) := by
  unfold atKey
  rw [Option.isSome_map]
  induction es with
  | nil => rfl
  | cons a r ih =>
    rw [List.find?_cons, List.any_cons]
    by_cases q : a.1 = k
    · simp [q]
    · simp only [q, decide_false, Bool.false_or]; exact ih
theorem KT.put {kvs : List (K × MV)} {es : List (K × Addr × Value)} (r : KT K μ h kvs es) (k : K) {x : MV} {v : Value} (a : Addr) (hv : VR μ h x v) : KT K μ h (putM kvs k x) (storedH es k a v) := by
  unfold putM storedH
  have e : (kvs.any fun kv => decide (kv.1 = k)) = es.any fun kv => decide (kv.1 = k) := r.any fun a b q => by rw [q.1]
  rw [e, any_atKey]
  split
  · exact All2.map (fun a b q => by
      obtain ⟨e, w⟩ := q
      unfold putAt
      rw [← e]
      by_cases z : a.1 = k
      · rw [if_pos z, if_pos z]; exact ⟨rfl, hv⟩
      · rw [if_neg z, if_neg z]; exact ⟨e, w⟩) r
  · exact All2.append r (.cons ⟨rfl, hv⟩ .nil)
end kv

theorem keyOf_items {prog : Program} {w : World} {μ : Mu} {h : Heap} : ∀ {xs : List MV} {key : List Int} {vs : List Value}, keyOf xs = some key → All2 (VR μ h) xs vs → PySem.ItemsAre (intKind prog w) key vs
  | [], key, vs, e, r => by (first | exact no e | cases e); cases r; exact .nil
  | x :: xs, key, vs, e, r => by
    cases r with
    | cons hv r =>
      cases x with
      | int i =>
        replace e : (keyOf xs).map (i :: ·) = some key := e
        cases e2 : keyOf xs with
        | none => rw [e2] at e; (first | exact no e | cases e)
        | some ks =>
          rw [e2] at e; (first | exact no e | cases e)
          obtain ⟨t, rfl⟩ := hv.int_inv
          exact .cons (by simp [intKind, Value.isInt]) (keyOf_items e2 r)
      | _ => exact no e

section ops
variable {c : Cx} {μ : Mu} {st : Objs} {s : Shared} {A : Around} {E : Value → Shared → Prop}

theorem keyOf_tuple {xs : List MV} {key : List Int} {v : Value} (e : keyOf xs = some key) (k : VR μ s.heap (.tup xs) v) : ∃ a, v = .ref a ∧ (tupleKind (intKind c.prog c.w)).is s.heap key a := by
  obtain ⟨a, items, rfl, ho, r⟩ := k.tup_inv
  exact ⟨a, rfl, _, items, _, ho, rfl, rfl, keyOf_items e r⟩

/- what an abstract value must be, where a match gave something -/
section views
variable {α : Type} {x : α}
theorem v_int {v : MV} {f : Int → Option α} (h : (match v with | .int n => f n | _ => none) = some x) : ∃ n, v = .int n ∧ f n = some x := by
  cases v with
  | int n => exact ⟨n, rfl, h⟩
  | _ => exact no h
theorem v_none {v : MV} {f : Option α} (h : (match v with | .none => f | _ => none) = some x) : v = .none ∧ f = some x := by
  cases v with
  | none => exact ⟨rfl, h⟩
  | _ => exact no h
end views

inductive SubI (st : Objs) (v : MV) (n : Int) (x : MV) : Prop
  | tup (xs : List MV) (h1 : v = .tup xs) (h2 : 0 ≤ n) (h3 : n < big) (h4 : xs[n.toNat]? = some x)
  | list (i : Nat) (xs : List MV) (h1 : v = .obj i) (h2 : st[i]? = some (.list xs)) (h3 : 0 ≤ n) (h4 : n < big) (h5 : xs[n.toNat]? = some x)
  | dict (i : Nat) (kvs : List (Int × MV)) (h1 : v = .obj i) (h2 : st[i]? = some (.dictI kvs)) (h3 : lookM kvs n = some x)
set_option tactic.hygienic true in
theorem subM_inv {v k x : MV} (h : subM st v k = some x) : ∃ n, k = .int n ∧ SubI st v n x := by
  unfold subM at h
  cases k <;> first | ((first | exact no h | cases h); done) | skip
  rename_i n
  refine ⟨n, rfl, ?_⟩
  cases v <;> first | ((first | exact no h | cases h); done) | skip
  · obtain ⟨hc, h⟩ := ite_some h
    exact .tup _ rfl hc.1 hc.2 h
  · rename_i i
    dsimp only at h
    generalize e : st[i]? = o at h
    cases o with
    | none => exact no h
    | some y => cases y with
      | list =>
        obtain ⟨hc, h⟩ := ite_some h
        exact .list _ _ rfl e hc.1 hc.2 h
      | dictI => exact .dict _ _ rfl e h
      | _ => exact no h

theorem sub_ok (R : Rel c μ st s) {value slice : Expr} {v k x : MV} {cv ck : Value} (hv : VR μ s.heap v cv) (hk : VR μ s.heap k ck) (h : subM st v k = some x)
    (hs : ∀ a i t, subscripted slice false (.ref a) (.int i t) = operate [.ref a, .int i t] (getItem (.ref a) (.int i t))) {Q : Value → Shared → Prop}
    (q : ∀ cx tk, VR μ s.heap x cx → Q cx { s with toks := tk }) : wpAny (model c.prog c.w) A (subscriptTail value slice cv ck) Q E s := by
  obtain ⟨n, rfl, H⟩ := subM_inv h
  obtain ⟨t, rfl⟩ := hk.int_inv
  rcases H with ⟨xs, rfl, h0, h1, hx⟩ | ⟨i, xs, rfl, hst, h0, h1, hx⟩ | ⟨i, kvs, rfl, hst, hl⟩
  · obtain ⟨a, items, rfl, ho, r⟩ := hv.tup_inv
    obtain ⟨cx, e1, e2⟩ := r.arr hx
    have hT : IsTup s.heap a items.toList.toArray := by rw [Array.toArray_toList]; exact ⟨_, ho, rfl, _, rfl⟩
    have hlt : n.toNat < items.size := (Array.getElem?_eq_some_iff.mp e1).1
    exact item_tupleT (l := items.toList) hT (by lia) (big_lt h1) (seqIndex_at h0 (by rw [Array.length_toList]; lia)) (by rw [Array.getElem?_toList]; exact e1) (q cx s.toks e2) (hs _ _ _)
  · obtain ⟨p, rfl, hp, _, items, ⟨m, ho⟩, r⟩ := R.ref hv hst
    obtain ⟨cx, e1, e2⟩ := r.arr hx
    have hl : s.heap.IsList p.1 items := ⟨_, ho, rfl, _, rfl⟩
    exact tail_any hl.typeIs slot_list_getitem.lookup (wpAny_getItem_list hl h0 (big_lt h1) e1 (q cx s.toks e2)) (hs _ _ _)
  · obtain ⟨p, rfl, hp, _, _, es, hd, r⟩ := R.ref hv hst
    rcases KV.look r n with ⟨e, _⟩ | ⟨x', cx, e, e1, e2⟩
    · rw [hl] at e; (first | exact no e | cases e)
    · rw [hl] at e; (first | exact no e | cases e)
      exact tail_any hd.typeIs slot_dict_getitem.lookup (wpAny_getItem_of (by simp [intKind, Value.isInt]) hd.mapOf e1 (q cx _ e2)) (hs _ _ _)

theorem Rel.list (R : Rel c μ st s) {i : Nat} {p : Addr × Option Addr} {xs ys : List MV} {items : Array Value} {h' : Heap} (hp : μ[i]? = some p) (hst : st[i]? = some (.list xs))
    (hs : Heap.SameBut p.1 s.heap h') (ho : h'.PlainList p.1 items) (r : All2 (VR μ s.heap) ys items.toList) : SR c μ (st.set i (.list ys)) h' ∧ Grow0 μ s.heap μ h' := by
  have G : Grow0 μ s.heap μ h' := ⟨fun _ _ e => e, fun b o e nm _ => (hs.2 b (fun q => nm (q ▸ ⟨i, p, hp, by simp [pa]⟩))).trans e, fun _ _ e1 e2 => (by rw [e1] at e2; exact nomatch e2), fun b o e => by
    by_cases q : b = p.1
    · subst q; obtain ⟨n, z⟩ := ho; exact ⟨_, z⟩
    · exact ⟨o, (hs.2 b q).trans e⟩⟩
  obtain ⟨q, hq, k⟩ := R.at hst
  rw [hp] at hq; (first | exact no hq | cases hq)
  exact R.sr.set hp (by simp [pa]) hs ⟨k.1, items, ho, r.mono fun _ _ q => q.mono R.sr G (safe_none _)⟩

theorem same_grow {μ : Mu} {h h' : Heap} {i : Nat} {p : Addr × Option Addr} {b : Addr} (hp : μ[i]? = some p) (hb : b ∈ pa p) (hs : Heap.SameBut b h h') (hl : ∃ o, h'.get? b = some o) : Grow0 μ h μ h' :=
  ⟨fun _ _ e => e, fun a o e nm _ => (hs.2 a (fun q => nm (q ▸ ⟨i, p, hp, hb⟩))).trans e, fun _ _ e1 e2 => (by rw [e1] at e2; exact nomatch e2), fun a o e => by
    by_cases q : a = b
    · subst q; exact hl
    · exact ⟨o, (hs.2 a q).trans e⟩⟩

inductive SetSubI (st : Objs) (i : Nat) (k x : MV) (st' : Objs) : Prop
  | list (n : Int) (xs : List MV) (h1 : k = .int n) (h2 : st[i]? = some (.list xs)) (h3 : 0 ≤ n) (h4 : n < big) (h5 : n < xs.length) (h6 : st' = st.set i (.list (xs.set n.toNat x)))
  | dictI (n : Int) (kvs : List (Int × MV)) (h1 : k = .int n) (h2 : st[i]? = some (.dictI kvs)) (h3 : kvs.length ≤ lim) (h4 : st' = st.set i (.dictI (putM kvs n x)))
  | dictS (n : Str) (kvs : List (Str × MV)) (h1 : k = .str n) (h2 : st[i]? = some (.dictS kvs)) (h3 : kvs.length ≤ lim) (h4 : st' = st.set i (.dictS (putM kvs n x)))
  | dictT (ks : List MV) (key : List Int) (kvs : List (List Int × MV)) (h1 : k = .tup ks) (h2 : keyOf ks = some key) (h3 : st[i]? = some (.dictT kvs)) (h4 : kvs.length ≤ lim) (h5 : st' = st.set i (.dictT (putM kvs key x)))
set_option tactic.hygienic true in
theorem setSubM_inv {v k x : MV} {st' : Objs} (h : setSubM st v k x = some st') : ∃ i, v = .obj i ∧ SetSubI st i k x st' := by
  unfold setSubM at h
  cases v <;> first | ((first | exact no h | cases h); done) | skip
  rename_i i
  refine ⟨i, rfl, ?_⟩
  cases k <;> first | ((first | exact no h | cases h); done) | skip
  all_goals dsimp only at h
  all_goals generalize e : st[i]? = o at h
  all_goals cases o with
    | none => exact no h
    | some y => ?_
  · cases y with
    | list => obtain ⟨hc, h⟩ := ite_some h; cases h; exact .list _ _ rfl e hc.1 hc.2.1 hc.2.2 rfl
    | dictI => obtain ⟨hc, h⟩ := ite_some h; cases h; exact .dictI _ _ rfl e hc rfl
    | _ => exact no h
  · cases y with
    | dictS => obtain ⟨hc, h⟩ := ite_some h; cases h; exact .dictS _ _ rfl e hc rfl
    | _ => exact no h
  · rename_i ks
    cases y with
    | dictT =>
      dsimp only at h
      generalize e2 : keyOf ks = q at h
      cases q with
      | none => exact no h
      | some => obtain ⟨hc, h⟩ := ite_some h; cases h; exact .dictT _ _ _ rfl e2 e hc rfl
    | _ => exact no h

theorem lim_le {n : Nat} (h : n ≤ lim) : n ≤ sizeLine := by unfold lim at h; rw [sizeLine_eq]; lia

theorem setSub_ok (R : Rel c μ st s) (hu : A.units + 1200 < cLine) {v k x : MV} {cv ck cx : Value} {st' : Objs} (hv : VR μ s.heap v cv) (hk : VR μ s.heap k ck) (hx : VR μ s.heap x cx) (h : setSubM st v k x = some st')
    {Q : Unit → Shared → Prop} (q : ∀ s', Rel c μ st' s' → Grow0 μ s.heap μ s'.heap → Q () s') : wpAny (model c.prog c.w) A (setItem cv ck cx) Q E s := by
  obtain ⟨i, rfl, H⟩ := setSubM_inv h
  rcases H with ⟨n, xs, rfl, hst, h0, h1, hn, rfl⟩ | ⟨n, kvs, rfl, hst, hz, rfl⟩ | ⟨n, kvs, rfl, hst, hz, rfl⟩ | ⟨ks, key, kvs, rfl, hkey, hst, hz, rfl⟩
  · obtain ⟨p, rfl, hp, e1, items, ⟨m, ho⟩, r⟩ := R.ref hv hst
    obtain ⟨t, rfl⟩ := hk.int_inv
    have hsz := r.size
    refine ki_setAt (n := m) ho h0 (big_lt h1) (by lia) (q _ ?_ ?_)
    all_goals
      have sb := Heap.SameBut.update s.heap p.1 (Obj.mapSeq (·.setIfInBounds n.toNat cx))
      have pl : (s.heap.update p.1 (Obj.mapSeq (·.setIfInBounds n.toNat cx))).PlainList p.1 (items.setIfInBounds n.toNat cx) := ⟨_, Heap.get?_update_self (Obj.mapSeq (·.setIfInBounds n.toNat cx)) ho rfl⟩
      have z := R.list hp hst sb pl (ys := xs.set n.toNat x) (by rw [Array.toList_setIfInBounds]; exact r.set hx)
    · exact ⟨z.1, R.os, R.gens⟩
    · exact z.2
  · obtain ⟨p, rfl, hp, e1, lo, es, hd, r⟩ := R.ref hv hst
    obtain ⟨t, rfl⟩ := hk.int_inv
    have hl : es.length ≤ sizeLine := by rw [← All2.length r]; exact lim_le hz
    refine wpAny_setItem_pairs (k := n) (by simp [intKind, Value.isInt]) hd (fun h' hd' sb => ?_) hl
    have G : Grow0 μ s.heap μ h' := same_grow hp (by simp [pa]) sb (dictOf_live hd')
    have z := R.sr.set (mo := .dictI (putM kvs n x)) hp (by simp [pa]) sb ⟨e1, lo, _, hd', (KV.put r n hx).mono fun _ _ q => ⟨q.1, q.2.mono R.sr G (safe_none _)⟩⟩
    exact q _ ⟨z.1, R.os, R.gens⟩ G
  · obtain ⟨p, rfl, hp, e1, lo, es, hd, r⟩ := R.ref hv hst
    obtain ⟨t, rfl⟩ := hk.str_inv
    have hl : es.length ≤ sizeLine := by rw [← All2.length r]; exact lim_le hz
    refine wpAny_setItem_pairs (k := n) (by show Value.isStrOf n (Value.str n t) = true; simp [Value.isStrOf]) hd (fun h' hd' sb => ?_) hl
    have G : Grow0 μ s.heap μ h' := same_grow hp (by simp [pa]) sb (dictOf_live hd')
    have z := R.sr.set (mo := .dictS (putM kvs n x)) hp (by simp [pa]) sb ⟨e1, lo, _, hd', (KV.put r n hx).mono fun _ _ q => ⟨q.1, q.2.mono R.sr G (safe_none _)⟩⟩
    exact q _ ⟨z.1, R.os, R.gens⟩ G
  · obtain ⟨p, rfl, hp, e1, lo, es, hd, r⟩ := R.ref hv hst
    obtain ⟨a, rfl, hka⟩ := keyOf_tuple (c := c) hkey hk
    have hl : es.length ≤ sizeLine := by rw [← All2.length r]; exact lim_le hz
    refine wpAny_setItem_heap (tupleKind_room_in1 (by lia)) hka hd (fun h' hd' sb => ?_) hl
    have G : Grow0 μ s.heap μ h' := same_grow hp (by simp [pa]) sb (by obtain ⟨o, _, _, ho, _⟩ := hd'; exact ⟨o, ho⟩)
    have z := R.sr.set (mo := .dictT (putM kvs key x)) hp (by simp [pa]) sb ⟨e1, lo, _, hd', (KT.put r key a hx).mono fun _ _ q => ⟨q.1, q.2.mono R.sr G (safe_none _)⟩⟩
    exact q _ ⟨z.1, R.os, R.gens⟩ G
end ops
end Mine.Lake

set_option tactic.hygienic true

open PySem PySem.W PyProof.Rows PySem.Calls
namespace Mine.Lake
set_option tactic.hygienic false

noncomputable def Post (c : Cx) (μ : Mu) (h : Heap) (r : MV) (st' : Objs) (Q : Value → Shared → Prop) : Prop :=
  ∀ μ' cx s', Rel c μ' st' s' → Grow0 μ h μ' s'.heap → VR μ' s'.heap r cx → Q cx s'

section
variable {c : Cx} {μ : Mu} {st : Objs} {s : Shared} {A : Around} {E : Value → Shared → Prop}

theorem Rel.toks (R : Rel c μ st s) (k : Nat) : Rel c μ st { s with toks := k } := ⟨R.sr, R.os, R.gens⟩
theorem Rel.push (R : Rel c μ st s) (o : Obj) (k : Nat) : Rel c μ st { s with heap := s.heap.push o, toks := k } := ⟨R.sr.push o, R.os, R.gens⟩

theorem Post.at (R : Rel c μ st s) {r : MV} {Q : Value → Shared → Prop} (q : Post c μ s.heap r st Q) {cx : Value} (hv : VR μ s.heap r cx) (k : Nat) : Q cx { s with toks := k } :=
  q μ cx _ (R.toks k) (Grow.refl _ _ _) hv
theorem Post.at0 (R : Rel c μ st s) {r : MV} {Q : Value → Shared → Prop} (q : Post c μ s.heap r st Q) {cx : Value} (hv : VR μ s.heap r cx) : Q cx s := q μ cx s R (Grow.refl _ _ _) hv

theorem Post.after {h h1 : Heap} {μ1 : Mu} {r : MV} {st' : Objs} {Q : Value → Shared → Prop} (G : Grow0 μ h μ1 h1) (q : Post c μ h r st' Q) : Post c μ1 h1 r st' Q :=
  fun μ' cx s' R G' v => q μ' cx s' R (G.trans G') v

theorem Rel.newList (R : Rel c μ st s) {h' : Heap} {l : Addr} {items : Array Value} {xs : List MV} (hk : ∀ a o, s.heap.get? a = some o → h'.get? a = some o) (hn : s.heap.get? l = none) (hl : h'.PlainList l items) (r : All2 (VR μ s.heap) xs items.toList) (k : Nat) :
    Rel c (μ ++ [(l, none)]) (st ++ [.list xs]) { s with heap := h', toks := k } ∧ Grow0 μ s.heap (μ ++ [(l, none)]) h' := by
  have G : Grow0 μ s.heap (μ ++ [(l, none)]) h' := ⟨fun i q e => by rw [List.getElem?_append_left (List.getElem?_eq_some_iff.mp e).1]; exact e,
    fun a o e _ _ => hk a o e, fun i q e1 e2 a ha => by
      rcases get_snoc e1 with e | ⟨_, rfl⟩
      · rw [e] at e2; (first | exact no e2 | cases e2)
      · simp [pa] at ha; subst ha; exact hn, fun a o e => ⟨o, hk a o e⟩⟩
  have z := R.sr.alloc (p := (l, none)) (mo := .list xs) hk (by simpa [pa] using hn) (fun d e => by (first | exact no e | cases e)) ⟨rfl, items, hl, r.mono fun _ _ q => q.mono R.sr G (safe_none _)⟩
  exact ⟨⟨z.1, R.os, R.gens⟩, z.2⟩

theorem get_size (h : Heap) : h.get? h.objs.size = none := by
  cases e : h.get? h.objs.size with
  | none => rfl
  | some o => exact absurd (Heap.lt_size e) (Nat.lt_irrefl _)

theorem VR.new {h' : Heap} {l : Addr} {i : Nat} (hi : i = μ.length) : VR (μ ++ [(l, none)]) h' (.obj i) (.ref l) := by
  subst hi; exact VR.obj_mk (p := (l, none)) (by simp)

theorem Post.list (R : Rel c μ st s) {xs : List MV} {items : Array Value} {Q : Value → Shared → Prop} (q : Post c μ s.heap (.obj st.length) (st ++ [.list xs]) Q) (r : All2 (VR μ s.heap) xs items.toList) (k : Nat) (ep : Nat) :
    Q (.ref s.heap.objs.size) { s with heap := s.heap.push { cls := .type "list", data := .seq items ep }, toks := k } := by
  have z := R.newList (h' := s.heap.push { cls := .type "list", data := .seq items ep }) (l := s.heap.objs.size) (fun a o e => Heap.get?_push_of_some _ e) (get_size _) ⟨ep, Heap.get?_push_size _ rfl⟩ r k
  exact q _ _ _ z.1 z.2 (VR.new R.sr.len.symm)

theorem Grow.pushed (h : Heap) (o : Obj) : Grow0 μ h μ (h.push o) := Grow.push none_ μ h o

theorem Post.tup (R : Rel c μ st s) {xs : List MV} {items : Array Value} {Q : Value → Shared → Prop} (q : Post c μ s.heap (.tup xs) st Q) (r : All2 (VR μ s.heap) xs items.toList) (k : Nat) :
    Q (.ref s.heap.objs.size) { s with heap := s.heap.push { cls := .type "tuple", data := .seq items }, toks := k } := by
  refine q μ _ _ (R.push _ k) (Grow.pushed _ _) (VR.tup_mk (Heap.get?_push_size _ rfl) (r.mono fun _ _ v => v.mono R.sr (Grow.pushed _ _) (safe_none _)))

/- slices -/
theorem listM_inv {v : MV} {xs : List MV} (h : listM st v = some xs) : ∃ i, v = .obj i ∧ st[i]? = some (.list xs) ∧ xs.length ≤ lim := by
  unfold listM at h
  cases v <;> first | ((first | exact no h | cases h); done) | skip
  simp only at h
  split at h
  · rename_i e
    obtain ⟨hc, h⟩ := ite_some h
    (first | exact no h | cases h)
    exact ⟨_, rfl, e, hc⟩
  · (first | exact no h | cases h)

inductive SlcI (xs ys : List MV) (a b d : MV) : Prop
  | upto (n : Int) (h1 : a = .none) (h2 : b = .int n) (h3 : d = .none) (h4 : 0 ≤ n) (h5 : ys = xs.take n.toNat)
  | from_ (n : Int) (h1 : a = .int n) (h2 : b = .none) (h3 : d = .none) (h4 : 0 ≤ n) (h5 : ys = xs.drop n.toNat)
  | back (h1 : a = .none) (h2 : b = .none) (h3 : d = .int (-1)) (h4 : ys = xs.reverse)
theorem slcL_inv {xs ys : List MV} {a b d : MV} (h : slcL xs a b d = some ys) : SlcI xs ys a b d := by
  cases d with
  | none =>
    cases a with
    | none =>
      obtain ⟨n, rfl, h⟩ := v_int h
      obtain ⟨hc, h⟩ := ite_some h
      cases h
      exact .upto _ rfl rfl rfl hc.1 rfl
    | int n =>
      obtain ⟨rfl, h⟩ := v_none h
      obtain ⟨hc, h⟩ := ite_some h
      cases h
      exact .from_ _ rfl rfl rfl hc.1 rfl
    | _ => exact no h
  | int n =>
    obtain ⟨rfl, h⟩ := v_none h
    obtain ⟨rfl, h⟩ := v_none h
    obtain ⟨rfl, h⟩ := ite_some h
    cases h
    exact .back rfl rfl rfl rfl
  | _ => exact no h

noncomputable def ListAt (μ : Mu) (h : Heap) (cv : Value) (xs : List MV) : Prop := ∃ p items, cv = .ref p ∧ h.IsList p items ∧ All2 (VR μ h) xs items.toList ∧ xs.length ≤ lim

theorem slice_ok (R : Rel c μ st s) {a b d : MV} {xs ys : List MV} {cv ca cb cd : Value} {sl : Addr} (hl : ListAt μ s.heap cv xs) (hs : s.heap.IsSliceOf sl ca cb cd)
    (ha : VR μ s.heap a ca) (hb : VR μ s.heap b cb) (hd : VR μ s.heap d cd) (h2 : slcL xs a b d = some ys) {Q : Value → Shared → Prop}
    (q : Post c μ s.heap (.obj st.length) (st ++ [.list ys]) Q) : wpAny (model c.prog c.w) A (getItem cv (.ref sl)) Q E s := by
  obtain ⟨p, items, rfl, hl, r, hlen⟩ := hl
  have hz : items.size ≤ sizeLine := by rw [r.size]; exact lim_le hlen
  have toN : ∀ {n : Int}, 0 ≤ n → some n = some ((n.toNat : Nat) : Int) := fun h => by rw [Int.toNat_of_nonneg h]
  rcases slcL_inv h2 with ⟨n, rfl, rfl, rfl, h0, rfl⟩ | ⟨n, rfl, rfl, rfl, h0, rfl⟩ | ⟨rfl, rfl, rfl, rfl⟩
  · obtain ⟨t, rfl⟩ := hb.int_inv
    obtain rfl := ha.none_inv
    obtain rfl := hd.none_inv
    refine wpAny_getItem_list_slice hl hs .none (.int n t) .none (by simp) ?_ hz
    rw [toN h0, slicePick_upto']
    exact Post.list R q (by simpa using r.take n.toNat) s.toks 0
  · obtain ⟨t, rfl⟩ := ha.int_inv
    obtain rfl := hb.none_inv
    obtain rfl := hd.none_inv
    refine wpAny_getItem_list_slice hl hs (.int n t) .none .none (by simp) ?_ hz
    rw [toN h0, slicePick_from']
    exact Post.list R q (by simpa using r.drop n.toNat) s.toks 0
  · obtain ⟨t, rfl⟩ := hd.int_inv
    obtain rfl := ha.none_inv
    obtain rfl := hb.none_inv
    refine wpAny_getItem_list_slice hl hs .none .none (.int (-1) t) (by simp) ?_ hz
    rw [krv_pick]
    exact Post.list R q (by simpa using r.reverse) s.toks 0

/- binary operations -/
inductive BinI (op : Operator) (x y : Int) (v : MV) : Prop
  | add (h1 : op = .Add) (h2 : v = .int (x + y))
  | sub (h1 : op = .Sub) (h2 : v = .int (x - y))
  | mul (h1 : op = .Mult) (h2 : -big < x) (h3 : x < big) (h4 : v = .int (x * y))
  | mod (h1 : op = .Mod) (h2 : 0 < y) (h3 : v = .int (x % y))
inductive BinJ (st : Objs) (op : Operator) (a b : MV) (r : MV × Objs) : Prop
  | ints (x y : Int) (h1 : a = .int x) (h2 : b = .int y) (h3 : r.2 = st) (h4 : BinI op x y r.1)
  | cat (i j : Nat) (xs ys : List MV) (h1 : op = .Add) (h2 : a = .obj i) (h3 : b = .obj j) (h4 : listM st (.obj i) = some xs) (h5 : listM st (.obj j) = some ys) (h6 : r = (.obj st.length, st ++ [.list (xs ++ ys)]))
  | rep (i : Nat) (x : MV) (h1 : op = .Mult) (h2 : a = .obj i) (h3 : b = .int 5) (h4 : listM st (.obj i) = some [x]) (h5 : r = (.obj st.length, st ++ [.list (List.replicate 5 x)]))
set_option tactic.hygienic true in
theorem binM_inv {op : Operator} {a b : MV} {r : MV × Objs} (h : binM op a b st = some r) : BinJ st op a b r := by
  cases a with
  | int x =>
    obtain ⟨y, rfl, h⟩ := v_int h
    cases op
    case Add => cases h; exact .ints _ _ rfl rfl rfl (.add rfl rfl)
    case Sub => cases h; exact .ints _ _ rfl rfl rfl (.sub rfl rfl)
    case Mult => obtain ⟨hc, h⟩ := ite_some h; cases h; exact .ints _ _ rfl rfl rfl (.mul rfl hc.1 hc.2.1 rfl)
    case Mod => obtain ⟨hc, h⟩ := ite_some h; cases h; exact .ints _ _ rfl rfl rfl (.mod rfl hc rfl)
    all_goals exact no h
  | obj i =>
    cases b with
    | obj j =>
      cases op
      case Add =>
        unfold binM at h
        dsimp only at h
        generalize h1 : listM st (.obj i) = o at h
        cases o with
        | none => exact no h
        | some l =>
          dsimp only at h
          generalize h2 : listM st (.obj j) = o at h
          cases o with
          | none => exact no h
          | some => cases h; exact .cat _ _ _ _ rfl rfl rfl h1 h2 rfl
      all_goals exact no h
    | int n =>
      cases op
      case Mult =>
        unfold binM at h
        dsimp only at h
        generalize h1 : listM st (.obj i) = o at h
        cases o with
        | none => exact no h
        | some l => cases l with
          | nil => exact no h
          | cons x l => cases l with
            | nil => obtain ⟨hc, h⟩ := ite_some h; cases h; subst hc; exact .rep _ _ rfl rfl rfl h1 rfl
            | cons => exact no h
      all_goals exact no h
    | _ => exact no h
  | _ => exact no h

theorem fold_replicate (x : Value) : List.foldl (fun (x1 x2 : Array Value) => x1 ++ x2) #[] (List.replicate 5 #[x]) = #[x, x, x, x, x] := rfl

theorem bin_ok (R : Rel c μ st s) {op : Operator} {a b : MV} {ca cb : Value} {r : MV × Objs} (ha : VR μ s.heap a ca) (hb : VR μ s.heap b cb) (h : binM op a b st = some r) {Q : Value → Shared → Prop}
    (q : Post c μ s.heap r.1 r.2 Q) : wpAny (model c.prog c.w) A (binaryOp op ca cb) Q E s := by
  rcases binM_inv h with ⟨x, y, rfl, rfl, e2, H⟩ | ⟨i, j, xs, ys, rfl, rfl, rfl, h1, h2, rfl⟩ | ⟨i, x, rfl, rfl, rfl, h1, rfl⟩
  · obtain ⟨t, rfl⟩ := ha.int_inv
    obtain ⟨u, rfl⟩ := hb.int_inv
    rw [e2] at q
    rcases H with ⟨rfl, e⟩ | ⟨rfl, e⟩ | ⟨rfl, b1, b2, e⟩ | ⟨rfl, hy, e⟩ <;> rw [e] at q
    · exact PyProof.Rows.add_int (q.at R (VR.int_mk _ _) _)
    · exact PyProof.Rows.sub_int (q.at R (VR.int_mk _ _) _)
    · exact PyProof.Rows.mul_int (q.at R (VR.int_mk _ _) _) (.of_left (intBits_le_64 (by unfold big at b1; lia) (by unfold big at b2; lia)))
    · refine mod_int' (by lia) ?_
      rw [Int.fmod_eq_emod_of_nonneg _ (by lia)]
      exact q.at R (VR.int_mk _ _) _
  · obtain ⟨i', e, hst, hlen⟩ := listM_inv h1; (first | exact no e | cases e)
    obtain ⟨j', e, hst', hlen'⟩ := listM_inv h2; (first | exact no e | cases e)
    obtain ⟨p, rfl, hp, _, items, ⟨m, ho⟩, r⟩ := R.ref ha hst
    obtain ⟨p', rfl, hp', _, items', ⟨m', ho'⟩, r'⟩ := R.ref hb hst'
    refine P.add_list (n := m) (n2 := m') ho ho' ?_ ?_
    · exact Post.list R q (by simpa using r.append r') s.toks 0
    · rw [r.size, r'.size, sizeLine_eq]; unfold lim at hlen hlen'; lia
  · obtain ⟨i', e, hst, hlen⟩ := listM_inv h1; (first | exact no e | cases e)
    obtain ⟨p, rfl, hp, _, items, ⟨m, ho⟩, r⟩ := R.ref ha hst
    obtain ⟨u, rfl⟩ := hb.int_inv
    obtain ⟨cx, hcx, hr⟩ : ∃ cx, items = #[cx] ∧ VR μ s.heap x cx := by
      cases hi : items.toList with
      | nil => rw [hi] at r; cases r
      | cons y ys =>
        rw [hi] at r
        cases r with
        | cons a b => cases b; exact ⟨y, by rw [← Array.toArray_toList (xs := items), hi], a⟩
    subst hcx
    refine wpAny_binaryOp_repeat_ref (T := "list") (U := "int") (by decide) ⟨_, ho, rfl⟩ (fun s' => typeIs_int s' 5 u) noFill_list_mul F.fills_int_mul F.slot_int_rmul repeat_list F.slot_int_index.lookup
      (call_meets F.slot_int_rmul (typeIs_int s 5 u) F.entry_int_rmul (F.args_int_rmul_2 _ _) (int___rmul___int_list 5 u p.1 #[cx] m)
      ⟨ho, rfl, ⟨_, ho, rfl⟩, call_meets F.slot_list_mul ⟨_, ho, rfl⟩ F.entry_list_mul (F.args_list_mul_2 _ _)
        (AutoListH.list___mul___list_int_3 p.1 #[cx] m 5 u (by simp [Builtin.List.listFitsIndex]) (by simp) (by simp [Builtin.List.listTooLong, sizeLine]))
        ⟨ho, ?_⟩⟩)
    exact Post.list R q (items := #[cx, cx, cx, cx, cx]) (.cons hr (.cons hr (.cons hr (.cons hr (.cons hr .nil))))) s.toks 0

theorem neg_ok (R : Rel c μ st s) {n : Int} {ca : Value} (ha : VR μ s.heap (.int n) ca) {Q : Value → Shared → Prop} (q : Post c μ s.heap (.int (-n)) st Q) : wpAny (model c.prog c.w) A (unaryOp .USub ca) Q E s := by
  obtain ⟨t, rfl⟩ := ha.int_inv
  exact PyProof.Rows.neg_int (q.at R (VR.int_mk _ _) _)
end
end Mine.Lake

set_option tactic.hygienic true

open PySem PySem.W PyProof.Rows PySem.Calls
namespace Mine.Lake
set_option tactic.hygienic false

section reads
variable {μ : Mu} {h : Heap}
set_option tactic.hygienic true in
mutual
theorem pyOf_reads : ∀ {x : MV} {d : PyData} {v : Value}, pyOf x = some d → VR μ h x v → (∃ as, Reads h v d as) ∧ d.canLay0 = true
  | .none, d, v, e, k => by (first | exact no e | cases e); cases k.none_inv; exact ⟨⟨_, .none⟩, rfl⟩
  | .bool b, d, v, e, k => by (first | exact no e | cases e); cases k.bool_inv; exact ⟨⟨_, .bool _⟩, rfl⟩
  | .int b, d, v, e, k => by (first | exact no e | cases e); obtain ⟨t, rfl⟩ := k.int_inv; exact ⟨⟨_, .int _ _⟩, rfl⟩
  | .str b, d, v, e, k => by
    obtain ⟨hs, e⟩ := ite_some e
    cases e; obtain ⟨t, rfl⟩ := k.str_inv; exact ⟨⟨_, .str _ _⟩, by unfold PyData.canLay0; exact hs⟩
  | .tup xs, d, v, e, k => by
    unfold pyOf at e
    cases e2 : pyOfs xs with
    | none => rw [e2] at e; (first | exact no e | cases e)
    | some ds =>
      rw [e2] at e; (first | exact no e | cases e)
      obtain ⟨a, items, rfl, ho, r⟩ := k.tup_inv
      obtain ⟨⟨as, z⟩, w⟩ := pyOfs_reads e2 (VRs_all2.mpr r)
      exact ⟨⟨as, .tuple ho rfl rfl z⟩, by unfold PyData.canLay0; exact w⟩
  | .unb, d, v, e, k => by (first | exact no e | cases e)
  | .rng .., d, v, e, k => by (first | exact no e | cases e)
  | .obj .., d, v, e, k => by (first | exact no e | cases e)
  | .val .., d, v, e, k => by (first | exact no e | cases e)
  | .bi .., d, v, e, k => by (first | exact no e | cases e)
theorem pyOfs_reads : ∀ {xs : List MV} {ds : List PyData} {vs : List Value}, pyOfs xs = some ds → VRs μ h xs vs → (∃ as, ReadsAll h vs ds as) ∧ PyData.canLayAll0 ds = true
  | [], ds, vs, e, k => by (first | exact no e | cases e); rw [VRs] at k; subst k; exact ⟨⟨_, .nil⟩, rfl⟩
  | x :: xs, ds, vs, e, k => by
    unfold pyOfs at e
    rw [VRs] at k
    obtain ⟨v, r, rfl, k1, k2⟩ := k
    split at e
    · rename_i a b e1 e2
      (first | exact no e | cases e)
      obtain ⟨⟨as, z⟩, w⟩ := pyOf_reads e1 k1
      obtain ⟨⟨bs, z'⟩, w'⟩ := pyOfs_reads e2 k2
      exact ⟨⟨_, .cons z z'⟩, by unfold PyData.canLayAll0; rw [w, w']; rfl⟩
    · (first | exact no e | cases e)
end
end reads

section
variable {c : Cx} {μ : Mu} {st : Objs} {s : Shared} {A : Around} {E : Value → Shared → Prop}

set_option tactic.hygienic true in
theorem pyE_reads (R : Rel c μ st s) {x : MV} {d : PyData} {v : Value} (e : pyE st x = some d) (k : VR μ s.heap x v) : (∃ as, Reads s.heap v d as) ∧ d.canLay0 = true := by
  unfold pyE at e
  split at e
  · rename_i k0
    split at e
    · rename_i xs hst
      cases e2 : pyOfs xs with
      | none => rw [e2] at e; (first | exact no e | cases e)
      | some ds =>
        rw [e2] at e; (first | exact no e | cases e)
        obtain ⟨p, rfl, hp, _, items, ⟨m, ho⟩, r⟩ := R.ref k hst
        obtain ⟨⟨as, z⟩, w⟩ := pyOfs_reads e2 (VRs_all2.mpr r)
        exact ⟨⟨_, .list ho rfl rfl z⟩, by unfold PyData.canLay0; exact w⟩
    · (first | exact no e | cases e)
  · exact pyOf_reads e k

set_option tactic.hygienic true in
theorem pyEs_reads (R : Rel c μ st s) : ∀ {xs : List MV} {ds : List PyData} {vs : List Value}, pyEs st xs = some ds → All2 (VR μ s.heap) xs vs → (∃ as, ReadsAll s.heap vs ds as) ∧ PyData.canLayAll0 ds = true
  | [], ds, vs, e, k => by unfold pyEs at e; (first | exact no e | cases e); cases k; exact ⟨⟨_, .nil⟩, rfl⟩
  | x :: xs, ds, vs, e, k => by
    unfold pyEs at e
    cases k with
    | cons k1 k2 =>
      split at e
      · rename_i a b e1 e2
        (first | exact no e | cases e)
        obtain ⟨⟨as, z⟩, w⟩ := pyE_reads R e1 k1
        obtain ⟨⟨bs, z'⟩, w'⟩ := pyEs_reads R e2 k2
        exact ⟨⟨_, .cons z z'⟩, by unfold PyData.canLayAll0; rw [w, w']; rfl⟩
      · (first | exact no e | cases e)

set_option tactic.hygienic true in
theorem pyV_reads (R : Rel c μ st s) {x : MV} {d : PyData} {v : Value} (e : pyV st x = some d) (k : VR μ s.heap x v) : (∃ as, Reads s.heap v d as) ∧ d.canLay0 = true := by
  unfold pyV at e
  split at e
  · rename_i xs
    cases e2 : pyEs st xs with
    | none => rw [e2] at e; (first | exact no e | cases e)
    | some ds =>
      rw [e2] at e; (first | exact no e | cases e)
      obtain ⟨a, items, rfl, ho, r⟩ := k.tup_inv
      obtain ⟨⟨as, z⟩, w⟩ := pyEs_reads R e2 r
      exact ⟨⟨as, .tuple ho rfl rfl z⟩, by unfold PyData.canLay0; exact w⟩
  · exact pyE_reads R e k

inductive InI (st : Objs) (n : Int) (i : Nat) (r : Bool) : Prop
  | dict (kvs : List (Int × MV)) (h1 : st[i]? = some (.dictI kvs)) (h2 : r = (lookM kvs n).isSome)
  | set (xs : List Int) (h1 : st[i]? = some (.set xs)) (h2 : r = decide (n ∈ xs))
set_option tactic.hygienic true in
theorem inM_inv {a b : MV} {r : Bool} (h : inM st a b = some r) : ∃ n i, a = .int n ∧ b = .obj i ∧ InI st n i r := by
  unfold inM at h
  cases a <;> first | ((first | exact no h | cases h); done) | skip
  cases b <;> first | ((first | exact no h | cases h); done) | skip
  refine ⟨_, _, rfl, rfl, ?_⟩
  dsimp only at h
  rename_i n i
  generalize e : st[i]? = o at h
  cases o with
  | none => exact no h
  | some y => cases y with
    | dictI => cases h; exact .dict _ e rfl
    | set => cases h; exact .set _ e rfl
    | _ => exact no h

theorem in_ok (R : Rel c μ st s) {a b : MV} {ca cb : Value} {r : Bool} (ha : VR μ s.heap a ca) (hb : VR μ s.heap b cb) (h : inM st a b = some r) {Q : Value → Shared → Prop} (q : Q (.bool r) { s with toks := s.toks + 1 }) :
    wpAny (model c.prog c.w) A (compareOp .In ca cb) Q E s := by
  obtain ⟨n, i, rfl, rfl, H⟩ := inM_inv h
  obtain ⟨t, rfl⟩ := ha.int_inv
  rcases H with ⟨kvs, hst, rfl⟩ | ⟨xs, hst, rfl⟩
  · obtain ⟨p, rfl, hp, _, lo, es, hd, r⟩ := R.ref hb hst
    refine wpAny_in_of (k := n) (by simp [intKind, Value.isInt]) lo hd.mapOf ?_
    rw [KV.isSome r]; exact q
  · obtain ⟨p, rfl, hp, _, S, hS, r⟩ := R.ref hb hst
    refine wpAny_inSet_of (k := n) (by simp [intKind, Value.isInt]) rfl hS ?_
    have : S n = decide (n ∈ xs) := by
      rw [Bool.eq_iff_iff, r n, decide_eq_true_eq]
    rw [this]; exact q
theorem notIn_ok (R : Rel c μ st s) {a b : MV} {ca cb : Value} {r : Bool} (ha : VR μ s.heap a ca) (hb : VR μ s.heap b cb) (h : inM st a b = some r) {Q : Value → Shared → Prop} (q : Q (.bool (!r)) { s with toks := s.toks + 1 }) :
    wpAny (model c.prog c.w) A (compareOp .NotIn ca cb) Q E s := by
  obtain ⟨n, i, rfl, rfl, H⟩ := inM_inv h
  obtain ⟨t, rfl⟩ := ha.int_inv
  rcases H with ⟨kvs, hst, rfl⟩ | ⟨xs, hst, rfl⟩
  · obtain ⟨p, rfl, hp, _, lo, es, hd, r⟩ := R.ref hb hst
    refine wpAny_notIn_of (k := n) (by simp [intKind, Value.isInt]) lo hd.mapOf ?_
    rw [KV.isSome r]; exact q
  · obtain ⟨p, rfl, hp, _, S, hS, r⟩ := R.ref hb hst
    refine wpAny_notInSet_of (k := n) (by simp [intKind, Value.isInt]) rfl hS ?_
    have : S n = decide (n ∈ xs) := by
      rw [Bool.eq_iff_iff, r n, decide_eq_true_eq]
    rw [this]; exact q

theorem isNone_val {a : MV} {ca : Value} {r : Bool} (ha : VR μ s.heap a ca) (h : isNoneM a = some r) : (ca == Value.none) = r := by
  cases a with
  | none => (first | exact no h | cases h); rw [ha.none_inv]; rfl
  | bool => (first | exact no h | cases h); rw [ha.bool_inv]; rfl
  | int => (first | exact no h | cases h); obtain ⟨t, rfl⟩ := ha.int_inv; rfl
  | str => (first | exact no h | cases h); obtain ⟨t, rfl⟩ := ha.str_inv; rfl
  | tup => (first | exact no h | cases h); obtain ⟨_, _, rfl, _⟩ := ha.tup_inv; rfl
  | obj => (first | exact no h | cases h); obtain ⟨_, _, rfl⟩ := ha; rfl
  | unb => (first | exact no h | cases h)
  | rng => (first | exact no h | cases h)
  | val => (first | exact no h | cases h)
  | bi => (first | exact no h | cases h)

theorem eqM_inv {a b : MV} {r : Bool} (h : eqM st a b = some r) : ∃ da db, pyV st a = some da ∧ pyV st b = some db ∧ min da.depth db.depth ≤ 1000 ∧ r = PyData.eqv da db := by
  unfold eqM at h
  generalize e1 : pyV st a = x at h
  generalize e2 : pyV st b = y at h
  cases x with
  | none => exact no h
  | some da => cases y with
    | none => exact no h
    | some db => obtain ⟨hm, h⟩ := ite_some h; cases h; exact ⟨da, db, rfl, rfl, hm, rfl⟩

inductive CmpII : CmpOp → Int → Int → Bool → Prop
  | lt {x y : Int} : CmpII .Lt x y (decide (x < y))
  | gt {x y : Int} : CmpII .Gt x y (decide (y < x))
  | ge {x y : Int} : CmpII .GtE x y (decide (y ≤ x))
inductive CmpI (st : Objs) (op : CmpOp) (a b : MV) (r : Bool) : Prop
  | ints {x y : Int} (h1 : a = .int x) (h2 : b = .int y) (h3 : CmpII op x y r)
  | eq (h1 : op = .Eq) (h : eqM st a b = some r)
  | ne {y : Bool} (h1 : op = .NotEq) (h : eqM st a b = some y) (h2 : r = !y)
  | in_ (h1 : op = .In) (h : inM st a b = some r)
  | nin {y : Bool} (h1 : op = .NotIn) (h : inM st a b = some y) (h2 : r = !y)
  | is_ (h1 : op = .Is) (h2 : b = .none) (h : isNoneM a = some r)
  | isn {y : Bool} (h1 : op = .IsNot) (h2 : b = .none) (h : isNoneM a = some y) (h3 : r = !y)
inductive MvII (a b : MV) : Prop
  | both (x y : Int) (h1 : a = .int x) (h2 : b = .int y)
  | none_ (h : ∀ {α : Type} (f : Int → Int → α), (match a, b with | .int x, .int y => some (f x y) | _, _ => none) = none)
theorem two_ints (a b : MV) : MvII a b := by
  cases a with
  | int x => cases b with
    | int y => exact .both x y rfl rfl
    | _ => exact .none_ fun _ => rfl
  | _ => exact .none_ fun _ => rfl
theorem cmpM_inv {op : CmpOp} {a b : MV} {r : Bool} (h : cmpM st op a b = some r) : CmpI st op a b r := by
  have mp : ∀ {x : Option Bool}, x.map (!·) = some r → ∃ y, x = some y ∧ r = !y := fun {x} e => by
    cases x with
    | none => exact no e
    | some y => cases e; exact ⟨y, rfl, rfl⟩
  cases op
  case Lt =>
    cases two_ints a b with
    | both x y h1 h2 => subst h1 h2; cases h; exact .ints rfl rfl .lt
    | none_ z => exact no ((z _).symm.trans h)
  case Gt =>
    cases two_ints a b with
    | both x y h1 h2 => subst h1 h2; cases h; exact .ints rfl rfl .gt
    | none_ z => exact no ((z _).symm.trans h)
  case GtE =>
    cases two_ints a b with
    | both x y h1 h2 => subst h1 h2; cases h; exact .ints rfl rfl .ge
    | none_ z => exact no ((z _).symm.trans h)
  case Eq => exact .eq rfl h
  case NotEq => obtain ⟨y, h', e⟩ := mp h; exact .ne rfl h' e
  case In => exact .in_ rfl h
  case NotIn => obtain ⟨y, h', e⟩ := mp h; exact .nin rfl h' e
  case Is => cases b with
    | none => exact .is_ rfl rfl h
    | _ => exact no h
  case IsNot => cases b with
    | none => obtain ⟨y, h', e⟩ := mp h; exact .isn rfl rfl h' e
    | _ => exact no h
  all_goals exact no h

theorem cmp_ok (R : Rel c μ st s) (hu : A.units + 1200 < cLine) {op : CmpOp} {a b : MV} {ca cb : Value} {r : Bool} (ha : VR μ s.heap a ca) (hb : VR μ s.heap b cb) (h : cmpM st op a b = some r) {Q : Value → Shared → Prop}
    (q : ∀ k, Q (.bool r) { s with toks := k }) : wpAny (model c.prog c.w) A (compareOp op ca cb) Q E s := by
  have ci := cmpM_inv h
  clear h
  rcases ci with ⟨rfl, rfl, hc⟩ | ⟨rfl, h⟩ | ⟨rfl, h', rfl⟩ | ⟨rfl, h⟩ | ⟨rfl, h', rfl⟩ | ⟨rfl, rfl, h⟩ | ⟨rfl, rfl, h', rfl⟩
  · obtain ⟨t, rfl⟩ := ha.int_inv
    obtain ⟨u, rfl⟩ := hb.int_inv
    cases hc with
    | lt => exact PyProof.Rows.lt_int (q s.toks)
    | gt => exact PyProof.Rows.gt_int (q s.toks)
    | ge => exact PyProof.Rows.ge_int (q s.toks)
  · obtain ⟨da, db, e1, e2, hm, rfl⟩ := eqM_inv h
    obtain ⟨⟨as, r1⟩, l1⟩ := pyV_reads R e1 ha
    obtain ⟨⟨bs, r2⟩, l2⟩ := pyV_reads R e2 hb
    exact SeqAt.compareEq_reads r1 r2 l1 l2 (by lia) (q s.toks)
  · obtain ⟨da, db, e1, e2, hm, rfl⟩ := eqM_inv h'
    obtain ⟨⟨as, r1⟩, l1⟩ := pyV_reads R e1 ha
    obtain ⟨⟨bs, r2⟩, l2⟩ := pyV_reads R e2 hb
    exact SeqAt.compareNe_reads r1 r2 l1 l2 (by lia) (q s.toks)
  · exact in_ok R ha hb h (q _)
  · exact notIn_ok R ha hb h' (q _)
  · cases hb.none_inv
    refine is_none ?_
    rw [isNone_val ha h]; exact q s.toks
  · cases hb.none_inv
    refine isNot_none ?_
    rw [isNone_val ha h']; exact q s.toks


/- the built-ins -/
inductive CallI (st : Objs) : Bi → List MV → MV × Objs → Prop
  | lenL {i : Nat} {xs : List MV} (h3 : st[i]? = some (.list xs)) (h4 : xs.length ≤ lim) : CallI st .len [.obj i] (.int xs.length, st)
  | lenD {i : Nat} {kvs : List (Int × MV)} (h3 : st[i]? = some (.dictI kvs)) (h4 : kvs.length ≤ lim) : CallI st .len [.obj i] (.int kvs.length, st)
  | up {n : Int} : CallI st .range [.int n] (.rng 0 n 1, st)
  | down {n : Int} (h3 : -big < n) (h4 : n < big) : CallI st .range [.int n, .int (-1), .int (-1)] (.rng n (-1) (-1), st)
  | tup {v : MV} {xs : List MV} (h3 : listM st v = some xs) : CallI st .tuple [v] (.tup xs, st)
  | listL {i : Nat} {xs : List MV} (h3 : st[i]? = some (.list xs)) (h4 : xs.length ≤ lim) : CallI st .list [.obj i] (.obj st.length, st ++ [.list xs])
  | listD {i : Nat} {kvs : List (Int × MV)} (h3 : st[i]? = some (.dictI kvs)) (h4 : kvs.length ≤ lim) : CallI st .list [.obj i] (.obj st.length, st ++ [.list (kvs.map fun kv => .int kv.1)])
  | set : CallI st .set [] (.obj st.length, st ++ [.set []])
theorem callB_inv {b : Bi} {vs : List MV} {r : MV × Objs} (h : callB b vs st = some r) : CallI st b vs r := by
  cases b with
  | set => cases vs with
    | nil => cases h; exact .set
    | cons => exact no h
  | _ => ?_
  all_goals cases vs with
    | nil => exact no h
    | cons v l => ?_
  case len =>
    cases l with
    | cons => exact no h
    | nil =>
      cases v with
      | obj k =>
        have h : (match st[k]? with
          | some (.list xs) => if xs.length ≤ lim then some (.int xs.length, st) else none
          | some (.dictI kvs) => if kvs.length ≤ lim then some (.int kvs.length, st) else none
          | _ => none) = some r := h
        cases e : st[k]? with
        | none => rw [e] at h; exact no h
        | some x =>
          rw [e] at h
          cases x with
          | list => obtain ⟨hc, h⟩ := ite_some h; cases h; exact .lenL e hc
          | dictI => obtain ⟨hc, h⟩ := ite_some h; cases h; exact .lenD e hc
          | _ => exact no h
      | _ => exact no h
  case range =>
    cases v with
    | int a =>
      cases l with
      | nil => obtain ⟨hc, h⟩ := ite_some h; cases h; exact .up
      | cons w l =>
        cases w with
        | int b =>
          cases l with
          | nil => exact no h
          | cons u l =>
            cases l with
            | cons => exact no h
            | nil =>
              cases u with
              | int c => obtain ⟨⟨a1, a2, rfl, rfl⟩, h⟩ := ite_some h; cases h; exact .down a1 a2
              | _ => exact no h
        | _ => exact no h
    | _ => exact no h
  case tuple =>
    cases l with
    | cons => exact no h
    | nil =>
      have h : (match listM st v with
        | some xs => some (.tup xs, st)
        | none => none) = some r := h
      cases e : listM st v with
      | none => rw [e] at h; exact no h
      | some xs => rw [e] at h; cases h; exact .tup e
  case list =>
    cases l with
    | cons => exact no h
    | nil =>
      cases v with
      | obj k =>
        have h : (match st[k]? with
          | some (.list xs) => if xs.length ≤ lim then some (.obj st.length, st ++ [.list xs]) else none
          | some (.dictI kvs) => if kvs.length ≤ lim then some (.obj st.length, st ++ [.list (kvs.map fun kv => .int kv.1)]) else none
          | _ => none) = some r := h
        cases e : st[k]? with
        | none => rw [e] at h; exact no h
        | some x =>
          rw [e] at h
          cases x with
          | list => obtain ⟨hc, h⟩ := ite_some h; cases h; exact .listL e hc
          | dictI => obtain ⟨hc, h⟩ := ite_some h; cases h; exact .listD e hc
          | _ => exact no h
      | _ => exact no h

theorem lim_fit {n : Nat} (h : n ≤ lim) : (n : Int) < 2 ^ 63 := by unfold lim at h; lia

theorem All2.one {α β : Type} {R : α → β → Prop} {a : α} {vs : List β} (h : All2 R [a] vs) : ∃ v, vs = [v] ∧ R a v := by
  cases h with
  | cons x y => cases y; exact ⟨_, rfl, x⟩
theorem All2.two {α β : Type} {R : α → β → Prop} {a b : α} {vs : List β} (h : All2 R [a, b] vs) : ∃ v w, vs = [v, w] ∧ R a v ∧ R b w := by
  cases h with
  | cons x y => obtain ⟨w, rfl, z⟩ := y.one; exact ⟨_, _, rfl, x, z⟩

theorem keys_items {K : Type} [DecidableEq K] {μ : Mu} {h : Heap} {kvs : List (K × MV)} {es : List (K × Value)} (r : KV K μ h kvs es) : ∀ i : Nat, (es[i]?).map (fun x => x.1) = (kvs[i]?).map (fun x => x.1) := by
  induction r with
  | nil => intro i; rfl
  | cons x y ih => intro i; cases i with
    | zero => simp [x.1]
    | succ j => simpa using ih j

theorem callB_ok (R : Rel c μ st s) (hh : A.handled = none) {b : Bi} {vs : List MV} {cvs : List Value} {r : MV × Objs} (hv : All2 (VR μ s.heap) vs cvs) (h : callB b vs st = some r) {Q : Value → Shared → Prop}
    (q : Post c μ s.heap r.1 r.2 Q) : wpAny (model c.prog c.w) A (call b.value cvs) Q E s := by
  have ci := callB_inv h
  clear h
  rcases ci with ⟨hst, hz⟩ | ⟨hst, hz⟩ | _ | ⟨b1, b2⟩ | ⟨hl⟩ | ⟨hst, hz⟩ | @⟨i, kvs, hst, hz⟩ | _
  · obtain ⟨cv, rfl, hv1⟩ := hv.one
    obtain ⟨p, rfl, hp, _, items, ⟨m, ho⟩, r⟩ := R.ref hv1 hst
    have e := r.size
    refine call_len_list (items := items) ⟨_, ho, rfl, _, rfl⟩ (by rw [e]; exact lim_fit hz) ?_
    rw [e]
    exact q.at R (VR.int_mk _ _) _
  · obtain ⟨cv, rfl, hv1⟩ := hv.one
    obtain ⟨p, rfl, hp, _, lo, es, hd, r⟩ := R.ref hv1 hst
    have e := All2.length r
    refine call_len_dict lo hd (by rw [← e]; exact lim_fit hz) ?_
    rw [← e]
    exact q.at R (VR.int_mk _ _) _
  · obtain ⟨cv, rfl, hv1⟩ := hv.one
    obtain ⟨t, rfl⟩ := hv1.int_inv
    refine call_range_1 ?_
    refine q μ _ _ (R.push _ _) (Grow.pushed _ _) ?_
    exact VR.rng_mk (Heap.get?_push_size _ rfl)
  · cases hv with
    | cons h1 hv =>
      obtain ⟨x, y, rfl, h2, h3⟩ := hv.two
      obtain ⟨t, rfl⟩ := h1.int_inv
      obtain ⟨u, rfl⟩ := h2.int_inv
      obtain ⟨w, rfl⟩ := h3.int_inv
      refine call_range_3 (by decide) ?_ ?_
      · refine q μ _ _ (R.push _ _) (Grow.pushed _ _) ?_
        exact VR.rng_mk (Heap.get?_push_size _ rfl)
      · refine .inl (PyProof.noPylong_small ?_)
        unfold big at b1 b2
        lia
  · obtain ⟨cv, rfl, hv1⟩ := hv.one
    obtain ⟨i, rfl, hst, hz⟩ := listM_inv hl
    obtain ⟨p, rfl, hp, _, items, ⟨m, ho⟩, r⟩ := R.ref hv1 hst
    refine call_tuple_list (items := items) ⟨_, ho, rfl, _, rfl⟩ (fun h' hk => ?_) (by rw [r.size]; exact lim_le hz)
    have hk2 : ∀ a o, s.heap.get? a = some o → (h'.push { cls := .type "tuple", data := .seq items }).get? a = some o := fun a o e => Heap.get?_push_of_some _ (hk a o e)
    have G : Grow0 μ s.heap μ (h'.push { cls := .type "tuple", data := .seq items }) := ⟨fun _ _ e => e, fun a o e _ _ => hk2 a o e, fun _ _ e1 e2 => (by rw [e1] at e2; exact nomatch e2), fun a o e => ⟨o, hk2 a o e⟩⟩
    refine q μ _ _ ⟨R.sr.step G (safe_none _) (fun a m => ?_) (fun _ x => x.elim), R.os, R.gens⟩ G (VR.tup_mk (Heap.get?_push_size _ rfl) (r.mono fun _ _ v => v.mono R.sr G (safe_none _)))
    obtain ⟨o, e, _⟩ := R.sr.mut m
    exact (hk2 a o e).trans e.symm
  · obtain ⟨cv, rfl, hv1⟩ := hv.one
    obtain ⟨p, rfl, hp, _, items, ⟨m, ho⟩, r⟩ := R.ref hv1 hst
    refine call_list_seq p.1 (.inl rfl) ho rfl rfl (fun h' c' hk hD => ?_) (by rw [r.size]; exact lim_le hz)
    have z := R.newList (h' := h') (l := s.heap.objs.size) hk (get_size _) ⟨_, hD⟩ r s.toks
    exact q _ _ _ z.1 z.2 (VR.new R.sr.len.symm)
  · obtain ⟨cv, rfl, hv1⟩ := hv.one
    obtain ⟨p, rfl, hp, _, lo, es, hd, r⟩ := R.ref hv1 hst
    have e := All2.length r
    obtain ⟨ep, ha⟩ := hd.dictAt
    refine kdl_call (kdl_dict lo) hh ha (by rw [← e]; exact lim_le hz) (fun h' tk acc c' hk hD hI => ?_)
    have rr : All2 (VR μ s.heap) (kvs.map fun kv => MV.int kv.1) acc.toList := by
      have hsz : acc.size = es.length := hI.1
      have key := keys_items r
      have P := hI.2
      clear hI hD hk q
      have gen : ∀ (l : List (Int × MV)) (vs : List Value), l.length = vs.length → (∀ (j : Nat) v, vs[j]? = some v → ∃ k : Int, (l[j]?).map (fun (x : Int × MV) => x.1) = some k ∧ (intKind c.prog c.w).is k v = true) → All2 (VR μ s.heap) (l.map fun kv => MV.int kv.1) vs := by
        intro l
        induction l with
        | nil => intro vs hl hP; cases vs with
          | nil => exact .nil
          | cons => (first | exact no hl | cases hl)
        | cons a l ih => intro vs hl hP; cases vs with
          | nil => (first | exact no hl | cases hl)
          | cons v vs =>
            refine .cons ?_ (ih vs (by simpa using hl) fun j v hj => hP (j + 1) v (by simpa using hj))
            obtain ⟨k, e1, e2⟩ := hP 0 v rfl
            (first | exact no e1 | cases e1)
            obtain ⟨t, rfl⟩ := Value.isInt_shape e2
            exact VR.int_mk _ _
      refine gen kvs acc.toList (by rw [e, ← hsz, Array.length_toList]) (fun j v hj => ?_)
      obtain ⟨k, x, e1, e2⟩ := P j v (by rw [← Array.getElem?_toList]; exact hj)
      exact ⟨k, by rw [← key j, e1]; rfl, e2⟩
    have z := R.newList (h' := h') (l := s.heap.objs.size) hk (get_size _) ⟨_, hD⟩ rr tk
    exact q _ _ _ z.1 z.2 (VR.new R.sr.len.symm)
  · cases hv
    refine call_set_0 fun led => ?_
    have hk : ∀ a o, s.heap.get? a = some o → (s.heap.push { cls := .type "set", dict := none, data := .set #[] 0 (.fresh 0 0 led) }).get? a = some o := fun a o e => Heap.get?_push_of_some _ e
    have z := R.sr.alloc (p := (s.heap.objs.size, none)) (mo := .set []) hk (by simpa [pa] using get_size _) (fun d e => by (first | exact no e | cases e))
      ⟨rfl, fun _ => false, ⟨_, #[], 0, .fresh 0 0 led, Heap.get?_push_size _ rfl, ⟨rfl, rfl, rfl⟩, rfl, fun _ he => by simp at he, fun k => by simp, by decide, by rfl, rfl⟩, fun k => by simp⟩
    exact q _ _ _ ⟨z.1, R.os, R.gens⟩ z.2 (VR.new R.sr.len.symm)
end
end Mine.Lake

set_option tactic.hygienic true

set_option tactic.hygienic false
open PySem PySem.W PyProof.Rows PySem.Calls
namespace Mine.Lake

noncomputable def selB (start stop step : Int) (i : Nat) : Bool :=
  if step > 0 then start ≤ i && i < stop && (i - start) % step == 0
  else stop < i && i ≤ start && (start - i) % (-step) == 0

theorem filt_take : ∀ (l : List Value) (n k m : Nat), n ≤ k + l.length → k + l.length = m → k ≤ n →
    ((l.zipIdx k).filterMap fun (x, k) => if selB (n : Int) (m : Int) 1 k then none else some x) = l.take (n - k)
  | [], n, k, m, _, _, _ => by simp
  | x :: l, n, k, m, h, hm, hk => by
    rw [List.zipIdx_cons, List.filterMap_cons]
    simp only [List.length_cons] at h hm
    by_cases q : n ≤ k
    · have e : selB (n : Int) (m : Int) 1 k = true := by
        unfold selB
        simp only [show (1 : Int) > 0 by decide, if_true, Int.emod_one]
        have : k < m := by lia
        simp; lia
      have e0 : n = k := by lia
      simp only [e, if_true]
      have rest : ∀ (l : List Value) (k' : Nat), n ≤ k' → k' + l.length = m → ((l.zipIdx k').filterMap fun (x, k) => if selB (n : Int) (m : Int) 1 k then none else some x) = [] := by
        intro l
        induction l with
        | nil => intros; rfl
        | cons y l ih =>
          intro k' h1 h2
          simp only [List.length_cons] at h2
          rw [List.zipIdx_cons, List.filterMap_cons]
          have e : selB (n : Int) (m : Int) 1 k' = true := by
            unfold selB
            simp only [show (1 : Int) > 0 by decide, if_true, Int.emod_one]
            simp; lia
          simp only [e, if_true]
          exact ih (k' + 1) (by lia) (by lia)
      rw [rest l (k + 1) (by lia) (by lia)]
      subst e0; simp
    · have e : selB (n : Int) (m : Int) 1 k = false := by
        unfold selB
        simp only [show (1 : Int) > 0 by decide, if_true]
        have : ¬ ((n : Int) ≤ k) := by lia
        simp [this]
      simp only [e, Bool.false_eq_true, if_false]
      rw [filt_take l n (k + 1) m (by lia) (by lia) (by lia)]
      have : n - k = (n - (k + 1)) + 1 := by lia
      rw [this, List.take_succ_cons]

section
variable {prog : Program} {w : World} {A : Around} {E : Value → Shared → Prop} {s : Shared}
theorem delSlice {l sl : Addr} {items : Array Value} {k : Nat} {n : Int} {t : Tok} {Q : Unit → Shared → Prop} (hl : s.heap.get? l = some { cls := .type "list", data := .seq items k })
    (hs : s.heap.IsSliceOf sl (.int n t) .none .none) (h0 : 0 ≤ n) (hn : n ≤ items.size) (hsz : items.size ≤ sizeLine)
    (h : Q () { s with heap := s.heap.update l (Obj.mapSeq fun xs => (xs.toList.zipIdx.filterMap fun (x, k) => if selB n items.size 1 k then none else some x).toArray) }) : wpAny (model prog w) A (delItem (.ref l) (.ref sl)) Q E s := by
  obtain ⟨os, hos, hcs, hds⟩ := id hs
  have hTs : s.TypeIs (.ref sl) "slice" := ⟨os, hos, hcs⟩
  have hTl : s.TypeIs (.ref l) "list" := ⟨_, hl, rfl⟩
  refine wpAny_delItem_slot hTl (by decide) F.slot_list_delitem (wpAny_call_entry F.slot_list_delitem hTl F.entry_list_delitem ?_ (F.args_list_delitem_2 _ _))
  show wpAny _ _ (Builtin.List.listSubscript? (.ref sl) >>= _) _ _ s
  refine wpAny_bind ?_
  unfold Builtin.List.listSubscript?
  refine wpAny_bind (wpAny_specialOf hTs slice_no_index ?_)
  simp only [Option.isNone_none, if_true]
  refine wpAny_pure ?_
  show wpAny _ _ (typeOf (.ref sl) >>= _) _ _ s
  refine wpAny_bind (wpAny_typeOf hTs ?_)
  rw [if_neg (by decide)]
  rw [listSliceParts_eq]
  refine wpAny_bind (wpAny_bind (wpAny_field hos hds (x := .none) rfl (wpAny_bind (wpAny_listPart .none ?_))))
  rw [if_neg (by decide)]
  refine wpAny_bind (wpAny_field hos hds (x := .int n t) rfl (wpAny_bind (wpAny_listPart (.int n t) ?_)))
  refine wpAny_bind (wpAny_field hos hds (x := .none) rfl (wpAny_bind (wpAny_listPart .none (wpAny_pure ?_))))
  refine wpAny_bind (m := Builtin.List.listItems (.ref l)) ?_
  unfold Builtin.List.listItems
  refine wpAny_bind (wpAny_seqItems hl rfl (wpAny_pure ?_))
  refine wpAny_bind (wpAny_of_eq (sliceIndices_raw (some n) none none items.size (by simp)) ?_)
  have e : sliceBounds (some n) none none items.size = (n, (items.size : Int), 1) := by
    unfold sliceBounds
    simp only [Option.getD_none, show (1 : Int) > 0 by decide, if_true]
    rw [if_neg (by lia)]
    have : max 0 (min n (items.size : Int)) = n := by lia
    rw [this]
  rw [e]
  refine wpAny_bind (wpAny_rule ?_)
  show wpAny _ _ (updateSeq l (fun xs => (xs.toList.zipIdx.filterMap fun (x, k) => if selB n items.size 1 k then none else some x).toArray) >>= _) _ _ s
  refine wpAny_bind (wpAny_updateSeq hl rfl ?_ (hz := hsz) (_hz' := ?_))
  · refine wpAny_bind (wpAny_letGo ?_)
    exact wpAny_pure ⟨_, rfl, h⟩
  · rw [List.size_toArray]
    refine Nat.le_trans (List.length_filterMap_le _ _) ?_
    rw [List.length_zipIdx, Array.length_toList]
    lia
end
end Mine.Lake

set_option tactic.hygienic true

set_option tactic.hygienic false
open PySem PySem.W PyProof.Rows PySem.Calls
namespace Mine.Lake

theorem del_ok {c : Cx} {μ : Mu} {st : Objs} {s : Shared} {A : Around} {E : Value → Shared → Prop} (R : Rel c μ st s) {i : Nat} {n : Int} {xs : List MV} {cv : Value} {sl : Addr} {t : Tok} (hv : VR μ s.heap (.obj i) cv) (hst : st[i]? = some (.list xs))
    (h0 : 0 ≤ n) (hn : n ≤ xs.length) (hz : xs.length ≤ lim) (hs : s.heap.IsSliceOf sl (.int n t) .none .none) {Q : Unit → Shared → Prop}
    (q : ∀ s', Rel c μ (st.set i (.list (xs.take n.toNat))) s' → Grow0 μ s.heap μ s'.heap → Q () s') : wpAny (model c.prog c.w) A (delItem cv (.ref sl)) Q E s := by
  obtain ⟨p, rfl, hp, _, items, ⟨m, ho⟩, r⟩ := R.ref hv hst
  have e := r.size
  refine delSlice ho hs h0 (by rw [e]; exact hn) (by rw [e]; exact lim_le hz) ?_
  have sb := Heap.SameBut.update s.heap p.1 (Obj.mapSeq fun xs => (xs.toList.zipIdx.filterMap fun (x, k) => if selB n items.size 1 k then none else some x).toArray)
  have pl : (s.heap.update p.1 (Obj.mapSeq fun xs => (xs.toList.zipIdx.filterMap fun (x, k) => if selB n items.size 1 k then none else some x).toArray)).PlainList p.1 (items.toList.take n.toNat).toArray := by
    have hf := filt_take items.toList n.toNat 0 items.size (by rw [Array.length_toList, e]; lia) (by rw [Array.length_toList]; lia) (Nat.zero_le _)
    rw [Nat.sub_zero, Int.toNat_of_nonneg h0] at hf
    refine ⟨if ((items.toList.take n.toNat).toArray.size == items.size) = true then m else m + 1, (Heap.get?_update_self (Obj.mapSeq fun xs => (xs.toList.zipIdx.filterMap fun (x, k) => if selB n items.size 1 k then none else some x).toArray) ho rfl).trans ?_⟩
    show some _ = _
    unfold Obj.mapSeq
    simp only [hf]
  have z := R.list hp hst sb pl (ys := xs.take n.toNat) (by simpa using r.take n.toNat)
  exact q _ ⟨z.1, R.os, R.gens⟩ z.2

structure SgOK (c : Cx) (S : Sg) (n : Nat) : Prop where
  meth : ∀ C m f, S.M C m = some f → 13 ≤ m ∧ m < 41 ∧ findIn c.K (.ref C) (anm m) = some (some (.ref f)) ∧ typeIn c.K (.ref f) = some (.type "function") ∧ keepIn c.K (.ref f) = true
  lst : ∀ x xs, S.L x = some xs → ∃ p items, x = .ref p ∧ c.h0.IsList p items ∧ xs.length ≤ lim ∧ ∀ μ h, All2 (VR μ h) xs items.toList
  keep : ∀ f vs st Q, S.C f vs st Q → keepIn c.K (.ref f) = true
  call : ∀ f vs st Q, S.C f vs st Q → ∀ (A : Around) (E : Value → Shared → Prop) (μ : Mu) (s : Shared) (cvs : List Value) (Q' : Value → Shared → Prop), Room n A → Rel c μ st s → All2 (VR μ s.heap) vs cvs →
    (∀ v st', Q v st' → Post c μ s.heap v st' Q') → wpAny (model c.prog c.w) A (call (.ref f) cvs) Q' E s

section
variable {c : Cx} {μ : Mu} {st : Objs} {s : Shared} {A : Around} {E : Value → Shared → Prop} {S : Sg}

inductive MvI (S : Sg) (m : Nat) (mv : Value) : MO → Prop
  | inst {C : Addr} {as : List (Nat × MV)} {f : Addr} (h : S.M C m = some f) (e : mv = .ref f) : MvI S m mv (.inst C as)
  | app {xs : List MV} (h : m = 13) (e : mv = .builtin "list.append") : MvI S m mv (.list xs)
  | pop {xs : List MV} (h : m = 14) (e : mv = .builtin "list.pop") : MvI S m mv (.list xs)
  | getS {xs : List (Str × MV)} (h : m = 15) (e : mv = .builtin "dict.get") : MvI S m mv (.dictS xs)
  | getT {xs : List (List Int × MV)} (h : m = 15) (e : mv = .builtin "dict.get") : MvI S m mv (.dictT xs)
  | add {xs : List Int} (h : m = 16) (e : mv = .builtin "set.add") : MvI S m mv (.set xs)
inductive MvH (S : Sg) (m : Nat) (mv : Value) (st : Objs) : MV → Prop
  | mk {k : Nat} {x : MO} (h : st[k]? = some x) (i : MvI S m mv x) : MvH S m mv st (.obj k)
theorem if_one {α : Type} {c : Prop} [Decidable c] {a b : α} {x : Option α} (h : (if c then some a else x) = some b) : (c ∧ b = a) ∨ x = some b := by
  by_cases q : c
  · rw [if_pos q] at h; cases h; exact .inl ⟨q, rfl⟩
  · rw [if_neg q] at h; exact .inr h
theorem mvK_inv {x : MO} {m : Nat} {mv : Value} (h : mvalK S x m = some mv) : MvI S m mv x := by
  cases x with
  | inst C as =>
    obtain ⟨f, h, e⟩ := Option.map_eq_some_iff.mp h
    exact .inst h e.symm
  | list =>
    rcases if_one h with ⟨a, b⟩ | h
    · exact .app a b
    · rcases if_one h with ⟨a, b⟩ | h
      · exact .pop a b
      · exact no h
  | dictS => rcases if_one h with ⟨a, b⟩ | h; exact .getS a b; exact no h
  | dictT => rcases if_one h with ⟨a, b⟩ | h; exact .getT a b; exact no h
  | set => rcases if_one h with ⟨a, b⟩ | h; exact .add a b; exact no h
  | _ => exact no h
theorem mval_inv {o : MV} {m : Nat} {mv : Value} (h : mval S o m st = some mv) : MvH S m mv st o := by
  cases o with
  | obj k =>
    cases hx : st[k]? with
    | none =>
      have h : (match st[k]? with
        | some x => mvalK S x m
        | none => none) = some mv := h
      rw [hx] at h; exact no h
    | some x => exact .mk hx (mvK_inv ((mval_at hx).symm.trans h))
  | _ => exact no h

theorem keeps_builtin {id : String} {M : Model} {h : Heap} : ∃ k, (k = Keeper.frame ∨ k = Keeper.machine ∨ k = Keeper.boundFrame) ∧ Looks M h (keeperOf (.builtin id)) k :=
  ⟨.machine, .inr (.inl rfl), .now⟩
theorem keeps_type {id : String} {M : Model} {h : Heap} : ∃ k, (k = Keeper.frame ∨ k = Keeper.machine ∨ k = Keeper.boundFrame) ∧ Looks M h (keeperOf (.type id)) k :=
  ⟨.machine, .inr (.inl rfl), .now⟩

theorem meth_get {n : Nat} (X : c.K.In c.h0) (G : SgOK c S n) (R : Rel c μ st s) {o : MV} {m : Nat} {mv cv : Value} (hv : VR μ s.heap o cv) (hm : mval S o m st = some mv) :
    (∀ (pl : Sem Bool) (Q : Value × List Value → Shared → Prop), Q (mv, [cv]) s → wpAny (model c.prog c.w) A (getMethod cv (anm m) pl) Q E s) ∧
    (∀ h, c.K.In h → ∃ k, (k = Keeper.frame ∨ k = Keeper.machine ∨ k = Keeper.boundFrame) ∧ Looks (model c.prog c.w) h (keeperOf mv) k) := by
  cases mval_inv hm with | mk hx H => ?_
  obtain ⟨p, rfl, hp, O⟩ := R.ref hv hx
  rcases H with ⟨hf, rfl⟩ | ⟨rfl, rfl⟩ | ⟨rfl, rfl⟩ | ⟨rfl, rfl⟩ | ⟨rfl, rfl⟩ | ⟨rfl, rfl⟩
  · obtain ⟨h13, h41, hfi, hty, hk⟩ := G.meth _ _ _ hf
    obtain ⟨ck, d, es, nn, e1, ho, hd, r⟩ := O
    have CK := clsOK_of ck
    refine ⟨fun pl Q q => ?_, fun h Xh => keeps_K hk h Xh⟩
    exact method_fn (R.K X) (instAt_of ho hd) CK.ga CK.gattr hfi hty (by
      have : lookIn (anm m) (dictOf es nn) = some none := by rw [lookIn_dict]; exact r.getL_none h13 h41
      unfold shadowIn
      simp only [this]
      rfl) q
  · obtain ⟨_, items, ⟨nn, ho⟩, r⟩ := O
    exact ⟨fun pl Q q => getMethod_builtin ⟨_, ho, rfl⟩ F.plainAttrs_list (by show Slot "list" "append" _; exact F.slot_list_append) F.type_list_append (fun a e => by (first | exact no e | cases e); exact ⟨_, ho, rfl⟩) q, fun h _ => keeps_builtin⟩
  · obtain ⟨_, items, ⟨nn, ho⟩, r⟩ := O
    exact ⟨fun pl Q q => getMethod_builtin ⟨_, ho, rfl⟩ F.plainAttrs_list (by show Slot "list" "pop" _; exact F.slot_list_pop) F.type_list_pop (fun a e => by (first | exact no e | cases e); exact ⟨_, ho, rfl⟩) q, fun h _ => keeps_builtin⟩
  · obtain ⟨_, lo, es, hd, r⟩ := O
    exact ⟨fun pl Q q => getMethod_builtin hd.typeIs F.plainAttrs_dict (by show Slot "dict" "get" _; exact F.slot_dict_get) F.type_dict_get (fun a e => hd.mapOf.noDict a e) q, fun h _ => keeps_builtin⟩
  · obtain ⟨_, lo, es, hd, r⟩ := O
    exact ⟨fun pl Q q => getMethod_builtin hd.typeIs F.plainAttrs_dict (by show Slot "dict" "get" _; exact F.slot_dict_get) F.type_dict_get (fun a e => by (first | exact no e | cases e); exact let ⟨o, _, _, ho, hc, _⟩ := hd; ⟨o, ho, hc.2.1⟩) q, fun h _ => keeps_builtin⟩
  · obtain ⟨_, Sx, hS, r⟩ := O
    exact ⟨fun pl Q q => getMethod_set_add hS q, fun h _ => keeps_builtin⟩

theorem append_ok (R : Rel c μ st s) {k : Nat} {xs : List MV} {v : MV} {p cv : Value} (hv : VR μ s.heap (.obj k) p) (hst : st[k]? = some (.list xs)) (hz : xs.length ≤ lim) (hx : VR μ s.heap v cv) {Q : Value → Shared → Prop}
    (q : Post c μ s.heap .none (st.set k (.list (xs ++ [v]))) Q) : wpAny (model c.prog c.w) A (call (.builtin "list.append") [p, cv]) Q E s := by
  obtain ⟨p, rfl, hp, _, items, hl, r⟩ := R.ref hv hst
  refine wpAny_list_append_plain hl (fun h' hl' sb => ?_) (by rw [r.size]; exact lim_le hz)
  have z := R.list hp hst sb hl' (ys := xs ++ [v]) (by rw [Array.toList_push]; exact r.append (.cons hx .nil))
  exact q _ _ _ ⟨z.1, R.os, R.gens⟩ z.2 VR.none_mk

theorem last_arr {items : Array Value} {R : MV → Value → Prop} {xs : List MV} (r : All2 R xs items.toList) {v : MV} (h : xs.getLast? = some v) : ∃ y, items[items.size - 1]? = some y ∧ R v y := by
  rw [List.getLast?_eq_getElem?] at h
  have := r.arr h
  rw [r.size]; exact this

theorem pop_ok (R : Rel c μ st s) {k : Nat} {xs : List MV} {v : MV} {p : Value} (hv : VR μ s.heap (.obj k) p) (hst : st[k]? = some (.list xs)) (hz : xs.length ≤ lim) (hl : xs.getLast? = some v) {Q : Value → Shared → Prop}
    (q : Post c μ s.heap v (st.set k (.list xs.dropLast)) Q) : wpAny (model c.prog c.w) A (call (.builtin "list.pop") [p]) Q E s := by
  obtain ⟨p, rfl, hp, _, items, ⟨nn, ho⟩, r⟩ := R.ref hv hst
  obtain ⟨y, hy, hr⟩ := last_arr r hl
  refine call_meets PySem.F.slot_list_pop ⟨_, ho, rfl⟩ PySem.F.entry_list_pop (PySem.F.args_list_pop_1 _) (PySem.MeetsSeq.list_pop_last p.1 items nn y hy (by rw [r.size]; exact lim_le hz)) ⟨ho, ?_⟩
  have sb := Heap.SameBut.update s.heap p.1 (Obj.mapSeq fun xs => xs.eraseIdxIfInBounds (items.size - 1))
  have pl : (s.heap.update p.1 (Obj.mapSeq fun xs => xs.eraseIdxIfInBounds (items.size - 1))).PlainList p.1 (items.eraseIdxIfInBounds (items.size - 1)) :=
    ⟨_, Heap.get?_update_self (Obj.mapSeq fun xs => xs.eraseIdxIfInBounds (items.size - 1)) ho rfl⟩
  have z := R.list hp hst sb pl (ys := xs.dropLast) (by
    have hpos : items.size - 1 < items.size := (Array.getElem?_eq_some_iff.mp hy).1
    have : (items.eraseIdxIfInBounds (items.size - 1)).toList = items.toList.take (xs.length - 1) := by
      rw [Array.eraseIdxIfInBounds, dif_pos hpos, Array.toList_eraseIdx, ← r.size, List.eraseIdx_eq_take_drop_succ]
      rw [List.drop_eq_nil_of_le (by rw [Array.length_toList]; lia), List.append_nil]
    rw [this, List.dropLast_eq_take]
    exact r.take _)
  exact q _ _ _ ⟨z.1, R.os, R.gens⟩ z.2 (hr.mono R.sr z.2 (safe_none _))

end
end Mine.Lake

set_option tactic.hygienic true

set_option tactic.hygienic false
open PySem PySem.W PyProof.Rows PySem.Calls
namespace Mine.Lake

section
variable {c : Cx} {μ : Mu} {st : Objs} {s : Shared} {A : Around} {E : Value → Shared → Prop} {S : Sg}

theorem getS_ok (R : Rel c μ st s) {k : Nat} {kvs : List (Str × MV)} {x : Str} {d : MV} {p ck cd : Value} (hv : VR μ s.heap (.obj k) p) (hst : st[k]? = some (.dictS kvs)) (hk : VR μ s.heap (.str x) ck) (hd : VR μ s.heap d cd) {Q : Value → Shared → Prop}
    (q : Post c μ s.heap ((lookM kvs x).getD d) st Q) : wpAny (model c.prog c.w) A (call (.builtin "dict.get") [p, ck, cd]) Q E s := by
  obtain ⟨p, rfl, hp, _, lo, es, hm, r⟩ := R.ref hv hst
  obtain ⟨t, rfl⟩ := hk.str_inv
  have hkx : (PySem.strKind c.prog c.w).is x (Value.str x t) = true := by show Value.isStrOf x (Value.str x t) = true; simp [Value.isStrOf]
  refine call_meetsIn F.slot_dict_get hm.typeIs F.entry_dict_get (F.args_dict_get_3 _ _ _) (meets_dict_get_default (PySem.strKind c.prog c.w) p.1 (k := x) hkx lo cd) ⟨_, hm.mapOf, ?_⟩
  rcases KV.look r x with ⟨e1, e2⟩ | ⟨y, v, e1, e2, hy⟩
  · rw [e1] at q
    show Q ((valueAt es x).getD cd) _
    rw [e2]; exact q.at R hd _
  · rw [e1] at q
    show Q ((valueAt es x).getD cd) _
    rw [e2]; exact q.at R hy _

theorem getT_ok (R : Rel c μ st s) (hu : A.units + 1200 < cLine) {k : Nat} {kvs : List (List Int × MV)} {ks : List MV} {key : List Int} {d : MV} {p ck cd : Value} (hv : VR μ s.heap (.obj k) p) (hst : st[k]? = some (.dictT kvs)) (hk : VR μ s.heap (.tup ks) ck) (hkey : keyOf ks = some key) (hd : VR μ s.heap d cd)
    {Q : Value → Shared → Prop} (q : Post c μ s.heap ((lookM kvs key).getD d) st Q) : wpAny (model c.prog c.w) A (call (.builtin "dict.get") [p, ck, cd]) Q E s := by
  obtain ⟨p, rfl, hp, _, lo, es, hm, r⟩ := R.ref hv hst
  obtain ⟨a, rfl, hka⟩ := keyOf_tuple (c := c) hkey hk
  refine call_meetsIn F.slot_dict_get hm.typeIs F.entry_dict_get (F.args_dict_get_3 _ _ _) (meetsH_dict_get_default (prog := c.prog) (w := c.w) (tupleKind (intKind c.prog c.w)) p.1 a lo cd) ⟨tupleKind_room_in1 (by lia), key, es, hka, hm, ?_⟩
  rcases KT.look r key with ⟨e1, e2⟩ | ⟨y, v, e1, e2, hy⟩
  · rw [e1] at q
    show Q ((((atKey es key).map (·.2)).getD cd)) _
    rw [e2]; exact q.at R hd _
  · rw [e1] at q
    show Q ((((atKey es key).map (·.2)).getD cd)) _
    rw [e2]; exact q.at R hy _

theorem add_ok (R : Rel c μ st s) {k : Nat} {xs : List Int} {n : Int} {p ck : Value} (hv : VR μ s.heap (.obj k) p) (hst : st[k]? = some (.set xs)) (hz : xs.length < 4000) (hk : VR μ s.heap (.int n) ck) {Q : Value → Shared → Prop}
    (q : Post c μ s.heap .none (if n ∈ xs then st else st.set k (.set (xs ++ [n]))) Q) : wpAny (model c.prog c.w) A (call (.builtin "set.add") [p, ck]) Q E s := by
  obtain ⟨p, rfl, hp, e1, Sx, hS, r⟩ := R.ref hv hst
  obtain ⟨t, rfl⟩ := hk.int_inv
  refine call_set_add (k := n) (by simp [intKind, Value.isInt]) rfl hS (by have : scanBound = 4096 := rfl; lia) (fun h' sb hS' => ?_)
  have G : Grow0 μ s.heap μ h' := same_grow hp (by simp [pa]) sb (by obtain ⟨o, _, _, _, ho, _⟩ := hS'; exact ⟨o, ho⟩)
  by_cases hm : n ∈ xs
  · rw [if_pos hm] at q
    have hSn : Sx n = true := (r n).mpr hm
    rw [if_pos hSn] at hS'
    have z := R.sr.set (mo := .set xs) hp (by simp [pa]) sb ⟨e1, _, hS', fun k' => by
      rw [Bool.or_eq_true, r k', decide_eq_true_eq]
      exact ⟨fun h => h.elim id fun e => e ▸ hm, .inl⟩⟩
    have e : st.set k (.set xs) = st := List.ext_getElem? fun j => by
      by_cases q : k = j
      · subst q
        rw [List.getElem?_set_self (List.getElem?_eq_some_iff.mp hst).1, hst]
      · rw [List.getElem?_set_ne q]
    rw [e] at z
    exact q _ _ _ ⟨z.1, R.os, R.gens⟩ G VR.none_mk
  · rw [if_neg hm] at q
    have hSn : ¬ Sx n = true := fun h => hm ((r n).mp h)
    rw [if_neg hSn] at hS'
    have z := R.sr.set (mo := .set (xs ++ [n])) hp (by simp [pa]) sb ⟨e1, _, by rw [List.length_append]; exact hS', fun k' => by
      rw [Bool.or_eq_true, r k', decide_eq_true_eq, List.mem_append, List.mem_singleton]⟩
    exact q _ _ _ ⟨z.1, R.os, R.gens⟩ G VR.none_mk

theorem methCall_ok {n : Nat} (G : SgOK c S n) (hr : Room n A) (R : Rel c μ st s) {o : MV} {m : Nat} {mv cv : Value} {vs : List MV} {cvs : List Value} (hv : VR μ s.heap o cv) (hvs : All2 (VR μ s.heap) vs cvs) (hm : mval S o m st = some mv)
    {Q : Value → Shared → Prop} {Qm : EP} (h : methM S o m vs st Qm) (q : ∀ v st', Qm v st' → Post c μ s.heap v st' Q) : wpAny (model c.prog c.w) A (call mv (cv :: cvs)) Q E s := by
  cases mval_inv hm with | mk hx H => ?_
  rw [methM_at hx] at h
  rcases H with ⟨hf, rfl⟩ | ⟨rfl, rfl⟩ | ⟨rfl, rfl⟩ | ⟨rfl, rfl⟩ | ⟨rfl, rfl⟩ | ⟨rfl, rfl⟩
  · obtain ⟨f', hf', h⟩ := opt_iff.mp h
    cases hf.symm.trans hf'
    exact G.call _ _ _ _ h A E μ s _ Q hr R (.cons hv hvs) q
  · obtain ⟨v, rfl, h1, h2⟩ := h
    obtain ⟨y, rfl, hy⟩ := hvs.one
    exact append_ok R hv hx h1 hy (q _ _ h2)
  · obtain ⟨rfl, h1, h2⟩ := h
    cases hvs
    obtain ⟨v, hl, h2⟩ := opt_iff.mp h2
    exact pop_ok R hv hx h1 hl (q _ _ h2)
  · obtain ⟨x, d, rfl, h⟩ := h
    obtain ⟨y, z, rfl, hy, hz⟩ := hvs.two
    exact getS_ok R hv hx hy hz (q _ _ h)
  · obtain ⟨ks, d, rfl, h⟩ := h
    obtain ⟨y, z, rfl, hy, hz⟩ := hvs.two
    obtain ⟨key, hkey, h2⟩ := opt_iff.mp h
    exact getT_ok R hr.units hv hx hy hkey hz (q _ _ h2)
  · obtain ⟨n, rfl, h1, h2⟩ := h
    obtain ⟨y, rfl, hy⟩ := hvs.one
    exact add_ok R hv hx h1 hy (q _ _ h2)
end
end Mine.Lake

set_option tactic.hygienic true

set_option tactic.hygienic false
open PySem PySem.W PyProof.Rows PySem.Calls
namespace Mine.Lake

noncomputable def ItPos (μ : Mu) (h : Heap) (v : MV) (I : Addr) (i : Nat) : Prop := match v with
  | .tup xs => ∃ t items, h.IsTupleIter I t i ∧ h.get? t = some { cls := .type "tuple", data := .seq items } ∧ All2 (VR μ h) xs items.toList
  | .obj k => ∃ p, μ[k]? = some p ∧ h.IsListIter I p.1 i
  | .rng a b d => IsRangeIter h I (a + (i : Int) * d) (Builtin.Range.rangeSize a b d - i) d
  | _ => False

theorem ItPos.get {μ : Mu} {h : Heap} {v : MV} {I : Addr} {i : Nat} (x : ItPos μ h v I i) : ∃ o, h.get? I = some o ∧ imm o = false := by
  unfold ItPos at x
  split at x
  · obtain ⟨t, items, ⟨o, ho, hc, hd⟩, _⟩ := x; exact ⟨o, ho, by unfold imm; rw [hd, hc]; show (Value.type "tuple_iterator" == Value.type "range") = false; decide⟩
  · obtain ⟨p, hp, ⟨o, ho, hc, hd⟩⟩ := x; exact ⟨o, ho, by unfold imm; rw [hd, hc]; show (Value.type "list_iterator" == Value.type "range") = false; decide⟩
  · exact ⟨_, x, by show (Value.type "range_iterator" == Value.type "range") = false; decide⟩
  · exact x.elim

structure ItAt (c : Cx) (μ : Mu) (h : Heap) (v : MV) (I : Addr) (i : Nat) : Prop where
  pos : ItPos μ h v I i
  new : c.h0.get? I = none
  out : ¬ inMu μ I

section
variable {c : Cx} {μ : Mu} {st : Objs} {s : Shared} {A : Around} {E : Value → Shared → Prop}

theorem ItAt.safe {h : Heap} {v : MV} {I : Addr} {i : Nat} (x : ItAt c μ h v I i) : Safe (· = I) h := fun a o e g => by
  obtain ⟨o', e', q⟩ := x.pos.get
  subst e; rw [g] at e'; cases e'; exact q

theorem ItAt.monoK {μ' : Mu} {h h' : Heap} {v : MV} {I : Addr} {i : Nat} {X : Addr → Prop} (x : ItAt c μ h v I i) (S : SR c μ st h) (G : Keep X μ h μ' h') (sf : Safe X h) (hI : ¬ X I) (ho : ¬ inMu μ' I) : ItAt c μ' h' v I i := by
  refine ⟨?_, x.new, ho⟩
  have p := x.pos
  unfold ItPos at p ⊢
  split at p
  · obtain ⟨t, items, ⟨o, ho, hc, hd⟩, ht, r⟩ := p
    refine ⟨t, items, ⟨o, G.old _ _ ho x.out hI, hc, hd⟩, G.old _ _ ht (fun m => ?_) (fun q => ?_), r.mono fun _ _ q => q.monoK S G sf⟩
    · obtain ⟨o', e, f⟩ := S.mut m; rw [ht] at e; (first | exact no e | cases e); cases f
    · have := sf _ _ q ht; (first | exact no this | cases this)
  · obtain ⟨p, hp, ⟨o, ho, hc, hd⟩⟩ := p
    exact ⟨p, G.pre _ _ hp, ⟨o, G.old _ _ ho x.out hI, hc, hd⟩⟩
  · exact G.old _ _ p x.out hI
  · exact p.elim

theorem ItAt.mono {μ' : Mu} {h h' : Heap} {v : MV} {I : Addr} {i : Nat} (x : ItAt c μ h v I i) (S : SR c μ st h) (G : Grow0 μ h μ' h') : ItAt c μ' h' v I i :=
  x.monoK S G.keep (safe_none h) (fun q => q.elim) (let ⟨o, ho, _⟩ := x.pos.get; G.notIn ho x.out)

theorem Rel.fresh (R : Rel c μ st s) : c.h0.get? s.heap.objs.size = none ∧ ¬ inMu μ s.heap.objs.size := by
  constructor
  · cases e : c.h0.get? s.heap.objs.size with
    | none => rfl
    | some o => have := R.sr.keep _ _ e; rw [get_size] at this; (first | exact no this | cases this)
  · intro m
    obtain ⟨o, e, _⟩ := R.sr.mut m
    rw [get_size] at e; (first | exact no e | cases e)

theorem itemsM_inv {v : MV} {xs : List MV} (h : itemsM st v = some xs) : v = .tup xs ∨ (∃ k, v = .obj k ∧ st[k]? = some (.list xs)) ∨ (∃ a b d, v = .rng a b d ∧ Builtin.Range.small a b d = true ∧ xs = rngL a b d) := by
  cases v with
  | tup => cases h; exact .inl rfl
  | rng => obtain ⟨hs, h⟩ := ite_some h; unfold smallR at hs; cases h; exact .inr (.inr ⟨_, _, _, rfl, hs, rfl⟩)
  | obj k =>
    unfold itemsM at h
    dsimp only at h
    generalize e : st[k]? = o at h
    cases o with
    | none => exact no h
    | some y => cases y with
      | list => cases h; exact .inr (.inl ⟨_, rfl, e⟩)
      | _ => exact no h
  | _ => exact no h

theorem iter_start (R : Rel c μ st s) {v : MV} {cv : Value} {xs : List MV} (hv : VR μ s.heap v cv) (h : itemsM st v = some xs) {Q : Value → Shared → Prop}
    (q : ∀ I s', s.heap.get? I = none → Rel c μ st s' → Grow0 μ s.heap μ s'.heap → ItAt c μ s'.heap v I 0 → Q (.ref I) s') : wpAny (model c.prog c.w) A (pyIter cv) Q E s := by
  obtain ⟨f1, f2⟩ := R.fresh
  rcases itemsM_inv h with rfl | ⟨k, rfl, hst⟩ | ⟨a, b, d, rfl, hs, rfl⟩
  · obtain ⟨t, items, rfl, ho, r⟩ := hv.tup_inv
    refine wpAny_pyIter_tuple (items := items) ⟨_, ho, rfl, _, rfl⟩ (q _ _ (get_size _) (R.push _ _) (Grow.pushed _ _) ⟨?_, f1, f2⟩)
    exact ⟨t, items, ⟨_, Heap.get?_push_size _ rfl, rfl, rfl⟩, Heap.get?_push_of_some _ ho, r.mono fun _ _ z => z.mono R.sr (Grow.pushed _ _) (safe_none _)⟩
  · obtain ⟨p, rfl, hp, _, items, ⟨m, ho⟩, r⟩ := R.ref hv hst
    refine wpAny_pyIter_list (items := items) ⟨_, ho, rfl, _, rfl⟩ (q _ _ (get_size _) (R.push _ _) (Grow.pushed _ _) ⟨?_, f1, f2⟩)
    exact ⟨p, hp, ⟨_, Heap.get?_push_size _ rfl, rfl, rfl⟩⟩
  · obtain ⟨r, t, u, w, rfl, ho⟩ := hv
    refine wpAny_pyIter_range ho hs (q _ _ (get_size _) (R.push _ _) (Grow.pushed _ _) ⟨?_, f1, f2⟩)
    show IsRangeIter _ _ _ _ _
    unfold IsRangeIter
    rw [show a + ((0 : Nat) : Int) * d = a by simp, show Builtin.Range.rangeSize a b d - ((0 : Nat) : Int) = Builtin.Range.rangeSize a b d by simp]
    exact Heap.get?_push_size _ rfl

theorem Keep.same {h h' : Heap} {I : Addr} (e : ∀ a o, a ≠ I → h.get? a = some o → h'.get? a = some o) : Keep (· = I) μ h μ h' := ⟨fun _ _ x => x, fun a o ha n x => e a o x ha⟩

theorem Rel.iter (R : Rel c μ st s) {v : MV} {I : Addr} {i : Nat} (x : ItAt c μ s.heap v I i) {h' : Heap} (e : ∀ a o, a ≠ I → s.heap.get? a = some o → h'.get? a = some o) (k : Nat) : Rel c μ st { s with heap := h', toks := k } :=
  ⟨R.sr.stepK (Keep.same e) x.safe (fun a m => by
    obtain ⟨o, z, _⟩ := R.sr.mut m
    rw [z]; exact e a o (fun q => x.out (q ▸ m)) z) (fun a q => by subst q; exact x.new), R.os, R.gens⟩

theorem iter_next (R : Rel c μ st s) {v : MV} {xs : List MV} {I : Addr} {i : Nat} {y : MV} (h : itemsM st v = some xs) (x : ItAt c μ s.heap v I i) (hy : xs[i]? = some y) {Q : Option Value → Shared → Prop}
    (q : ∀ cy s', Rel c μ st s' → Heap.SameBut I s.heap s'.heap → ItAt c μ s'.heap v I (i + 1) → VR μ s'.heap y cy → Q (some cy) s') : wpAny (model c.prog c.w) A (pyNext (.ref I)) Q E s := by
  rcases itemsM_inv h with rfl | ⟨k, rfl, hst⟩ | ⟨a, b, d, rfl, hs, rfl⟩
  · obtain ⟨t, items, hit, ht, r⟩ := x.pos
    obtain ⟨cy, e1, e2⟩ := r.arr hy
    refine wpAny_pyNext_tuple_item hit (items := items) ⟨_, ht, rfl, _, rfl⟩ e1 fun h' hit' sb => ?_
    have ke : ∀ a o, a ≠ I → s.heap.get? a = some o → h'.get? a = some o := fun a o n e => (sb.2 a n).trans e
    have hne : t ≠ I := fun q => by
      obtain ⟨o, z, w⟩ := x.pos.get
      rw [← q, ht] at z; (first | exact no z | cases z); (first | exact no w | cases w)
    exact q cy _ (R.iter x ke s.toks) sb ⟨⟨t, items, hit', ke _ _ hne ht, r.mono fun _ _ z => z.monoK R.sr (Keep.same ke) x.safe⟩, x.new, x.out⟩ (e2.monoK R.sr (Keep.same ke) x.safe)
  · obtain ⟨p, hp, hit⟩ := x.pos
    obtain ⟨p', hp', _, items, ⟨m, ho⟩, r⟩ := R.at hst
    rw [hp] at hp'; cases hp'
    obtain ⟨cy, e1, e2⟩ := r.arr hy
    refine wpAny_pyNext_list_item hit (items := items) ⟨_, ho, rfl, _, rfl⟩ e1 fun h' hit' sb => ?_
    have ke : ∀ a o, a ≠ I → s.heap.get? a = some o → h'.get? a = some o := fun a o n e => (sb.2 a n).trans e
    exact q cy _ (R.iter x ke s.toks) sb ⟨⟨p, hp, hit'⟩, x.new, x.out⟩ (e2.monoK R.sr (Keep.same ke) x.safe)
  · have hit : IsRangeIter s.heap I (a + (i : Int) * d) (Builtin.Range.rangeSize a b d - i) d := x.pos
    unfold rngL at hy
    rw [List.getElem?_map] at hy
    cases e : (List.range (Builtin.Range.rangeSize a b d).toNat)[i]? with
    | none => rw [e] at hy; (first | exact no hy | cases hy)
    | some j =>
      rw [e] at hy; (first | exact no hy | cases hy)
      have hlt : i < (Builtin.Range.rangeSize a b d).toNat := by
        have := (List.getElem?_eq_some_iff.mp e).1
        simpa using this
      have hj : j = i := by
        rw [List.getElem?_range hlt] at e; (first | exact no e | cases e); rfl
      subst hj
      refine wpAny_pyNext_range_item hit (by lia) fun h' hit' sb => ?_
      have ke : ∀ a o, a ≠ I → s.heap.get? a = some o → h'.get? a = some o := fun a o n e => (sb.2 a n).trans e
      refine q _ _ (R.iter x ke _) sb ⟨?_, x.new, x.out⟩ (VR.int_mk _ _)
      show IsRangeIter _ _ _ _ _
      have e1 : a + ((j + 1 : Nat) : Int) * d = a + (j : Int) * d + d := by
        rw [Int.natCast_add, Int.add_mul]; lia
      have e2 : Builtin.Range.rangeSize a b d - ((j + 1 : Nat) : Int) = Builtin.Range.rangeSize a b d - (j : Int) - 1 := by lia
      rw [e1, e2]; exact hit'

theorem iter_end (R : Rel c μ st s) (hh : A.handled = none) {v : MV} {xs : List MV} {I : Addr} {i : Nat} (h : itemsM st v = some xs) (x : ItAt c μ s.heap v I i) (hy : xs[i]? = none) {Q : Option Value → Shared → Prop}
    (q : ∀ s', Rel c μ st s' → (∀ a o, a ≠ I → s.heap.get? a = some o → s'.heap.get? a = some o) → Q none s') : wpAny (model c.prog c.w) A (pyNext (.ref I)) Q E s := by
  rcases itemsM_inv h with rfl | ⟨k, rfl, hst⟩ | ⟨a, b, d, rfl, hs, rfl⟩
  · obtain ⟨t, items, hit, ht, r⟩ := x.pos
    refine wpAny_pyNext_tuple_end hh hit (items := items) ⟨_, ht, rfl, _, rfl⟩ (by
      rw [Array.getElem?_eq_none_iff, r.size]; exact List.getElem?_eq_none_iff.mp hy) fun h' sb => ?_
    exact q _ (R.iter x sb s.toks) sb
  · obtain ⟨p, hp, hit⟩ := x.pos
    obtain ⟨p', hp', _, items, ⟨m, ho⟩, r⟩ := R.at hst
    rw [hp] at hp'; cases hp'
    refine wpAny_pyNext_list_end hh hit (items := items) ⟨_, ho, rfl, _, rfl⟩ (by
      rw [Array.getElem?_eq_none_iff, r.size]; exact List.getElem?_eq_none_iff.mp hy) fun h' sb => ?_
    exact q _ (R.iter x sb s.toks) sb
  · have hit : IsRangeIter s.heap I (a + (i : Int) * d) (Builtin.Range.rangeSize a b d - i) d := x.pos
    refine wpAny_pyNext_range_end hh hit (by
      have := List.getElem?_eq_none_iff.mp hy
      unfold rngL at this
      rw [List.length_map, List.length_range] at this
      lia) fun h' sb => ?_
    exact q _ (R.iter x sb s.toks) sb
end
end Mine.Lake

set_option tactic.hygienic true

set_option tactic.hygienic false
open PySem PySem.W PyProof.Rows PySem.Calls
namespace Mine.Lake

theorem bind_some {α β : Type} {x : Option α} {f : α → Option β} {b : β} (h : (x >>= f) = some b) : ∃ a, x = some a ∧ f a = some b := Option.bind_eq_some_iff.mp h
theorem map_some {α β : Type} {x : Option α} {f : α → β} {b : β} (h : x.map f = some b) : ∃ a, x = some a ∧ f a = b := Option.map_eq_some_iff.mp h

inductive NameI (x : Str) : Expr → Prop
  | mk (p : Pos) : NameI x (.Name x p)
theorem nameOf_inv {e : Expr} {x : Str} (h : nameOf e = some x) : NameI x e := by
  cases e with
  | Name y p => cases h; exact .mk p
  | _ => exact no h

section pev
variable {S : Sg} {loc : List MV}
theorem cstV_inv {v w : MV} (h : cstV v = some w) : v = w := by
  cases v with
  | int => cases h; rfl
  | str => cases h; rfl
  | _ => exact no h
theorem intC_inv {e : ME} {n : Int} (h : intC e = some n) : e = .cst (.int n) := by
  cases e with
  | cst v => cases v with
    | int => cases h; rfl
    | _ => exact no h
  | _ => exact no h
theorem tupAt_inv {v x : MV} {n : Int} (st : Objs) (h : tupAt v n = some x) : subM st v (.int n) = some x := by
  cases v with
  | tup => exact h
  | _ => exact no h
mutual
theorem pev_wp : ∀ {e : ME} {v : MV} {st : Objs} {Q : EP}, pev loc e = some v → Q v st → wpE S loc e st Q
  | .loc i, v, st, Q, h, q => opt_iff.mpr ⟨v, h, q⟩
  | .cst x, v, st, Q, h, q => by cases cstV_inv h; exact q
  | .tup es, v, st, Q, h, q => by
    obtain ⟨vs, h1, rfl⟩ := map_some h
    exact pevs_wp (Q := fun vs st1 => Q (.tup vs) st1) h1 q
  | .sub e i, v, st, Q, h, q => by
    obtain ⟨n, h1, g⟩ := bind_some h
    obtain ⟨w, h2, g⟩ := bind_some g
    exact pev_wp (Q := fun v st1 => wpE S loc i st1 fun k st2 => opt (subM st2 v k) fun x => Q x st2) h2 (by cases intC_inv h1; exact opt_iff.mpr ⟨v, tupAt_inv st g, q⟩)
  | .attr .., v, st, Q, h, q => no h
  | .slc .., v, st, Q, h, q => no h
  | .lst .., v, st, Q, h, q => no h
  | .dict0, v, st, Q, h, q => no h
  | .bin .., v, st, Q, h, q => no h
  | .neg .., v, st, Q, h, q => no h
  | .not .., v, st, Q, h, q => no h
  | .cmp .., v, st, Q, h, q => no h
  | .and .., v, st, Q, h, q => no h
  | .or .., v, st, Q, h, q => no h
  | .ife .., v, st, Q, h, q => no h
  | .call .., v, st, Q, h, q => no h
  | .meth .., v, st, Q, h, q => no h
  | .comp .., v, st, Q, h, q => no h
theorem pevs_wp : ∀ {es : List ME} {vs : List MV} {st : Objs} {Q : List MV → Objs → Prop}, pevs loc es = some vs → Q vs st → wpEs S loc es st Q
  | [], vs, st, Q, h, q => by cases h; exact q
  | e :: es, vs, st, Q, h, q => by
    obtain ⟨a, h1, g⟩ := bind_some h
    obtain ⟨b, h2, g⟩ := bind_some g
    cases g
    exact pev_wp (Q := fun v st1 => wpEs S loc es st1 fun vs st2 => Q (v :: vs) st2) h1 (pevs_wp h2 q)
end
end pev

structure EnvOK (c : Cx) (env : Env) (t : TEnv) : Prop where
  kind : env.scope.kind = .function
  nodup : t.ns.Nodup
  loc : ∀ x i, idx x t.ns = some i → env.kindOf x = some .local ∧ (x == ("__debug__" : Str)) = false
  glob : ∀ x v pos, t.glob x = some v → idx x t.ns = none → ∀ (A : Around) (E : Value → Shared → Prop) (μ : Mu) (st : Objs) (s : Shared) (Q : Value → Shared → Prop), Rel c μ st s → (∀ cv, VR μ s.heap v cv → Q cv s) → wpAny (model c.prog c.w) A (eval (.Name x pos) env) Q E s

noncomputable def SE (c : Cx) (S : Sg) (n : Nat) (e : Expr) : Prop := ∀ (t : TEnv) (env : Env) (me : ME), trE t e = some me → EnvOK c env t → ∀ (A : Around), Room n A → ∀ (E : Value → Shared → Prop) (μ : Mu) (st : Objs) (s : Shared) (loc : List MV)
  (Q : Value → Shared → Prop) (Qm : EP), Rel c μ st s → LR c μ s.heap env.locals t.ns loc → wpE S loc me st Qm → (∀ v st', Qm v st' → Post c μ s.heap v st' Q) → wpAny (model c.prog c.w) A (eval e env) Q E s

noncomputable def plainE (e : Expr) : Bool := !(e.ctorIdx == 22)
theorem plainE_of {t : TEnv} {e : Expr} {me : ME} (h : trE t e = some me) : plainE e = true := by
  (first | exact no e | cases e) <;> first | rfl | (first | exact no h | cases h)
theorem star_cons {e : Expr} {r : List Expr} {env : Env} (h : plainE e = true) : starEach (e :: r) env = (false, eval e env) :: starEach r env := by
  (first | exact no e | cases e) <;> first | rfl | (first | exact no h | cases h)
theorem plain_any {t : TEnv} {env : Env} {pos : Pos} : ∀ {es : List Expr} {mes : List ME}, trEs t es = some mes → (backTo pos (starEach es env)).any (·.1) = false
  | [], _, _ => rfl
  | e :: r, mes, h => by
    obtain ⟨a, ha, h⟩ := bind_some h
    obtain ⟨b, hb, h⟩ := bind_some h
    rw [star_cons (plainE_of ha)]
    show (false || (backTo pos (starEach r env)).any (·.1)) = false
    rw [plain_any hb]; rfl
theorem plain_all {t : TEnv} {env : Env} {pos : Pos} : ∀ {es : List Expr} {mes : List ME}, trEs t es = some mes → (backTo pos (starEach es env)).all (fun x => !x.1) = true
  | [], _, _ => rfl
  | e :: r, mes, h => by
    obtain ⟨a, ha, h⟩ := bind_some h
    obtain ⟨b, hb, h⟩ := bind_some h
    rw [star_cons (plainE_of ha)]
    show (true && (backTo pos (starEach r env)).all (fun x => !x.1)) = true
    rw [plain_all hb]; rfl

section
variable {M : Model} {A : Around} {E : Value → Shared → Prop} {s : Shared}
theorem evalArgs_any {f : Value} {args : List (Bool × Sem Value)} {Q : Args → Shared → Prop} (hp : args.any (·.1) = false)
    (h : wpAny M A (spliced args) (fun vs s' => Q ⟨vs, []⟩ s') E s) : wpAny M A (evalArgs f true args []) Q E s := by
  cases args with
  | nil =>
    unfold evalArgs
    show wpAny M A (spliced [] >>= _) Q E s
    refine wpAny_bind (wpAny_mono h (fun vs s' h' => ?_) fun _ _ x => x)
    refine wpAny_bind (wpAny_pure (wpAny_holding ?_))
    exact wpAny_bind (wpAny_pure (wpAny_bind (wpAny_pure (wpAny_pure h'))))
  | cons a r =>
    obtain ⟨b, x⟩ := a
    cases b with
    | false => exact evalArgs_plain h
    | true => (first | exact no hp | cases hp)
end

section
variable {c : Cx} {S : Sg} {n : Nat}

theorem LR.after {μ μ' : Mu} {st : Objs} {h h' : Heap} {L : Addr} {ns : List Str} {loc : List MV} (x : LR c μ h L ns loc) (S : SR c μ st h) (G : Grow0 μ h μ' h') : LR c μ' h' L ns loc := x.mono S G

theorem se_list {es : List Expr} (hs : ∀ e ∈ es, SE c S n e) : ∀ (t : TEnv) (env : Env) (mes : List ME), trEs t es = some mes → EnvOK c env t → ∀ (A : Around), Room n A → ∀ (E : Value → Shared → Prop) (μ : Mu) (st : Objs) (s : Shared) (loc : List MV) (pos : Pos)
    (Q : List Value → Shared → Prop) (Qm : List MV → Objs → Prop), Rel c μ st s → LR c μ s.heap env.locals t.ns loc → wpEs S loc mes st Qm →
    (∀ vs st', Qm vs st' → ∀ μ' cvs s', Rel c μ' st' s' → Grow0 μ s.heap μ' s'.heap → All2 (VR μ' s'.heap) vs cvs → cvs.length = es.length → Q cvs s') → wpAny (model c.prog c.w) A (spliced (backTo pos (starEach es env))) Q E s := by
  induction es with
  | nil =>
    intro t env mes h En A hr E μ st s loc pos Q Qm R L w q
    (first | exact no h | cases h)
    exact Calls.spliced_nil (q _ _ w μ [] s R (Grow.refl _ _ _) .nil rfl)
  | cons e r ih =>
    intro t env mes h En A hr E μ st s loc pos Q Qm R L w q
    obtain ⟨a, ha, h⟩ := bind_some h
    obtain ⟨b, hb, h⟩ := bind_some h
    (first | exact no h | cases h)
    rw [star_cons (plainE_of ha)]
    refine Calls.spliced_cons (hs e (.head _) t env a ha En A hr E μ st s loc _ _ R L w fun v st1 w1 μ1 cv s1 R1 G1 hv => ?_)
    refine ih (fun e he => hs e (.tail _ he)) t env b hb En A hr E μ1 st1 s1 loc pos _ _ R1 (L.mono R.sr G1) w1 fun vs st2 w2 μ2 cvs s2 R2 G2 hvs hlen => ?_
    exact q _ _ w2 μ2 _ s2 R2 (G1.trans G2) (.cons (hv.mono R1.sr G2 (safe_none _)) hvs) (by rw [List.length_cons, List.length_cons, hlen])

theorem se_bin {l r : Expr} {op : Operator} {p : Pos} (hl : SE c S n l) (hr' : SE c S n r) : SE c S n (.BinOp l op r p) := by
  intro t env me h En A hr E μ st s loc Q Qm R L w q
  obtain ⟨a, ha, h⟩ := bind_some h
  obtain ⟨b, hb, h⟩ := bind_some h
  (first | exact no h | cases h)
  refine wpAny_BinOp (hl t env a ha En A hr E μ st s loc _ _ R L w fun v st1 w1 μ1 cv s1 R1 G1 hv => ?_)
  refine hr' t env b hb En A hr E μ1 st1 s1 loc _ _ R1 (L.mono R.sr G1) w1 fun v2 st2 w2 μ2 cv2 s2 R2 G2 hv2 => ?_
  obtain ⟨x, e, w3⟩ := opt_iff.mp w2
  exact bin_ok R2 (hv.mono R1.sr G2 (safe_none _)) hv2 e ((q _ _ w3).after (G1.trans G2))

theorem behind_no {t : TEnv} {op : CmpOp} {e : Expr} {me : ME} (h : trE t e = some me) : behindInMarks op e = false := by
  (first | exact no e | cases e) <;> first | rfl | (first | exact no h | cases h)
theorem folded_no {t : TEnv} {env : Env} {e : Expr} {me : ME} (h : trE t e = some me) : ∀ x, foldedSetIterable e env x = pure x := by
  (first | exact no e | cases e) <;> first | (intro x; rfl) | (first | exact no h | cases h)

theorem se_cmp {l r : Expr} {op : CmpOp} {p : Pos} (hl : SE c S n l) (hr' : SE c S n r) : SE c S n (.Compare l [op] [r] p) := by
  intro t env me h En A hr E μ st s loc Q Qm R L w q
  obtain ⟨a, ha, h⟩ := bind_some h
  obtain ⟨b, hb, h⟩ := bind_some h
  (first | exact no h | cases h)
  refine wpAny_Compare1 (hl t env a ha En A hr E μ st s loc _ _ R L w fun v st1 w1 μ1 cv s1 R1 G1 hv => ?_) (behind_no hb)
  refine hr' t env b hb En A hr E μ1 st1 s1 loc _ _ R1 (L.mono R.sr G1) w1 fun v2 st2 w2 μ2 cv2 s2 R2 G2 hv2 => ?_
  obtain ⟨x, e, w3⟩ := opt_iff.mp w2
  exact cmp_ok R2 hr.units (hv.mono R1.sr G2 (safe_none _)) hv2 e fun k => ((q _ _ w3).after (G1.trans G2)).at R2 (VR.bool_mk _) k

theorem se_cmpT {l r : Expr} {op : CmpOp} {p : Pos} {whole : Sem Value} (hl : SE c S n l) (hr' : SE c S n r) {t : TEnv} {env : Env} {a b : ME} (ha : trE t l = some a) (hb : trE t r = some b) (En : EnvOK c env t) {A : Around} (hr : Room n A)
    {E : Value → Shared → Prop} {μ : Mu} {st : Objs} {s : Shared} {loc : List MV} {Q : Bool → Shared → Prop} {Qm : Bool → Objs → Prop} (R : Rel c μ st s) (L : LR c μ s.heap env.locals t.ns loc)
    (w : wpE S loc a st fun u st1 => wpE S loc b st1 fun v st2 => opt (cmpM st2 op u v) fun c => Qm c st2)
    (q : ∀ b st', Qm b st' → ∀ μ' s', Rel c μ' st' s' → Grow0 μ s.heap μ' s'.heap → Q b s') : wpAny (model c.prog c.w) A (isTrue (.Compare l [op] [r] p) env whole) Q E s := by
  refine wpAny_isTrue_Compare1 (hl t env a ha En A hr E μ st s loc _ _ R L w fun v st1 w1 μ1 cv s1 R1 G1 hv => ?_) (behind_no hb)
  refine hr' t env b hb En A hr E μ1 st1 s1 loc _ _ R1 (L.mono R.sr G1) w1 fun v2 st2 w2 μ2 cv2 s2 R2 G2 hv2 => ?_
  obtain ⟨x, e, w3⟩ := opt_iff.mp w2
  exact cmp_ok R2 hr.units (hv.mono R1.sr G2 (safe_none _)) hv2 e fun k => wpAny_truthy_bool (q _ _ w3 μ2 _ (R2.toks k) (G1.trans G2))

theorem se_neg {x : Expr} {p : Pos} (hx : SE c S n x) : SE c S n (.UnaryOp .USub x p) := by
  intro t env me h En A hr E μ st s loc Q Qm R L w q
  obtain ⟨a, ha, rfl⟩ := map_some h
  refine wpAny_UnaryOp (hx t env a ha En A hr E μ st s loc _ _ R L w fun v st1 w1 μ1 cv s1 R1 G1 hv => ?_)
  split at w1
  · exact neg_ok R1 hv ((q _ _ w1).after G1)
  · exact w1.elim

theorem len_ok {n : Nat} (h : n ≤ 1000) : n ≤ sizeLine := by rw [sizeLine_eq]; lia

theorem se_tup {es : List Expr} {p : Pos} {x1} (hs : ∀ e ∈ es, SE c S n e) : SE c S n (.Tuple es x1 p) := by
  intro t env me h En A hr E μ st s loc Q Qm R L w q
  obtain ⟨hlen, h⟩ := ite_some h
  · obtain ⟨a, ha, rfl⟩ := map_some h
    refine wpAny_Tuple_spliced (se_list hs t env a ha En A hr E μ st s loc p _ _ R L w fun vs st1 w1 μ1 cvs s1 R1 G1 hvs hl => ⟨by rw [hl]; exact len_ok hlen, ?_⟩)
    exact Post.tup R1 ((q _ _ w1).after G1) (by simpa using hvs) s1.toks

theorem se_lst {es : List Expr} {p : Pos} (hs : ∀ e ∈ es, SE c S n e) : SE c S n (.List es p) := by
  intro t env me h En A hr E μ st s loc Q Qm R L w q
  obtain ⟨hlen, h⟩ := ite_some h
  · obtain ⟨a, ha, rfl⟩ := map_some h
    refine wpAny_List_spliced (se_list hs t env a ha En A hr E μ st s loc p _ _ R L w fun vs st1 w1 μ1 cvs s1 R1 G1 hvs hl => ⟨by rw [hl]; exact len_ok hlen, ?_⟩)
    exact Post.list R1 ((q _ _ w1).after G1) (by simpa using hvs) s1.toks 0

theorem base_whole {o : Expr} {attr : Str} {env : Env} {whole : Sem Value} (h : baseOK o = true) : attributeBase o attr env whole = whole := by
  cases o <;> first | rfl | (first | exact no h | cases h)

theorem se_attr (X : c.K.In c.h0) {v : Expr} {a : Str} {p : Pos} (hv : SE c S n v) : SE c S n (.Attribute v a p) := by
  intro t env me h En A hr E μ st s loc Q Qm R L w q
  obtain ⟨hb, h⟩ := ite_some h
  · obtain ⟨x, hx, h⟩ := bind_some h
    obtain ⟨i, hi, h⟩ := bind_some h
    (first | exact no h | cases h)
    obtain ⟨rfl, h41⟩ := anm_of hi
    refine Attribute_any_ (hv t env x hx En A hr E μ st s loc _ _ R L w fun u st1 w1 μ1 cv s1 R1 G1 hcv => ?_) (by
      show (do
        let o ← attributeBase v (anm i) env (eval v env)
        standAt p.atName
        let r ← holding [o] (getAttr o (anm i) true)
        letTemporaryGo v o r
        pure r) = _
      rw [base_whole hb])
    obtain ⟨y, e, w2⟩ := opt_iff.mp w1
    exact getAttr_ok X R1 hcv e fun cx hcx => ((q _ _ w2).after G1).at R1 hcx _

theorem slice_no {t : TEnv} {e : Expr} {me : ME} (h : trE t e = some me) : ∀ a i tk, subscripted e false (.ref a) (.int i tk) = operate [.ref a, .int i tk] (getItem (.ref a) (.int i tk)) := by
  (first | exact no e | cases e) <;> first | (intros; rfl) | (first | exact no h | cases h)

theorem trL_inv {t : TEnv} {i : Expr} {x : ME × ME × ME} (h : trL t i = some x) : ∃ lo hi sp pp, i = .Slice lo hi sp pp ∧ trO t lo = some x.1 ∧ trO t hi = some x.2.1 ∧ trO t sp = some x.2.2 := by
  cases i <;> first | ((first | exact no h | cases h); done) | skip
  obtain ⟨a, h2, h⟩ := bind_some h
  obtain ⟨b, h3, h⟩ := bind_some h
  obtain ⟨d, h4, h⟩ := bind_some h
  (first | exact no h | cases h)
  exact ⟨_, _, _, _, rfl, h2, h3, h4⟩
inductive SubE (t : TEnv) (v i : Expr) (me : ME) : Prop
  | slc (lo hi sp : Option Expr) (pp : Pos) (v' a b d : ME) (h0 : i = .Slice lo hi sp pp) (h1 : trE t v = some v') (h2 : trO t lo = some a) (h3 : trO t hi = some b) (h4 : trO t sp = some d) (h5 : me = .slc v' a b d)
  | sub (v' i' : ME) (h1 : trE t v = some v') (h2 : trE t i = some i') (h3 : me = .sub v' i')
theorem trE_sub {t : TEnv} {v i : Expr} {p : Pos} {me : ME} (h : trE t (.Subscript v i p) = some me) : SubE t v i me := by
  have h : (match isSlice i with
    | true => (do let v ← trE t v; let x ← trL t i; return .slc v x.1 x.2.1 x.2.2)
    | false => (do let v ← trE t v; let i ← trE t i; return .sub v i)) = some me := h
  split at h
  · obtain ⟨v', h1, h⟩ := bind_some h
    obtain ⟨x, h2, h⟩ := bind_some h
    obtain ⟨lo, hi, sp, pp, h0, h2, h3, h4⟩ := trL_inv h2
    (first | exact no h | cases h)
    exact .slc _ _ _ _ _ _ _ _ h0 h1 h2 h3 h4 rfl
  · obtain ⟨v', h1, h⟩ := bind_some h
    obtain ⟨i', h2, h⟩ := bind_some h
    (first | exact no h | cases h)
    exact .sub _ _ h1 h2 rfl

theorem se_sub {v i : Expr} {p : Pos} (hv : SE c S n v) (hi : SE c S n i) {t : TEnv} {env : Env} {v' i' : ME} (ha : trE t v = some v') (hb : trE t i = some i') (En : EnvOK c env t) {A : Around} (hr : Room n A) {E : Value → Shared → Prop} {μ : Mu} {st : Objs} {s : Shared}
    {loc : List MV} {Q : Value → Shared → Prop} {Qm : EP} (R : Rel c μ st s) (L : LR c μ s.heap env.locals t.ns loc) (w : wpE S loc (.sub v' i') st Qm) (q : ∀ v st', Qm v st' → Post c μ s.heap v st' Q) :
    wpAny (model c.prog c.w) A (eval (.Subscript v i p) env) Q E s := by
  refine Subscript_ (hv t env v' ha En A hr E μ st s loc _ _ R L w fun v st1 w1 μ1 cv s1 R1 G1 hv => ?_)
  refine hi t env i' hb En A hr E μ1 st1 s1 loc _ _ R1 (L.mono R.sr G1) w1 fun v2 st2 w2 μ2 cv2 s2 R2 G2 hv2 => ?_
  obtain ⟨x, e, w3⟩ := opt_iff.mp w2
  exact sub_ok R2 (hv.mono R1.sr G2 (safe_none _)) hv2 e (slice_no hb) fun cx tk hcx => ((q _ _ w3).after (G1.trans G2)).at R2 hcx tk
end
end Mine.Lake

set_option tactic.hygienic true

set_option tactic.hygienic false
open PySem PySem.W PyProof.Rows PySem.Calls
namespace Mine.Lake

section
variable {c : Cx} {μ : Mu} {st : Objs} {s : Shared} {A : Around} {E : Value → Shared → Prop}

theorem Rel.but (R : Rel c μ st s) {b : Addr} (hn : c.h0.get? b = none) (ho : ¬ inMu μ b) (sf : Safe (· = b) s.heap) {h' : Heap} (e : ∀ a o, a ≠ b → s.heap.get? a = some o → h'.get? a = some o) (k : Nat) : Rel c μ st { s with heap := h', toks := k } :=
  ⟨R.sr.stepK (Keep.same e) sf (fun a m => by
    obtain ⟨o, z, _⟩ := R.sr.mut m
    rw [z]; exact e a o (fun q => ho (q ▸ m)) z) (fun a q => by subst q; exact hn), R.os, R.gens⟩

theorem SR.adopt {h : Heap} {p : Addr × Option Addr} {mo : MO} (S : SR c μ st h) (hp : ∀ a ∈ pa p, ¬ inMu μ a ∧ c.h0.get? a = none) (hin : ∀ d, p.2 = some d → p.1 ≠ d) (ho : OR c (μ ++ [p]) h mo p) :
    SR c (μ ++ [p]) (st ++ [mo]) h := by
  have K : Keep none_ μ h (μ ++ [p]) h := ⟨fun i q e => by rw [List.getElem?_append_left (List.getElem?_eq_some_iff.mp e).1]; exact e, fun a o e _ _ => e⟩
  refine ⟨S.keep, by simp [S.len], ?_, ?_, ?_, ?_⟩
  · intro a m
    rcases inMu_snoc.mp m with m | m
    · exact S.new a m
    · exact (hp a m).2
  · intro i j q r a hq hr ha hb
    rcases get_snoc hq with e1 | ⟨e1, rfl⟩ <;> rcases get_snoc hr with e2 | ⟨e2, rfl⟩
    · exact S.apart i j q r a e1 e2 ha hb
    · exact ((hp a hb).1 ⟨i, q, e1, ha⟩).elim
    · exact ((hp a ha).1 ⟨j, r, e2, hb⟩).elim
    · lia
  · intro i a d hq
    rcases get_snoc hq with e | ⟨_, rfl⟩
    · exact S.inner i a d e
    · exact hin d rfl
  · intro i q o hq ho'
    rcases get_snoc hq with e | ⟨e, rfl⟩
    · have : st[i]? = some o := by
        rw [List.getElem?_append_left (by rw [← S.len]; exact (List.getElem?_eq_some_iff.mp e).1)] at ho'; exact ho'
      exact (S.objs i q o e this).monoK S K (safe_none h) fun a ha => rfl
    · have : o = mo := by
        rw [e, S.len] at ho'; simpa using ho'.symm
      subst this; exact ho

theorem Rel.sameMu {μ' : Mu} {s' : Shared} (R : Rel c μ st s) (R' : Rel c μ' st s') (pre : ∀ (i : Nat) p, μ[i]? = some p → μ'[i]? = some p) : μ' = μ := by
  apply List.ext_getElem?
  intro i
  cases e : μ[i]? with
  | some p => exact pre i p e
  | none =>
    rw [List.getElem?_eq_none_iff] at e ⊢
    rw [R'.sr.len, ← R.sr.len]; exact e

theorem idx_set {ns : List Str} {loc : List MV} {m : Str → Option Value} {x : Str} {i : Nat} {v : MV} {cv : Value} {h : Heap} (nd : ns.Nodup) (hx : ns[i]? = some x)
    (r : ∀ (j : Nat) y w, ns[j]? = some y → loc[j]? = some w → (w = .unb ∧ m y = none) ∨ (∃ cw, m y = some cw ∧ VR μ h w cw)) (hv : VR μ h v cv) :
    ∀ (j : Nat) y w, ns[j]? = some y → (loc.set i v)[j]? = some w → (w = .unb ∧ (if y = x then some cv else m y) = none) ∨ (∃ cw, (if y = x then some cv else m y) = some cw ∧ VR μ h w cw) := by
  intro j y w hy hw
  by_cases e : i = j
  · subst e
    rw [hx] at hy; (first | exact no hy | cases hy)
    have : i < loc.length := by
      have := (List.getElem?_eq_some_iff.mp hw).1
      simpa using this
    rw [List.getElem?_set_self this] at hw
    cases hw
    exact .inr ⟨cv, by rw [if_pos rfl], hv⟩
  · rw [List.getElem?_set_ne e] at hw
    have ne : y ≠ x := fun q => by
      subst q
      exact e ((List.getElem?_inj (List.getElem?_eq_some_iff.mp hx).1 nd).mp (hx.trans hy.symm))
    rw [if_neg ne]
    exact r j y w hy hw

theorem store_ok (R : Rel c μ st s) {env : Env} {ns : List Str} {loc : List MV} (L : LR c μ s.heap env.locals ns loc) (hk : env.scope.kind = .function) {x : Str} {i : Nat} (hl : env.kindOf x = some .local) (nd : ns.Nodup) (hx : ns[i]? = some x)
    {v : MV} {cv : Value} (hv : VR μ s.heap v cv) {p : Pos} {Q : Unit → Shared → Prop}
    (q : ∀ s', Rel c μ st s' → Heap.SameBut env.locals s.heap s'.heap → LR c μ s'.heap env.locals ns (loc.set i v) → Q () s') : wpAny (model c.prog c.w) A (assign (.Name x p) env cv) Q E s := by
  obtain ⟨m, hn, r⟩ := L.fr
  refine wpAny_assign_Name (wpAny_storeName_local hl hn (fun h' hn' sb => ?_) (by rw [hk]; rfl))
  have ke : ∀ a o, a ≠ env.locals → s.heap.get? a = some o → h'.get? a = some o := fun a o n e => (sb.2 a n).trans e
  refine q _ (R.but L.new L.out L.safe ke _) sb ⟨⟨_, hn', ?_⟩, by rw [List.length_set]; exact L.len, L.new, L.out⟩
  exact idx_set nd hx (fun j y w hy hw => (r j y w hy hw).imp id fun ⟨cw, e, k⟩ => ⟨cw, e, k.monoK R.sr (Keep.same ke) L.safe⟩) (hv.monoK R.sr (Keep.same ke) L.safe)

theorem letOwned_ok {v : MV} {I : Addr} {i : Nat} (x : ItPos μ s.heap v I i) {target : Expr} {cv : Value} {Q : Unit → Shared → Prop} (q : Q () s) : wpAny (model c.prog c.w) A (letOwnedTupleGo target (.ref I) cv) Q E s := by
  have key : ∀ a, cv = .ref a → wpAny (model c.prog c.w) A (do
      let o ← load I
      match o.cls, o.data with
      | .type n, .fields vs =>
        if ["enumerate", "zip", "dict_itemiterator", "dict_reverseitemiterator", "odict_iterator", "itertools.zip_longest", "itertools.pairwise"].contains n && vs[0]? == some (rawInt a) then
          rule "for.unpacks-the-owned-tuple"
          updateField I 0 .none
      | _, _ => pure ()) Q E s := by
    intro a _
    have fin : ∀ (T : String) (vs : Array Value) (o : Obj), s.heap.get? I = some o → o.cls = .type T → o.data = .fields vs → (["enumerate", "zip", "dict_itemiterator", "dict_reverseitemiterator", "odict_iterator", "itertools.zip_longest", "itertools.pairwise"].contains T) = false →
        wpAny (model c.prog c.w) A (do
      let o ← load I
      match o.cls, o.data with
      | .type n, .fields vs =>
        if ["enumerate", "zip", "dict_itemiterator", "dict_reverseitemiterator", "odict_iterator", "itertools.zip_longest", "itertools.pairwise"].contains n && vs[0]? == some (rawInt a) then
          rule "for.unpacks-the-owned-tuple"
          updateField I 0 .none
      | _, _ => pure ()) Q E s := by
      intro T vs o ho hc hd hT
      refine wpAny_bind (wpAny_load ho ?_)
      rw [hc, hd]
      show wpAny _ A (if (_ && _) = true then _ else _) Q E s
      rw [hT, Bool.false_and, if_neg Bool.false_ne_true]
      exact wpAny_pure q
    unfold ItPos at x
    split at x
    · obtain ⟨t, items, ⟨o, ho, hc, hd⟩, _⟩ := x; exact fin _ _ o ho hc hd (by decide)
    · obtain ⟨p, hp, ⟨o, ho, hc, hd⟩⟩ := x; exact fin _ _ o ho hc hd (by decide)
    · exact fin "range_iterator" _ _ x rfl rfl (by decide)
    · exact x.elim
  unfold letOwnedTupleGo
  cases target <;> first | exact wpAny_pure q | skip
  all_goals
    cases cv with
    | ref a => exact key a rfl
    | _ => exact wpAny_pure q

theorem iter_self {v : MV} {I : Addr} {i : Nat} (x : ItPos μ s.heap v I i) {Q : Value → Shared → Prop} (q : Q (.ref I) s) : wpAny (model c.prog c.w) A (pyIter (.ref I)) Q E s := by
  unfold ItPos at x
  split at x
  · obtain ⟨t, items, h, _⟩ := x; exact wpAny_pyIter_tupleiter h q
  · obtain ⟨p, hp, h⟩ := x; exact wpAny_pyIter_listiter h q
  · exact wpAny_pyIter_rangeiter x q
  · exact x.elim

theorem stores_ok {env : Env} {ns : List Str} (hk : env.scope.kind = .function) (nd : ns.Nodup) {t : TEnv} (ht : t.ns = ns) (hl : ∀ x i, idx x ns = some i → env.kindOf x = some .local) : ∀ {es : List Expr} {is : List Nat} {xs : List MV} {cvs : List Value} {loc l' : List MV} {s : Shared} {Q : Unit → Shared → Prop},
    trNames t es = some is → setAll loc is xs = some l' → All2 (VR μ s.heap) xs cvs → Rel c μ st s → LR c μ s.heap env.locals ns loc →
    (∀ s', Rel c μ st s' → Heap.ExtBut env.locals s.heap s'.heap → (∃ o, s'.heap.get? env.locals = some o) → LR c μ s'.heap env.locals ns l' → Q () s') →
    wpAny (model c.prog c.w) A (assignInOrder ((assignEach es env).map (·.2)) cvs) Q E s
  | [], is, xs, cvs, loc, l', s, Q, h, hs, hv, R, L, q => by
    cases h
    cases hv with
    | nil =>
      cases hs
      exact assignInOrder_nil (q s R (fun a o _ e => e) (by obtain ⟨o, e, _⟩ := L.get; exact ⟨o, e⟩) L)
    | cons => exact no hs
  | e :: es, is, xs, cvs, loc, l', s, Q, h, hs, hv, R, L, q => by
    obtain ⟨x, hx, h2⟩ := bind_some h
    cases nameOf_inv hx
    obtain ⟨i, hi, h2⟩ := bind_some h2
    obtain ⟨is', his, h2⟩ := bind_some h2
    cases h2
    cases hv with
    | nil => exact no hs
    | @cons v cv vs cvs hv1 hv2 =>
      obtain ⟨hlt, hs⟩ := ite_some hs
      subst ht
      refine assignInOrder_cons (store_ok R L hk (hl x i hi) nd (idx_get hi) hv1 fun s1 R1 sb L1 => ?_)
      have ke : ∀ a o, a ≠ env.locals → s.heap.get? a = some o → s1.heap.get? a = some o := fun a o n e => (sb.2 a n).trans e
      refine stores_ok hk nd rfl hl his hs (hv2.mono fun _ _ z => z.monoK R.sr (Keep.same ke) L.safe) R1 L1 fun s2 R2 eb2 lv L2 => ?_
      exact q s2 R2 (fun a o n e => eb2 a o n (ke a o n e)) lv L2
end
end Mine.Lake

set_option tactic.hygienic true

open PySem PySem.W PyProof.Rows PySem.Calls
namespace Mine.Lake
set_option tactic.hygienic false

section
variable {c : Cx} {S : Sg} {n : Nat}

theorem getL_some {loc : List MV} {i : Nat} {v : MV} (h : getL loc i = some v) : loc[i]? = some v ∧ v ≠ .unb := by
  unfold getL at h
  generalize e : loc[i]? = o at h
  cases o with
  | none => exact no h
  | some x => cases x with
    | unb => exact no h
    | _ => cases h; exact ⟨rfl, fun e => nomatch e⟩

set_option tactic.hygienic true in
theorem se_name {x : Str} {p : Pos} : SE c S n (.Name x p) := by
  intro t env me h En A hr E μ st s loc Q Qm R L w q
  have h : (match idx x t.ns with | some i => some (ME.loc i) | none => (t.glob x).map ME.cst) = some me := h
  split at h
  · rename_i i hi
    (first | exact no h | cases h)
    obtain ⟨v, e, w⟩ := opt_iff.mp w
    obtain ⟨h1, h2⟩ := En.loc x i hi
    obtain ⟨e1, e2⟩ := getL_some e
    obtain ⟨m, hn, r⟩ := L.fr
    rcases r i x v (idx_get hi) e1 with ⟨e3, _⟩ | ⟨cv, e3, hv⟩
    · exact (e2 e3).elim
    · exact wpAny_Name (wpAny_loadName_local En.kind h1 hn e3 ((q _ _ w).at0 R hv)) h2
  · rename_i hi
    obtain ⟨v, hv, rfl⟩ := map_some h
    exact En.glob x v p hv hi A E μ st s Q R fun cv hcv => (q _ _ w).at0 R hcv

set_option tactic.hygienic true in
theorem se_const {x : Const} {k} {p : Pos} : SE c S n (.Constant x k p) := by
  intro t env me h En A hr E μ st s loc Q Qm R L w q
  cases x
  case int i =>
    (first | exact no h | cases h)
    exact fun _ _ _ => (q _ _ w).at R (VR.int_mk i s.toks) (s.toks + 1)
  case str i =>
    (first | exact no h | cases h)
    exact fun _ _ _ => (q _ _ w).at R (VR.str_mk i s.toks) (s.toks + 1)
  case bool i =>
    (first | exact no h | cases h)
    exact fun _ _ _ => (q _ _ w).at0 R (VR.bool_mk i)
  case none =>
    (first | exact no h | cases h)
    exact fun _ _ _ => (q _ _ w).at0 R VR.none_mk
  all_goals (first | exact no h | cases h)

theorem truth_inv {v : MV} {b : Bool} (h : truthM v = some b) : v = .bool b := by
  cases v with
  | bool => cases h; rfl
  | _ => exact no h

theorem se_bool {op : BoolOp} {p : Pos} {t : TEnv} {env : Env} (En : EnvOK c env t) {A : Around} (hr : Room n A) : ∀ {es : List Expr} {me : ME}, (∀ e ∈ es, SE c S n e) → trB t op es = some me → ∀ (E : Value → Shared → Prop) (μ : Mu) (st : Objs) (s : Shared) (loc : List MV)
    (Q : Value → Shared → Prop) (Qm : EP), Rel c μ st s → LR c μ s.heap env.locals t.ns loc → wpE S loc me st Qm → (∀ v st', Qm v st' → Post c μ s.heap v st' Q) → wpAny (model c.prog c.w) A (eval (.BoolOp op es p) env) Q E s
  | [], me, _, h, E, μ, st, s, loc, Q, Qm, R, L, w, q => by (first | exact no h | cases h)
  | [e], me, hs, h, E, μ, st, s, loc, Q, Qm, R, L, w, q => by
    exact BoolOp_one (hs e (.head _) t env me h En A hr E μ st s loc Q Qm R L w q)
  | e :: e2 :: r, me, hs, h, E, μ, st, s, loc, Q, Qm, R, L, w, q => by
    obtain ⟨a, ha, h⟩ := bind_some h
    obtain ⟨b, hb, h⟩ := bind_some h
    cases op with
    | And =>
      (first | exact no h | cases h)
      refine BoolOp_and (hs e (.head _) t env a ha En A hr E μ st s loc _ _ R L w fun v st1 w1 μ1 cv s1 R1 G1 hv => ?_)
      obtain ⟨cb, e1, w2⟩ := opt_iff.mp w1
      obtain rfl := truth_inv e1
      obtain rfl := hv.bool_inv
      refine wpAny_truthy_bool ?_
      cases cb with
      | true =>
        rw [if_pos rfl] at w2 ⊢
        exact se_bool En hr (fun e he => hs e (.tail _ he)) hb E μ1 st1 s1 loc Q Qm R1 (L.mono R.sr G1) w2 fun v st' z => (q _ _ z).after G1
      | false =>
        rw [if_neg (by decide)] at w2 ⊢
        exact ((q _ _ w2).after G1).at0 R1 hv
    | Or =>
      (first | exact no h | cases h)
      refine BoolOp_or (hs e (.head _) t env a ha En A hr E μ st s loc _ _ R L w fun v st1 w1 μ1 cv s1 R1 G1 hv => ?_)
      obtain ⟨cb, e1, w2⟩ := opt_iff.mp w1
      obtain rfl := truth_inv e1
      obtain rfl := hv.bool_inv
      refine wpAny_truthy_bool ?_
      cases cb with
      | true =>
        rw [if_pos rfl] at w2 ⊢
        exact ((q _ _ w2).after G1).at0 R1 hv
      | false =>
        rw [if_neg (by decide)] at w2 ⊢
        exact se_bool En hr (fun e he => hs e (.tail _ he)) hb E μ1 st1 s1 loc Q Qm R1 (L.mono R.sr G1) w2 fun v st' z => (q _ _ z).after G1

theorem se_ife {l r a b : Expr} {op : CmpOp} {p p' : Pos} (hl : SE c S n l) (hr' : SE c S n r) (ha : SE c S n a) (hb : SE c S n b) : SE c S n (.IfExp (.Compare l [op] [r] p') a b p) := by
  intro t env me h En A hr E μ st s loc Q Qm R L w q
  obtain ⟨x, hx, h⟩ := bind_some h
  obtain ⟨y, hy, h⟩ := bind_some h
  obtain ⟨u, hu, h⟩ := bind_some h
  obtain ⟨v, hv, h⟩ := bind_some h
  (first | exact no h | cases h)
  refine wpAny_IfExp (se_cmpT hl hr' hx hy En hr R L w fun cb st1 w1 μ1 s1 R1 G1 => ?_)
  cases cb with
  | true =>
    rw [if_pos rfl] at w1 ⊢
    exact ha t env u hu En A hr E μ1 st1 s1 loc Q Qm R1 (L.mono R.sr G1) w1 fun v st' z => (q _ _ z).after G1
  | false =>
    rw [if_neg (by decide)] at w1 ⊢
    exact hb t env v hv En A hr E μ1 st1 s1 loc Q Qm R1 (L.mono R.sr G1) w1 fun v st' z => (q _ _ z).after G1

theorem dictDisplay_nil : dictDisplay [] = newDict := rfl

theorem se_dict (hsys : ∃ o, c.h0.get? sysModules = some o) {p : Pos} : SE c S n (.Dict [] [] p) := by
  intro t env me h En A hr E μ st s loc Q Qm R L w q
  (first | exact no h | cases h)
  obtain ⟨o, ho, w⟩ := w
  rw [arm_eval_Dict]
  refine wpAny_bind (wpAny_standAt ?_)
  show wpAny _ _ newDict Q E s
  unfold newDict
  refine wpAny_newObj_type ?_
  have lo : (s.heap.objs.size == sysModules) = false := by
    rw [beq_eq_false_iff_ne]
    intro e
    obtain ⟨o, ho⟩ := hsys
    have := R.sr.keep _ _ ho
    rw [← e, get_size] at this; (first | exact no this | cases this)
  have hk : ∀ a o, s.heap.get? a = some o → (s.heap.push { cls := .type "dict", data := .dict #[] }).get? a = some o := fun a o e => Heap.get?_push_of_some _ e
  have OO : OR c (μ ++ [(s.heap.objs.size, none)]) (s.heap.push { cls := .type "dict", data := .dict #[] }) o (s.heap.objs.size, none) := by
    rcases ho with rfl | rfl | rfl
    · exact ⟨rfl, lo, [], ⟨_, #[], 0, Heap.get?_push_size _ rfl, ⟨rfl, rfl, rfl⟩, rfl, fun _ he => by simp at he, .nil, List.nodup_nil⟩, .nil⟩
    · exact ⟨rfl, lo, [], ⟨_, #[], 0, Heap.get?_push_size _ rfl, ⟨rfl, rfl, rfl⟩, rfl, fun _ he => by simp at he, .nil, List.nodup_nil⟩, .nil⟩
    · exact ⟨rfl, lo, [], Heap.DictOfH.new s.heap, .nil⟩
  have z := R.sr.alloc (p := (s.heap.objs.size, none)) (mo := o) hk (by simpa [pa] using get_size _) (fun d e => by (first | exact no e | cases e)) OO
  exact q _ _ w _ _ _ ⟨z.1, R.os, R.gens⟩ z.2 (VR.new R.sr.len.symm)

theorem se_opt {lo : Option Expr} (hl : ∀ e, lo = some e → SE c S n e) {t : TEnv} {env : Env} {a : ME} (ha : trO t lo = some a) (En : EnvOK c env t) {A : Around} (hr : Room n A) {E : Value → Shared → Prop} {μ : Mu} {st : Objs} {s : Shared} {loc : List MV}
    {Q : Value → Shared → Prop} {Qm : EP} (R : Rel c μ st s) (L : LR c μ s.heap env.locals t.ns loc) (w : wpE S loc a st Qm) (q : ∀ v st', Qm v st' → Post c μ s.heap v st' Q) : wpAny (model c.prog c.w) A (evalPart lo env) Q E s := by
  cases lo with
  | none =>
    (first | exact no ha | cases ha)
    exact wpAny_pure ((q _ _ w).at0 R VR.none_mk)
  | some e =>
    exact hl e rfl t env a ha En A hr E μ st s loc Q Qm R L w q

theorem slice_any {lo hi sp : Option Expr} {pp : Pos} (o i : Value) : ∃ ops, subscripted (.Slice lo hi sp pp) false o i = operate ops (getItem o i) := by
  cases sp with
  | none => exact ⟨_, rfl⟩
  | some e => exact ⟨_, rfl⟩

theorem listS_ok (G : SgOK c S n) {μ : Mu} {st : Objs} {s : Shared} (R : Rel c μ st s) {v : MV} {cv : Value} {xs : List MV} (hv : VR μ s.heap v cv) (h : listS S st v = some xs) : ListAt μ s.heap cv xs := by
  unfold listS at h
  split at h
  · cases (hv : cv = _)
    obtain ⟨p, items, rfl, ⟨o, ho, ro⟩, hl, r⟩ := G.lst _ _ h
    exact ⟨p, items, rfl, ⟨o, R.sr.keep _ _ ho, ro⟩, r _ _, hl⟩
  · obtain ⟨i, rfl, hst, hlen⟩ := listM_inv h
    obtain ⟨p, rfl, hp, _, items, ⟨m, ho⟩, r⟩ := R.ref hv hst
    exact ⟨p.1, items, rfl, ⟨_, ho, rfl, _, rfl⟩, r, hlen⟩

theorem se_slc (G : SgOK c S n) {v : Expr} {lo hi sp : Option Expr} {p pp : Pos} (hv : SE c S n v) (h1 : ∀ e, lo = some e → SE c S n e) (h2 : ∀ e, hi = some e → SE c S n e) (h3 : ∀ e, sp = some e → SE c S n e) {t : TEnv} {env : Env} {v' a b d : ME} (hv' : trE t v = some v') (ha : trO t lo = some a) (hb : trO t hi = some b) (hd : trO t sp = some d)
    (En : EnvOK c env t) {A : Around} (hr : Room n A) {E : Value → Shared → Prop} {μ : Mu} {st : Objs} {s : Shared} {loc : List MV} {Q : Value → Shared → Prop} {Qm : EP} (R : Rel c μ st s) (L : LR c μ s.heap env.locals t.ns loc) (w : wpE S loc (.slc v' a b d) st Qm)
    (q : ∀ v st', Qm v st' → Post c μ s.heap v st' Q) : wpAny (model c.prog c.w) A (eval (.Subscript v (.Slice lo hi sp pp) p) env) Q E s := by
  refine Subscript_ (hv t env v' hv' En A hr E μ st s loc _ _ R L w fun v st1 w1 μ1 cv s1 R1 G1 hv => ?_)
  refine wpAny_Slice (se_opt h1 ha En hr R1 (L.mono R.sr G1) w1 fun x st2 w2 μ2 cx s2 R2 G2 hx => ?_)
  refine se_opt h2 hb En hr R2 (L.mono R.sr (G1.trans G2)) w2 fun y st3 w3 μ3 cy s3 R3 G3 hy => ?_
  refine se_opt h3 hd En hr R3 (L.mono R.sr ((G1.trans G2).trans G3)) w3 fun z st4 w4 μ4 cz s4 R4 G4 hz => ?_
  obtain ⟨xs, e1, w5⟩ := opt_iff.mp w4
  obtain ⟨ys, e2, w6⟩ := opt_iff.mp w5
  have R5 := R4.push { cls := .type "slice", data := .fields #[cx, cy, cz] } s4.toks
  have G5 := Grow.pushed (μ := μ4) s4.heap { cls := .type "slice", data := .fields #[cx, cy, cz] }
  obtain ⟨ops, hops⟩ := slice_any (lo := lo) (hi := hi) (sp := sp) (pp := pp) cv (.ref s4.heap.objs.size)
  have hv5 := ((((hv.mono R1.sr G2 (safe_none _)).mono R2.sr G3 (safe_none _)).mono R3.sr G4 (safe_none _)).mono R4.sr G5 (safe_none _))
  have hl5 := listS_ok (st := st4) G R5 hv5 e1
  have hT : ({ s4 with heap := s4.heap.push { cls := .type "slice", data := .fields #[cx, cy, cz] } } : Shared).TypeIs cv "list" := by
    obtain ⟨p', items, rfl, ⟨o, ho, hc, _⟩, _⟩ := hl5
    exact ⟨_, ho, hc⟩
  exact tail_any hT slot_list_getitem.lookup (slice_ok R5 hl5 (Heap.IsSliceOf.new _ _ _ _)
    (((hx.mono R2.sr G3 (safe_none _)).mono R3.sr G4 (safe_none _)).mono R4.sr G5 (safe_none _)) ((hy.mono R3.sr G4 (safe_none _)).mono R4.sr G5 (safe_none _)) (hz.mono R4.sr G5 (safe_none _)) e2
    ((q _ _ w6).after ((((G1.trans G2).trans G3).trans G4).trans G5))) hops
end
end Mine.Lake

set_option tactic.hygienic true

set_option tactic.hygienic false
open PySem PySem.W PyProof.Rows PySem.Calls
namespace Mine.Lake

section
variable {c : Cx} {S : Sg} {n : Nat}

theorem args_then {es : List Expr} {mes : List ME} (hs : ∀ e ∈ es, SE c S n e) {t : TEnv} {env : Env} (hes : trEs t es = some mes) (En : EnvOK c env t) {A : Around} (hr : Room n A) {E : Value → Shared → Prop} {μ : Mu} {st : Objs} {s : Shared} {loc : List MV} {pos : Pos}
    {f : Value} {first : List Value} {P : Heap → Prop} (hk : ∀ h, P h → ∃ k, (k = Keeper.frame ∨ k = Keeper.machine ∨ k = Keeper.boundFrame) ∧ Looks (model c.prog c.w) h (keeperOf f) k)
    {Q : Value → Shared → Prop} {Qm : List MV → Objs → Prop} (R : Rel c μ st s) (L : LR c μ s.heap env.locals t.ns loc) (w : wpEs S loc mes st Qm)
    (q : ∀ vs st', Qm vs st' → ∀ μ' cvs s', Rel c μ' st' s' → Grow0 μ s.heap μ' s'.heap → All2 (VR μ' s'.heap) vs cvs → P s'.heap ∧ wpAny (model c.prog c.w) A (call f (first ++ cvs)) Q E s') :
    wpAny (model c.prog c.w) A (callWith pos f first (backTo pos (starEach es env)) []) Q E s := by
  refine callWith_of (P := P) (by rw [plain_any hes]; rfl) hk (evalArgs_any (plain_any hes) ?_)
  exact se_list hs t env mes hes En A hr E μ st s loc pos _ _ R L w fun vs st' z μ' cvs s' R' G' hv hl => q vs st' z μ' cvs s' R' G' hv

theorem se_call (X : c.K.In c.h0) (G : SgOK c S n) {f : Str} {fp p : Pos} {es : List Expr} (hs : ∀ e ∈ es, SE c S n e) : SE c S n (.Call (.Name f fp) es [] p) := by
  intro t env me h En A hr E μ st s loc Q Qm R L w q
  obtain ⟨f', hf, h⟩ := bind_some h
  obtain ⟨es', hes, h⟩ := bind_some h
  (first | exact no h | cases h)
  refine Call_ (se_name t env f' hf En A hr E μ st s loc _ _ R L w fun g st1 w1 μ1 cg s1 R1 G1 hg => ?_)
  cases g with
  | bi b =>
    cases (hg : cg = _)
    refine args_then hs hes En hr (P := fun _ => True) (fun h _ => by cases b <;> first | exact keeps_builtin | exact keeps_type) R1 (L.mono R.sr G1) w1 fun vs st2 w2 μ2 cvs s2 R2 G2 hv => ⟨trivial, ?_⟩
    obtain ⟨r, e, w3⟩ := opt_iff.mp w2
    exact callB_ok R2 hr.handled hv e ((q _ _ w3).after (G1.trans G2))
  | val x =>
    cases (hg : cg = _)
    cases cg with
    | ref a =>
      refine args_then hs hes En hr (P := fun h => c.K.In h ∧ keepIn c.K (.ref a) = true) (fun h z => keeps_K z.2 h z.1) R1 (L.mono R.sr G1) w1 fun vs st2 w2 μ2 cvs s2 R2 G2 hv => ⟨⟨R2.K X, G.keep _ _ _ _ w2⟩, ?_⟩
      exact G.call _ _ _ _ w2 A E μ2 s2 cvs Q hr R2 hv fun v st' z => (q _ _ z).after (G1.trans G2)
    | _ => exact args_then hs hes En hr (P := fun _ => False) (fun h z => z.elim) R1 (L.mono R.sr G1) w1 fun vs st2 w2 μ2 cvs s2 R2 G2 hv => w2.elim
  | _ => exact args_then hs hes En hr (P := fun _ => False) (fun h z => z.elim) R1 (L.mono R.sr G1) w1 fun vs st2 w2 μ2 cvs s2 R2 G2 hv => w2.elim

theorem se_meth (X : c.K.In c.h0) (G : SgOK c S n) {o : Expr} {nm : Str} {ap p : Pos} {es : List Expr} (ho : SE c S n o) (hs : ∀ e ∈ es, SE c S n e) : SE c S n (.Call (.Attribute o nm ap) es [] p) := by
  intro t env me h En A hr E μ st s loc Q Qm R L w q
  obtain ⟨hc, h⟩ := ite_some h
  · obtain ⟨hb, hline, hlen⟩ := hc
    obtain ⟨o', ho', h⟩ := bind_some h
    obtain ⟨m, hm, h⟩ := bind_some h
    obtain ⟨es', hes, h⟩ := bind_some h
    (first | exact no h | cases h)
    obtain ⟨rfl, h41⟩ := anm_of hm
    show wpAny _ A (do
      let ov ← attributeBase o (anm m) env (eval o env)
      standAt ap.atName
      methodCall o (anm m) ap p env ov (es.length + ([] : List Keyword).length) (backTo p (starEach es env)) (backToKw p (keywordEach [] env))) Q E s
    rw [base_whole hb]
    refine wpAny_bind (ho t env o' ho' En A hr E μ st s loc _ _ R L w fun g st1 w1 μ1 cg s1 R1 G1 hg => wpAny_bind (wpAny_standAt ?_))
    obtain ⟨hsome, w1⟩ := w1
    obtain ⟨mv, hmv⟩ := Option.isSome_iff_exists.mp hsome
    obtain ⟨get, keep⟩ := meth_get X G R1 hg hmv (A := A) (E := E)
    have hform : methodCallForm (es.length + ([] : List Keyword).length) (backTo p (starEach es env)) (backToKw p (keywordEach [] env)) = true := by
      unfold methodCallForm
      rw [plain_all hes]
      show (true && true && decide (es.length + 0 + 0 < 30)) = true
      simp [hlen]
    have hpos : methodCallPos true o env ap p = pure p := by unfold methodCallPos; simp [hline]
    unfold methodCall
    rw [hform]
    refine wpAny_bind (wpAny_holding (get _ _ ?_))
    refine wpAny_bind (wpAny_of_eq hpos ?_)
    refine args_then hs hes En hr (P := c.K.In) keep R1 (L.mono R.sr G1) w1 fun vs st2 w2 μ2 cvs s2 R2 G2 hv => ⟨R2.K X, ?_⟩
    exact methCall_ok G hr R2 (hg.mono R1.sr G2 (safe_none _)) hv (w2.1.trans hmv) w2.2 fun v st' z => (q _ _ z).after (G1.trans G2)
end
end Mine.Lake

set_option tactic.hygienic true

open PySem PySem.W PyProof.Rows PySem.Calls
namespace Mine.Lake
set_option tactic.hygienic false

theorem compL_cons {one : Bool} {elt : ME} {x : MV} {xs ys : List MV} (h : compL one elt (x :: xs) = some ys) : ∃ l y ys', bindC one x = some l ∧ pev l elt = some y ∧ compL one elt xs = some ys' ∧ ys = y :: ys' := by
  have h : (match bindC one x with
    | some l => match pev l elt, compL one elt xs with
      | some y, some ys => some (y :: ys)
      | _, _ => none
    | none => none) = some ys := h
  cases h1 : bindC one x with
  | none => rw [h1] at h; exact no h
  | some l =>
    rw [h1] at h
    cases h2 : pev l elt with
    | none =>
      have h : (match pev l elt, compL one elt xs with
        | some y, some ys => some (y :: ys)
        | _, _ => none) = some ys := h
      rw [h2] at h; exact no h
    | some y =>
      have h : (match pev l elt, compL one elt xs with
        | some y, some ys => some (y :: ys)
        | _, _ => none) = some ys := h
      rw [h2] at h
      cases h3 : compL one elt xs with
      | none => rw [h3] at h; exact no h
      | some ys' => rw [h3] at h; cases h; exact ⟨l, y, ys', rfl, h2, rfl, rfl⟩
theorem compL_get {one : Bool} {elt : ME} : ∀ {xs ys : List MV}, compL one elt xs = some ys → ys.length = xs.length ∧ ∀ (i : Nat) x, xs[i]? = some x → ∃ l y, bindC one x = some l ∧ ys[i]? = some y ∧ pev l elt = some y
  | [], ys, h => by cases h; exact ⟨rfl, fun i x e => by simp at e⟩
  | x :: xs, ys, h => by
    obtain ⟨l, y, ys', hl, hy, hys, rfl⟩ := compL_cons h
    obtain ⟨a, b⟩ := compL_get hys
    refine ⟨congrArg (· + 1) a, fun i z e => ?_⟩
    cases i with
    | zero => cases e; exact ⟨l, y, hl, rfl, hy⟩
    | succ j => exact b j z e

theorem ltne {a m C : Nat} (h : a < m) (e : C = m + 1) : a ≠ C := by lia
theorem nsucc {m C : Nat} (e : C = m + 1) : m ≠ C := by lia

inductive Tgt : Expr → List Str → Bool → Prop
  | one (x : Str) (p : Pos) : Tgt (.Name x p) [x] true
  | two (x y : Str) (p p' pp : Pos) (k : Nat) : x ≠ y → Tgt (.Tuple [.Name x p, .Name y p'] k pp) [x, y] false

section
variable {prog : Program} {w : World} {A : Around} {s : Shared}
theorem compLoop2 {elt target iter : Expr} {ns : List Str} {one : Bool} {scope : Scope} {pos : Pos} {it acc : Value} {env : Env} {R : Result → Shared → Prop} (ht : Tgt target ns one) (I : Nat → Shared → Prop)
    (turn : ∀ n s, I n s → wpAny (model prog w) A (pyNext it) (fun r s₁ => match r with
      | none => R (.ok .next) s₁
      | some v => wpAny (model prog w) A (letOwnedTupleGo target it v) (fun _ s₁' => wpAny (model prog w) A (assign target env v) (fun _ s₂ =>
          wpAny (model prog w) A (eval elt env) (fun x s₄ =>
              wpAny (model prog w) A (call (.builtin "list.append") [acc, x]) (fun _ s₅ => ∃ m, m < n ∧ I m s₅) (notedBy (model prog w) A env fun e s' => R (.error e) s') s₄) (notedBy (model prog w) A env fun e s' => R (.error e) s') s₂)
          (notedBy (model prog w) A env fun e s' => R (.error e) s') s₁') (notedBy (model prog w) A env fun e s' => R (.error e) s') s₁) (notedBy (model prog w) A env fun e s' => R (.error e) s') s)
    (n : Nat) (h : I n s) : codeAny (model prog w) A (.compLoop (.ListComp elt [⟨target, iter, [], 0⟩] scope pos) 0 it acc env) R s := by
  cases ht with
  | one x p => exact codeAny_compLoop_list I (fun n s hI => wpAny_mono (turn n s hI) (fun r s₁ h₁ => by cases r with | none => exact h₁ | some v => exact fun Γ p hΓ => h₁ Γ p hΓ Γ p hΓ) fun _ _ e => e) n h
  | two x y p p' pp k hne => exact LCp.codeAny_compLoop_pair I turn n h
end

section
variable {c : Cx} {S : Sg} {n : Nat}

theorem scOK_of {sc : Scope} (h : scOK sc = true) : sc.kind = .function ∧ ∀ x ∈ sc.names, x.2 = .local ∧ sc.names.lookup x.1 = some .local := by
  unfold scOK at h
  rw [Bool.and_eq_true, List.all_eq_true] at h
  refine ⟨of_decide_eq_true h.1, fun x hx => ?_⟩
  have := h.2 x hx
  rw [Bool.and_eq_true] at this
  exact ⟨of_decide_eq_true this.1, beq_iff_eq.mp this.2⟩

theorem nsEmpty {h : Heap} {C : Addr} {ns : List Str} {loc : List MV} {μ : Mu} (hl : loc = ns.map fun _ => MV.unb) (hn : h.Ns C (fun x => ([] : List (Str × Value)).reverse.lookup x)) :
    ∃ m, h.Ns C m ∧ ∀ (i : Nat) x v, ns[i]? = some x → loc[i]? = some v → (v = .unb ∧ m x = none) ∨ (∃ cv, m x = some cv ∧ VR μ h v cv) := by
  refine ⟨_, hn, fun i x v _ hv => ?_⟩
  subst hl
  rw [List.getElem?_map] at hv
  cases e : ns[i]? with
  | none => rw [e] at hv; cases hv
  | some y => rw [e] at hv; cases hv; exact .inl ⟨rfl, rfl⟩

theorem bindC_two {x : MV} {l : List MV} (h : bindC false x = some l) : ∃ a b, x = .tup [a, b] ∧ l = [a, b] := by
  cases x with
  | tup xs =>
    cases xs with
    | nil => exact no h
    | cons a r => cases r with
      | nil => exact no h
      | cons b r => cases r with
        | nil => cases h; exact ⟨a, b, rfl, rfl⟩
        | cons => exact no h
  | _ => exact no h

theorem tgt_ok {μ : Mu} {st : Objs} {s : Shared} {A : Around} {E : Value → Shared → Prop} (hh : A.handled = none) {target : Expr} {ns : List Str} {one : Bool} (ht : Tgt target ns one) {env : Env} (hk : env.scope.kind = .function) (hl : ∀ x ∈ ns, env.kindOf x = some .local) (R : Rel c μ st s)
    {loc l : List MV} (L : LR c μ s.heap env.locals ns loc) {x : MV} {cx : Value} (hb : bindC one x = some l) (hv : VR μ s.heap x cx) {Q : Unit → Shared → Prop}
    (q : ∀ s', Rel c μ st s' → Heap.ExtBut env.locals s.heap s'.heap → LR c μ s'.heap env.locals ns l → Q () s') : wpAny (model c.prog c.w) A (assign target env cx) Q E s := by
  cases ht with
  | one y p =>
    (first | exact no hb | cases hb)
    have hlen : loc.length = 1 := L.len.symm
    refine store_ok R L hk (hl y (.head _)) (by simp) (i := 0) rfl hv fun s' R' sb L' => q s' R' (fun a o n e => (sb.2 a n).trans e) ?_
    obtain ⟨z, rfl⟩ : ∃ z, loc = [z] := by
      cases loc with
      | nil => cases hlen
      | cons a r => cases r with
        | nil => exact ⟨a, rfl⟩
        | cons => simp at hlen
    exact L'
  | two y z p p' pp k hne =>
    obtain ⟨a, b, rfl, rfl⟩ := bindC_two hb
    · skip
      obtain ⟨t, items, rfl, ho, r⟩ := hv.tup_inv
      have hsz : items.size = 2 := r.size
      have hT : IsTup s.heap t items := ⟨_, ho, rfl, _, rfl⟩
      have hns : ([y, z] : List Str).Nodup := by simp [hne]
      have nm : trNames ⟨[y, z], fun _ => none⟩ [.Name y p, .Name z p'] = some [0, 1] := by
        have hne' : ¬ z = y := fun e => hne e.symm
        have i0 : idx y [y, z] = some 0 := by simp [idx]
        have i1 : idx z [y, z] = some 1 := by simp [idx, hne, hne']
        show ((idx y [y, z]).bind fun i => ((idx z [y, z]).bind fun j => ((some [] : Option (List Nat)).bind fun s => some (j :: s))).bind fun s => some (i :: s)) = _
        rw [i0, i1]; rfl
      have hlen : loc.length = 2 := L.len.symm
      have sa : setAll loc [0, 1] [a, b] = some [a, b] := by
        cases loc with
        | nil => cases hlen
        | cons u r => cases r with
          | nil => cases hlen
          | cons v r => cases r with
            | nil => simp [setAll]
            | cons => simp at hlen
      refine assign_Tuple_tuple hh hT hsz.symm rfl fun h' eb => ?_
      have ke : ∀ a o, s.heap.get? a = some o → h'.get? a = some o := fun a o e => eb a o (Nat.ne_of_lt (Heap.lt_size e)) e
      have K : Keep none_ μ s.heap μ h' := ⟨fun _ _ e => e, fun a o e _ _ => ke a o e⟩
      have R1 : Rel c μ st { s with heap := h' } := ⟨R.sr.stepK K (safe_none _) (fun a m => by obtain ⟨o, e, _⟩ := R.sr.mut m; rw [e]; exact ke a o e) (fun _ x => x.elim), R.os, R.gens⟩
      refine stores_ok hk hns (t := ⟨[y, z], fun _ => none⟩) rfl (fun x i hi => hl x (List.mem_of_getElem? (idx_get hi))) nm sa (r.mono fun _ _ q => q.monoK R.sr K (safe_none _)) R1 (L.monoK R.sr K (safe_none _) (fun q => q.elim) L.out) fun s2 R2 eb2 _ L2 => ?_
      exact q s2 R2 (fun a o n e => eb2 a o n (ke a o e)) L2

theorem kind_comp {sc : Scope} {C g : Addr} {cells : List (Str × Addr)} {qual : Str} {func : Option Addr} {code : Value} {env : Env} {b : Addr} (x : Str) :
    Env.kindOf { newEnv sc C g cells qual func code (some env) b with scope := sc } x = sc.names.lookup x := rfl

inductive CompInv (c : Cx) (μ : Mu) (st : Objs) (h : Heap) (v : MV) (I C D : Addr) (ns : List Str) (ys : List MV) (len : Nat) : Nat → Shared → Prop
  | mk {s : Shared} {i : Nat} {items : Array Value} {lo : List MV} (hi : i ≤ len) (R : Rel c μ st s) (G : Grow0 μ h μ s.heap) (it : ItAt c μ s.heap v I i) (hD : s.heap.PlainList D items) (r : All2 (VR μ s.heap) (ys.take i) items.toList) (L : LR c μ s.heap C ns lo) : CompInv c μ st h v I C D ns ys len (len + 1 - i) s

set_option tactic.hygienic true in
theorem se_comp {elt target it : Expr} {ns : List Str} {one : Bool} {sc : Scope} {p : Pos} (hit : SE c S n it) (helt : SE c S n elt) (ht : Tgt target ns one) {t : TEnv} {env : Env} {it' elt' : ME} {is : List Nat} (hi : trE t it = some it') (he : trE ⟨ns, fun _ => none⟩ elt = some elt')
    (hsc : scOK sc = true) (hl : ∀ x ∈ ns, sc.names.lookup x = some .local ∧ (x == ("__debug__" : Str)) = false) (nd : ns.Nodup) (En : EnvOK c env t) {A : Around} (hr : Room n A) {E : Value → Shared → Prop} {μ : Mu} {st : Objs} {s : Shared} {loc : List MV}
    {Q : Value → Shared → Prop} {Qm : EP} (R : Rel c μ st s) (L : LR c μ s.heap env.locals t.ns loc) (w : wpE S loc (.comp elt' is one it') st Qm)
    (q : ∀ v st', Qm v st' → Post c μ s.heap v st' Q) : wpAny (model c.prog c.w) A (eval (.ListComp elt [⟨target, it, [], 0⟩] sc p) env) Q E s := by
  obtain ⟨hk, hnm⟩ := scOK_of hsc
  refine wpAny_ListComp (fun x hx e => by rw [(hnm x hx).1] at e; (first | exact no e | cases e)) hk (fun x hx _ => (hnm x hx).2) ?_ (folded_no hi)
  refine hit t env it' hi En A hr E μ st s loc _ _ R L w fun v st1 w1 μ1 cv s1 R1 G1 hv => ?_
  obtain ⟨xs, e1, w2⟩ := opt_iff.mp w1
  obtain ⟨hlim, w3⟩ := w2
  obtain ⟨ys, e2, w4⟩ := opt_iff.mp w3
  obtain ⟨hylen, hy⟩ := compL_get e2
  refine iter_start R1 hv e1 fun I s2 hI R2 G2 it2 => ?_
  refine wpAny_newObj_type (wpAny_newFunctionEnv (fun x hx e => by rw [(hnm x hx).1] at e; (first | exact no e | cases e)) (by intro x hx; simp at hx) (fun h1 hns sb => ?_) hk)
  dsimp only at hns sb ⊢
  generalize hC : (s2.heap.push { cls := .type "list", dict := none, data := .seq ([] : List Value).toArray }).objs.size = C at hns sb ⊢
  have hCs : C = s2.heap.objs.size + 1 := by rw [← hC, Heap.size_push]
  have hDC : s2.heap.objs.size ≠ C := nsucc hCs
  have kC : ∀ a o, a ≠ C → s2.heap.get? a = some o → h1.get? a = some o := fun a o na e => sb.extBut a o na (Heap.get?_push_of_some _ (Heap.get?_push_of_some _ e))
  have k1 : ∀ a o, s2.heap.get? a = some o → h1.get? a = some o := fun a o e => kC a o (ltne (Heap.lt_size e) hCs) e
  have noC : ∀ o, s2.heap.get? C ≠ some o := fun o e => ltne (Heap.lt_size e) hCs rfl
  have noC2 : s2.heap.get? C = none := by cases e : s2.heap.get? C with | none => rfl | some o => exact (noC o e).elim
  have K1 : Keep none_ μ1 s2.heap μ1 h1 := ⟨fun _ _ e => e, fun a o e _ _ => k1 a o e⟩
  have R3 : Rel c μ1 st1 { s2 with heap := h1, toks := s2.toks + ([] : List (Str × Value)).length } := ⟨R2.sr.stepK K1 (safe_none _) (fun a m => by obtain ⟨o, e, _⟩ := R2.sr.mut m; rw [e]; exact k1 a o e) (fun _ x => x.elim), R2.os, R2.gens⟩
  have freshOf : ∀ a, s2.heap.get? a = none → c.h0.get? a = none ∧ ¬ inMu μ1 a := fun a e => by
    constructor
    · cases e' : c.h0.get? a with
      | none => rfl
      | some o => have := R2.sr.keep a o e'; rw [e] at this; (first | exact no this | cases this)
    · intro m
      obtain ⟨o, e', _⟩ := R2.sr.mut m; rw [e] at e'; cases e'
  obtain ⟨nD0, nD1⟩ := freshOf _ (get_size s2.heap)
  obtain ⟨nC0, nC1⟩ := freshOf C noC2
  have oldI : ∃ o, s2.heap.get? I = some o := let ⟨o, e, _⟩ := it2.pos.get; ⟨o, e⟩
  have hIC : I ≠ C := fun e => by obtain ⟨o, z⟩ := oldI; rw [e, noC2] at z; (first | exact no z | cases z)
  have hID : I ≠ s2.heap.objs.size := fun e => by obtain ⟨o, z⟩ := oldI; rw [e, get_size] at z; (first | exact no z | cases z)
  have fresh1 : ∀ a, s2.heap.get? a = none → s1.heap.get? a = none := fun a e => by
    cases e' : s1.heap.get? a with
    | none => rfl
    | some o => obtain ⟨o', z⟩ := G2.live a o e'; rw [e] at z; (first | exact no z | cases z)
  have G3 : Grow0 μ1 s1.heap μ1 h1 := ⟨fun _ _ e => e, fun a o e nm x => k1 a o (G2.old a o e nm x), fun _ _ e1 e2 => (by rw [e1] at e2; exact nomatch e2), fun a o e => by obtain ⟨o', z⟩ := G2.live a o e; exact ⟨o', k1 a o' z⟩⟩
  have it3 : ItAt c μ1 h1 v I 0 := it2.monoK R2.sr K1 (safe_none _) (fun q => q.elim) it2.out
  have hD3 : h1.PlainList s2.heap.objs.size #[] := ⟨0, sb.extBut _ _ hDC (Heap.get?_push_of_some _ (Heap.get?_push_size _ rfl))⟩
  have L3 : LR c μ1 h1 C ns (ns.map fun _ => MV.unb) := ⟨nsEmpty rfl hns, by simp, nC0, nC1⟩
  let cenv : Env := { newEnv sc C env.globals [] env.qual none .none (some env) builtinsNs with scope := sc }
  have Ec : EnvOK c cenv ⟨ns, fun _ => none⟩ := ⟨hk, nd, fun x i hx => by
      have := List.mem_of_getElem? (idx_get hx)
      exact ⟨(kind_comp x).trans (hl x this).1, (hl x this).2⟩, fun x v pos e => by (first | exact no e | cases e)⟩
  have loop : codeAny (model c.prog c.w) A (.compLoop (.ListComp elt [⟨target, it, [], 0⟩] sc p) 0 (.ref I) (.ref s2.heap.objs.size) cenv)
      (fun r s' => ∃ m, s'.heap.Ns C m ∧ ∀ h', Heap.SameBut C s'.heap h' →
            match r with | .ok _ => Q (.ref s2.heap.objs.size) { s' with heap := h' } | .error x => wpAny (model c.prog c.w) A (passOn "comprehension.variables-let-go" x cenv) Q E { s' with heap := h' })
      { s2 with heap := h1, toks := s2.toks + ([] : List (Str × Value)).length } := by
    refine compLoop2 ht (CompInv c μ1 st1 s1.heap v I C s2.heap.objs.size ns ys xs.length) ?_ (xs.length + 1) (.mk (i := 0) (Nat.zero_le _) R3 G3 it3 hD3 .nil L3)
    rintro _ s3 ⟨hile, R3, G3, it3, hD3, r3, L3⟩
    rename_i i items lo

    clear hns sb kC k1 noC K1 freshOf oldI
    have liveD : s3.heap.get? s2.heap.objs.size ≠ none := fun e => by obtain ⟨n, z⟩ := hD3; rw [e] at z; (first | exact no z | cases z)
    by_cases hlt : i < xs.length
    · have hx : xs[i]? = some xs[i] := List.getElem?_eq_getElem hlt
      obtain ⟨l, y, hb, hyi, hp⟩ := hy i _ hx
      refine iter_next R3 e1 it3 hx fun cy s4 R4 sb4 it4 hv4 => ?_
      have ke4 : ∀ a o, a ≠ I → s3.heap.get? a = some o → s4.heap.get? a = some o := fun a o n e => (sb4.2 a n).trans e
      have K4 := Keep.same (μ := μ1) ke4
      have L4 : LR c μ1 s4.heap C ns lo := L3.monoK R3.sr K4 it3.safe (fun q => hIC q.symm) L3.out
      have hD4 : s4.heap.PlainList s2.heap.objs.size items := let ⟨n, z⟩ := hD3; ⟨n, ke4 _ _ (Ne.symm hID) z⟩
      have r4 : All2 (VR μ1 s4.heap) (ys.take i) items.toList := r3.mono fun _ _ z => z.monoK R3.sr K4 it3.safe
      have G4 : Grow0 μ1 s1.heap μ1 s4.heap := G3.skip hI ke4
      refine letOwned_ok it4.pos ?_
      refine tgt_ok hr.handled ht (env := cenv) hk (fun x hx => (kind_comp x).trans (hl x hx).1) R4 L4 hb hv4 fun s5 R5 eb5 L5 => ?_
      have K5 := Keep.same (μ := μ1) eb5
      have hD5 : s5.heap.PlainList s2.heap.objs.size items := let ⟨n, z⟩ := hD4; ⟨n, eb5 _ _ hDC z⟩
      have r5 : All2 (VR μ1 s5.heap) (ys.take i) items.toList := r4.mono fun _ _ z => z.monoK R4.sr K5 L4.safe
      have it5 : ItAt c μ1 s5.heap v I (i + 1) := it4.monoK R4.sr K5 L4.safe hIC it4.out
      have G5 : Grow0 μ1 s1.heap μ1 s5.heap := G4.skip (fresh1 C noC2) eb5
      refine helt ⟨ns, fun _ => none⟩ cenv elt' he Ec A hr _ μ1 st1 s5 l _ (fun w st' => w = y ∧ st' = st1) R5 L5 (pev_wp hp ⟨rfl, rfl⟩) ?_
      rintro _ _ ⟨rfl, rfl⟩ μ6 cw s6 R6 G6 hw
      obtain rfl := R5.sameMu R6 G6.pre
      have hD6 : s6.heap.PlainList s2.heap.objs.size items := let ⟨n, z⟩ := hD5; ⟨n, G6.old _ _ z nD1 (fun q => q.elim)⟩
      have r6 : All2 (VR μ6 s6.heap) (ys.take i) items.toList := r5.mono fun _ _ z => z.mono R5.sr G6 (safe_none _)
      have it6 : ItAt c μ6 s6.heap v I (i + 1) := it5.mono R5.sr G6
      have L6 : LR c μ6 s6.heap C ns l := L5.mono R5.sr G6
      have hsz : items.size ≤ sizeLine := by
        rw [r3.size, List.length_take]
        exact Nat.le_trans (Nat.min_le_left _ _) (Nat.le_trans (Nat.le_of_lt hlt) (lim_le hlim))
      refine wpAny_list_append_plain hD6 (fun h7 hD7 sb7 => ?_) hsz
      have ke7 : ∀ a o, a ≠ s2.heap.objs.size → s6.heap.get? a = some o → h7.get? a = some o := fun a o n e => (sb7.2 a n).trans e
      have K7 := Keep.same (μ := μ6) ke7
      have sf7 : Safe (· = s2.heap.objs.size) s6.heap := fun a o e g => by obtain ⟨n, z⟩ := hD6; subst e; rw [g] at z; (first | exact no z | cases z); rfl
      refine ⟨_, by lia, .mk (i := i + 1) hlt (R6.but nD0 nD1 sf7 ke7 _) ((G5.trans G6).skip (fresh1 _ (get_size s2.heap)) ke7) (it6.monoK R6.sr K7 sf7 hID it6.out) hD7 ?_ (L6.monoK R6.sr K7 sf7 (Ne.symm hDC) L6.out)⟩
      rw [Array.toList_push, List.take_succ, hyi]
      exact (r6.mono fun _ _ z => z.monoK R6.sr K7 sf7).append (.cons (hw.monoK R6.sr K7 sf7) .nil)
    · have hi' : i = xs.length := by lia
      subst hi'
      refine iter_end R3 hr.handled e1 it3 (by simp) fun s4 R4 eb4 => ?_
      have K4 := Keep.same (μ := μ1) eb4
      have L4 : LR c μ1 s4.heap C ns lo := L3.monoK R3.sr K4 it3.safe (fun q => hIC q.symm) L3.out
      have hD4 : s4.heap.PlainList s2.heap.objs.size items := let ⟨n, z⟩ := hD3; ⟨n, eb4 _ _ (Ne.symm hID) z⟩
      have r4 : All2 (VR μ1 s4.heap) (ys.take xs.length) items.toList := r3.mono fun _ _ z => z.monoK R3.sr K4 it3.safe
      have G4 : Grow0 μ1 s1.heap μ1 s4.heap := G3.skip hI eb4
      obtain ⟨m, hm, _⟩ := L4.fr
      refine ⟨m, hm, fun h5 sb5 => ?_⟩
      have ke5 : ∀ a o, a ≠ C → s4.heap.get? a = some o → h5.get? a = some o := fun a o n e => (sb5.2 a n).trans e
      have K5 := Keep.same (μ := μ1) ke5
      have R5 := R4.but nC0 nC1 L4.safe ke5 s4.toks
      have hD5 : h5.PlainList s2.heap.objs.size items := let ⟨n, z⟩ := hD4; ⟨n, ke5 _ _ hDC z⟩
      have r5 : All2 (VR μ1 h5) ys items.toList := by
        rw [← hylen, List.take_length] at r4
        exact r4.mono fun _ _ z => z.monoK R4.sr K5 L4.safe
      have G5 : Grow0 μ1 s1.heap μ1 h5 := G4.skip (fresh1 C noC2) ke5
      have KK : Keep none_ μ1 h5 (μ1 ++ [(s2.heap.objs.size, none)]) h5 := ⟨fun i q e => by rw [List.getElem?_append_left (List.getElem?_eq_some_iff.mp e).1]; exact e, fun a o e _ _ => e⟩
      have Sz := R5.sr.adopt (p := (s2.heap.objs.size, none)) (mo := .list ys) (by simp only [pa]; intro a ha; simp at ha; subst ha; exact ⟨nD1, nD0⟩) (fun d e => by (first | exact no e | cases e)) ⟨rfl, items, hD5, r5.mono fun _ _ z => z.monoK R5.sr KK (safe_none _)⟩
      have G6 : Grow0 μ1 s1.heap (μ1 ++ [(s2.heap.objs.size, none)]) h5 := ⟨KK.pre, G5.old, fun i p e1 e2 a ha => by
        rcases get_snoc e1 with e | ⟨_, rfl⟩
        · rw [e] at e2; (first | exact no e2 | cases e2)
        · simp [pa] at ha; subst ha; exact fresh1 _ (get_size s2.heap), G5.live⟩
      exact q _ _ w4 _ _ _ ⟨Sz, R4.os, R4.gens⟩ (G1.trans G6) (VR.new R5.sr.len.symm)
  exact codeAny_compStart_list loop (iter_self it3.pos loop)
end
end Mine.Lake

set_option tactic.hygienic true

open PySem PySem.W PyProof.Rows PySem.Calls
namespace Mine.Lake
set_option tactic.hygienic false

section
variable {c : Cx} {S : Sg} {n : Nat}

theorem se_none {e : Expr} (h : ∀ t, trE t e = none) : SE c S n e := fun t env me h' => by rw [h t] at h'; cases h'

theorem mem_size {e : Expr} {l : List Expr} (h : e ∈ l) : sizeOf e < sizeOf l := List.sizeOf_lt_of_mem h

theorem dbg {x : Str} (h : x ≠ Str.ofString "__debug__") : (x == ("__debug__" : Str)) = false := beq_eq_false_iff_ne.mpr h

theorem twoE_inv {es : List Expr} {p : Expr × Expr} (h : twoE es = some p) : es = [p.1, p.2] := by
  cases es with
  | nil => exact no h
  | cons a r => cases r with
    | nil => exact no h
    | cons b r => cases r with
      | nil => cases h; rfl
      | cons => exact no h
inductive TgtI (tg : Expr) (ns : List Str) : Prop
  | mk (one : Bool) (h1 : one = (ns.length == 1)) (h : Tgt tg ns one) (nd : ns.Nodup) : TgtI tg ns
set_option tactic.hygienic true in
theorem tgtV_inv {tg : Expr} {ns : List Str} (h : tgtV tg = some ns) : TgtI tg ns := by
  cases tg
  case Name x xp => cases h; exact .mk _ rfl (.one x xp) (by simp)
  case Tuple es k tp =>
    obtain ⟨⟨a, b⟩, h1, g⟩ := bind_some h
    obtain ⟨x, h2, g⟩ := bind_some g
    obtain ⟨y, h3, g⟩ := bind_some g
    obtain ⟨hxy, g⟩ := ite_some g
    cases g
    clear h
    cases twoE_inv h1
    cases nameOf_inv h2
    cases nameOf_inv h3
    exact .mk _ rfl (.two x y _ _ tp k hxy) (by simp [hxy])
  all_goals exact no h

theorem compOK_inv {sc : Scope} {ns : List Str} (h : compOK sc ns = true) : scOK sc = true ∧ ∀ x ∈ ns, sc.names.lookup x = some .local ∧ (x == ("__debug__" : Str)) = false := by
  unfold compOK at h
  rw [Bool.and_eq_true, List.all_eq_true] at h
  refine ⟨h.1, fun x hx => ?_⟩
  have := h.2 x hx
  rw [Bool.and_eq_true, decide_eq_true_eq, decide_eq_true_eq] at this
  exact ⟨this.1, dbg this.2⟩

inductive CompI (t : TEnv) (elt : Expr) (sc : Scope) : List Comprehension → ME → Prop
  | mk {target it : Expr} {ns : List Str} {one : Bool} {it' elt' : ME} (ht : Tgt target ns one) (h1 : trE t it = some it') (h2 : trE ⟨ns, fun _ => none⟩ elt = some elt') (h3 : scOK sc = true)
    (h4 : ∀ x ∈ ns, sc.names.lookup x = some .local ∧ (x == ("__debug__" : Str)) = false) (h5 : ns.Nodup) : CompI t elt sc [⟨target, it, [], 0⟩] (.comp elt' (List.range ns.length) one it')
theorem trE_comp {t : TEnv} {elt : Expr} {gens : List Comprehension} {sc : Scope} {p : Pos} {me : ME} (h : trE t (.ListComp elt gens sc p) = some me) : CompI t elt sc gens me := by
  cases gens with
  | nil => exact no h
  | cons g gs =>
    obtain ⟨target, it, ifs, asy⟩ := g
    cases gs with
    | cons => exact no h
    | nil =>
      cases ifs with
      | cons => exact no h
      | nil =>
        have h : (if asy = 0 then (match tgtV target with
          | some ns => (do
            let it ← trE t it
            let elt ← trE ⟨ns, fun _ => none⟩ elt
            if compOK sc ns = true then return .comp elt (List.range ns.length) (ns.length == 1) it else none)
          | none => none) else none) = some me := h
        obtain ⟨ha, h⟩ := ite_some h
        subst ha
        cases ht : tgtV target with
        | none => rw [ht] at h; exact no h
        | some ns =>
          rw [ht] at h
          obtain ⟨it', h1, h⟩ := bind_some h
          obtain ⟨elt', h2, h⟩ := bind_some h
          cases tgtV_inv ht with | mk one ho h3 h4 => ?_
          subst ho
          obtain ⟨hc, h⟩ := ite_some h
          cases h
          exact .mk h3 h1 h2 (compOK_inv hc).1 (compOK_inv hc).2 h4

set_option tactic.hygienic true in
theorem sE (X : c.K.In c.h0) (hsys : ∃ o, c.h0.get? sysModules = some o) (G : SgOK c S n) : ∀ (k : Nat) (e : Expr), sizeOf e < k → SE c S n e := by
  intro k
  induction k with
  | zero => intro e h; lia
  | succ k ih =>
    intro e he
    have ihs : ∀ (l : List Expr), sizeOf l ≤ k → ∀ e ∈ l, SE c S n e := fun l hl e hm => ih e (by have := mem_size hm; lia)
    (first | exact no e | cases e)
    case Constant => exact se_const
    case Name => exact se_name
    case BoolOp op vs p =>
      intro t env me h En A hr E μ st s loc Q Qm R L w q
      exact se_bool En hr (ihs vs (by simp at he; lia)) h E μ st s loc Q Qm R L w q
    case BinOp l op r p => exact se_bin (ih l (by simp at he; lia)) (ih r (by simp at he; lia))
    case UnaryOp op x p =>
      cases op
      case USub => exact se_neg (ih x (by simp at he; lia))
      case Not =>
        intro t env me h En A hr E μ st s loc Q Qm R L w q
        obtain ⟨a, ha, rfl⟩ := map_some h
        exact w.elim
      all_goals exact se_none fun t => rfl
    case IfExp cnd a b p =>
      cases cnd
      case Compare l ops rs p' =>
        cases ops with
        | nil => exact se_none fun t => rfl
        | cons op ops =>
          cases ops with
          | cons => exact se_none fun t => rfl
          | nil =>
            cases rs with
            | nil => exact se_none fun t => rfl
            | cons r rs =>
              cases rs with
              | cons => exact se_none fun t => rfl
              | nil => exact se_ife (ih l (by simp at he; lia)) (ih r (by simp at he; lia)) (ih a (by simp at he; lia)) (ih b (by simp at he; lia))
      all_goals exact se_none fun t => rfl
    case Dict ks vs p =>
      cases ks with
      | nil => cases vs with
        | nil => exact se_dict hsys
        | cons => exact se_none fun t => rfl
      | cons => exact se_none fun t => rfl
    case List es p => exact se_lst (ihs es (by simp at he; lia))
    case Tuple es x1 p => exact se_tup (ihs es (by simp at he; lia))
    case Compare l ops rs p =>
      cases ops with
      | nil => exact se_none fun t => rfl
      | cons op ops =>
        cases ops with
        | cons => exact se_none fun t => rfl
        | nil =>
          cases rs with
          | nil => exact se_none fun t => rfl
          | cons r rs =>
            cases rs with
            | cons => exact se_none fun t => rfl
            | nil => exact se_cmp (ih l (by simp at he; lia)) (ih r (by simp at he; lia))
    case Call f args kws p =>
      cases kws with
      | cons => cases f <;> exact se_none fun t => rfl
      | nil =>
        cases f
        case Name f fp => exact se_call X G (ihs args (by simp at he; lia))
        case Attribute o nm ap => exact se_meth X G (ih o (by simp at he; lia)) (ihs args (by simp at he; lia))
        all_goals exact se_none fun t => rfl
    case Attribute v a p => exact se_attr X (ih v (by simp at he; lia))
    case Subscript v i p =>
      intro t env me h En A hr E μ st s loc Q Qm R L w q
      rcases trE_sub h with ⟨lo, hi, sp, pp, v', a, b, d, rfl, h1, h2, h3, h4, rfl⟩ | ⟨v', i', h1, h2, rfl⟩
      · exact se_slc G (ih v (by simp at he; lia)) (fun e q => ih e (by subst q; simp at he; lia)) (fun e q => ih e (by subst q; simp at he; lia)) (fun e q => ih e (by subst q; simp at he; lia)) h1 h2 h3 h4 En hr R L w q
      · exact se_sub (ih v (by simp at he; lia)) (ih i (by simp at he; lia)) h1 h2 En hr R L w q
    case ListComp elt gens sc p =>
      intro t env me h En A hr E μ st s loc Q Qm R L w q
      cases trE_comp h with | mk ht h1 h2 h3 h4 h5 => ?_
      exact se_comp (ih _ (by simp at he; lia)) (ih elt (by simp at he; lia)) ht h1 h2 h3 h4 h5 En hr R L w q
    all_goals exact se_none fun t => rfl
end
end Mine.Lake

set_option tactic.hygienic true

open PySem PySem.W PyProof.Rows PySem.Calls
namespace Mine.Lake
set_option tactic.hygienic false

noncomputable def headB : ME → Bool
  | .not _ | .and _ _ | .or _ _ | .ife .. => true
  | _ => false
noncomputable def testE : Expr → Bool
  | .UnaryOp .Not _ _ | .BoolOp .. | .IfExp .. | .Compare .. => true
  | _ => false

theorem wpB_plain {S : Sg} {loc : List MV} {me : ME} {st : Objs} {Q : Bool → Objs → Prop} (h : headB me = false) (w : wpB S loc me st Q) : wpE S loc me st fun v st1 => opt (truthM v) fun c => Q c st1 := by
  cases me <;> first | (exact w) | (first | exact no h | cases h)

noncomputable def np (P : ME → Prop) (o : Option ME) : Prop := ∀ me, o = some me → P me
section np
variable {P : ME → Prop} {α : Type}
theorem np_bind {a : Option α} {f : α → Option ME} (h : ∀ x, np P (f x)) : np P (a >>= f) := fun me e => let ⟨x, _, e⟩ := bind_some e; h x me e
theorem np_map {a : Option α} {f : α → ME} (h : ∀ x, P (f x)) : np P (a.map f) := fun me e => let ⟨x, _, e⟩ := map_some e; e ▸ h x
theorem np_some {m : ME} (h : P m) : np P (some m) := fun me e => Option.some.inj e ▸ h
theorem np_none : np P none := fun me e => no e
theorem np_ite {c : Prop} [Decidable c] {x : Option ME} (h : np P x) : np P (if c then x else none) := fun me e => h me (ite_some e).2
end np
noncomputable abbrev nh := np fun me => headB me = false
set_option tactic.hygienic true in
theorem head_np {t : TEnv} {e : Expr} (hp : testE e = false) : nh (trE t e) := by
  cases e
  case Constant x k p =>
    cases x <;> first | exact np_some rfl | exact np_none
  case Name x p =>
    show nh (match idx x t.ns with | some i => some (ME.loc i) | none => (t.glob x).map ME.cst)
    cases idx x t.ns with
    | none => exact np_map fun _ => rfl
    | some i => exact np_some rfl
  case BoolOp => cases hp
  case IfExp => cases hp
  case Compare => cases hp
  case BinOp => exact np_bind fun _ => np_bind fun _ => np_some rfl
  case UnaryOp op x p =>
    cases op
    case Not => cases hp
    case USub => exact np_map fun _ => rfl
    all_goals exact np_none
  case Dict ks vs p =>
    cases ks with
    | nil => cases vs with
      | nil => exact np_some rfl
      | cons => exact np_none
    | cons => exact np_none
  case List => exact np_ite (np_map fun _ => rfl)
  case Tuple => exact np_ite (np_map fun _ => rfl)
  case Call f args kws p =>
    cases kws with
    | cons => exact np_none
    | nil =>
      cases f
      case Name f fp => exact np_bind fun _ => np_bind fun _ => np_some rfl
      case Attribute o nm ap => exact np_ite (np_bind fun _ => np_bind fun _ => np_bind fun _ => np_some rfl)
      all_goals exact np_none
  case Attribute => exact np_ite (np_bind fun _ => np_bind fun _ => np_some rfl)
  case Subscript v i p => intro me h; cases trE_sub h with | slc _ _ _ _ _ _ _ _ _ _ _ _ _ h5 => subst h5; rfl | sub _ _ _ _ h3 => subst h3; rfl
  case ListComp elt gens sc p => intro me h; cases trE_comp h; rfl
  all_goals exact np_none
theorem head_of {t : TEnv} {e : Expr} {me : ME} (h : trE t e = some me) (hp : testE e = false) : headB me = false := head_np hp me h
noncomputable def isIfe : ME → Bool
  | .ife .. => true
  | _ => false
set_option tactic.hygienic true in
theorem ife_np {t : TEnv} {cnd a b : Expr} {p : Pos} : np (fun me => isIfe me = true) (trE t (.IfExp cnd a b p)) := by
  cases cnd
  case Compare l ops rs p' =>
    cases ops with
    | nil => exact np_none
    | cons op ops =>
      cases ops with
      | cons => exact np_none
      | nil =>
        cases rs with
        | nil => exact np_none
        | cons r rs =>
          cases rs with
          | cons => exact np_none
          | nil => exact np_bind fun _ => np_bind fun _ => np_bind fun _ => np_bind fun _ => np_some rfl
  all_goals exact np_none
theorem wpB_ife {S : Sg} {loc : List MV} {me : ME} {st : Objs} {Q : Bool → Objs → Prop} (h : isIfe me = true) (w : wpB S loc me st Q) : False := by
  cases me <;> first | exact w | cases h

section
variable {c : Cx} {S : Sg} {n : Nat}

noncomputable def SB (c : Cx) (S : Sg) (n : Nat) (e : Expr) : Prop := ∀ (t : TEnv) (env : Env) (me : ME), trE t e = some me → EnvOK c env t → ∀ (A : Around), Room n A → ∀ (E : Value → Shared → Prop) (μ : Mu) (st : Objs) (s : Shared) (loc : List MV)
  (Q : Bool → Shared → Prop) (Qm : Bool → Objs → Prop), Rel c μ st s → LR c μ s.heap env.locals t.ns loc → wpB S loc me st Qm → (∀ b st', Qm b st' → ∀ μ' s', Rel c μ' st' s' → Grow0 μ s.heap μ' s'.heap → Q b s') →
  wpAny (model c.prog c.w) A (isTrue e env (eval e env)) Q E s

theorem sb_none {e : Expr} (h : ∀ t, trE t e = none) : SB c S n e := fun t env me e => no ((h t).symm.trans e)

set_option tactic.hygienic true in
theorem sb_plain {e : Expr} (he : SE c S n e) (hp : testE e = false) : SB c S n e := by
  intro t env me h En A hr E μ st s loc Q Qm R L w q
  have w' := wpB_plain (head_of h hp) w
  refine isTrue_plain (he t env me h En A hr E μ st s loc _ _ R L w' fun v st1 w1 μ1 cv s1 R1 G1 hv => ?_) (by
    (first | exact no e | cases e)
    case UnaryOp op x p => cases op <;> first | rfl | (first | exact no hp | cases hp)
    all_goals first | rfl | (first | exact no hp | cases hp))
  obtain ⟨cb, e1, w2⟩ := opt_iff.mp w1
  obtain rfl := truth_inv e1
  obtain rfl := hv.bool_inv
  exact wpAny_truthy_bool (q _ _ w2 μ1 s1 R1 G1)

theorem sb_bool {op : BoolOp} {p : Pos} {t : TEnv} {env : Env} (En : EnvOK c env t) {A : Around} (hr : Room n A) : ∀ {es : List Expr} {me : ME}, (∀ e ∈ es, SB c S n e) → trB t op es = some me → ∀ (whole : Sem Value) (E : Value → Shared → Prop) (μ : Mu) (st : Objs) (s : Shared) (loc : List MV)
    (Q : Bool → Shared → Prop) (Qm : Bool → Objs → Prop), Rel c μ st s → LR c μ s.heap env.locals t.ns loc → wpB S loc me st Qm → (∀ b st', Qm b st' → ∀ μ' s', Rel c μ' st' s' → Grow0 μ s.heap μ' s'.heap → Q b s') → wpAny (model c.prog c.w) A (isTrue (.BoolOp op es p) env whole) Q E s
  | [], me, _, h, whole, E, μ, st, s, loc, Q, Qm, R, L, w, q => by (first | exact no h | cases h)
  | [e], me, hs, h, whole, E, μ, st, s, loc, Q, Qm, R, L, w, q => by
    cases op with
    | And =>
      refine isTrue_and (hs e (.head _) t env me h En A hr E μ st s loc _ _ R L w fun b st1 w1 μ1 s1 R1 G1 => ?_)
      cases b with
      | true => rw [if_pos rfl]; exact isTrue_and_nil (q _ _ w1 _ _ R1 G1)
      | false => rw [if_neg (by decide)]; exact q _ _ w1 _ _ R1 G1
    | Or =>
      refine isTrue_or (hs e (.head _) t env me h En A hr E μ st s loc _ _ R L w fun b st1 w1 μ1 s1 R1 G1 => ?_)
      cases b with
      | true => rw [if_pos rfl]; exact q _ _ w1 _ _ R1 G1
      | false => rw [if_neg (by decide)]; exact isTrue_or_nil (q _ _ w1 _ _ R1 G1)
  | e :: e2 :: r, me, hs, h, whole, E, μ, st, s, loc, Q, Qm, R, L, w, q => by
    obtain ⟨a, ha, h⟩ := bind_some h
    obtain ⟨b, hb, h⟩ := bind_some h
    cases op with
    | And =>
      (first | exact no h | cases h)
      refine isTrue_and (hs e (.head _) t env a ha En A hr E μ st s loc _ _ R L w fun b st1 w1 μ1 s1 R1 G1 => ?_)
      cases b with
      | true =>
        rw [if_pos rfl] at w1 ⊢
        exact sb_bool En hr (fun e he => hs e (.tail _ he)) hb whole E μ1 st1 s1 loc Q Qm R1 (L.mono R.sr G1) w1 fun b st' z μ' s' R' G' => q _ _ z _ _ R' (G1.trans G')
      | false =>
        rw [if_neg (by decide)] at w1 ⊢
        exact q _ _ w1 _ _ R1 G1
    | Or =>
      (first | exact no h | cases h)
      refine isTrue_or (hs e (.head _) t env a ha En A hr E μ st s loc _ _ R L w fun b st1 w1 μ1 s1 R1 G1 => ?_)
      cases b with
      | true =>
        rw [if_pos rfl] at w1 ⊢
        exact q _ _ w1 _ _ R1 G1
      | false =>
        rw [if_neg (by decide)] at w1 ⊢
        exact sb_bool En hr (fun e he => hs e (.tail _ he)) hb whole E μ1 st1 s1 loc Q Qm R1 (L.mono R.sr G1) w1 fun b st' z μ' s' R' G' => q _ _ z _ _ R' (G1.trans G')

set_option tactic.hygienic true in
theorem sB (X : c.K.In c.h0) (hsys : ∃ o, c.h0.get? sysModules = some o) (G : SgOK c S n) : ∀ (k : Nat) (e : Expr), sizeOf e < k → SB c S n e := by
  intro k
  induction k with
  | zero => intro e h; lia
  | succ k ih =>
    intro e he
    by_cases hp : testE e = false
    · exact sb_plain (sE X hsys G _ e he) hp
    · (first | exact no e | cases e)
      case UnaryOp op x p =>
        cases op
        case Not =>
          intro t env me h En A hr E μ st s loc Q Qm R L w q
          obtain ⟨a, ha, rfl⟩ := map_some h
          exact isTrue_not (ih x (by simp at he; lia) t env a ha En A hr E μ st s loc _ _ R L w fun b st1 w1 μ1 s1 R1 G1 => q _ _ w1 _ _ R1 G1)
        all_goals exact (hp rfl).elim
      case BoolOp op vs p =>
        intro t env me h En A hr E μ st s loc Q Qm R L w q
        exact sb_bool En hr (fun e hm => ih e (by have := mem_size hm; simp at he; lia)) h _ E μ st s loc Q Qm R L w q
      case IfExp cnd a b p =>
        exact fun t env me h En A hr E μ st s loc Q Qm R L w q => (wpB_ife (ife_np me h) w).elim
      case Compare l ops rs p =>
        cases ops with
        | nil => exact sb_none fun _ => rfl
        | cons op ops =>
          cases ops with
          | cons => exact sb_none fun _ => rfl
          | nil =>
            cases rs with
            | nil => exact sb_none fun _ => rfl
            | cons r rs =>
              cases rs with
              | cons => exact sb_none fun _ => rfl
              | nil =>
                intro t env me h En A hr E μ st s loc Q Qm R L w q
                obtain ⟨a, ha, h⟩ := bind_some h
                obtain ⟨b, hb, h⟩ := bind_some h
                (first | exact no h | cases h)
                have w' := wpB_plain rfl w
                exact se_cmpT (sE X hsys G _ l (Nat.lt_succ_self _)) (sE X hsys G _ r (Nat.lt_succ_self _)) ha hb En hr R L w' q
      all_goals exact (hp rfl).elim
end
end Mine.Lake

set_option tactic.hygienic true

set_option tactic.hygienic false
open PySem PySem.W PyProof.Rows PySem.Calls
namespace Mine.Lake

section
variable {c : Cx} {μ : Mu} {st : Objs} {s : Shared} {A : Around} {E : Value → Shared → Prop}

theorem getItem_ok (R : Rel c μ st s) {v k x : MV} {cv ck : Value} (hv : VR μ s.heap v cv) (hk : VR μ s.heap k ck) (h : subM st v k = some x) {Q : Value → Shared → Prop}
    (q : ∀ cx tk, VR μ s.heap x cx → Q cx { s with toks := tk }) : wpAny (model c.prog c.w) A (getItem cv ck) Q E s := by
  obtain ⟨n, rfl, H⟩ := subM_inv h
  obtain ⟨t, rfl⟩ := hk.int_inv
  rcases H with ⟨xs, rfl, h0, h1, hx⟩ | ⟨i, xs, rfl, hst, h0, h1, hx⟩ | ⟨i, kvs, rfl, hst, hl⟩
  · obtain ⟨a, items, rfl, ho, r⟩ := hv.tup_inv
    obtain ⟨cx, e1, e2⟩ := r.arr hx
    have hT : IsTup s.heap a items := ⟨_, ho, rfl, _, rfl⟩
    have hlt : n.toNat < items.size := (Array.getElem?_eq_some_iff.mp e1).1
    exact getItem_tuple hT (by lia) (big_lt h1) (seqIndex_at h0 (by lia)) e1 (q cx s.toks e2)
  · obtain ⟨p, rfl, hp, _, items, ⟨m, ho⟩, r⟩ := R.ref hv hst
    obtain ⟨cx, e1, e2⟩ := r.arr hx
    exact wpAny_getItem_list ⟨_, ho, rfl, _, rfl⟩ h0 (big_lt h1) e1 (q cx s.toks e2)
  · obtain ⟨p, rfl, hp, _, _, es, hd, r⟩ := R.ref hv hst
    rcases KV.look r n with ⟨e, _⟩ | ⟨x', cx, e, e1, e2⟩
    · rw [hl] at e; (first | exact no e | cases e)
    · rw [hl] at e; (first | exact no e | cases e)
      exact wpAny_getItem_of (by simp [intKind, Value.isInt]) hd.mapOf e1 (q cx _ e2)
end

noncomputable abbrev GL (L : Addr) := Grow (· = L)

noncomputable def PostL (c : Cx) (env : Env) (ns : List Str) (μ : Mu) (h : Heap) (N : List MV → Objs → Prop) (Q : Shared → Prop) : Prop :=
  ∀ loc' st', N loc' st' → ∀ μ' s', Rel c μ' st' s' → GL env.locals μ h μ' s'.heap → LR c μ' s'.heap env.locals ns loc' → Q s'
noncomputable def PostV (c : Cx) (env : Env) (μ : Mu) (h : Heap) (N : EP) (Q : Value → Shared → Prop) : Prop :=
  ∀ v st', N v st' → ∀ μ' cv s', Rel c μ' st' s' → GL env.locals μ h μ' s'.heap → VR μ' s'.heap v cv → Q cv s'

theorem PostL.after {c : Cx} {env : Env} {ns : List Str} {μ μ1 : Mu} {h h1 : Heap} {N : List MV → Objs → Prop} {Q : Shared → Prop} (q : PostL c env ns μ h N Q) (G : GL env.locals μ h μ1 h1) : PostL c env ns μ1 h1 N Q :=
  fun loc' st' z μ' s' R' G' L' => q loc' st' z μ' s' R' (G.trans G') L'
theorem PostV.after {c : Cx} {env : Env} {μ μ1 : Mu} {h h1 : Heap} {N : EP} {Q : Value → Shared → Prop} (q : PostV c env μ h N Q) (G : GL env.locals μ h μ1 h1) : PostV c env μ1 h1 N Q :=
  fun v st' z μ' cv s' R' G' V' => q v st' z μ' cv s' R' (G.trans G') V'

theorem Grow.gl {L : Addr} {μ μ' : Mu} {h h' : Heap} (G : Grow0 μ h μ' h') : GL L μ h μ' h' := G.weak fun _ x => x.elim

theorem gl_ext {L : Addr} {μ : Mu} {h h' : Heap} (e : Heap.ExtBut L h h') (l : ∃ o, h'.get? L = some o) : GL L μ h μ h' :=
  ⟨fun _ _ x => x, fun a o ha n x => e a o x ha, fun _ _ e1 e2 => (by rw [e1] at e2; exact nomatch e2), fun a o ha => by
    by_cases q : a = L
    · subst q; exact l
    · exact ⟨o, e a o q ha⟩⟩

section
variable {c : Cx} {S : Sg} {n : Nat}

noncomputable def ST (c : Cx) (S : Sg) (n : Nat) (x : Expr) : Prop := ∀ {t : TEnv} {env : Env} {mt : MT}, trT t x = some mt → EnvOK c env t → ∀ {A : Around}, Room n A → ∀ {E : Value → Shared → Prop} {μ : Mu} {st : Objs} {s : Shared} {loc : List MV}
    {v : MV} {cv : Value} {Q : Shared → Prop} {N : List MV → Objs → Prop}, Rel c μ st s → LR c μ s.heap env.locals t.ns loc → VR μ s.heap v cv → wpG S mt v loc st N → PostL c env t.ns μ s.heap N Q →
    wpAny (model c.prog c.w) A (assign x env cv) (fun _ => Q) E s
theorem st_none {x : Expr} (h : ∀ t, trT t x = none) : ST c S n x := fun e => no ((h _).symm.trans e)
theorem st_name {x : Str} {p : Pos} : ST c S n (.Name x p) := by
  intro t env mt h En A hr E μ st s loc v cv Q N R L hv w q
  obtain ⟨i, hi, rfl⟩ := map_some h
  refine store_ok R L En.kind (En.loc x i hi).1 En.nodup (idx_get hi) hv fun s' R' sb L' => ?_
  exact q _ _ w.2 μ s' R' (gl_ext (fun a o n e => (sb.2 a n).trans e) (by obtain ⟨o, e, _⟩ := L'.get; exact ⟨o, e⟩)) L'
theorem names_len {t : TEnv} {env : Env} : ∀ {es : List Expr} {is : List Nat} {xs : List MV} {loc l' : List MV}, trNames t es = some is → setAll loc is xs = some l' → (assignEach es env).length = xs.length ∧ (assignEach es env).findIdx? (·.1) = none
  | [], is, xs, loc, l', h1, h2 => by
    cases h1
    cases xs with
    | nil => exact ⟨rfl, rfl⟩
    | cons => exact no h2
  | e :: es, is, xs, loc, l', h1, h2 => by
    obtain ⟨y, hy, g⟩ := bind_some h1
    obtain ⟨i, _, g⟩ := bind_some g
    obtain ⟨is', h3, g⟩ := bind_some g
    cases g
    cases xs with
    | nil => exact no h2
    | cons x xs =>
      obtain ⟨_, h2⟩ := ite_some h2
      obtain ⟨a, b⟩ := names_len (env := env) h3 h2
      clear h1
      cases nameOf_inv hy
      exact ⟨congrArg (· + 1) a, by
        show List.findIdx? (·.1) ((false, _) :: assignEach es env) = none
        rw [List.findIdx?_cons, b]; rfl⟩
theorem wpG_tup {is : List Nat} {v : MV} {loc : List MV} {st : Objs} {N : List MV → Objs → Prop} (w : wpG S (.tup is) v loc st N) : ∃ xs l', v = .tup xs ∧ setAll loc is xs = some l' ∧ N l' st := by
  cases v with
  | tup xs => obtain ⟨l', hs, w⟩ := opt_iff.mp w; exact ⟨xs, l', rfl, hs, w⟩
  | _ => exact w.elim
theorem st_tup {es : List Expr} {k : Nat} {p : Pos} : ST c S n (.Tuple es k p) := by
  intro t env mt h En A hr E μ st s loc v cv Q N R L hv w q
  obtain ⟨is, hi, rfl⟩ := map_some h
  obtain ⟨xs, l', rfl, hs, w⟩ := wpG_tup w
  obtain ⟨a, items, rfl, ho, r⟩ := hv.tup_inv
  have hT : IsTup s.heap a items := ⟨_, ho, rfl, _, rfl⟩
  obtain ⟨l1, l2⟩ := names_len (env := env) hi hs
  refine assign_Tuple_tuple hr.handled hT (l1.trans r.size.symm) l2 fun h' eb => ?_
  have ke : ∀ a o, s.heap.get? a = some o → h'.get? a = some o := fun a o e => eb a o (Nat.ne_of_lt (Heap.lt_size e)) e
  have K : Keep none_ μ s.heap μ h' := ⟨fun _ _ e => e, fun a o e _ _ => ke a o e⟩
  have R1 : Rel c μ st { s with heap := h' } := ⟨R.sr.stepK K (safe_none _) (fun a m => by obtain ⟨o, e, _⟩ := R.sr.mut m; rw [e]; exact ke a o e) (fun _ x => x.elim), R.os, R.gens⟩
  refine stores_ok En.kind En.nodup rfl (fun x i hi => (En.loc x i hi).1) hi hs (r.mono fun _ _ q => q.monoK R.sr K (safe_none _)) R1 (L.monoK R.sr K (safe_none _) (fun q => q.elim) L.out) fun s2 R2 eb2 lv L2 => ?_
  exact q _ _ w μ s2 R2 (gl_ext (fun a o n e => eb2 a o n (ke a o e)) lv) L2
theorem st_attr (X : c.K.In c.h0) (hsys : ∃ o, c.h0.get? sysModules = some o) (G : SgOK c S n) {o : Expr} {a : Str} {p : Pos} : ST c S n (.Attribute o a p) := by
  intro t env mt h En A hr E μ st s loc v cv Q N R L hv w q
  obtain ⟨o', ho, h⟩ := bind_some h
  obtain ⟨i, hi, h⟩ := bind_some h
  cases h
  obtain ⟨rfl, h41⟩ := anm_of hi
  rw [assign_Attribute]
  refine wpAny_bind (wpAny_holding (sE X hsys G _ o (Nat.lt_succ_self _) t env o' ho En A hr E μ st s loc _ _ R L w fun u st1 w1 μ1 cu s1 R1 G1 hu => wpAny_bind (wpAny_standAt ?_)))
  obtain ⟨st2, e, w2⟩ := opt_iff.mp w1
  refine wpAny_bind (wpAny_holding (setAttr_ok X R1 hu (hv.mono R.sr G1 (safe_none _)) e fun s2 R2 G2 => ?_))
  exact wpAny_release (q _ _ w2 μ1 s2 R2 (G1.trans G2).gl (L.mono R.sr (G1.trans G2)))
theorem st_sub (X : c.K.In c.h0) (hsys : ∃ o, c.h0.get? sysModules = some o) (G : SgOK c S n) {o i : Expr} {p : Pos} : ST c S n (.Subscript o i p) := by
  intro t env mt h En A hr E μ st s loc v cv Q N R L hv w q
  obtain ⟨o', ho, h⟩ := bind_some h
  obtain ⟨i', hi, h⟩ := bind_some h
  cases h
  rw [assign_Subscript]
  refine wpAny_bind (wpAny_holding (sE X hsys G _ o (Nat.lt_succ_self _) t env o' ho En A hr E μ st s loc _ _ R L w fun u st1 w1 μ1 cu s1 R1 G1 hu => ?_))
  refine wpAny_bind (wpAny_holding (sE X hsys G _ i (Nat.lt_succ_self _) t env i' hi En A hr E μ1 st1 s1 loc _ _ R1 (L.mono R.sr G1) w1 fun k st2 w2 μ2 ck s2 R2 G2 hk => wpAny_bind (wpAny_standAt ?_)))
  obtain ⟨st3, e, w3⟩ := opt_iff.mp w2
  refine wpAny_bind (wpAny_holding (setSub_ok R2 hr.units (hu.mono R1.sr G2 (safe_none _)) hk ((hv.mono R.sr G1 (safe_none _)).mono R1.sr G2 (safe_none _)) e fun s3 R3 G3 => ?_))
  exact wpAny_release (q _ _ w3 μ2 s3 R3 ((G1.trans G2).trans G3).gl (L.mono R.sr ((G1.trans G2).trans G3)))
theorem sT (X : c.K.In c.h0) (hsys : ∃ o, c.h0.get? sysModules = some o) (G : SgOK c S n) {x : Expr} : ST c S n x := by
  cases x
  case Name => exact st_name
  case Tuple => exact st_tup
  case Attribute => exact st_attr X hsys G
  case Subscript => exact st_sub X hsys G
  all_goals exact st_none fun _ => rfl
end
end Mine.Lake

set_option tactic.hygienic true

open PySem PySem.W PyProof.Rows PySem.Calls
namespace Mine.Lake
set_option tactic.hygienic false

section
variable {c : Cx} {S : Sg} {n : Nat}

structure Ends (c : Cx) (env : Env) (ns : List Str) (μ : Mu) (h : Heap) (N Ct : List MV → Objs → Prop) (Rm : EP) (Q : Flow → Shared → Prop) : Prop where
  next : PostL c env ns μ h N (Q .next)
  cont : PostL c env ns μ h Ct (Q .cont)
  ret : PostV c env μ h Rm fun v => Q (.ret v)

theorem Ends.after {env : Env} {ns : List Str} {μ μ1 : Mu} {h h1 : Heap} {N Ct : List MV → Objs → Prop} {Rm : EP} {Q : Flow → Shared → Prop} (q : Ends c env ns μ h N Ct Rm Q) (G : GL env.locals μ h μ1 h1) : Ends c env ns μ1 h1 N Ct Rm Q :=
  ⟨q.next.after G, q.cont.after G, q.ret.after G⟩

noncomputable def SS (c : Cx) (S : Sg) (n : Nat) (x : Stmt) : Prop := ∀ (t : TEnv) (env : Env) (ms : MS), trS t x = some ms → EnvOK c env t → ∀ (A : Around), Room n A → ∀ (E : Value → Shared → Prop) (μ : Mu) (st : Objs) (s : Shared) (loc : List MV)
  (Q : Flow → Shared → Prop) (N Ct : List MV → Objs → Prop) (Rm : EP), Rel c μ st s → LR c μ s.heap env.locals t.ns loc → wpS S ms loc st N Ct Rm → Ends c env t.ns μ s.heap N Ct Rm Q → wpAny (model c.prog c.w) A (exec x env) Q E s

noncomputable def SSs (c : Cx) (S : Sg) (n : Nat) (x : List Stmt) : Prop := ∀ (t : TEnv) (env : Env) (ms : List MS), trSs t x = some ms → EnvOK c env t → ∀ (A : Around), Room n A → ∀ (E : Value → Shared → Prop) (μ : Mu) (st : Objs) (s : Shared) (loc : List MV)
  (Q : Flow → Shared → Prop) (N Ct : List MV → Objs → Prop) (Rm : EP), Rel c μ st s → LR c μ s.heap env.locals t.ns loc → wpSs S ms loc st N Ct Rm → Ends c env t.ns μ s.heap N Ct Rm Q → wpAny (model c.prog c.w) A (execs x env) Q E s

theorem ss_list {l : List Stmt} (hs : ∀ x ∈ l, SS c S n x) : SSs c S n l := by
  induction l with
  | nil =>
    intro t env ms h En A hr E μ st s loc Q N Ct Rm R L w q
    (first | exact no h | cases h)
    exact wpAny_execs_nil (q.next _ _ w μ s R (Grow.refl _ _ _) L)
  | cons x r ih =>
    intro t env ms h En A hr E μ st s loc Q N Ct Rm R L w q
    obtain ⟨a, ha, h⟩ := bind_some h
    obtain ⟨b, hb, h⟩ := bind_some h
    (first | exact no h | cases h)
    refine wpAny_execs_cons (hs x (.head _) t env a ha En A hr E μ st s loc _ _ _ _ R L w ⟨fun loc1 st1 w1 μ1 s1 R1 G1 L1 => ?_, q.cont, q.ret⟩)
    exact ih (fun x hx => hs x (.tail _ hx)) t env b hb En A hr E μ1 st1 s1 loc1 Q N Ct Rm R1 L1 w1 (q.after G1)

theorem swaps_no {value : Expr} {tgt : Option Expr} {ln : Nat} {env : Env} {t : TEnv} {me : ME} {x : Expr} (h : trE t value = some me) (ha : assignOK x value = true) : swapsWith value tgt ln env = pure false := by
  cases value <;> first | rfl | ((first | exact no h | cases h); done) | ((first | exact no ha | cases ha); done)

theorem stores_no {value x : Expr} {env : Env} {t : TEnv} {me : ME} {mt : MT} (h : trE t value = some me) (hx : trT t x = some mt) (ha : assignOK x value = true) : swappedStores [x] value env = pure none := by
  cases x
  case Tuple => cases value <;> first | rfl | (first | exact no ha | cases ha)
  case List => (first | exact no hx | cases hx)
  all_goals rfl

theorem ss_none {x : Stmt} (h : ∀ t, trS t x = none) : SS c S n x := fun t _ _ e => absurd ((h t).symm.trans e) (fun z => nomatch z)

section stmts
variable (X : c.K.In c.h0) (hsys : ∃ o, c.h0.get? sysModules = some o) (G : SgOK c S n)
include X hsys G

theorem ss_expr {v : Expr} {p : Pos} : SS c S n (.Expr v p) := by
  intro t env ms h En A hr E μ st s loc Q N Ct Rm R L w q
  obtain ⟨hok, h⟩ := ite_some h
  · obtain ⟨a, ha, rfl⟩ := map_some h
    refine wpAny_Expr_any (sE X hsys G _ v (Nat.lt_succ_self _) t env a ha En A hr E μ st s loc _ _ R L w fun u st1 w1 μ1 cu s1 R1 G1 hu => ?_) (by unfold interactive; rw [En.kind]; rfl) (swaps_no ha hok)
    exact q.next _ _ w1 μ1 s1 R1 G1.gl (L.mono R.sr G1)

theorem assignEach_one {x : Expr} {env : Env} {t : TEnv} {mt : MT} (hx : trT t x = some mt) : (assignEach [x] env).map (·.2) = [assign x env] := by
  cases x <;> first | rfl | (first | exact no hx | cases hx)

theorem ss_assign {x v : Expr} {p : Pos} : SS c S n (.Assign [x] v p) := by
  intro t env ms h En A hr E μ st s loc Q N Ct Rm R L w q
  obtain ⟨hok, h⟩ := ite_some h
  · obtain ⟨a, ha, h⟩ := bind_some h
    obtain ⟨b, hb, h⟩ := bind_some h
    (first | exact no h | cases h)
    refine wpAny_Assign_stores (sE X hsys G _ v (Nat.lt_succ_self _) t env a ha En A hr E μ st s loc _ _ R L w fun u st1 w1 μ1 cu s1 R1 G1 hu => ?_) (swaps_no ha hok) (stores_no ha hb hok)
    rw [assignEach_one X hsys G hb]
    exact sT X hsys G hb En hr R1 (L.mono R.sr G1) hu w1 (q.next.after G1.gl)

theorem ss_augL {x : Str} {op : Operator} {v : Expr} {p xp : Pos} : SS c S n (.AugAssign (.Name x xp) op v p) := by
  intro t env ms h En A hr E μ st s loc Q N Ct Rm R L w q
  obtain ⟨i, hi, h⟩ := bind_some h
  obtain ⟨a, ha, h⟩ := bind_some h
  (first | exact no h | cases h)
  obtain ⟨o, e, w⟩ := opt_iff.mp w
  obtain ⟨h1, h2⟩ := En.loc x i hi
  obtain ⟨e1, e2⟩ := getL_some e
  obtain ⟨m, hn, r⟩ := L.fr
  rcases r i x o (idx_get hi) e1 with ⟨e3, _⟩ | ⟨cv, e3, hv⟩
  · exact (e2 e3).elim
  · refine wpAny_AugAssign_Name (wpAny_loadName_local En.kind h1 hn e3 ?_)
    refine sE X hsys G _ v (Nat.lt_succ_self _) t env a ha En A hr E μ st s loc _ _ R L w fun u st1 w1 μ1 cu s1 R1 G1 hu => ?_
    split at w1
    · obtain ⟨t1, rfl⟩ := hv.int_inv
      obtain ⟨t2, rfl⟩ := hu.int_inv
      refine PyProof.Rows.iadd_int ?_
      have L1 := L.mono R.sr G1
      have R1' := R1.toks (s1.toks + 1)
      obtain ⟨m1, hn1, r1⟩ := L1.fr
      refine wpAny_storeName_local h1 hn1 (fun h' hn' sb => ?_) (by rw [En.kind]; rfl)
      have ke : ∀ a o, a ≠ env.locals → s1.heap.get? a = some o → h'.get? a = some o := fun a o n e => (sb.2 a n).trans e
      have L2 : LR c μ1 h' env.locals t.ns (loc.set i (.int _)) := ⟨⟨_, hn', idx_set En.nodup (idx_get hi) (fun j y w hy hw => (r1 j y w hy hw).imp id fun ⟨cw, e, k⟩ => ⟨cw, e, k.monoK R1.sr (Keep.same ke) L1.safe⟩) (VR.int_mk _ _)⟩, by rw [List.length_set]; exact L1.len, L1.new, L1.out⟩
      refine q.next _ _ w1 μ1 _ (R1'.but L1.new L1.out L1.safe ke _) (G1.gl.trans (gl_ext ke (by obtain ⟨o, e, _⟩ := L2.get; exact ⟨o, e⟩))) L2
    · exact w1.elim

theorem augStore_plain {t : TEnv} {i : Expr} {i' : ME} (hi : trE t i = some i') : ∀ ov iv new, augStore i ov iv new = (do holding [new, ov, iv] (setItem ov iv new); release [new, ov, iv] []; pure .next) := by
  cases i <;> first | (intros; rfl) | (first | exact no hi | cases hi)

theorem ss_augS {o i v : Expr} {op : Operator} {p xp : Pos} : SS c S n (.AugAssign (.Subscript o i xp) op v p) := by
  intro t env ms h En A hr E μ st s loc Q N Ct Rm R L w q
  obtain ⟨o', ho, h⟩ := bind_some h
  obtain ⟨i', hi, h⟩ := bind_some h
  obtain ⟨a, ha, h⟩ := bind_some h
  (first | exact no h | cases h)
  refine wpAny_AugAssign_SubscriptAny (sE X hsys G _ o (Nat.lt_succ_self _) t env o' ho En A hr E μ st s loc _ _ R L w fun u st1 w1 μ1 cu s1 R1 G1 hu => ?_) (augStore_plain X hsys G hi)
  refine sE X hsys G _ i (Nat.lt_succ_self _) t env i' hi En A hr E μ1 st1 s1 loc _ _ R1 (L.mono R.sr G1) w1 fun k st2 w2 μ2 ck s2 R2 G2 hk => ?_
  obtain ⟨x, e, w3⟩ := opt_iff.mp w2
  have hu2 := hu.mono R1.sr G2 (safe_none _)
  refine getItem_ok R2 hu2 hk e fun cx tk hx => ?_
  refine sE X hsys G _ v (Nat.lt_succ_self _) t env a ha En A hr E μ2 st2 _ loc _ _ (R2.toks tk) (L.mono R.sr (G1.trans G2)) w3 fun y st3 w4 μ3 cy s3 R3 G3 hy => ?_
  split at w4
  · obtain ⟨t1, rfl⟩ := hx.int_inv
    obtain ⟨t2, rfl⟩ := hy.int_inv
    obtain ⟨st4, e4, w5⟩ := opt_iff.mp w4
    refine PyProof.Rows.iadd_int ?_
    refine setSub_ok (R3.toks (s3.toks + 1)) hr.units (hu2.mono R2.sr G3 (safe_none _)) (hk.mono R2.sr G3 (safe_none _)) (VR.int_mk _ _) e4 fun s4 R4 G4 => ?_
    have GG : Grow0 μ s.heap μ3 s4.heap := ((G1.trans G2).trans G3).trans G4
    exact q.next _ _ w5 μ3 s4 R4 GG.gl (L.mono R.sr GG)
  · exact w4.elim

theorem ss_ret {v : Option Expr} {p : Pos} : SS c S n (.Return v p) := by
  intro t env ms h En A hr E μ st s loc Q N Ct Rm R L w q
  cases v with
  | none =>
    (first | exact no h | cases h)
    exact wpAny_Return_none (q.ret _ _ w μ .none s R (Grow.refl _ _ _) VR.none_mk)
  | some v =>
    obtain ⟨a, ha, rfl⟩ := map_some h
    exact wpAny_Return_some (sE X hsys G _ v (Nat.lt_succ_self _) t env a ha En A hr E μ st s loc _ _ R L w fun u st1 w1 μ1 cu s1 R1 G1 hu => q.ret _ _ w1 μ1 cu s1 R1 G1.gl hu)

theorem ss_if {b : Expr} {x y : List Stmt} {p : Pos} (hx : SSs c S n x) (hy : SSs c S n y) : SS c S n (.If b x y p) := by
  intro t env ms h En A hr E μ st s loc Q N Ct Rm R L w q
  obtain ⟨b', hb, h⟩ := bind_some h
  obtain ⟨x', hx', h⟩ := bind_some h
  obtain ⟨y', hy', h⟩ := bind_some h
  (first | exact no h | cases h)
  refine wpAny_If (sB X hsys G _ b (Nat.lt_succ_self _) t env b' hb En A hr E μ st s loc _ _ R L w fun cb st1 w1 μ1 s1 R1 G1 => ?_)
  cases cb with
  | true =>
    rw [if_pos rfl] at w1 ⊢
    exact hx t env x' hx' En A hr E μ1 st1 s1 loc Q N Ct Rm R1 (L.mono R.sr G1) w1 (q.after G1.gl)
  | false =>
    rw [if_neg (by decide)] at w1 ⊢
    exact hy t env y' hy' En A hr E μ1 st1 s1 loc Q N Ct Rm R1 (L.mono R.sr G1) w1 (q.after G1.gl)

inductive WhInv (c : Cx) (μ : Mu) (h : Heap) (E : Addr) (ns : List Str) (Inv : Nat → List MV → Objs → Prop) (k : Nat) (s : Shared) : Prop
  | mk {loc : List MV} {st : Objs} {μ' : Mu} (z : Inv k loc st) (R : Rel c μ' st s) (G : GL E μ h μ' s.heap) (L : LR c μ' s.heap E ns loc) : WhInv c μ h E ns Inv k s
set_option tactic.hygienic true in
theorem ss_while {b : Expr} {x : List Stmt} {p : Pos} (hx : SSs c S n x) : SS c S n (.While b x [] p) := by
  intro t env ms h En A hr E μ st s loc Q N Ct Rm R L w q
  obtain ⟨b', hb, h⟩ := bind_some h
  obtain ⟨x', hx', h⟩ := bind_some h
  (first | exact no h | cases h)
  obtain ⟨Inv, ⟨k0, i0⟩, w⟩ := w
  refine wpAny_While (codeAny_whileLoop (WhInv c μ s.heap env.locals t.ns Inv) ?_ k0 (.mk i0 R (Grow.refl _ _ _) L))
  rintro k s1 ⟨i1, R1, G1, L1⟩
  rename_i loc1 st1 μ1
  refine sB X hsys G _ b (Nat.lt_succ_self _) t env b' hb En A hr _ μ1 st1 s1 loc1 _ _ R1 L1 (w k loc1 st1 i1) fun cb st2 w2 μ2 s2 R2 G2 => ?_
  cases cb with
  | true =>
    rw [if_pos rfl] at w2 ⊢
    refine hx t env x' hx' En A hr _ μ2 st2 s2 loc1 _ _ _ _ R2 (L1.mono R1.sr G2) w2 ⟨?_, ?_, ?_⟩
    · rintro loc3 st3 ⟨m, hm, i3⟩ μ3 s3 R3 G3 L3
      exact ⟨m, hm, .mk i3 R3 ((G1.trans G2.gl).trans G3) L3⟩
    · rintro loc3 st3 ⟨m, hm, i3⟩ μ3 s3 R3 G3 L3
      exact ⟨m, hm, .mk i3 R3 ((G1.trans G2.gl).trans G3) L3⟩
    · intro v st3 w3 μ3 cv s3 R3 G3 hv
      exact q.ret _ _ w3 μ3 cv s3 R3 ((G1.trans G2.gl).trans G3) hv
  | false =>
    rw [if_neg (by decide)] at w2 ⊢
    exact wpAny_execs_nil (q.next _ _ w2 μ2 s2 R2 (G1.trans G2.gl) (L1.mono R1.sr G2))

theorem ss_cont {p : Pos} : SS c S n (.Continue p) := by
  intro t env ms h En A hr E μ st s loc Q N Ct Rm R L w q
  (first | exact no h | cases h)
  exact wpAny_Continue (q.cont _ _ w μ s R (Grow.refl _ _ _) L)

inductive ForInv (c : Cx) (μ : Mu) (h : Heap) (E : Addr) (ns : List Str) (v : MV) (I : Addr) (len : Nat) (Inv : Nat → List MV → Objs → Prop) : Nat → Shared → Prop
  | mk {i : Nat} {loc : List MV} {st : Objs} {μ' : Mu} {s : Shared} (hi : i ≤ len) (z : Inv i loc st) (R : Rel c μ' st s) (G : GL E μ h μ' s.heap) (L : LR c μ' s.heap E ns loc) (it : ItAt c μ' s.heap v I i) : ForInv c μ h E ns v I len Inv (len + 1 - i) s
set_option tactic.hygienic true in
theorem ss_for {x it : Expr} {b : List Stmt} {p : Pos} (hb : SSs c S n b) : SS c S n (.For x it b [] p) := by
  intro t env ms h En A hr E μ st s loc Q N Ct Rm R L w q
  obtain ⟨x', hx', h⟩ := bind_some h
  obtain ⟨it', hit', h⟩ := bind_some h
  obtain ⟨b', hb', h⟩ := bind_some h
  (first | exact no h | cases h)
  refine wpAny_For (sE X hsys G _ it (Nat.lt_succ_self _) t env it' hit' En A hr E μ st s loc _ _ R L w fun v st1 w1 μ1 cv s1 R1 G1 hv => ?_) (folded_no hit')
  obtain ⟨xs, e1, hlim, Inv, i0, w2⟩ := opt_iff.mp w1
  refine iter_start R1 hv e1 fun I s2 hI R2 G2 it2 => ?_
  have L2 : LR c μ1 s2.heap env.locals t.ns loc := L.mono R.sr (G1.trans G2)
  have hIL : I ≠ env.locals := fun e => by
    obtain ⟨o, z, _⟩ := (L.mono R.sr G1).get
    rw [← e, hI] at z; (first | exact no z | cases z)
  have hI0 : s.heap.get? I = none := by
    cases e' : s.heap.get? I with
    | none => rfl
    | some o => obtain ⟨o', z⟩ := G1.live I o e'; rw [hI] at z; (first | exact no z | cases z)
  refine codeAny_forLoop_any (ForInv c μ s.heap env.locals t.ns v I xs.length Inv) ?_ (xs.length + 1) (.mk (i := 0) (Nat.zero_le _) i0 R2 (G1.trans G2).gl L2 it2)
  rintro _ s3 ⟨hile, i1, R3, G3, L3, it3⟩
  rename_i i loc1 st2 μ2
  obtain ⟨e2, w3⟩ := w2 i loc1 st2 i1
  by_cases hlt : i < xs.length
  · have hx : xs[i]? = some xs[i] := List.getElem?_eq_getElem hlt
    rw [hx] at w3
    simp only at w3
    refine iter_next R3 e2 it3 hx fun cy s4 R4 sb4 it4 hv4 => ?_
    have ke4 : ∀ a o, a ≠ I → s3.heap.get? a = some o → s4.heap.get? a = some o := fun a o n e => (sb4.2 a n).trans e
    have L4 : LR c μ2 s4.heap env.locals t.ns loc1 := L3.monoK R3.sr (Keep.same ke4) it3.safe (fun q => hIL q.symm) L3.out
    have G4 : GL env.locals μ s.heap μ2 s4.heap := G3.skip hI0 ke4
    refine letOwned_ok it4.pos ?_
    refine sT X hsys G hx' En hr R4 L4 hv4 w3 fun loc5 st5 w5 μ5 s5 R5 G5 L5 => ?_
    have it5 : ItAt c μ5 s5.heap v I (i + 1) := it4.monoK R4.sr G5.keep L4.safe hIL (let ⟨o, ho, _⟩ := it4.pos.get; G5.notIn ho it4.out)
    refine hb t env b' hb' En A hr _ μ5 st5 s5 loc5 _ _ _ _ R5 L5 w5 ⟨?_, ?_, ?_⟩
    · intro loc6 st6 w6 μ6 s6 R6 G6 L6
      exact ⟨_, by lia, .mk (i := i + 1) hlt w6 R6 ((G4.trans G5).trans G6) L6 (it5.monoK R5.sr G6.keep L5.safe hIL (let ⟨o, ho, _⟩ := it5.pos.get; G6.notIn ho it5.out))⟩
    · intro loc6 st6 w6 μ6 s6 R6 G6 L6
      exact ⟨_, by lia, .mk (i := i + 1) hlt w6 R6 ((G4.trans G5).trans G6) L6 (it5.monoK R5.sr G6.keep L5.safe hIL (let ⟨o, ho, _⟩ := it5.pos.get; G6.notIn ho it5.out))⟩
    · intro u st6 w6 μ6 cu s6 R6 G6 hu
      exact q.ret _ _ w6 μ6 cu s6 R6 ((G4.trans G5).trans G6) hu
  · have hi' : i = xs.length := by lia
    subst hi'
    have hx : xs[xs.length]? = none := by simp
    rw [hx] at w3
    simp only at w3
    refine iter_end R3 hr.handled e2 it3 hx fun s4 R4 eb4 => wpAny_execs_nil ?_
    exact q.next _ _ (w3 trivial) μ2 s4 R4 (G3.skip hI0 eb4) (L3.monoK R3.sr (Keep.same eb4) it3.safe (fun q => hIL q.symm) L3.out)

set_option tactic.hygienic true in
theorem ss_del {o lo : Expr} {p p' pp : Pos} : SS c S n (.Delete [.Subscript o (.Slice (some lo) none none pp) p'] p) := by
  intro t env ms h En A hr E μ st s loc Q N Ct Rm R L w q
  obtain ⟨o', ho, h⟩ := bind_some h
  obtain ⟨l', hl, h⟩ := bind_some h
  (first | exact no h | cases h)
  refine wpAny_Delete (wpAny_deleteEach_cons (wpAny_delete_Subscript ?_))
  refine sE X hsys G _ o (Nat.lt_succ_self _) t env o' ho En A hr E μ st s loc _ _ R L w fun u st1 w1 μ1 cu s1 R1 G1 hu => ?_
  refine wpAny_Slice ?_
  rw [evalPart_some]
  refine sE X hsys G _ lo (Nat.lt_succ_self _) t env l' hl En A hr E μ1 st1 s1 loc _ _ R1 (L.mono R.sr G1) w1 fun k st2 w2 μ2 ck s2 R2 G2 hk => ?_
  refine wpAny_pure (wpAny_pure ?_)
  split at w2
  · rename_i j m
    split at w2
    · rename_i xs hst
      obtain ⟨h0, hbig, hn, hz, w3⟩ := w2
      obtain ⟨tk, rfl⟩ := hk.int_inv
      have R3 := R2.push { cls := .type "slice", data := .fields #[.int m tk, .none, .none] } s2.toks
      have G3 := Grow.pushed (μ := μ2) s2.heap { cls := .type "slice", data := .fields #[.int m tk, .none, .none] }
      refine del_ok R3 ((hu.mono R1.sr G2 (safe_none _)).mono R2.sr G3 (safe_none _)) hst h0 hn hz (Heap.IsSliceOf.new _ _ _ _) fun s4 R4 G4 => wpAny_deleteEach_nil ?_
      have GG : Grow0 μ s.heap μ2 s4.heap := ((G1.trans G2).trans G3).trans G4
      exact q.next _ _ w3 μ2 s4 R4 GG.gl (L.mono R.sr GG)
    · exact w2.elim
  · exact w2.elim


theorem stmt_size {x : Stmt} {l : List Stmt} (h : x ∈ l) : sizeOf x < sizeOf l := List.sizeOf_lt_of_mem h

set_option tactic.hygienic true in
theorem sS : ∀ (k : Nat) (x : Stmt), sizeOf x < k → SS c S n x := by
  intro k
  induction k with
  | zero => intro e h; lia
  | succ k ih =>
    intro x hx
    have ihs : ∀ (l : List Stmt), sizeOf l ≤ k → SSs c S n l := fun l hl => ss_list fun y hy => ih y (by have := stmt_size X hsys G hy; lia)
    cases x
    case Expr v p => exact ss_expr X hsys G
    case Assign ts v p =>
      cases ts with
      | nil => exact ss_none fun _ => rfl
      | cons t1 ts =>
        cases ts with
        | nil => exact ss_assign X hsys G
        | cons => exact ss_none fun _ => rfl
    case AugAssign tg op v p =>
      cases tg
      case Name => exact ss_augL X hsys G
      case Subscript => exact ss_augS X hsys G
      all_goals exact ss_none fun _ => rfl
    case Return v p => exact ss_ret X hsys G
    case If b x y p => exact ss_if X hsys G (ihs x (by simp at hx; lia)) (ihs y (by simp at hx; lia))
    case While b x y p =>
      cases y with
      | nil => exact ss_while X hsys G (ihs x (by simp at hx; lia))
      | cons => exact ss_none fun _ => rfl
    case For tg it b y p =>
      cases y with
      | nil => exact ss_for X hsys G (ihs b (by simp at hx; lia))
      | cons => exact ss_none fun _ => rfl
    case Continue p => exact ss_cont X hsys G
    case Raise =>
      intro t env ms h En A hr E μ st s loc Q N Ct Rm R L w q
      (first | exact no h | cases h)
      exact w.elim
    case Delete ts p =>
      cases ts with
      | nil => exact ss_none fun _ => rfl
      | cons e1 rest =>
        cases rest with
        | cons => exact ss_none fun _ => rfl
        | nil =>
          (first | exact no e1 | cases e1)
          case Subscript o i p' =>
            cases i
            case Slice lo hi sp pp =>
              cases lo with
              | none => exact ss_none fun _ => rfl
              | some lo =>
                cases hi with
                | some => exact ss_none fun _ => rfl
                | none =>
                  cases sp with
                  | some => exact ss_none fun _ => rfl
                  | none => exact ss_del X hsys G
            all_goals exact ss_none fun _ => rfl
          all_goals exact ss_none fun _ => rfl
    all_goals exact ss_none fun _ => rfl

end stmts
end
end Mine.Lake

set_option tactic.hygienic true

set_option tactic.hygienic false
open PySem PySem.W PyProof.Rows PySem.Calls
namespace Mine.Lake

theorem Room.deeper {n : Nat} {A : Around} {env : Env} (r : Room (n + 1) A) : Room n (A.deeper env) := by
  obtain ⟨h1, h2, h3⟩ := r
  refine ⟨?_, ?_, ?_⟩
  · exact h1
  · show A.depth + 1 + 4 * n ≤ 700
    lia
  · show A.units + 3 + 16 * n ≤ 4000
    lia

theorem Room.less {n : Nat} {A : Around} (r : Room (n + 1) A) : Room n A := ⟨r.1, by have := r.2.1; lia, by have := r.2.2; lia⟩

theorem Room.made {n : Nat} {A : Around} {C : Addr} {rest : List Value} {kw : List (Str × Value)} (r : Room (n + 1) A) : A.under (.builtin "type.__call__" ⟨.ref C :: rest, kw⟩) = A.under (.builtin "type.__call__" ⟨.ref C :: rest, kw⟩) ∧ (∀ env, Room n ((A.under (.builtin "type.__call__" ⟨.ref C :: rest, kw⟩)).deeper env)) ∧ (A.under (.builtin "type.__call__" ⟨.ref C :: rest, kw⟩)).depth < recursionLimit := by
  obtain ⟨h1, h2, h3⟩ := r
  have w : (Code.builtin "type.__call__" ⟨.ref C :: rest, kw⟩).weight = 1 := by kernel_rfl
  have u : (Code.builtin "type.__call__" ⟨.ref C :: rest, kw⟩).cUnits = 1 := by kernel_rfl
  refine ⟨rfl, fun env => ⟨?_, ?_, ?_⟩, ?_⟩
  · exact h1
  · show A.depth + _ + 1 + 4 * n ≤ 700
    rw [w]; lia
  · show A.units + _ + 3 + 16 * n ≤ 4000
    rw [u]; lia
  · show A.depth + _ < 1000
    rw [w]; lia

structure Ground (c : Cx) (mg mb : Str → Option Value) : Prop where
  X : c.K.In c.h0
  sys : ∃ o, c.h0.get? sysModules = some o
  g : c.h0.Ns mainGlobals mg
  b : c.h0.Ns builtinsNs mb
  lim : c.h0.NoLimit

noncomputable def GlOK (mg mb : Str → Option Value) (gl : Str → Option MV) : Prop := ∀ x v, gl x = some v → (x == ("__debug__" : Str)) = false ∧ ∃ cv, (mg x = some cv ∨ (mg x = none ∧ mb x = some cv)) ∧ ∀ μ h, VR μ h v cv

noncomputable def scopeOK (sc : Scope) (ns : List Str) : Bool := sc.kind == .function && (!sc.isCoroutine) && (!sc.isGenerator) && (sc.names.all fun x => x.2 != .cell) && (ns.all fun x => sc.names.lookup x == some .local && x != Str.ofString "__debug__") && decide ns.Nodup

structure ScopeOK (sc : Scope) (ns : List Str) : Prop where
  kind : sc.kind = .function
  co : sc.isCoroutine = false
  gen : sc.isGenerator = false
  cell : ∀ x ∈ sc.names, x.2 ≠ .cell
  loc : ∀ x ∈ ns, sc.names.lookup x = some .local ∧ x ≠ Str.ofString "__debug__"
  nodup : ns.Nodup
theorem scopeOK_of {sc : Scope} {ns : List Str} (h : scopeOK sc ns = true) : ScopeOK sc ns := by
  unfold scopeOK at h
  simp only [Bool.and_eq_true, List.all_eq_true, Bool.not_eq_true', decide_eq_true_eq] at h
  obtain ⟨⟨⟨⟨⟨h1, h2⟩, h3⟩, h4⟩, h5⟩, h6⟩ := h
  exact ⟨beq_iff_eq.mp h1, h2, h3, fun x hx => bne_iff_ne.mp (h4 x hx), fun x hx => ⟨beq_iff_eq.mp (h5 x hx).1, bne_iff_ne.mp (h5 x hx).2⟩, h6⟩

noncomputable def tenv (sc : Scope) (ns : List Str) (gl : Str → Option MV) : TEnv := ⟨ns, fun x => if sc.names.lookup x = some .globalImplicit then gl x else none⟩

section
variable {c : Cx} {S : Sg} {n : Nat} {mg mb : Str → Option Value} {gl : Str → Option MV}

theorem envOK_call (W : Ground c mg mb) (hg : GlOK mg mb gl) {fd : FuncData} {ns : List Str} (h : ScopeOK fd.scope ns) (h1 : fd.globals = mainGlobals) (h2 : fd.builtins = builtinsNs) (L a : Addr) : EnvOK c (callEnv fd L a) (tenv fd.scope ns gl) where
  kind := h.kind
  nodup := h.nodup
  loc x i hx := by
    have := h.loc x (List.mem_of_getElem? (idx_get hx))
    exact ⟨this.1, dbg this.2⟩
  glob x v pos hv _ A E μ st s Q R q := by
    have hv' : (if fd.scope.names.lookup x = some .globalImplicit then gl x else none) = some v := hv
    split at hv'
    · rename_i hi
      obtain ⟨hd, cv, hc, hvr⟩ := hg x v hv'
      refine Calls.Name_function_global h.kind hi ?_ hd
      rcases hc with hc | ⟨hc, hb⟩
      · exact Calls.loadGlobal_global (by show s.heap.Ns fd.globals mg; rw [h1]; exact W.g.keeps R.sr.keep) hc (q cv (hvr _ _))
      · exact Calls.loadGlobal_builtin (by show s.heap.Ns fd.globals mg; rw [h1]; exact W.g.keeps R.sr.keep) hc (by show s.heap.Ns fd.builtins mb; rw [h2]; exact W.b.keeps R.sr.keep) hb (q cv (hvr _ _))
    · cases hv'

theorem lookup_zip {ns : List Str} (nd : ns.Nodup) : ∀ {cvs : List Value} (i : Nat) x cv, ns[i]? = some x → cvs[i]? = some cv → (ns.zip cvs).reverse.lookup x = some cv := by
  induction ns with
  | nil => intro cvs i x cv h; simp at h
  | cons y ns ih =>
    intro cvs i x cv h hc
    rw [List.nodup_cons] at nd
    cases cvs with
    | nil => simp at hc
    | cons d cvs =>
      rw [List.zip_cons_cons, List.reverse_cons, List.lookup_append]
      cases i with
      | zero =>
        simp at h hc; subst h; subst hc
        have : (ns.zip cvs).reverse.lookup y = none := by
          rw [List.lookup_eq_none_iff]
          intro p hp
          rw [List.mem_reverse] at hp
          have := (List.of_mem_zip (a := p.1) (b := p.2) hp).1
          refine bne_iff_ne.mpr fun e => ?_
          exact nd.1 (e ▸ this)
        rw [this]; simp
      | succ j =>
        simp at h hc
        rw [ih nd.2 j x cv h hc]; rfl

theorem lookup_zip_none {ns : List Str} (nd : ns.Nodup) : ∀ {cvs : List Value} (i : Nat) x, ns[i]? = some x → cvs.length ≤ i → (ns.zip cvs).reverse.lookup x = none := by
  intro cvs i x hx hi
  rw [List.lookup_eq_none_iff]
  intro p hp
  rw [List.mem_reverse] at hp
  obtain ⟨j, hj, e⟩ := List.mem_iff_getElem.mp hp
  have hj' : j < cvs.length := by rw [List.length_zip] at hj; lia
  have hjn : j < ns.length := by rw [List.length_zip] at hj; lia
  have : p.1 = ns[j] := by rw [← e]; simp
  refine bne_iff_ne.mpr fun q => ?_
  rw [this] at q
  have h2 : ns[j]? = some x := by rw [List.getElem?_eq_getElem hjn, q]
  have := (List.getElem?_inj hjn nd).mp (h2.trans hx.symm)
  lia

noncomputable def frame (ns : List Str) (vs : List MV) : List MV := vs ++ List.replicate (ns.length - vs.length) .unb

theorem frame_LR {μ : Mu} {h : Heap} {L : Addr} {ns : List Str} {vs : List MV} {cvs : List Value} (nd : ns.Nodup) (hl : vs.length ≤ ns.length) (r : All2 (VR μ h) vs cvs) (hn : h.Ns L (fun x => (ns.zip cvs).reverse.lookup x)) (h0 : c.h0.get? L = none) (ho : ¬ inMu μ L) :
    LR c μ h L ns (frame ns vs) := by
  refine ⟨⟨_, hn, fun i x v hx hv => ?_⟩, by unfold frame; rw [List.length_append, List.length_replicate]; lia, h0, ho⟩
  unfold frame at hv
  rw [List.getElem?_append] at hv
  split at hv
  · obtain ⟨cv, e1, e2⟩ := r.get hv
    exact .inr ⟨cv, lookup_zip nd i x cv hx e1, e2⟩
  · rename_i hi
    refine .inl ⟨?_, lookup_zip_none nd i x hx (by rw [← r.length]; lia)⟩
    rw [List.getElem?_replicate] at hv
    split at hv
    · cases hv; rfl
    · cases hv

theorem Grow.drop {μ μ1 μ2 : Mu} {h h1 h2 : Heap} {L : Addr} (G1 : Grow0 μ h μ1 h1) (G2 : GL L μ1 h1 μ2 h2) (hL : h.get? L = none) : Grow0 μ h μ2 h2 where
  pre i p e := G2.pre i p (G1.pre i p e)
  old a o e n _ := G2.old a o (G1.old a o e n (fun q => q.elim)) (G1.notIn e n) (fun q => by subst q; rw [hL] at e; (first | exact no e | cases e))
  fresh i p e1 e2 a ha := by
    cases hi : μ1[i]? with
    | none =>
      cases q : h.get? a with
      | none => rfl
      | some o => obtain ⟨o', z⟩ := G1.live a o q; rw [G2.fresh i p e1 hi a ha] at z; (first | exact no z | cases z)
    | some q =>
      have := G2.pre i q hi
      rw [e1] at this; (first | exact no this | cases this)
      exact G1.fresh i p hi e2 a ha
  live a o e := let ⟨o', z⟩ := G1.live a o e; G2.live a o' z

theorem body_ok (W : Ground c mg mb) (hg : GlOK mg mb gl) (G : SgOK c S n) {a : Addr} {o : Obj} {name qual : Str} {params : Arguments} {body : List Stmt} {scope : Scope} {dV kV doc pm cdv ct : Value} {an : Option Addr} {ns : List Str} {ms : List MS}
    (ho : c.K.lookup a = some o) (hd : o.data = .func (fnOf name qual params body scope dV kV doc pm an cdv ct)) (hcd : codeIn c.K cdv qual = true) (hsc : scopeOK scope ns = true) (ht : trSs (tenv scope ns gl) body = some ms)
    {A : Around} (hA : A.depth < recursionLimit) (hr : ∀ env, Room n (A.deeper env)) {μ : Mu} {st : Objs} {s : Shared} {args : Args} {vs : List MV} {cvs : List Value} (R : Rel c μ st s) (hvs : All2 (VR μ s.heap) vs cvs) (hl : vs.length ≤ ns.length)
    (hb : BindsTo s (fnOf name qual params body scope dV kV doc pm an cdv ct) args (ns.zip cvs)) {Qm : EP} {Rs : Result → Shared → Prop} (w : wpF S ms (frame ns vs) st Qm)
    (q : ∀ v st', Qm v st' → Post c μ s.heap v st' fun cv s' => Rs (.ok (.ret cv)) s') : codeAny (model c.prog c.w) A (.call (.ref a) args) Rs s := by
  have H := scopeOK_of hsc
  refine codeAny_call_def (fd := fnOf name qual params body scope dV kV doc pm an cdv ct) (body := body) (binds := ns.zip cvs) hA ((R.K W.X) _ _ ho) hd (W.lim.keeps R.sr.keep) (codeRec_of (R.K W.X) hcd) rfl hb H.cell (fun x hx => (H.loc x.1 (List.of_mem_zip hx).1).1) (fun h1 hns hk => ?_) H.co H.gen H.kind
  obtain ⟨f1, f2⟩ := R.fresh
  have G1 : Grow0 μ s.heap μ h1 := ⟨fun _ _ e => e, fun a o e _ _ => hk a o e, fun _ _ e1 e2 => (by rw [e1] at e2; exact nomatch e2), fun a o e => ⟨o, hk a o e⟩⟩
  have R1 : Rel c μ st { s with heap := h1, toks := s.toks + (ns.zip cvs).length } := ⟨R.sr.step G1 (safe_none _) (fun a m => by obtain ⟨o, e, _⟩ := R.sr.mut m; rw [e]; exact hk a o e) (fun _ x => x.elim), R.os, R.gens⟩
  have L1 : LR c μ h1 s.heap.objs.size ns (frame ns vs) := frame_LR H.nodup hl (hvs.mono fun _ _ z => z.mono R.sr G1 (safe_none _)) hns f1 f2
  unfold wpF at w
  refine ss_list (fun x _ => sS W.X W.sys G _ x (Nat.lt_succ_self _)) (tenv scope ns gl) (callEnv (fnOf name qual params body scope dV kV doc pm an cdv ct) s.heap.objs.size a) ms ht (envOK_call W hg H rfl rfl _ a) _ (hr _) _ μ st _ (frame ns vs) _ _ _ _ R1 L1 w ⟨?_, ?_, ?_⟩
  · intro loc' st' z μ' s' R' G' L'
    exact q _ _ z μ' .none s' R' (G1.drop G' (get_size _)) VR.none_mk
  · intro loc' st' z; exact z.elim
  · intro v st' z μ' cv s' R' G' hv
    exact q _ _ z μ' cv s' R' (G1.drop G' (get_size _)) hv

noncomputable abbrev Con := List MV → Objs → EP → Prop

noncomputable def ConOK (c : Cx) (n : Nat) (a : Addr) (C : Con) : Prop := ∀ vs st Q, C vs st Q → ∀ (A : Around) (E : Value → Shared → Prop) (μ : Mu) (s : Shared) (cvs : List Value) (Q' : Value → Shared → Prop), Room n A → Rel c μ st s → All2 (VR μ s.heap) vs cvs →
    (∀ v st', Q v st' → Post c μ s.heap v st' Q') → wpAny (model c.prog c.w) A (call (.ref a) cvs) Q' E s

theorem con_fn (W : Ground c mg mb) (hg : GlOK mg mb gl) (G : SgOK c S n) {a : Addr} {o : Obj} {name qual : Str} {params : Arguments} {body : List Stmt} {scope : Scope} {dV kV doc pm cdv ct : Value} {an : Option Addr} {ns : List Str} {ms : List MS} {k : Nat}
    (ho : c.K.lookup a = some o) (hd : o.data = .func (fnOf name qual params body scope dV kV doc pm an cdv ct)) (hcd : codeIn c.K cdv qual = true) (hsc : scopeOK scope ns = true) (ht : trSs (tenv scope ns gl) body = some ms) (hk : k ≤ ns.length)
    (hb : ∀ cvs, cvs.length = k → ∀ s, c.K.In s.heap → BindsTo s (fnOf name qual params body scope dV kV doc pm an cdv ct) ⟨cvs, []⟩ (ns.zip cvs)) {C : Con} (hC : ∀ vs st Q, C vs st Q → vs.length = k ∧ wpF S ms (frame ns vs) st Q) : ConOK c (n + 1) a C := by
  intro vs st Q hc A E μ s cvs Q' hr R hvs q
  obtain ⟨hlen, w⟩ := hC vs st Q hc
  exact wpAny_call (body_ok W hg G ho hd hcd hsc ht (by have := hr.2.1; show A.depth < 1000; lia) (fun env => hr.deeper) R hvs (by lia) (hb cvs (by rw [← hvs.length]; exact hlen) s (R.K W.X)) w q)

theorem snoc_len {α : Type} {l : List α} {x : α} {k : Nat} (h : l.length = k) : (l ++ [x])[k]? = some x := by subst h; simp

theorem con_cls (W : Ground c mg mb) (hg : GlOK mg mb gl) (G : SgOK c S n) {C a : Addr} {o : Obj} {name qual : Str} {params : Arguments} {body : List Stmt} {scope : Scope} {dV kV doc pm cdv ct : Value} {an : Option Addr} {ns : List Str} {ms : List MS} {k : Nat}
    (hm : makesIn c.K C = true) (hi : findIn c.K (.ref C) "__init__" = some (some (.ref a))) (hty : typeIn c.K (.ref a) = some (.type "function")) (hco : clsOK c.K C = true)
    (ho : c.K.lookup a = some o) (hd : o.data = .func (fnOf name qual params body scope dV kV doc pm an cdv ct)) (hcd : codeIn c.K cdv qual = true) (hsc : scopeOK scope ns = true) (ht : trSs (tenv scope ns gl) body = some ms)
    {ext : List MV} {cext : List Value} (hext : ∀ μ h, All2 (VR μ h) ext cext) (hk : k + 1 + ext.length ≤ ns.length)
    (hb : ∀ cvs, cvs.length = k + 1 → ∀ s, c.K.In s.heap → BindsTo s (fnOf name qual params body scope dV kV doc pm an cdv ct) ⟨cvs, []⟩ (ns.zip (cvs ++ cext))) {CC : Con}
    (hC : ∀ vs st Q, CC vs st Q → vs.length = k ∧ wpF S ms (frame ns (.obj st.length :: vs ++ ext)) (st ++ [.inst C []]) fun v st' => v = .none ∧ Q (.obj st.length) st') : ConOK c (n + 1) C CC := by
  intro vs st Q hc A E μ s cvs Q' hr R hvs q
  obtain ⟨hlen, w⟩ := hC vs st Q hc
  obtain ⟨hh, g, d, t, os⟩ := s
  obtain ⟨_, hr1, hr2⟩ := hr.made (C := C) (rest := cvs) (kw := [])
  refine wpAny_call (make_core (makes_of (R.K W.X) hm) (looks_findIn (R.K W.X) hi) (fun self => bind_fn (R.K W.X) self hty) (.inl rfl) ?_)
  have hk1 : ∀ a o, hh.get? a = some o → ((hh.push emptyDict).push (instObj C hh.objs.size)).get? a = some o := fun a o e => Heap.get?_push_of_some _ (Heap.get?_push_of_some _ e)
  have n1 : hh.get? (hh.objs.size + 1) = none := by
    cases e : hh.get? (hh.objs.size + 1) with
    | none => rfl
    | some o => exact absurd (Heap.lt_size e) (Nat.not_lt.mpr (Nat.le_succ _))
  have hx : ((hh.push emptyDict).push (instObj C hh.objs.size)).get? (hh.objs.size + 1) = some (instObj C hh.objs.size) := by
    have := Heap.get?_push_size (hh.push emptyDict) (o := instObj C hh.objs.size) rfl
    rwa [Heap.size_push] at this
  have hdx : ((hh.push emptyDict).push (instObj C hh.objs.size)).get? hh.objs.size = some (dictOf [] 0) := Heap.get?_push_of_some _ (Heap.get?_push_size _ rfl)
  have z := R.sr.alloc (p := (hh.objs.size + 1, some hh.objs.size)) (mo := .inst C []) hk1 (by simp only [pa]; intro a ha; simp at ha; rcases ha with rfl | rfl <;> first | exact n1 | exact get_size hh) (fun d e => by (first | exact no e | cases e); exact Nat.ne_of_gt (Nat.lt_succ_self _))
    ⟨hco, hh.objs.size, [], 0, rfl, hx, hdx, .nil⟩
  have R1 : Rel c (μ ++ [(hh.objs.size + 1, some hh.objs.size)]) (st ++ [.inst C []]) ⟨(hh.push emptyDict).push (instObj C hh.objs.size), g, d, t, os⟩ := ⟨z.1, R.os, R.gens⟩
  have hself : VR (μ ++ [(hh.objs.size + 1, some hh.objs.size)]) ((hh.push emptyDict).push (instObj C hh.objs.size)) (.obj st.length) (.ref (hh.objs.size + 1)) := by
    exact VR.obj_mk (p := (hh.objs.size + 1, some hh.objs.size)) (snoc_len R.sr.len)
  refine body_ok W hg G ho hd hcd hsc ht hr2 hr1 R1 (vs := .obj st.length :: vs ++ ext) (cvs := (.ref (hh.objs.size + 1) :: cvs) ++ cext) ?_ ?_ (hb _ (by rw [List.length_cons, ← hvs.length, hlen]) _ (R1.K W.X)) w ?_
  · exact All2.append (.cons hself (hvs.mono fun _ _ y => y.mono R.sr z.2 (safe_none _))) (hext _ _)
  · rw [List.length_append, List.length_cons, hlen]; lia
  · rintro v st' ⟨rfl, hq⟩ μ' cv s' R' G' hv
    obtain rfl := hv.none_inv
    refine ⟨rfl, ?_⟩
    refine q _ _ hq μ' _ s' R' (z.2.trans G') ?_
    exact VR.obj_mk (p := (hh.objs.size + 1, some hh.objs.size)) (G'.pre _ _ (snoc_len R.sr.len))

/- a signature grows by one contract -/
noncomputable def Sg.add (S : Sg) (a : Addr) (C : Con) : Sg := ⟨fun b vs st Q => (b = a ∧ C vs st Q) ∨ S.C b vs st Q, S.M, S.L⟩

theorem SgOK.less (G : SgOK c S n) : SgOK c S (n + 1) := ⟨G.meth, G.lst, G.keep, fun f vs st Q h A E μ s cvs Q' hr => G.call f vs st Q h A E μ s cvs Q' hr.less⟩

theorem SgOK.add (G : SgOK c S n) {a : Addr} {C : Con} (hk : keepIn c.K (.ref a) = true) (hC : ConOK c (n + 1) a C) : SgOK c (S.add a C) (n + 1) where
  meth := G.meth
  lst := G.lst
  keep f vs st Q h := by
    rcases h with ⟨rfl, _⟩ | h
    · exact hk
    · exact G.keep f vs st Q h
  call f vs st Q h A E μ s cvs Q' hr := by
    rcases h with ⟨rfl, h⟩ | h
    · exact hC vs st Q h A E μ s cvs Q' hr
    · exact G.call f vs st Q h A E μ s cvs Q' hr.less

noncomputable def Has (S : Sg) (a : Addr) (C : Con) : Prop := ∀ vs st Q, C vs st Q → S.C a vs st Q
theorem Has.new {a : Addr} {C : Con} : Has (S.add a C) a C := fun _ _ _ h => .inl ⟨rfl, h⟩
theorem Has.more {a b : Addr} {C D : Con} (h : Has S a C) : Has (S.add b D) a C := fun _ _ _ z => .inr (h _ _ _ z)
end
end Mine.Lake

set_option tactic.hygienic true

namespace Mine.Lake

noncomputable def glL : List (Str × MV) := [(Str.ofString "F_DOT", .int 0),
  (Str.ofString "REF", .int 0),
  (Str.ofString "SRF", .int 1),
  (Str.ofString "STR", .int 2),
  (Str.ofString "LIS", .int 3),
  (Str.ofString "CON", .int 4),
  (Str.ofString "INT", .int 5),
  (Str.ofString "FUN", .int 6),
  (Str.ofString "VISIT", .int 0),
  (Str.ofString "BUILD", .int 1),
  (Str.ofString "fixed_atoms", .val (.ref 60)),
  (Str.ofString "fixed_functors", .val (.ref 67)),
  (Str.ofString "Symbols", .val (.ref 154)),
  (Str.ofString "Store", .val (.ref 373)),
  (Str.ofString "PairSet", .val (.ref 399)),
  (Str.ofString "push_arguments", .val (.ref 410)),
  (Str.ofString "push_pairs", .val (.ref 417)),
  (Str.ofString "same_shape", .val (.ref 424)),
  (Str.ofString "is_variable", .val (.ref 431)),
  (Str.ofString "unify", .val (.ref 438)),
  (Str.ofString "bind_checked", .val (.ref 445)),
  (Str.ofString "trial", .val (.ref 452)),
  (Str.ofString "occurs_in", .val (.ref 459)),
  (Str.ofString "_law_take", .val (.ref 466)),
  (Str.ofString "_law_side", .val (.ref 473)),
  (Str.ofString "_law_every", .val (.ref 478)),
  (Str.ofString "_law_store", .val (.ref 485)),
  (Str.ofString "_law_solved", .val (.ref 492)),
  (Str.ofString "_law_sides_one", .val (.ref 499)),
  (Str.ofString "_law_trials_right", .val (.ref 504)),
  (Str.ofString "len", .bi .len),
  (Str.ofString "range", .bi .range),
  (Str.ofString "tuple", .bi .tuple),
  (Str.ofString "list", .bi .list),
  (Str.ofString "set", .bi .set)]
noncomputable def gl (x : Str) : Option MV := glL.lookup x

noncomputable def ns_fixed_atoms : List Str := []
noncomputable def b_fixed_atoms : List MS := [.ret (.tup [(.cst (.str (Str.ofString "[]"))), (.cst (.str (Str.ofString "."))), (.cst (.str (Str.ofString "{}"))), (.cst (.str (Str.ofString "-"))), (.cst (.str (Str.ofString "+"))), (.cst (.str (Str.ofString "*"))), (.cst (.str (Str.ofString "/"))), (.cst (.str (Str.ofString ","))), (.cst (.str (Str.ofString "|"))), (.cst (.str (Str.ofString ";"))), (.cst (.str (Str.ofString "->"))), (.cst (.str (Str.ofString "\\+"))), (.cst (.str (Str.ofString ":-"))), (.cst (.str (Str.ofString "?-"))), (.cst (.str (Str.ofString "-->"))), (.cst (.str (Str.ofString "!"))), (.cst (.str (Str.ofString "true"))), (.cst (.str (Str.ofString "fail"))), (.cst (.str (Str.ofString "false"))), (.cst (.str (Str.ofString "call"))), (.cst (.str (Str.ofString "="))), (.cst (.str (Str.ofString "^"))), (.cst (.str (Str.ofString "error"))), (.cst (.str (Str.ofString ""))), (.cst (.str (Str.ofString "end_of_file"))), (.cst (.str (Str.ofString "system"))), (.cst (.str (Str.ofString "$VAR"))), (.cst (.str (Str.ofString "catch"))), (.cst (.str (Str.ofString "throw")))])]

noncomputable def ns_fixed_functors : List Str := []
noncomputable def b_fixed_functors : List MS := [.ret (.tup [(.tup [(.cst (.str (Str.ofString "."))), (.cst (.int 2))]), (.tup [(.cst (.str (Str.ofString ","))), (.cst (.int 2))]), (.tup [(.cst (.str (Str.ofString ";"))), (.cst (.int 2))]), (.tup [(.cst (.str (Str.ofString "->"))), (.cst (.int 2))]), (.tup [(.cst (.str (Str.ofString "\\+"))), (.cst (.int 1))]), (.tup [(.cst (.str (Str.ofString ":-"))), (.cst (.int 2))]), (.tup [(.cst (.str (Str.ofString ":-"))), (.cst (.int 1))]), (.tup [(.cst (.str (Str.ofString "?-"))), (.cst (.int 1))]), (.tup [(.cst (.str (Str.ofString "-->"))), (.cst (.int 2))]), (.tup [(.cst (.str (Str.ofString "{}"))), (.cst (.int 1))]), (.tup [(.cst (.str (Str.ofString "="))), (.cst (.int 2))]), (.tup [(.cst (.str (Str.ofString "^"))), (.cst (.int 2))]), (.tup [(.cst (.str (Str.ofString "-"))), (.cst (.int 1))]), (.tup [(.cst (.str (Str.ofString "-"))), (.cst (.int 2))]), (.tup [(.cst (.str (Str.ofString "+"))), (.cst (.int 2))]), (.tup [(.cst (.str (Str.ofString "/"))), (.cst (.int 2))]), (.tup [(.cst (.str (Str.ofString "error"))), (.cst (.int 2))]), (.tup [(.cst (.str (Str.ofString "$VAR"))), (.cst (.int 1))]), (.tup [(.cst (.str (Str.ofString "catch"))), (.cst (.int 3))]), (.tup [(.cst (.str (Str.ofString "throw"))), (.cst (.int 1))]), (.tup [(.cst (.str (Str.ofString "!"))), (.cst (.int 0))]), (.tup [(.cst (.str (Str.ofString "true"))), (.cst (.int 0))]), (.tup [(.cst (.str (Str.ofString "fail"))), (.cst (.int 0))]), (.tup [(.cst (.str (Str.ofString "false"))), (.cst (.int 0))]), (.tup [(.cst (.str (Str.ofString "call"))), (.cst (.int 1))]), (.tup [(.cst (.str (Str.ofString "call"))), (.cst (.int 2))]), (.tup [(.cst (.str (Str.ofString "call"))), (.cst (.int 3))]), (.tup [(.cst (.str (Str.ofString "call"))), (.cst (.int 4))]), (.tup [(.cst (.str (Str.ofString "call"))), (.cst (.int 5))]), (.tup [(.cst (.str (Str.ofString "call"))), (.cst (.int 6))]), (.tup [(.cst (.str (Str.ofString "call"))), (.cst (.int 7))]), (.tup [(.cst (.str (Str.ofString "call"))), (.cst (.int 8))])])]

noncomputable def ns_Symbols_init : List Str := [(Str.ofString "self"), (Str.ofString "text"), (Str.ofString "row")]
noncomputable def b_Symbols_init : List MS := [.asg (.attr (.loc 0) 7) (.lst []),
  .asg (.attr (.loc 0) 8) .dict0,
  .asg (.attr (.loc 0) 9) (.lst []),
  .asg (.attr (.loc 0) 10) .dict0,
  .for_ (.loc 1) (.call (.cst (.val (.ref 60))) []) [.expr (.meth (.loc 0) 17 [(.loc 1)])],
  .for_ (.loc 2) (.call (.cst (.val (.ref 67))) []) [.expr (.meth (.loc 0) 20 [(.sub (.loc 2) (.cst (.int 0))), (.sub (.loc 2) (.cst (.int 1)))])]]

noncomputable def ns_Symbols_atom : List Str := [(Str.ofString "self"), (Str.ofString "text"), (Str.ofString "found"), (Str.ofString "number")]
noncomputable def b_Symbols_atom : List MS := [.asg (.loc 2) (.meth (.attr (.loc 0) 8) 15 [(.loc 1), (.neg (.cst (.int 1)))]),
  .ife (.cmp .GtE (.loc 2) (.cst (.int 0))) [.ret (.loc 2)] [],
  .asg (.loc 3) (.call (.cst (.bi .len)) [(.attr (.loc 0) 7)]),
  .expr (.meth (.attr (.loc 0) 7) 13 [(.loc 1)]),
  .asg (.sub (.attr (.loc 0) 8) (.loc 1)) (.loc 3),
  .ret (.loc 3)]

noncomputable def ns_Symbols_functor : List Str := [(Str.ofString "self"), (Str.ofString "atom"), (Str.ofString "arity"), (Str.ofString "key"), (Str.ofString "found"), (Str.ofString "number")]
noncomputable def b_Symbols_functor : List MS := [.asg (.loc 3) (.tup [(.loc 1), (.loc 2)]),
  .asg (.loc 4) (.meth (.attr (.loc 0) 10) 15 [(.loc 3), (.neg (.cst (.int 1)))]),
  .ife (.cmp .GtE (.loc 4) (.cst (.int 0))) [.ret (.loc 4)] [],
  .asg (.loc 5) (.call (.cst (.bi .len)) [(.attr (.loc 0) 9)]),
  .expr (.meth (.attr (.loc 0) 9) 13 [(.loc 3)]),
  .asg (.sub (.attr (.loc 0) 10) (.loc 3)) (.loc 5),
  .ret (.loc 5)]

noncomputable def ns_Symbols_func : List Str := [(Str.ofString "self"), (Str.ofString "text"), (Str.ofString "arity")]
noncomputable def b_Symbols_func : List MS := [.ret (.meth (.loc 0) 19 [(.meth (.loc 0) 17 [(.loc 1)]), (.loc 2)])]

noncomputable def ns_Symbols_arity : List Str := [(Str.ofString "self"), (Str.ofString "functor")]
noncomputable def b_Symbols_arity : List MS := [.ret (.sub (.sub (.attr (.loc 0) 9) (.loc 1)) (.cst (.int 1)))]

noncomputable def ns_Cells_init : List Str := [(Str.ofString "self"), (Str.ofString "symbols"), (Str.ofString "max_heap")]
noncomputable def b_Cells_init : List MS := [.asg (.attr (.loc 0) 0) (.loc 1),
  .asg (.attr (.loc 0) 1) (.loc 2),
  .asg (.attr (.loc 0) 2) (.lst []),
  .asg (.attr (.loc 0) 3) (.lst []),
  .asg (.attr (.loc 0) 4) (.lst []),
  .asg (.attr (.loc 0) 5) (.cst (.int 0)),
  .asg (.attr (.loc 0) 6) (.cst (.int 0))]

noncomputable def ns_Cells_push : List Str := [(Str.ofString "self"), (Str.ofString "cell"), (Str.ofString "address")]
noncomputable def b_Cells_push : List MS := [.asg (.loc 2) (.call (.cst (.bi .len)) [(.attr (.loc 0) 2)]),
  .ife (.cmp .GtE (.loc 2) (.attr (.loc 0) 1)) [.bad] [],
  .expr (.meth (.attr (.loc 0) 2) 13 [(.loc 1)]),
  .ret (.loc 2)]

noncomputable def ns_Cells_new_var : List Str := [(Str.ofString "self"), (Str.ofString "cell")]
noncomputable def b_Cells_new_var : List MS := [.asg (.loc 1) (.tup [(.cst (.int 0)), (.call (.cst (.bi .len)) [(.attr (.loc 0) 2)])]),
  .expr (.meth (.loc 0) 25 [(.loc 1)]),
  .ret (.loc 1)]

noncomputable def ns_Cells_reserve : List Str := [(Str.ofString "self"), (Str.ofString "count"), (Str.ofString "first"), (Str.ofString "step")]
noncomputable def b_Cells_reserve : List MS := [.asg (.loc 2) (.call (.cst (.bi .len)) [(.attr (.loc 0) 2)]),
  .ife (.cmp .Gt (.bin .Add (.loc 2) (.loc 1)) (.attr (.loc 0) 1)) [.bad] [],
  .for_ (.loc 3) (.call (.cst (.bi .range)) [(.loc 1)]) [.expr (.meth (.attr (.loc 0) 2) 13 [(.tup [(.cst (.int 0)), (.bin .Add (.loc 2) (.loc 3))])])],
  .ret (.loc 2)]

noncomputable def ns_Cells_deref : List Str := [(Str.ofString "self"), (Str.ofString "cell"), (Str.ofString "tag"), (Str.ofString "found")]
noncomputable def b_Cells_deref : List MS := [.wh (.cst (.bool true)) [.asg (.loc 2) (.sub (.loc 1) (.cst (.int 0))),
  .ife (.cmp .Eq (.loc 2) (.cst (.int 0))) [.asg (.loc 3) (.sub (.attr (.loc 0) 2) (.sub (.loc 1) (.cst (.int 1))))] [.ife (.cmp .Eq (.loc 2) (.cst (.int 1))) [.asg (.loc 3) (.sub (.attr (.loc 0) 3) (.sub (.loc 1) (.cst (.int 1))))] [.ret (.loc 1)]],
  .ife (.cmp .Eq (.loc 3) (.loc 1)) [.ret (.loc 1)] [],
  .asg (.loc 1) (.loc 3)]]

noncomputable def ns_Cells_bind : List Str := [(Str.ofString "self"), (Str.ofString "cell"), (Str.ofString "value"), (Str.ofString "place")]
noncomputable def b_Cells_bind : List MS := [.asg (.loc 3) (.sub (.loc 1) (.cst (.int 1))),
  .ife (.cmp .Eq (.sub (.loc 1) (.cst (.int 0))) (.cst (.int 0))) [.asg (.sub (.attr (.loc 0) 2) (.loc 3)) (.loc 2),
  .ife (.cmp .Lt (.loc 3) (.attr (.loc 0) 5)) [.expr (.meth (.attr (.loc 0) 4) 13 [(.loc 3)])] []] [.asg (.sub (.attr (.loc 0) 3) (.loc 3)) (.loc 2),
  .ife (.cmp .Lt (.loc 3) (.attr (.loc 0) 6)) [.expr (.meth (.attr (.loc 0) 4) 13 [(.bin .Sub (.neg (.cst (.int 1))) (.loc 3))])] []]]

noncomputable def ns_Cells_bind_pair : List Str := [(Str.ofString "self"), (Str.ofString "c1"), (Str.ofString "c2")]
noncomputable def b_Cells_bind_pair : List MS := [.ife (.cmp .Eq (.loc 1) (.loc 2)) [.ret (.cst .none)] [],
  .ife (.cmp .Eq (.sub (.loc 1) (.cst (.int 0))) (.sub (.loc 2) (.cst (.int 0)))) [.ife (.cmp .Lt (.sub (.loc 1) (.cst (.int 1))) (.sub (.loc 2) (.cst (.int 1)))) [.expr (.meth (.loc 0) 29 [(.loc 2), (.loc 1)])] [.expr (.meth (.loc 0) 29 [(.loc 1), (.loc 2)])]] [.ife (.cmp .Eq (.sub (.loc 1) (.cst (.int 0))) (.cst (.int 1))) [.expr (.meth (.loc 0) 29 [(.loc 1), (.loc 2)])] [.expr (.meth (.loc 0) 29 [(.loc 2), (.loc 1)])]]]

noncomputable def ns_Cells_globalise : List Str := [(Str.ofString "self"), (Str.ofString "cell"), (Str.ofString "fresh")]
noncomputable def b_Cells_globalise : List MS := [.asg (.loc 1) (.meth (.loc 0) 28 [(.loc 1)]),
  .ife (.cmp .Eq (.sub (.loc 1) (.cst (.int 0))) (.cst (.int 1))) [.asg (.loc 2) (.meth (.loc 0) 26 []),
  .expr (.meth (.loc 0) 29 [(.loc 1), (.loc 2)]),
  .ret (.loc 2)] [],
  .ret (.loc 1)]

noncomputable def ns_Cells_mark : List Str := [(Str.ofString "self")]
noncomputable def b_Cells_mark : List MS := [.ret (.call (.cst (.bi .len)) [(.attr (.loc 0) 4)])]

noncomputable def ns_Cells_undo_to : List Str := [(Str.ofString "self"), (Str.ofString "mark"), (Str.ofString "entry"), (Str.ofString "slot")]
noncomputable def b_Cells_undo_to : List MS := [.wh (.cmp .Gt (.call (.cst (.bi .len)) [(.attr (.loc 0) 4)]) (.loc 1)) [.asg (.loc 2) (.meth (.attr (.loc 0) 4) 14 []),
  .ife (.cmp .GtE (.loc 2) (.cst (.int 0))) [.asg (.sub (.attr (.loc 0) 2) (.loc 2)) (.tup [(.cst (.int 0)), (.loc 2)])] [.asg (.loc 3) (.bin .Sub (.neg (.cst (.int 1))) (.loc 2)),
  .asg (.sub (.attr (.loc 0) 3) (.loc 3)) (.tup [(.cst (.int 1)), (.loc 3)])]]]

noncomputable def ns_Cells_is_compound : List Str := [(Str.ofString "self"), (Str.ofString "cell")]
noncomputable def b_Cells_is_compound : List MS := [.ret (.or (.cmp .Eq (.sub (.loc 1) (.cst (.int 0))) (.cst (.int 2))) (.cmp .Eq (.sub (.loc 1) (.cst (.int 0))) (.cst (.int 3))))]

noncomputable def ns_Cells_functor_of : List Str := [(Str.ofString "self"), (Str.ofString "cell"), (Str.ofString "tag")]
noncomputable def b_Cells_functor_of : List MS := [.asg (.loc 2) (.sub (.loc 1) (.cst (.int 0))),
  .ife (.cmp .Eq (.loc 2) (.cst (.int 2))) [.ret (.sub (.sub (.attr (.loc 0) 2) (.sub (.loc 1) (.cst (.int 1)))) (.cst (.int 1)))] [],
  .ife (.cmp .Eq (.loc 2) (.cst (.int 3))) [.ret (.cst (.int 0))] [],
  .ife (.cmp .Eq (.loc 2) (.cst (.int 4))) [.ret (.meth (.attr (.loc 0) 0) 19 [(.sub (.loc 1) (.cst (.int 1))), (.cst (.int 0))])] [],
  .ret (.neg (.cst (.int 1)))]

noncomputable def ns_Cells_width : List Str := [(Str.ofString "self"), (Str.ofString "cell"), (Str.ofString "tag")]
noncomputable def b_Cells_width : List MS := [.asg (.loc 2) (.sub (.loc 1) (.cst (.int 0))),
  .ife (.cmp .Eq (.loc 2) (.cst (.int 3))) [.ret (.cst (.int 2))] [],
  .ife (.cmp .Eq (.loc 2) (.cst (.int 2))) [.ret (.meth (.attr (.loc 0) 0) 22 [(.sub (.sub (.attr (.loc 0) 2) (.sub (.loc 1) (.cst (.int 1)))) (.cst (.int 1)))])] [],
  .ret (.cst (.int 0))]

noncomputable def ns_Cells_base : List Str := [(Str.ofString "self"), (Str.ofString "cell")]
noncomputable def b_Cells_base : List MS := [.ife (.cmp .Eq (.sub (.loc 1) (.cst (.int 0))) (.cst (.int 3))) [.ret (.sub (.loc 1) (.cst (.int 1)))] [],
  .ret (.bin .Add (.sub (.loc 1) (.cst (.int 1))) (.cst (.int 1)))]

noncomputable def ns_Cells_new_block : List Str := [(Str.ofString "self"), (Str.ofString "f"), (Str.ofString "start")]
noncomputable def b_Cells_new_block : List MS := [.ife (.cmp .Eq (.loc 1) (.cst (.int 0))) [.ret (.tup [(.cst (.int 3)), (.meth (.loc 0) 27 [(.cst (.int 2))])])] [],
  .asg (.loc 2) (.meth (.loc 0) 27 [(.bin .Add (.cst (.int 1)) (.meth (.attr (.loc 0) 0) 22 [(.loc 1)]))]),
  .asg (.sub (.attr (.loc 0) 2) (.loc 2)) (.tup [(.cst (.int 6)), (.loc 1)]),
  .ret (.tup [(.cst (.int 2)), (.loc 2)])]

noncomputable def ns_Store_put_term : List Str := [(Str.ofString "self"), (Str.ofString "term"), (Str.ofString "table"), (Str.ofString "k"), (Str.ofString "kind"), (Str.ofString "made"), (Str.ofString "waiting"), (Str.ofString "at"), (Str.ofString "place"), (Str.ofString "items"), (Str.ofString "item"), (Str.ofString "inner")]
noncomputable def b_Store_put_term : List MS := [.for_ (.loc 3) (.call (.cst (.bi .list)) [(.loc 2)]) [.ife (.cmp .Eq (.sub (.sub (.loc 2) (.loc 3)) (.cst (.int 0))) (.cst (.int 1))) [.asg (.sub (.loc 2) (.loc 3)) (.meth (.loc 0) 31 [(.sub (.loc 2) (.loc 3))])] []],
  .asg (.loc 4) (.sub (.loc 1) (.cst (.int 0))),
  .ife (.cmp .Eq (.loc 4) (.cst (.str (Str.ofString "v")))) [.ife (.cmp .NotIn (.sub (.loc 1) (.cst (.int 1))) (.loc 2)) [.asg (.sub (.loc 2) (.sub (.loc 1) (.cst (.int 1)))) (.meth (.loc 0) 26 [])] [],
  .ret (.sub (.loc 2) (.sub (.loc 1) (.cst (.int 1))))] [],
  .ife (.cmp .Eq (.loc 4) (.cst (.str (Str.ofString "a")))) [.ret (.tup [(.cst (.int 4)), (.sub (.loc 1) (.cst (.int 1)))])] [],
  .ife (.cmp .Eq (.loc 4) (.cst (.str (Str.ofString "i")))) [.ret (.tup [(.cst (.int 5)), (.sub (.loc 1) (.cst (.int 1)))])] [],
  .asg (.loc 5) (.meth (.loc 0) 38 [(.sub (.loc 1) (.cst (.int 1)))]),
  .asg (.loc 6) (.lst [(.tup [(.meth (.loc 0) 37 [(.loc 5)]), (.sub (.loc 1) (.cst (.int 2)))])]),
  .asg (.loc 7) (.cst (.int 0)),
  .wh (.cmp .Lt (.loc 7) (.call (.cst (.bi .len)) [(.loc 6)])) [.asg (.tup [8, 9]) (.sub (.loc 6) (.loc 7)),
  .augL 7 .Add (.cst (.int 1)),
  .for_ (.loc 10) (.loc 9) [.asg (.loc 4) (.sub (.loc 10) (.cst (.int 0))),
  .ife (.cmp .Eq (.loc 4) (.cst (.str (Str.ofString "v")))) [.ife (.cmp .In (.sub (.loc 10) (.cst (.int 1))) (.loc 2)) [.asg (.sub (.attr (.loc 0) 2) (.loc 8)) (.sub (.loc 2) (.sub (.loc 10) (.cst (.int 1))))] [.asg (.sub (.loc 2) (.sub (.loc 10) (.cst (.int 1)))) (.tup [(.cst (.int 0)), (.loc 8)])]] [.ife (.cmp .Eq (.loc 4) (.cst (.str (Str.ofString "a")))) [.asg (.sub (.attr (.loc 0) 2) (.loc 8)) (.tup [(.cst (.int 4)), (.sub (.loc 10) (.cst (.int 1)))])] [.ife (.cmp .Eq (.loc 4) (.cst (.str (Str.ofString "i")))) [.asg (.sub (.attr (.loc 0) 2) (.loc 8)) (.tup [(.cst (.int 5)), (.sub (.loc 10) (.cst (.int 1)))])] [.asg (.loc 11) (.meth (.loc 0) 38 [(.sub (.loc 10) (.cst (.int 1)))]),
  .asg (.sub (.attr (.loc 0) 2) (.loc 8)) (.loc 11),
  .expr (.meth (.loc 6) 13 [(.tup [(.meth (.loc 0) 37 [(.loc 11)]), (.sub (.loc 10) (.cst (.int 2)))])])]]],
  .augL 8 .Add (.cst (.int 1))]],
  .ret (.loc 5)]

noncomputable def ns_Store_take_term : List Str := [(Str.ofString "self"), (Str.ofString "cell"), (Str.ofString "table"), (Str.ofString "known"), (Str.ofString "results"), (Str.ofString "work"), (Str.ofString "what"), (Str.ofString "f"), (Str.ofString "first"), (Str.ofString "term"), (Str.ofString "tag"), (Str.ofString "place"), (Str.ofString "step")]
noncomputable def b_Store_take_term : List MS := [.asg (.loc 3) .dict0,
  .asg (.loc 4) (.lst []),
  .asg (.loc 5) (.lst [(.tup [(.cst (.int 0)), (.meth (.loc 0) 31 [(.loc 1)])])]),
  .wh (.cmp .Gt (.call (.cst (.bi .len)) [(.loc 5)]) (.cst (.int 0))) [.asg (.tup [6, 1]) (.meth (.loc 5) 14 []),
  .ife (.cmp .Eq (.loc 6) (.cst (.int 1))) [.asg (.loc 7) (.meth (.loc 0) 35 [(.loc 1)]),
  .asg (.loc 8) (.bin .Sub (.call (.cst (.bi .len)) [(.loc 4)]) (.meth (.loc 0) 36 [(.loc 1)])),
  .asg (.loc 9) (.tup [(.cst (.str (Str.ofString "s"))), (.loc 7), (.call (.cst (.bi .tuple)) [(.slc (.loc 4) (.loc 8) (.cst .none) (.cst .none))])]),
  .delS (.loc 4) (.loc 8),
  .asg (.sub (.loc 3) (.sub (.loc 1) (.cst (.int 1)))) (.loc 9),
  .expr (.meth (.loc 4) 13 [(.loc 9)]),
  .cont] [],
  .asg (.loc 1) (.meth (.loc 0) 28 [(.loc 1)]),
  .asg (.loc 10) (.sub (.loc 1) (.cst (.int 0))),
  .ife (.cmp .Eq (.loc 10) (.cst (.int 0))) [.ife (.cmp .NotIn (.sub (.loc 1) (.cst (.int 1))) (.loc 2)) [.asg (.sub (.loc 2) (.sub (.loc 1) (.cst (.int 1)))) (.call (.cst (.bi .len)) [(.loc 2)])] [],
  .expr (.meth (.loc 4) 13 [(.tup [(.cst (.str (Str.ofString "v"))), (.sub (.loc 2) (.sub (.loc 1) (.cst (.int 1))))])])] [.ife (.cmp .Eq (.loc 10) (.cst (.int 4))) [.expr (.meth (.loc 4) 13 [(.tup [(.cst (.str (Str.ofString "a"))), (.sub (.loc 1) (.cst (.int 1)))])])] [.ife (.cmp .Eq (.loc 10) (.cst (.int 5))) [.expr (.meth (.loc 4) 13 [(.tup [(.cst (.str (Str.ofString "i"))), (.sub (.loc 1) (.cst (.int 1)))])])] [.ife (.cmp .In (.sub (.loc 1) (.cst (.int 1))) (.loc 3)) [.asg (.loc 9) (.sub (.loc 3) (.sub (.loc 1) (.cst (.int 1)))),
  .ife (.cmp .Is (.loc 9) (.cst .none)) [.bad] [],
  .expr (.meth (.loc 4) 13 [(.loc 9)])] [.asg (.sub (.loc 3) (.sub (.loc 1) (.cst (.int 1)))) (.cst .none),
  .expr (.meth (.loc 5) 13 [(.tup [(.cst (.int 1)), (.loc 1)])]),
  .asg (.loc 11) (.meth (.loc 0) 37 [(.loc 1)]),
  .for_ (.loc 12) (.call (.cst (.bi .range)) [(.bin .Sub (.meth (.loc 0) 36 [(.loc 1)]) (.cst (.int 1))), (.neg (.cst (.int 1))), (.neg (.cst (.int 1)))]) [.expr (.meth (.loc 5) 13 [(.tup [(.cst (.int 0)), (.sub (.attr (.loc 0) 2) (.bin .Add (.loc 11) (.loc 12)))])])]]]]]],
  .ret (.sub (.loc 4) (.cst (.int 0)))]

noncomputable def ns_PairSet_init : List Str := [(Str.ofString "self"), (Str.ofString "store")]
noncomputable def b_PairSet_init : List MS := [.asg (.attr (.loc 0) 11) (.bin .Add (.call (.cst (.bi .len)) [(.attr (.loc 1) 2)]) (.cst (.int 1))),
  .asg (.attr (.loc 0) 12) (.call (.cst (.bi .set)) [])]

noncomputable def ns_PairSet_add : List Str := [(Str.ofString "self"), (Str.ofString "left"), (Str.ofString "right"), (Str.ofString "number")]
noncomputable def b_PairSet_add : List MS := [.asg (.loc 3) (.bin .Add (.bin .Mult (.sub (.loc 1) (.cst (.int 1))) (.attr (.loc 0) 11)) (.sub (.loc 2) (.cst (.int 1)))),
  .ife (.cmp .In (.loc 3) (.attr (.loc 0) 12)) [.ret (.cst (.bool false))] [],
  .expr (.meth (.attr (.loc 0) 12) 16 [(.loc 3)]),
  .ret (.cst (.bool true))]

noncomputable def ns_push_arguments : List Str := [(Str.ofString "store"), (Str.ofString "cell"), (Str.ofString "work"), (Str.ofString "place"), (Str.ofString "step")]
noncomputable def b_push_arguments : List MS := [.asg (.loc 3) (.meth (.loc 0) 37 [(.loc 1)]),
  .for_ (.loc 4) (.call (.cst (.bi .range)) [(.bin .Sub (.meth (.loc 0) 36 [(.loc 1)]) (.cst (.int 1))), (.neg (.cst (.int 1))), (.neg (.cst (.int 1)))]) [.expr (.meth (.loc 2) 13 [(.sub (.attr (.loc 0) 2) (.bin .Add (.loc 3) (.loc 4)))])]]

noncomputable def ns_push_pairs : List Str := [(Str.ofString "store"), (Str.ofString "left"), (Str.ofString "right"), (Str.ofString "work"), (Str.ofString "left_place"), (Str.ofString "right_place"), (Str.ofString "step")]
noncomputable def b_push_pairs : List MS := [.asg (.loc 4) (.meth (.loc 0) 37 [(.loc 1)]),
  .asg (.loc 5) (.meth (.loc 0) 37 [(.loc 2)]),
  .for_ (.loc 6) (.call (.cst (.bi .range)) [(.bin .Sub (.meth (.loc 0) 36 [(.loc 1)]) (.cst (.int 1))), (.neg (.cst (.int 1))), (.neg (.cst (.int 1)))]) [.expr (.meth (.loc 3) 13 [(.tup [(.sub (.attr (.loc 0) 2) (.bin .Add (.loc 4) (.loc 6))), (.sub (.attr (.loc 0) 2) (.bin .Add (.loc 5) (.loc 6)))])])]]

noncomputable def ns_same_shape : List Str := [(Str.ofString "store"), (Str.ofString "left"), (Str.ofString "right")]
noncomputable def b_same_shape : List MS := [.ife (.cmp .NotEq (.sub (.loc 1) (.cst (.int 0))) (.sub (.loc 2) (.cst (.int 0)))) [.ret (.cst (.bool false))] [],
  .ife (.cmp .Eq (.sub (.loc 1) (.cst (.int 0))) (.cst (.int 3))) [.ret (.cst (.bool true))] [],
  .ret (.cmp .Eq (.sub (.attr (.loc 0) 2) (.sub (.loc 1) (.cst (.int 1)))) (.sub (.attr (.loc 0) 2) (.sub (.loc 2) (.cst (.int 1)))))]

noncomputable def ns_is_variable : List Str := [(Str.ofString "cell")]
noncomputable def b_is_variable : List MS := [.ret (.or (.cmp .Eq (.sub (.loc 0) (.cst (.int 0))) (.cst (.int 0))) (.cmp .Eq (.sub (.loc 0) (.cst (.int 0))) (.cst (.int 1))))]

noncomputable def ns_unify : List Str := [(Str.ofString "store"), (Str.ofString "c1"), (Str.ofString "c2"), (Str.ofString "occurs"), (Str.ofString "met"), (Str.ofString "work"), (Str.ofString "left"), (Str.ofString "right")]
noncomputable def b_unify : List MS := [.asg (.loc 4) (.call (.cst (.val (.ref 399))) [(.loc 0)]),
  .asg (.loc 5) (.lst [(.tup [(.loc 1), (.loc 2)])]),
  .wh (.cmp .Gt (.call (.cst (.bi .len)) [(.loc 5)]) (.cst (.int 0))) [.asg (.tup [6, 7]) (.meth (.loc 5) 14 []),
  .asg (.loc 6) (.meth (.loc 0) 28 [(.loc 6)]),
  .asg (.loc 7) (.meth (.loc 0) 28 [(.loc 7)]),
  .ife (.cmp .Eq (.loc 6) (.loc 7)) [.cont] [],
  .ife (.call (.cst (.val (.ref 431))) [(.loc 6)]) [.ife (.call (.cst (.val (.ref 431))) [(.loc 7)]) [.expr (.meth (.loc 0) 30 [(.loc 6), (.loc 7)])] [.ife (.not (.call (.cst (.val (.ref 445))) [(.loc 0), (.loc 6), (.loc 7), (.loc 3)])) [.ret (.cst (.bool false))] []]] [.ife (.call (.cst (.val (.ref 431))) [(.loc 7)]) [.ife (.not (.call (.cst (.val (.ref 445))) [(.loc 0), (.loc 7), (.loc 6), (.loc 3)])) [.ret (.cst (.bool false))] []] [.ife (.and (.meth (.loc 0) 34 [(.loc 6)]) (.call (.cst (.val (.ref 424))) [(.loc 0), (.loc 6), (.loc 7)])) [.ife (.meth (.loc 4) 16 [(.loc 6), (.loc 7)]) [.expr (.call (.cst (.val (.ref 417))) [(.loc 0), (.loc 6), (.loc 7), (.loc 5)])] []] [.ret (.cst (.bool false))]]]],
  .ret (.cst (.bool true))]

noncomputable def ns_bind_checked : List Str := [(Str.ofString "store"), (Str.ofString "variable"), (Str.ofString "value"), (Str.ofString "occurs")]
noncomputable def b_bind_checked : List MS := [.ife (.and (.loc 3) (.call (.cst (.val (.ref 459))) [(.loc 0), (.loc 1), (.loc 2)])) [.ret (.cst (.bool false))] [],
  .expr (.meth (.loc 0) 29 [(.loc 1), (.loc 2)]),
  .ret (.cst (.bool true))]

noncomputable def ns_trial : List Str := [(Str.ofString "store"), (Str.ofString "c1"), (Str.ofString "c2"), (Str.ofString "occurs"), (Str.ofString "hb"), (Str.ofString "bb"), (Str.ofString "mark"), (Str.ofString "found")]
noncomputable def b_trial : List MS := [.asg (.loc 4) (.attr (.loc 0) 5),
  .asg (.loc 5) (.attr (.loc 0) 6),
  .asg (.loc 6) (.meth (.loc 0) 32 []),
  .asg (.attr (.loc 0) 5) (.call (.cst (.bi .len)) [(.attr (.loc 0) 2)]),
  .asg (.attr (.loc 0) 6) (.call (.cst (.bi .len)) [(.attr (.loc 0) 3)]),
  .asg (.loc 7) (.call (.cst (.val (.ref 438))) [(.loc 0), (.loc 1), (.loc 2), (.loc 3)]),
  .expr (.meth (.loc 0) 33 [(.loc 6)]),
  .asg (.attr (.loc 0) 5) (.loc 4),
  .asg (.attr (.loc 0) 6) (.loc 5),
  .ret (.loc 7)]

noncomputable def ns_occurs_in : List Str := [(Str.ofString "store"), (Str.ofString "variable"), (Str.ofString "cell"), (Str.ofString "met"), (Str.ofString "work")]
noncomputable def b_occurs_in : List MS := [.asg (.loc 2) (.meth (.loc 0) 28 [(.loc 2)]),
  .ife (.cmp .Eq (.loc 2) (.loc 1)) [.ret (.cst (.bool true))] [],
  .ife (.or (.cmp .Eq (.sub (.loc 1) (.cst (.int 0))) (.cst (.int 1))) (.not (.meth (.loc 0) 34 [(.loc 2)]))) [.ret (.cst (.bool false))] [],
  .asg (.loc 3) (.call (.cst (.bi .set)) []),
  .asg (.loc 4) (.lst [(.loc 2)]),
  .wh (.cmp .Gt (.call (.cst (.bi .len)) [(.loc 4)]) (.cst (.int 0))) [.asg (.loc 2) (.meth (.loc 0) 28 [(.meth (.loc 4) 14 [])]),
  .ife (.cmp .Eq (.loc 2) (.loc 1)) [.ret (.cst (.bool true))] [],
  .ife (.and (.meth (.loc 0) 34 [(.loc 2)]) (.cmp .NotIn (.sub (.loc 2) (.cst (.int 1))) (.loc 3))) [.expr (.meth (.loc 3) 16 [(.sub (.loc 2) (.cst (.int 1)))]),
  .expr (.call (.cst (.val (.ref 410))) [(.loc 0), (.loc 2), (.loc 4)])] []],
  .ret (.cst (.bool false))]

noncomputable def ns__law_take : List Str := [(Str.ofString "well"), (Str.ofString "limit"), (Str.ofString "drop")]
noncomputable def b__law_take : List MS := [.augS (.loc 0) (.cst (.int 1)) .Add (.cst (.int 1)),
  .ife (.cmp .Gt (.sub (.loc 0) (.cst (.int 1))) (.call (.cst (.bi .len)) [(.sub (.loc 0) (.cst (.int 0)))])) [.ret (.cst (.int 0))] [],
  .asg (.loc 2) (.sub (.sub (.loc 0) (.cst (.int 0))) (.bin .Sub (.sub (.loc 0) (.cst (.int 1))) (.cst (.int 1)))),
  .ret (.bin .Mod (.ife (.cmp .Gt (.loc 2) (.cst (.int 0))) (.loc 2) (.neg (.loc 2))) (.loc 1))]

noncomputable def ns__law_side : List Str := [(Str.ofString "well"), (Str.ofString "names"), (Str.ofString "deep"), (Str.ofString "way"), (Str.ofString "first"), (Str.ofString "second")]
noncomputable def b__law_side : List MS := [.asg (.loc 3) (.call (.cst (.val (.ref 466))) [(.loc 0), (.ife (.cmp .Gt (.loc 2) (.cst (.int 0))) (.cst (.int 7)) (.cst (.int 5)))]),
  .ife (.cmp .Lt (.loc 3) (.cst (.int 3))) [.ret (.tup [(.cst (.str (Str.ofString "v"))), (.call (.cst (.val (.ref 466))) [(.loc 0), (.cst (.int 5))])])] [],
  .ife (.cmp .Eq (.loc 3) (.cst (.int 3))) [.ret (.tup [(.cst (.str (Str.ofString "a"))), (.meth (.loc 1) 17 [(.sub (.lst [(.cst (.str (Str.ofString "b"))), (.cst (.str (Str.ofString "c")))]) (.call (.cst (.val (.ref 466))) [(.loc 0), (.cst (.int 2))]))])])] [],
  .ife (.cmp .Eq (.loc 3) (.cst (.int 4))) [.ret (.tup [(.cst (.str (Str.ofString "i"))), (.cst (.int 6))])] [],
  .asg (.loc 4) (.call (.cst (.val (.ref 473))) [(.loc 0), (.loc 1), (.bin .Sub (.loc 2) (.cst (.int 1)))]),
  .ife (.and (.cmp .Eq (.loc 3) (.cst (.int 5))) (.cmp .Eq (.call (.cst (.val (.ref 466))) [(.loc 0), (.cst (.int 2))]) (.cst (.int 0)))) [.ret (.tup [(.cst (.str (Str.ofString "s"))), (.meth (.loc 1) 20 [(.cst (.str (Str.ofString "g"))), (.cst (.int 1))]), (.tup [(.loc 4)])])] [],
  .asg (.loc 5) (.call (.cst (.val (.ref 473))) [(.loc 0), (.loc 1), (.bin .Sub (.loc 2) (.cst (.int 1)))]),
  .ret (.tup [(.cst (.str (Str.ofString "s"))), (.ife (.cmp .Eq (.loc 3) (.cst (.int 5))) (.cst (.int 0)) (.meth (.loc 1) 20 [(.cst (.str (Str.ofString "h"))), (.cst (.int 2))])), (.tup [(.loc 4), (.loc 5)])])]

noncomputable def ns__law_every : List Str := []
noncomputable def b__law_every : List MS := [.ret (.call (.cst (.bi .tuple)) [(.comp (.tup [(.cst (.str (Str.ofString "v"))), (.loc 0)]) [0] true (.call (.cst (.bi .range)) [(.cst (.int 5))]))])]

noncomputable def ns__law_store : List Str := [(Str.ofString "names"), (Str.ofString "store"), (Str.ofString "table"), (Str.ofString "top")]
noncomputable def b__law_store : List MS := [.asg (.loc 1) (.call (.cst (.val (.ref 373))) [(.loc 0)]),
  .asg (.loc 2) .dict0,
  .asg (.loc 3) (.meth (.loc 1) 39 [(.tup [(.cst (.str (Str.ofString "s"))), (.meth (.loc 0) 20 [(.cst (.str (Str.ofString "all"))), (.cst (.int 5))]), (.call (.cst (.val (.ref 478))) [])]), (.loc 2)]),
  .ret (.tup [(.loc 1), (.loc 2), (.loc 3)])]

noncomputable def ns__law_solved : List Str := [(Str.ofString "names"), (Str.ofString "pairs"), (Str.ofString "store"), (Str.ofString "table"), (Str.ofString "top"), (Str.ofString "left"), (Str.ofString "right")]
noncomputable def b__law_solved : List MS := [.asg (.tup [2, 3, 4]) (.call (.cst (.val (.ref 485))) [(.loc 0)]),
  .for_ (.tup [5, 6]) (.loc 1) [.ife (.not (.call (.cst (.val (.ref 438))) [(.loc 2), (.meth (.loc 2) 39 [(.loc 5), (.loc 3)]), (.meth (.loc 2) 39 [(.loc 6), (.loc 3)]), (.cst (.bool true))])) [.ret (.cst .none)] []],
  .ret (.meth (.loc 2) 40 [(.loc 4), .dict0])]

noncomputable def ns__law_sides_one : List Str := [(Str.ofString "names"), (Str.ofString "pairs"), (Str.ofString "store"), (Str.ofString "table"), (Str.ofString "top"), (Str.ofString "cells"), (Str.ofString "left"), (Str.ofString "right"), (Str.ofString "one"), (Str.ofString "two"), (Str.ofString "before"), (Str.ofString "numbers")]
noncomputable def b__law_sides_one : List MS := [.asg (.tup [2, 3, 4]) (.call (.cst (.val (.ref 485))) [(.loc 0)]),
  .asg (.loc 5) (.lst []),
  .for_ (.tup [6, 7]) (.loc 1) [.expr (.meth (.loc 5) 13 [(.tup [(.meth (.loc 2) 39 [(.loc 6), (.loc 3)]), (.meth (.loc 2) 39 [(.loc 7), (.loc 3)])])])],
  .for_ (.tup [8, 9]) (.loc 5) [.ife (.not (.call (.cst (.val (.ref 438))) [(.loc 2), (.loc 8), (.loc 9), (.cst (.bool true))])) [.ret (.cst (.bool false))] []],
  .asg (.attr (.loc 2) 5) (.call (.cst (.bi .len)) [(.attr (.loc 2) 2)]),
  .for_ (.tup [8, 9]) (.loc 5) [.asg (.loc 10) (.meth (.loc 2) 32 []),
  .ife (.or (.not (.call (.cst (.val (.ref 438))) [(.loc 2), (.loc 8), (.loc 9), (.cst (.bool true))])) (.cmp .NotEq (.meth (.loc 2) 32 []) (.loc 10))) [.ret (.cst (.bool false))] [],
  .asg (.loc 11) .dict0,
  .ife (.cmp .NotEq (.meth (.loc 2) 40 [(.loc 8), (.loc 11)]) (.meth (.loc 2) 40 [(.loc 9), (.loc 11)])) [.ret (.cst (.bool false))] []],
  .ret (.cst (.bool true))]

noncomputable def ns__law_trials_right : List Str := [(Str.ofString "names"), (Str.ofString "pairs"), (Str.ofString "solved"), (Str.ofString "store"), (Str.ofString "table"), (Str.ofString "top"), (Str.ofString "left"), (Str.ofString "right"), (Str.ofString "one"), (Str.ofString "two"), (Str.ofString "before")]
noncomputable def b__law_trials_right : List MS := [.asg (.tup [3, 4, 5]) (.call (.cst (.val (.ref 485))) [(.loc 0)]),
  .asg (.loc 6) (.tup [(.cst (.str (Str.ofString "s"))), (.meth (.loc 0) 20 [(.cst (.str (Str.ofString "row"))), (.cst (.int 5))]), (.call (.cst (.bi .tuple)) [(.slc (.bin .Add (.comp (.sub (.loc 0) (.cst (.int 0))) [0] true (.loc 1)) (.bin .Mult (.lst [(.tup [(.cst (.str (Str.ofString "i"))), (.cst (.int 1))])]) (.cst (.int 5)))) (.cst .none) (.cst (.int 5)) (.cst .none))])]),
  .asg (.loc 7) (.tup [(.cst (.str (Str.ofString "s"))), (.meth (.loc 0) 20 [(.cst (.str (Str.ofString "row"))), (.cst (.int 5))]), (.call (.cst (.bi .tuple)) [(.slc (.bin .Add (.comp (.sub (.loc 0) (.cst (.int 1))) [0] true (.loc 1)) (.bin .Mult (.lst [(.tup [(.cst (.str (Str.ofString "i"))), (.cst (.int 1))])]) (.cst (.int 5)))) (.cst .none) (.cst (.int 5)) (.cst .none))])]),
  .asg (.loc 8) (.meth (.loc 3) 39 [(.loc 6), (.loc 4)]),
  .asg (.loc 9) (.meth (.loc 3) 39 [(.loc 7), (.loc 4)]),
  .asg (.loc 10) (.tup [(.call (.cst (.bi .list)) [(.attr (.loc 3) 2)]), (.call (.cst (.bi .list)) [(.attr (.loc 3) 4)]), (.attr (.loc 3) 5), (.attr (.loc 3) 6)]),
  .ife (.cmp .NotEq (.call (.cst (.val (.ref 452))) [(.loc 3), (.loc 8), (.loc 9), (.cst (.bool true))]) (.loc 2)) [.ret (.cst (.bool false))] [],
  .ife (.cmp .NotEq (.tup [(.attr (.loc 3) 2), (.attr (.loc 3) 4), (.attr (.loc 3) 5), (.attr (.loc 3) 6)]) (.loc 10)) [.ret (.cst (.bool false))] [],
  .ret (.cmp .Eq (.call (.cst (.val (.ref 438))) [(.loc 3), (.loc 8), (.loc 9), (.cst (.bool true))]) (.loc 2))]

noncomputable def ns_law : List Str := [(Str.ofString "script"), (Str.ofString "well"), (Str.ofString "names"), (Str.ofString "pairs"), (Str.ofString "lap"), (Str.ofString "left"), (Str.ofString "due"), (Str.ofString "rows"), (Str.ofString "row")]
noncomputable def b_law : List MS := [.asg (.loc 1) (.lst [(.slc (.loc 0) (.cst .none) (.cst (.int 90)) (.cst .none)), (.cst (.int 0))]),
  .asg (.loc 2) (.call (.cst (.val (.ref 154))) []),
  .asg (.loc 3) (.lst []),
  .for_ (.loc 4) (.call (.cst (.bi .range)) [(.call (.cst (.val (.ref 466))) [(.loc 1), (.cst (.int 6))])]) [.asg (.loc 5) (.call (.cst (.val (.ref 473))) [(.loc 1), (.loc 2), (.cst (.int 2))]),
  .expr (.meth (.loc 3) 13 [(.tup [(.loc 5), (.call (.cst (.val (.ref 473))) [(.loc 1), (.loc 2), (.cst (.int 2))])])])],
  .asg (.loc 6) (.call (.cst (.val (.ref 492))) [(.loc 2), (.loc 3)]),
  .asg (.loc 7) (.lst [(.slc (.loc 3) (.cst .none) (.cst .none) (.neg (.cst (.int 1)))), (.comp (.tup [(.loc 1), (.loc 0)]) [0, 1] false (.loc 3)), (.bin .Add (.slc (.loc 3) (.cst .none) (.cst (.int 1)) (.cst .none)) (.loc 3))]),
  .for_ (.loc 8) (.loc 7) [.ife (.cmp .NotEq (.call (.cst (.val (.ref 492))) [(.loc 2), (.loc 8)]) (.loc 6)) [.ret (.cst (.bool false))] []],
  .ife (.and (.cmp .IsNot (.loc 6) (.cst .none)) (.not (.call (.cst (.val (.ref 499))) [(.loc 2), (.loc 3)]))) [.ret (.cst (.bool false))] [],
  .ret (.call (.cst (.val (.ref 504))) [(.loc 2), (.loc 3), (.cmp .IsNot (.loc 6) (.cst .none))])]
end Mine.Lake

set_option tactic.hygienic false
namespace Mine.Lake

/- the calculus step by step; its continuations are kept shut: what follows is not opened before it is reached -/
noncomputable abbrev NP := List MV → Objs → Prop
noncomputable def KS (S : Sg) (r : List MS) (N Ct : NP) (R : EP) : NP := fun loc st => wpSs S r loc st N Ct R
noncomputable def KI (S : Sg) (a b : List MS) (loc : List MV) (N Ct : NP) (R : EP) (c : Bool) (st : Objs) : Prop := if c = true then wpSs S a loc st N Ct R else wpSs S b loc st N Ct R
noncomputable def pick (o : Option MV) (A : MV → Prop) (B : Prop) : Prop := match o with
  | some x => A x
  | none => B
noncomputable abbrev LoopF (S : Sg) (t : MT) (b : List MS) (loc : List MV) (N : NP) (R : EP) (v : MV) (st1 : Objs) (xs : List MV) : Prop := xs.length ≤ lim ∧
      ∃ Inv : Nat → List MV → Objs → Prop, Inv 0 loc st1 ∧ ∀ k loc1 st2, Inv k loc1 st2 → itemsM st2 v = some xs ∧
        pick xs[k]? (fun x => wpG S t x loc1 st2 fun loc2 st3 => wpSs S b loc2 st3 (fun l s => Inv (k + 1) l s) (fun l s => Inv (k + 1) l s) R) (k = xs.length → N loc1 st2)
noncomputable def KF (S : Sg) (t : MT) (b : List MS) (loc : List MV) (N : NP) (R : EP) : EP := fun v st1 => opt (itemsM st1 v) (LoopF S t b loc N R v st1)
noncomputable def KW (S : Sg) (b : List MS) (loc : List MV) (Inv : Nat → NP) (n : Nat) (N : NP) (R : EP) (c : Bool) (st : Objs) : Prop := if c = true then wpSs S b loc st (fun l s => ∃ m, m < n ∧ Inv m l s) (fun l s => ∃ m, m < n ∧ Inv m l s) R else N loc st
noncomputable abbrev LoopW (S : Sg) (t : ME) (b : List MS) (loc : List MV) (st : Objs) (N : NP) (R : EP) : Prop := ∃ Inv : Nat → List MV → Objs → Prop, (∃ n, Inv n loc st) ∧ ∀ n loc1 st1, Inv n loc1 st1 → wpB S loc1 t st1 (KW S b loc1 Inv n N R)
noncomputable def KM (S : Sg) (loc : List MV) (m : Nat) (es : List ME) (Q : EP) : EP := fun w st0 => (mval S w m st0).isSome = true ∧ wpEs S loc es st0 fun vs st1 => mval S w m st1 = mval S w m st0 ∧ methM S w m vs st1 Q
noncomputable def KC (one : Bool) (elt : ME) (st1 : Objs) (Q : EP) (xs : List MV) : Prop := xs.length ≤ lim ∧ opt (compL one elt xs) fun ys => Q (.obj st1.length) (st1 ++ [.list ys])
noncomputable def KD (N : NP) (loc : List MV) (w k : MV) (st : Objs) : Prop := match w, k with
      | .obj j, .int n => match st[j]? with
        | some (.list xs) => 0 ≤ n ∧ n < big ∧ n ≤ xs.length ∧ xs.length ≤ lim ∧ N loc (st.set j (.list (xs.take n.toNat)))
        | _ => False
      | _, _ => False
noncomputable def optP {α β : Type} (x : Option (α × β)) (Q : α → β → Prop) : Prop := opt x fun r => Q r.1 r.2

section reads
variable {st : Objs} {k : Nat} {xs vs : List MV} {n : Int} {v : MV}
theorem attrU {C : Addr} {as : List (Nat × MV)} (h : st[k]? = some (.inst C as)) (a : Nat) : attrM st (.obj k) a = lookA as a := by
  unfold attrM; dsimp only; rw [h]
theorem setAttrU {C : Addr} {as : List (Nat × MV)} (h : st[k]? = some (.inst C as)) (a : Nat) : setAttrM st (.obj k) a v = if a < 13 ∧ as.length < 13 ∧ plainV v = true then some (st.set k (.inst C (putA as a v))) else none := by
  unfold setAttrM; dsimp only; rw [h]
theorem subL (h : st[k]? = some (.list xs)) : subM st (.obj k) (.int n) = if 0 ≤ n ∧ n < big then xs[n.toNat]? else none := by
  unfold subM; dsimp only; rw [h]
theorem subD {kvs : List (Int × MV)} (h : st[k]? = some (.dictI kvs)) : subM st (.obj k) (.int n) = lookM kvs n := by
  unfold subM; dsimp only; rw [h]
theorem inD {kvs : List (Int × MV)} (h : st[k]? = some (.dictI kvs)) : inM st (.int n) (.obj k) = some (lookM kvs n).isSome := by
  unfold inM; dsimp only; rw [h]
theorem inU {kvs : List (Int × MV)} (h : st[k]? = some (.dictI kvs)) : cmpM st .In (.int n) (.obj k) = some (lookM kvs n).isSome := inD h
theorem ninU {kvs : List (Int × MV)} (h : st[k]? = some (.dictI kvs)) : cmpM st .NotIn (.int n) (.obj k) = some (!(lookM kvs n).isSome) := by
  show (inM st (.int n) (.obj k)).map (!·) = _
  rw [inD h]; rfl
theorem setL (h : st[k]? = some (.list xs)) : setSubM st (.obj k) (.int n) v = if 0 ≤ n ∧ n < big ∧ n < xs.length then some (st.set k (.list (xs.set n.toNat v))) else none := by
  unfold setSubM; dsimp only; rw [h]
theorem setD {kvs : List (Int × MV)} (h : st[k]? = some (.dictI kvs)) : setSubM st (.obj k) (.int n) v = if kvs.length ≤ lim then some (st.set k (.dictI (putM kvs n v))) else none := by
  unfold setSubM; dsimp only; rw [h]
theorem setS {t : Str} {kvs : List (Str × MV)} (h : st[k]? = some (.dictS kvs)) : setSubM st (.obj k) (.str t) v = if kvs.length ≤ lim then some (st.set k (.dictS (putM kvs t v))) else none := by
  unfold setSubM; dsimp only; rw [h]
theorem setT {ks : List MV} {key : List Int} {kvs : List (List Int × MV)} (h : st[k]? = some (.dictT kvs)) (e : keyOf ks = some key) : setSubM st (.obj k) (.tup ks) v = if kvs.length ≤ lim then some (st.set k (.dictT (putM kvs key v))) else none := by
  unfold setSubM; dsimp only; rw [h]; dsimp only; rw [e]
theorem lenL (h : st[k]? = some (.list xs)) : callB .len [.obj k] st = if xs.length ≤ lim then some (.int xs.length, st) else none := by
  unfold callB; dsimp only; rw [h]
theorem lenD {kvs : List (Int × MV)} (h : st[k]? = some (.dictI kvs)) : callB .len [.obj k] st = if kvs.length ≤ lim then some (.int kvs.length, st) else none := by
  unfold callB; dsimp only; rw [h]
theorem copyL (h : st[k]? = some (.list xs)) : callB .list [.obj k] st = if xs.length ≤ lim then some (.obj st.length, st ++ [.list xs]) else none := by
  unfold callB; dsimp only; rw [h]
theorem copyD {kvs : List (Int × MV)} (h : st[k]? = some (.dictI kvs)) : callB .list [.obj k] st = if kvs.length ≤ lim then some (.obj st.length, st ++ [.list (kvs.map fun kv => .int kv.1)]) else none := by
  unfold callB; dsimp only; rw [h]
theorem tupL (h : listM st v = some xs) : callB .tuple [v] st = some (.tup xs, st) := by
  unfold callB; dsimp only; rw [h]
theorem listU (h : st[k]? = some (.list xs)) : listM st (.obj k) = if xs.length ≤ lim then some xs else none := by
  unfold listM; dsimp only; rw [h]
theorem itemsU (h : st[k]? = some (.list xs)) : itemsM st (.obj k) = some xs := by
  unfold itemsM; dsimp only; rw [h]
end reads

section step
variable {S : Sg} {loc : List MV} {st : Objs} {N Ct : NP} {R : EP} {Q : EP}
theorem opt_of {α : Type} {x : Option α} {a : α} {Q : α → Prop} (h : x = some a) (q : Q a) : opt x Q := by subst h; exact q
theorem optP_of {α β : Type} {x : Option (α × β)} {a : α} {b : β} {Q : α → β → Prop} (h : x = some (a, b)) (q : Q a b) : optP x Q := by subst h; exact q
theorem if_t {c : Bool} {P Q : Prop} (h : c = true) (q : P) : if c = true then P else Q := by subst h; exact q
theorem if_f {c : Bool} {P Q : Prop} (h : c = false) (q : Q) : if c = true then P else Q := by subst h; exact q
theorem s_F {b : List MS} (q : wpSs S b loc st (fun _ st1 => Q .none st1) (fun _ _ => False) Q) : wpF S b loc st Q := q
theorem s_nil (q : N loc st) : wpSs S [] loc st N Ct R := q
theorem s_cons {s : MS} {r : List MS} (q : wpS S s loc st (KS S r N Ct R) Ct R) : wpSs S (s :: r) loc st N Ct R := q
theorem s_KS {r : List MS} (q : wpSs S r loc st N Ct R) : KS S r N Ct R loc st := q
theorem s_KI1 {a b : List MS} {c : Bool} (h : c = true) (q : wpSs S a loc st N Ct R) : KI S a b loc N Ct R c st := by subst h; exact q
theorem s_KI0 {a b : List MS} {c : Bool} (h : c = false) (q : wpSs S b loc st N Ct R) : KI S a b loc N Ct R c st := by subst h; exact q
theorem s_expr {e : ME} (q : wpE S loc e st fun _ st1 => N loc st1) : wpS S (.expr e) loc st N Ct R := q
theorem s_asg {t : MT} {e : ME} (q : wpE S loc e st fun v st1 => wpG S t v loc st1 N) : wpS S (.asg t e) loc st N Ct R := q
theorem s_augL {i : Nat} {a b : Int} (h : getL loc i = some (.int a)) (q : N (loc.set i (.int (a + b))) st) : wpS S (.augL i .Add (.cst (.int b))) loc st N Ct R := by
  exact opt_of (x := getL loc i) (a := .int a) h q
theorem s_ret {e : ME} (q : wpE S loc e st R) : wpS S (.ret e) loc st N Ct R := q
theorem s_ife {t : ME} {a b : List MS} (q : wpB S loc t st (KI S a b loc N Ct R)) : wpS S (.ife t a b) loc st N Ct R := q
theorem s_for {t : MT} {it : ME} {b : List MS} (q : wpE S loc it st (KF S t b loc N R)) : wpS S (.for_ t it b) loc st N Ct R := q
theorem s_KF {t : MT} {b : List MS} {v : MV} (q : opt (itemsM st v) (LoopF S t b loc N R v st)) : KF S t b loc N R v st := q
theorem s_wh {t : ME} {b : List MS} (q : LoopW S t b loc st N R) : wpS S (.wh t b) loc st N Ct R := q
theorem s_del {o lo : ME} (q : wpE S loc o st fun w st1 => wpE S loc lo st1 fun k st2 => KD N loc w k st2) : wpS S (.delS o lo) loc st N Ct R := q
theorem k_del {j n : Nat} {xs : List MV} (h : st[j]? = some (.list xs)) (hn : n ≤ xs.length) (hl : xs.length ≤ lim) (q : N loc (st.set j (.list (xs.take n)))) : KD N loc (.obj j) (.int n) st := by
  show (match st[j]? with
        | some (.list xs) => 0 ≤ (n : Int) ∧ (n : Int) < big ∧ (n : Int) ≤ xs.length ∧ xs.length ≤ lim ∧ N loc (st.set j (.list (xs.take (n : Int).toNat)))
        | _ => False)
  rw [h]
  exact ⟨Int.natCast_nonneg n, by unfold big lim at *; lia, Int.ofNat_le.mpr hn, hl, q⟩
theorem s_augS {o i : ME} {w k : MV} {a b : Int} {st4 : Objs} (ho : ∀ Q : EP, Q w st → wpE S loc o st Q) (hi : ∀ Q : EP, Q k st → wpE S loc i st Q) (h : subM st w k = some (.int a)) (h2 : setSubM st w k (.int (a + b)) = some st4) (q : N loc st4) : wpS S (.augS o i .Add (.cst (.int b))) loc st N Ct R := by
  exact ho _ (hi _ (opt_of h (opt_of h2 q)))
theorem e_negG {a : ME} {n : Int} (ha : ∀ Q : EP, Q (.int n) st → wpE S loc a st Q) (q : Q (.int (-n)) st) : wpE S loc (.neg a) st Q := by
  exact ha _ q
theorem s_cont (q : Ct loc st) : wpS S .cont loc st N Ct R := q
theorem s_KW1 {b : List MS} {Inv : Nat → NP} {n : Nat} {c : Bool} (h : c = true) (q : wpSs S b loc st (fun l s => ∃ m, m < n ∧ Inv m l s) (fun l s => ∃ m, m < n ∧ Inv m l s) R) : KW S b loc Inv n N R c st := by subst h; exact q
theorem s_KW0 {b : List MS} {Inv : Nat → NP} {n : Nat} {c : Bool} (h : c = false) (q : N loc st) : KW S b loc Inv n N R c st := by subst h; exact q
theorem f_some {o : Option MV} {x : MV} {A : MV → Prop} {B : Prop} (h : o = some x) (q : A x) : pick o A B := by subst h; exact q
theorem f_none {xs : List MV} {k : Nat} {A : MV → Prop} {B : Prop} (h : ¬ k < xs.length) (q : B) : pick xs[k]? A B := by rw [List.getElem?_eq_none (Nat.le_of_not_lt h)]; exact q
theorem g_loc {i : Nat} {v : MV} (h : i < loc.length) (q : N (loc.set i v) st) : wpG S (.loc i) v loc st N := ⟨h, q⟩
theorem g_locE {i : Nat} {v : MV} (l : List MV) (h : i < loc.length) (e : loc.set i v = l) (q : N l st) : wpG S (.loc i) v loc st N := ⟨h, by rw [e]; exact q⟩
theorem g_tup {is : List Nat} {v : MV} {xs : List MV} (h : v = .tup xs) (q : opt (setAll loc is xs) fun l => N l st) : wpG S (.tup is) v loc st N := by subst h; exact q
theorem g_attr {o : ME} {a : Nat} {v : MV} (q : wpE S loc o st fun w st1 => opt (setAttrM st1 w a v) fun st2 => N loc st2) : wpG S (.attr o a) v loc st N := q
theorem g_sub {o i : ME} {v : MV} (q : wpE S loc o st fun w st1 => wpE S loc i st1 fun k st2 => opt (setSubM st2 w k v) fun st3 => N loc st3) : wpG S (.sub o i) v loc st N := q
noncomputable def isB : MV → Bool
  | .unb => false
  | _ => true
theorem l_of {i : Nat} {v : MV} (h : loc[i]? = some v) (hv : isB v = true) : getL loc i = some v := by
  unfold getL; rw [h]; cases v <;> first | rfl | cases hv
theorem e_loc {i : Nat} {v : MV} (h : loc[i]? = some v) (hv : isB v = true) (q : Q v st) : wpE S loc (.loc i) st Q := opt_of (Q := fun v => Q v st) (l_of h hv) q
theorem e_cst {v : MV} (q : Q v st) : wpE S loc (.cst v) st Q := q
theorem e_attr {e : ME} {a : Nat} (q : wpE S loc e st fun v st1 => opt (attrM st1 v a) fun x => Q x st1) : wpE S loc (.attr e a) st Q := q
theorem e_sub {e i : ME} (q : wpE S loc e st fun v st1 => wpE S loc i st1 fun k st2 => opt (subM st2 v k) fun x => Q x st2) : wpE S loc (.sub e i) st Q := q
theorem e_slc {e lo hi sp : ME} (q : wpE S loc e st fun v st1 => wpE S loc lo st1 fun a st2 => wpE S loc hi st2 fun b st3 => wpE S loc sp st3 fun d st4 =>
      opt (listS S st4 v) fun xs => opt (slcL xs a b d) fun ys => Q (.obj st4.length) (st4 ++ [.list ys])) : wpE S loc (.slc e lo hi sp) st Q := q
theorem e_tup {es : List ME} (q : wpEs S loc es st fun vs st1 => Q (.tup vs) st1) : wpE S loc (.tup es) st Q := q
theorem e_lst {es : List ME} (q : wpEs S loc es st fun vs st1 => Q (.obj st1.length) (st1 ++ [.list vs])) : wpE S loc (.lst es) st Q := q
theorem e_dictI (q : Q (.obj st.length) (st ++ [.dictI []])) : wpE S loc .dict0 st Q := ⟨_, .inl rfl, q⟩
theorem e_bin {op : Operator} {a b : ME} (q : wpE S loc a st fun x st1 => wpE S loc b st1 fun y st2 => optP (binM op x y st2) Q) : wpE S loc (.bin op a b) st Q := q
theorem e_neg {n : Int} (q : Q (.int (-n)) st) : wpE S loc (.neg (.cst (.int n))) st Q := q
theorem e_cmp {op : CmpOp} {a b : ME} (q : wpE S loc a st fun x st1 => wpE S loc b st1 fun y st2 => opt (cmpM st2 op x y) fun c => Q (.bool c) st2) : wpE S loc (.cmp op a b) st Q := q
theorem e_or {a b : ME} (q : wpE S loc a st fun x st1 => opt (truthM x) fun c => if c = true then Q x st1 else wpE S loc b st1 Q) : wpE S loc (.or a b) st Q := q
theorem e_ife {op : CmpOp} {x y a b : ME} (q : wpE S loc x st fun u st1 => wpE S loc y st1 fun v st2 => opt (cmpM st2 op u v) fun c => if c = true then wpE S loc a st2 Q else wpE S loc b st2 Q) : wpE S loc (.ife (.cmp op x y) a b) st Q := q
theorem e_comp {elt it : ME} {tgt : List Nat} {one : Bool} (q : wpE S loc it st fun v st1 => opt (itemsM st1 v) (KC one elt st1 Q)) : wpE S loc (.comp elt tgt one it) st Q := q
theorem k_comp {elt : ME} {one : Bool} {xs ys : List MV} (hl : xs.length ≤ lim) (h : compL one elt xs = some ys) (q : Q (.obj st.length) (st ++ [.list ys])) : KC one elt st Q xs := ⟨hl, opt_of h q⟩
theorem e_call {a : Addr} {es : List ME} (q : wpEs S loc es st fun vs st1 => S.C a vs st1 Q) : wpE S loc (.call (.cst (.val (.ref a))) es) st Q := q
theorem e_callB {b : Bi} {es : List ME} (q : wpEs S loc es st fun vs st1 => optP (callB b vs st1) Q) : wpE S loc (.call (.cst (.bi b)) es) st Q := q
theorem e_meth {o : ME} {m : Nat} {es : List ME} (q : wpE S loc o st (KM S loc m es Q)) : wpE S loc (.meth o m es) st Q := q
theorem es_nil {Q : List MV → Objs → Prop} (q : Q [] st) : wpEs S loc [] st Q := q
theorem es_cons {e : ME} {r : List ME} {Q : List MV → Objs → Prop} (q : wpE S loc e st fun v st1 => wpEs S loc r st1 fun vs st2 => Q (v :: vs) st2) : wpEs S loc (e :: r) st Q := q
theorem b_not {x : ME} {Q : Bool → Objs → Prop} (q : wpB S loc x st fun c => Q (!c)) : wpB S loc (.not x) st Q := q
theorem b_cmp {op : CmpOp} {a b : ME} {Q : Bool → Objs → Prop} (q : wpE S loc a st fun x st1 => wpE S loc b st1 fun y st2 => opt (cmpM st2 op x y) fun c => Q c st2) : wpB S loc (.cmp op a b) st Q := q
theorem b_and {a b : ME} {Q : Bool → Objs → Prop} (q : wpB S loc a st fun c st1 => if c = true then wpB S loc b st1 Q else Q false st1) : wpB S loc (.and a b) st Q := q
theorem b_or {a b : ME} {Q : Bool → Objs → Prop} (q : wpB S loc a st fun c st1 => if c = true then Q true st1 else wpB S loc b st1 Q) : wpB S loc (.or a b) st Q := q
theorem b_call {f : ME} {es : List ME} {Q : Bool → Objs → Prop} (q : wpE S loc (.call f es) st fun v st1 => opt (truthM v) fun c => Q c st1) : wpB S loc (.call f es) st Q := q
theorem b_meth {o : ME} {m : Nat} {es : List ME} {Q : Bool → Objs → Prop} (q : wpE S loc (.meth o m es) st fun v st1 => opt (truthM v) fun c => Q c st1) : wpB S loc (.meth o m es) st Q := q
theorem b_cst {v : MV} {Q : Bool → Objs → Prop} (q : opt (truthM v) fun c => Q c st) : wpB S loc (.cst v) st Q := q
theorem b_loc {i : Nat} {Q : Bool → Objs → Prop} (q : wpE S loc (.loc i) st fun v st1 => opt (truthM v) fun c => Q c st1) : wpB S loc (.loc i) st Q := q

/- pure expressions, at once -/
noncomputable def Ev (S : Sg) (loc : List MV) (st : Objs) (e : ME) (v : MV) : Prop := ∀ Q : EP, Q v st → wpE S loc e st Q
noncomputable def Evs (S : Sg) (loc : List MV) (st : Objs) (es : List ME) (vs : List MV) : Prop := ∀ Q : List MV → Objs → Prop, Q vs st → wpEs S loc es st Q
section ev
variable {e i : ME} {es : List ME} {v k x : MV} {vs : List MV}
theorem ev_loc {i : Nat} (h : loc[i]? = some v) (hv : isB v = true) : Ev S loc st (.loc i) v := fun _ q => e_loc h hv q
theorem ev_cst : Ev S loc st (.cst v) v := fun _ q => q
theorem ev_attr {a : Nat} (h : Ev S loc st e v) (h2 : attrM st v a = some x) : Ev S loc st (.attr e a) x := fun Q q => h (fun v st1 => opt (attrM st1 v a) fun x => Q x st1) (opt_of h2 q)
theorem ev_sub (h : Ev S loc st e v) (hi : Ev S loc st i k) (h2 : subM st v k = some x) : Ev S loc st (.sub e i) x := fun Q q => h (fun v st1 => wpE S loc i st1 fun k st2 => opt (subM st2 v k) fun x => Q x st2) (hi (fun k st2 => opt (subM st2 v k) fun x => Q x st2) (opt_of h2 q))
theorem ev_bin {op : Operator} (h : Ev S loc st e v) (hi : Ev S loc st i k) (h2 : binM op v k st = some (x, st)) : Ev S loc st (.bin op e i) x := fun Q q => h (fun v st1 => wpE S loc i st1 fun k st2 => optP (binM op v k st2) Q) (hi (fun k st2 => optP (binM op v k st2) Q) (optP_of h2 q))
theorem ev_tup (h : Evs S loc st es vs) : Ev S loc st (.tup es) (.tup vs) := fun Q q => h (fun vs st1 => Q (.tup vs) st1) q
theorem evs_nil : Evs S loc st [] [] := fun _ q => q
theorem evs_cons (h : Ev S loc st e v) (hs : Evs S loc st es vs) : Evs S loc st (e :: es) (v :: vs) := fun Q q => h (fun v st1 => wpEs S loc es st1 fun vs st2 => Q (v :: vs) st2) (hs (fun vs st2 => Q (v :: vs) st2) q)
theorem e_ev (h : Ev S loc st e v) (q : Q v st) : wpE S loc e st Q := h Q q
theorem es_ev {Q : List MV → Objs → Prop} (h : Evs S loc st es vs) (q : Q vs st) : wpEs S loc es st Q := h Q q
theorem b_ev {op : CmpOp} {Q : Bool → Objs → Prop} {c : Bool} (h : Ev S loc st e v) (hi : Ev S loc st i k) (h2 : cmpM st op v k = some c) (q : Q c st) : wpB S loc (.cmp op e i) st Q := h (fun v st1 => wpE S loc i st1 fun k st2 => opt (cmpM st2 op v k) fun c => Q c st2) (hi (fun k st2 => opt (cmpM st2 op v k) fun c => Q c st2) (opt_of h2 q))
theorem s_asgL {j : Nat} {r : List MS} (h : Ev S loc st e v) (hj : j < loc.length) (q : wpSs S r (loc.set j v) st N Ct R) : wpSs S (.asg (.loc j) e :: r) loc st N Ct R := h (fun v st1 => wpG S (.loc j) v loc st1 (KS S r N Ct R)) ⟨hj, q⟩
theorem s_retE {r : List MS} (h : Ev S loc st e v) (q : R v st) : wpSs S (.ret e :: r) loc st N Ct R := h R q
theorem s_ifT {op : CmpOp} {a b r : List MS} {c : Bool} (h : Ev S loc st e v) (hi : Ev S loc st i k) (h2 : cmpM st op v k = some c) (hc : c = true) (q : wpSs S a loc st (KS S r N Ct R) Ct R) : wpSs S (.ife (.cmp op e i) a b :: r) loc st N Ct R :=
  b_ev (Q := KI S a b loc (KS S r N Ct R) Ct R) h hi h2 (s_KI1 hc q)
theorem s_ifF {op : CmpOp} {a b r : List MS} {c : Bool} (h : Ev S loc st e v) (hi : Ev S loc st i k) (h2 : cmpM st op v k = some c) (hc : c = false) (q : wpSs S b loc st (KS S r N Ct R) Ct R) : wpSs S (.ife (.cmp op e i) a b :: r) loc st N Ct R :=
  b_ev (Q := KI S a b loc (KS S r N Ct R) Ct R) h hi h2 (s_KI0 hc q)
theorem s_ifN {op : CmpOp} {a r : List MS} {c : Bool} (h : Ev S loc st e v) (hi : Ev S loc st i k) (h2 : cmpM st op v k = some c) (hc : c = false) (q : wpSs S r loc st N Ct R) : wpSs S (.ife (.cmp op e i) a [] :: r) loc st N Ct R := s_ifF h hi h2 hc q
end ev
/- whole statements, their continuation shut -/
noncomputable def KA (S : Sg) (j : Nat) (r : List MS) (N Ct : NP) (R : EP) (loc : List MV) : EP := fun v st1 => wpG S (.loc j) v loc st1 (KS S r N Ct R)
noncomputable def KX (S : Sg) (r : List MS) (N Ct : NP) (R : EP) (loc : List MV) : EP := fun _ st1 => wpSs S r loc st1 N Ct R
noncomputable def KB (Q : Bool → Objs → Prop) : EP := fun v st1 => opt (truthM v) fun c => Q c st1
theorem s_asgK {j : Nat} {e : ME} {r : List MS} (q : wpE S loc e st (KA S j r N Ct R loc)) : wpSs S (.asg (.loc j) e :: r) loc st N Ct R := q
theorem s_exprK {e : ME} {r : List MS} (q : wpE S loc e st (KX S r N Ct R loc)) : wpSs S (.expr e :: r) loc st N Ct R := q
theorem s_retK {e : ME} {r : List MS} (q : wpE S loc e st R) : wpSs S (.ret e :: r) loc st N Ct R := q
theorem s_ifK {t : ME} {a b r : List MS} (q : wpB S loc t st (KI S a b loc (KS S r N Ct R) Ct R)) : wpSs S (.ife t a b :: r) loc st N Ct R := q
theorem s_KA {j : Nat} {r : List MS} {v : MV} (h : j < loc.length) (q : wpSs S r (loc.set j v) st N Ct R) : KA S j r N Ct R loc v st := ⟨h, q⟩
theorem s_KX {r : List MS} {v : MV} (q : wpSs S r loc st N Ct R) : KX S r N Ct R loc v st := q
theorem s_KB {v : MV} {Q : Bool → Objs → Prop} (q : opt (truthM v) fun c => Q c st) : KB Q v st := q
theorem b_callK {f : ME} {es : List ME} {Q : Bool → Objs → Prop} (q : wpE S loc (.call f es) st (KB Q)) : wpB S loc (.call f es) st Q := q
theorem b_methK {o : ME} {m : Nat} {es : List ME} {Q : Bool → Objs → Prop} (q : wpE S loc (.meth o m es) st (KB Q)) : wpB S loc (.meth o m es) st Q := q
theorem c_call {a : Addr} {es : List ME} {vs : List MV} (h : Evs S loc st es vs) (q : S.C a vs st Q) : wpE S loc (.call (.cst (.val (.ref a))) es) st Q := h (fun vs st1 => S.C a vs st1 Q) q
theorem c_callB {b : Bi} {es : List ME} {vs : List MV} {r : MV} {st2 : Objs} (h : Evs S loc st es vs) (h2 : callB b vs st = some (r, st2)) (q : Q r st2) : wpE S loc (.call (.cst (.bi b)) es) st Q := h (fun vs st1 => optP (callB b vs st1) Q) (optP_of h2 q)
theorem c_meth {o : ME} {w : MV} {m : Nat} {es : List ME} {vs : List MV} {x : Value} (h : Ev S loc st o w) (hs : Evs S loc st es vs) (q : mval S w m st = some x ∧ methM S w m vs st Q) : wpE S loc (.meth o m es) st Q :=
  h (KM S loc m es Q) ⟨by rw [q.1]; rfl, hs (fun vs st1 => mval S w m st1 = mval S w m st ∧ methM S w m vs st1 Q) ⟨rfl, q.2⟩⟩

/- methods -/
theorem m_ask {w : MV} {m : Nat} {es : List ME} {x : Value} (h : mval S w m st = some x) (q : wpEs S loc es st fun vs st1 => mval S w m st1 = some x ∧ methM S w m vs st1 Q) : KM S loc m es Q w st := by
  unfold KM; rw [h]; exact ⟨rfl, q⟩
theorem k_app {k : Nat} {xs : List MV} {v : MV} (h : st[k]? = some (.list xs)) (hl : xs.length ≤ lim) (q : Q .none (st.set k (.list (xs ++ [v])))) : mval S (.obj k) 13 st = some (.builtin "list.append") ∧ methM S (.obj k) 13 [v] st Q := by
  exact ⟨mval_at h, by rw [methM_at h]; exact ⟨_, rfl, hl, q⟩⟩
theorem c_app {o : ME} {es : List ME} {k : Nat} {xs : List MV} {v : MV} (h : Ev S loc st o (.obj k)) (hs : Evs S loc st es [v]) (h1 : st[k]? = some (.list xs)) (hl : xs.length ≤ lim) (q : Q .none (st.set k (.list (xs ++ [v])))) : wpE S loc (.meth o 13 es) st Q := c_meth h hs (k_app h1 hl q)
theorem v_app {k : Nat} {xs : List MV} (h : st[k]? = some (.list xs)) : mval S (.obj k) 13 st = some (.builtin "list.append") := by
  exact mval_at h
theorem k_pop {k : Nat} {xs : List MV} {v : MV} (h : st[k]? = some (.list xs)) (hl : xs.length ≤ lim) (e : xs.getLast? = some v) (q : Q v (st.set k (.list xs.dropLast))) : mval S (.obj k) 14 st = some (.builtin "list.pop") ∧ methM S (.obj k) 14 [] st Q := by
  exact ⟨mval_at h, by rw [methM_at h]; exact ⟨rfl, hl, opt_of e q⟩⟩
theorem c_pop {o : ME} {k : Nat} {xs : List MV} {v : MV} (h : Ev S loc st o (.obj k)) (h1 : st[k]? = some (.list xs)) (hl : xs.length ≤ lim) (e : xs.getLast? = some v) (q : Q v (st.set k (.list xs.dropLast))) : wpE S loc (.meth o 14 []) st Q := c_meth h evs_nil (k_pop h1 hl e q)
theorem v_pop {k : Nat} {xs : List MV} (h : st[k]? = some (.list xs)) : mval S (.obj k) 14 st = some (.builtin "list.pop") := by
  exact mval_at h
theorem k_add {k : Nat} {xs : List Int} {n : Int} (h : st[k]? = some (.set xs)) (hl : xs.length < 4000) (hn : ¬ n ∈ xs) (q : Q .none (st.set k (.set (xs ++ [n])))) : mval S (.obj k) 16 st = some (.builtin "set.add") ∧ methM S (.obj k) 16 [.int n] st Q := by
  exact ⟨mval_at h, by rw [methM_at h]; exact ⟨_, rfl, hl, by rw [if_neg hn]; exact q⟩⟩
theorem v_add {k : Nat} {xs : List Int} (h : st[k]? = some (.set xs)) : mval S (.obj k) 16 st = some (.builtin "set.add") := by
  exact mval_at h
theorem c_inM {k : Nat} {xs : List Int} {n : Int} (h : st[k]? = some (.set xs)) : inM st (.int n) (.obj k) = some (decide (n ∈ xs)) := by
  show (match st[k]? with
    | some (.dictI kvs) => some (lookM kvs n).isSome
    | some (.set xs) => some (decide (n ∈ xs))
    | _ => none) = _
  rw [h]
theorem c_in {k : Nat} {xs : List Int} {n : Int} (h : st[k]? = some (.set xs)) : cmpM st .In (.int n) (.obj k) = some (decide (n ∈ xs)) := by
  exact c_inM h
theorem c_nin {k : Nat} {xs : List Int} {n : Int} (h : st[k]? = some (.set xs)) : cmpM st .NotIn (.int n) (.obj k) = some (!decide (n ∈ xs)) := by
  show (inM st (.int n) (.obj k)).map (!·) = _
  rw [c_inM h]; rfl
end step

/- the walk's lines, out of tables: a lemma and the keys of its side goals -/
protected def Mac.seq (n : String) (ks : List String) : Lean.MacroM (Lean.TSyntax `tactic) := do
  let mut t ← `(tactic| with_reducible apply $(Lean.mkIdent (.mkSimple n)))
  for k in ks do t ← `(tactic| ($t:tactic; (next => walk_at $(Lean.Syntax.mkStrLit k):str)))
  return t
protected def Mac.alts (l : String) (a : Lean.TSyntax `tactic) : Lean.MacroM (Lean.TSyntax `tactic) := do
  let mut a := a
  for p in (l.splitOn ";").reverse do
    match p.splitOn " " with
    | [] => pure ()
    | n :: ks =>
      let t ← Mac.seq n ks
      a ← `(tactic| first | $t:tactic | $a:tactic)
  return a
protected def Mac.app (l : String) (a : Lean.TSyntax `tactic) : Lean.MacroM (Lean.TSyntax `tactic) := do
  let mut a := a
  for n in (l.splitOn " ").reverse do a ← `(tactic| first | apply $(Lean.mkIdent (.mkSimple n)) | $a:tactic)
  return a
end Mine.Lake

set_option tactic.hygienic true

namespace Mine.Lake


inductive Cell where
  | ref (a : Nat)
  | str (a : Nat)
  | lis (a : Nat)
  | con (n : Int)
  | int (i : Int)
  | fn (f : Nat)
  deriving DecidableEq, Inhabited

noncomputable def Cell.tag : Cell → Int
  | .ref _ => 0 | .str _ => 2 | .lis _ => 3 | .con _ => 4 | .int _ => 5 | .fn _ => 6
noncomputable def Cell.num : Cell → Int
  | .ref a => a | .str a => a | .lis a => a | .con n => n | .int i => i | .fn f => f
noncomputable def cM (c : Cell) : MV := .tup [.int c.tag, .int c.num]

theorem Cell.ext {c d : Cell} (h : c.tag = d.tag) (k : c.num = d.num) : c = d := by
  cases c <;> cases d <;> simp_all [Cell.tag, Cell.num] <;> lia

theorem eqM_int (st : Objs) (a b : Int) : eqM st (.int a) (.int b) = some (decide (a = b)) := by
  simp only [eqM, pyV, pyE, pyOf, PyData.depth, PyData.eqv]
  simp
  exact (Bool.beq_eq_decide_eq a b)

theorem eqM_cell (st : Objs) (c d : Cell) : eqM st (cM c) (cM d) = some (decide (c = d)) := by
  simp only [cM, eqM, pyV, pyEs, pyE, pyOf, Option.map, PyData.depth, PyData.depthAll, PyData.eqv, PyData.eqvAll]
  simp
  by_cases h : c = d
  · subst h; simp
  · simp only [h, decide_false, Bool.and_eq_false_imp, beq_iff_eq]
    intro e
    by_cases k : c.num = d.num
    · exact (h (Cell.ext e k)).elim
    · simp [k]

theorem big0 : (0 : Int) ≤ 0 ∧ (0 : Int) < big := by unfold big; exact ⟨Int.le_refl _, by decide⟩
theorem big1 : (0 : Int) ≤ 1 ∧ (1 : Int) < big := by unfold big; exact ⟨by decide, by decide⟩
theorem big2 : (0 : Int) ≤ 2 ∧ (2 : Int) < big := by unfold big; exact ⟨by decide, by decide⟩
theorem sub_0 (st : Objs) (a : MV) (r : List MV) : subM st (.tup (a :: r)) (.int 0) = some a := if_pos big0
theorem sub_1 (st : Objs) (a b : MV) (r : List MV) : subM st (.tup (a :: b :: r)) (.int 1) = some b := if_pos big1
theorem sub_2 (st : Objs) (a b c : MV) (r : List MV) : subM st (.tup (a :: b :: c :: r)) (.int 2) = some c := if_pos big2
theorem sub_cell0 (st : Objs) (c : Cell) : subM st (cM c) (.int 0) = some (.int c.tag) := sub_0 _ _ _
theorem sub_cell1 (st : Objs) (c : Cell) : subM st (cM c) (.int 1) = some (.int c.num) := sub_1 _ _ _ _

structure Ids where
  s : Nat
  sy : Nat
  hp : Nat
  sk : Nat
  tr : Nat

structure Sto where
  H : List Cell
  T : List Nat
  hb : Nat
  mh : Int

noncomputable def stoAttrs (I : Ids) (x : Sto) : List (Nat × MV) := [(0, .obj I.sy), (1, .int x.mh), (2, .obj I.hp), (3, .obj I.sk), (4, .obj I.tr), (5, .int x.hb), (6, .int 0)]

structure StoAt (st : Objs) (I : Ids) (x : Sto) : Prop where
  s : st[I.s]? = some (.inst 373 (stoAttrs I x))
  hp : st[I.hp]? = some (.list (x.H.map cM))
  sk : st[I.sk]? = some (.list [])
  tr : st[I.tr]? = some (.list (x.T.map fun (a : Nat) => .int a))
  lenH : x.H.length ≤ 1000
  lenT : x.T.length ≤ 1000
  mh : 2000 ≤ x.mh
  d1 : I.s ≠ I.hp
  d2 : I.s ≠ I.tr
  d3 : I.hp ≠ I.tr
  d4 : I.hp ≠ I.sk
  d5 : I.tr ≠ I.sk
  d6 : I.s ≠ I.sk

theorem StoAt.attr {st : Objs} {I : Ids} {x : Sto} (h : StoAt st I x) (a : Nat) : attrM st (.obj I.s) a = lookA (stoAttrs I x) a := by
  exact attrU h.s a

theorem StoAt.a0 {st : Objs} {I : Ids} {x : Sto} (h : StoAt st I x) : attrM st (.obj I.s) 0 = some (.obj I.sy) := by rw [h.attr]; rfl
theorem StoAt.a1 {st : Objs} {I : Ids} {x : Sto} (h : StoAt st I x) : attrM st (.obj I.s) 1 = some (.int x.mh) := by rw [h.attr]; rfl
theorem StoAt.a2 {st : Objs} {I : Ids} {x : Sto} (h : StoAt st I x) : attrM st (.obj I.s) 2 = some (.obj I.hp) := by rw [h.attr]; rfl
theorem StoAt.a3 {st : Objs} {I : Ids} {x : Sto} (h : StoAt st I x) : attrM st (.obj I.s) 3 = some (.obj I.sk) := by rw [h.attr]; rfl
theorem StoAt.a4 {st : Objs} {I : Ids} {x : Sto} (h : StoAt st I x) : attrM st (.obj I.s) 4 = some (.obj I.tr) := by rw [h.attr]; rfl
theorem StoAt.a5 {st : Objs} {I : Ids} {x : Sto} (h : StoAt st I x) : attrM st (.obj I.s) 5 = some (.int x.hb) := by rw [h.attr]; rfl
theorem StoAt.a6 {st : Objs} {I : Ids} {x : Sto} (h : StoAt st I x) : attrM st (.obj I.s) 6 = some (.int 0) := by rw [h.attr]; rfl

theorem StoAt.cell {st : Objs} {I : Ids} {x : Sto} (h : StoAt st I x) {a : Nat} {c : Cell} (e : x.H[a]? = some c) : subM st (.obj I.hp) (.int a) = some (cM c) := by
  have : a < x.H.length := (List.getElem?_eq_some_iff.mp e).1
  have h2 := h.lenH
  rw [subL h.hp, if_pos (by unfold big; lia)]
  simp [e]

noncomputable def Cell.rank : Cell → Nat
  | .ref a => a + 1
  | _ => 0

noncomputable def derefN (H : List Cell) : Nat → Cell → Cell
  | 0, c => c
  | n + 1, c => match c with
    | .ref a => match H[a]? with
      | some d => if d = Cell.ref a then Cell.ref a else derefN H n d
      | none => Cell.ref a
    | c => c

noncomputable def D (H : List Cell) (c : Cell) : Cell := derefN H c.rank c

noncomputable def Down (H : List Cell) : Prop := ∀ a b, H[a]? = some (Cell.ref b) → b ≤ a

theorem derefN_fix {H : List Cell} (hd : Down H) : ∀ (n m : Nat) (c : Cell), c.rank ≤ n → c.rank ≤ m → derefN H n c = derefN H m c := by
  intro n
  induction n with
  | zero =>
    intro m c h _
    cases c <;> simp [Cell.rank] at h <;> (cases m <;> simp [derefN])
  | succ n ih =>
    intro m c h h2
    cases m with
    | zero => cases c <;> simp [Cell.rank] at h2 <;> simp [derefN]
    | succ m =>
      cases c <;> simp only [derefN]
      rename_i a
      split
      · rename_i d e
        split
        · rfl
        · rename_i hne
          apply ih
          · cases d <;> simp [Cell.rank] at h ⊢
            rename_i b
            have := hd a b e
            have : b ≠ a := fun q => hne (by rw [q])
            lia
          · cases d <;> simp [Cell.rank] at h2 ⊢
            rename_i b
            have := hd a b e
            have : b ≠ a := fun q => hne (by rw [q])
            lia
      · rfl

theorem D_ref {H : List Cell} (hd : Down H) {a : Nat} {d : Cell} (e : H[a]? = some d) : D H (.ref a) = if d = Cell.ref a then Cell.ref a else D H d := by
  unfold D
  simp only [Cell.rank, derefN, e]
  split
  · rfl
  · rename_i hne
    apply derefN_fix hd
    · cases d <;> simp [Cell.rank]
      rename_i b
      have := hd a b e
      have : b ≠ a := fun q => hne (by rw [q])
      lia
    · exact Nat.le_refl _

theorem D_other {H : List Cell} {c : Cell} (h : ∀ a, c ≠ .ref a) : D H c = c := by
  unfold D
  cases c <;> simp [Cell.rank, derefN]
  rename_i a
  exact (h a rfl).elim

noncomputable def InH (H : List Cell) : Cell → Prop
  | .ref a => a < H.length
  | _ => True

noncomputable def Refs (H : List Cell) : Prop := ∀ (a : Nat) (c : Cell), H[a]? = some c → InH H c

theorem Down.refs {H : List Cell} (hd : Down H) : Refs H := fun a c e => by
  cases c <;> simp only [InH]
  rename_i b
  have := hd a b e
  have := (List.getElem?_eq_some_iff.mp e).1
  lia

/- walking the calculus -/
noncomputable def nz : Option MV → Option MV
  | some .unb => none
  | x => x
theorem getL_nz (loc : List MV) (i : Nat) : getL loc i = nz loc[i]? := by
  unfold getL nz
  cases loc[i]? with
  | none => rfl
  | some v => cases v <;> rfl
theorem nz_cM (c : Cell) : nz (some (cM c)) = some (cM c) := of_eq_true (eq_true rfl)
theorem nz_int (c : Int) : nz (some (.int c)) = some (.int c) := of_eq_true (eq_true rfl)
theorem nz_obj (c : Nat) : nz (some (.obj c)) = some (.obj c) := of_eq_true (eq_true rfl)
theorem nz_tup (c : List MV) : nz (some (.tup c)) = some (.tup c) := of_eq_true (eq_true rfl)
theorem nz_none : nz (some .none) = some .none := of_eq_true (eq_true rfl)
theorem nz_str (c : Str) : nz (some (.str c)) = some (.str c) := of_eq_true (eq_true rfl)
theorem nz_bool (c : Bool) : nz (some (.bool c)) = some (.bool c) := of_eq_true (eq_true rfl)
theorem nz_val (c : Value) : nz (some (.val c)) = some (.val c) := of_eq_true (eq_true rfl)

theorem tg_ref (a : Nat) : (Cell.ref a).tag = 0 := of_eq_true (eq_true rfl)
theorem tg_str (a : Nat) : (Cell.str a).tag = 2 := of_eq_true (eq_true rfl)
theorem tg_lis (a : Nat) : (Cell.lis a).tag = 3 := of_eq_true (eq_true rfl)
theorem tg_con (a : Int) : (Cell.con a).tag = 4 := of_eq_true (eq_true rfl)
theorem tg_int (a : Int) : (Cell.int a).tag = 5 := of_eq_true (eq_true rfl)
theorem tg_fn (a : Nat) : (Cell.fn a).tag = 6 := of_eq_true (eq_true rfl)
theorem nm_ref (a : Nat) : (Cell.ref a).num = a := of_eq_true (eq_true rfl)
theorem nm_str (a : Nat) : (Cell.str a).num = a := of_eq_true (eq_true rfl)
theorem nm_lis (a : Nat) : (Cell.lis a).num = a := of_eq_true (eq_true rfl)
theorem nm_con (a : Int) : (Cell.con a).num = a := of_eq_true (eq_true rfl)
theorem nm_int (a : Int) : (Cell.int a).num = a := of_eq_true (eq_true rfl)
theorem nm_fn (a : Nat) : (Cell.fn a).num = a := of_eq_true (eq_true rfl)

theorem bin_add (st : Objs) (a b : Int) : binM .Add (.int a) (.int b) st = some (.int (a + b), st) := of_eq_true (eq_true rfl)
theorem bin_sub (st : Objs) (a b : Int) : binM .Sub (.int a) (.int b) st = some (.int (a - b), st) := of_eq_true (eq_true rfl)

theorem c_int (st : Objs) (a b : Int) : cmpM st .Eq (.int a) (.int b) = some (decide (a = b)) := eqM_int st a b
theorem c_cell (st : Objs) (c d : Cell) : cmpM st .Eq (cM c) (cM d) = some (decide (c = d)) := eqM_cell st c d
theorem n_int (st : Objs) (a b : Int) : cmpM st .NotEq (.int a) (.int b) = some (!decide (a = b)) := by unfold cmpM; rw [eqM_int]; rfl
theorem n_cell (st : Objs) (c d : Cell) : cmpM st .NotEq (cM c) (cM d) = some (!decide (c = d)) := by unfold cmpM; rw [eqM_cell]; rfl
local macro_rules | `(tactic| walk_at "ml") => `(tactic| exact Nat.le_of_ble_eq_true rfl)
local macro_rules | `(tactic| walk_at "mr") => `(tactic| rfl)
local macro_rules | `(tactic| walk_at "ma") => `(tactic| assumption)
local macro_rules | `(tactic| walk_at "mw") => `(tactic| with_reducible assumption)
local macro_rules | `(tactic| walk_at "mi") => `(tactic| first | with_reducible assumption | rfl)
local macro_rules | `(tactic| walk_at "mft") => do
  let a ← Mac.app "sub_cell0 sub_cell1 c_cell c_int n_cell n_int" (← `(tactic| first | rfl | assumption))
  `(tactic| first | with_reducible assumption | walk_at "x" | $a:tactic)
local macro_rules | `(tactic| walk_at "mfp") => do
  let a ← Mac.app "bin_add bin_sub" (← `(tactic| first | rfl | assumption))
  `(tactic| first | with_reducible assumption | $a:tactic)
local macro_rules | `(tactic| walk_at "mb") => `(tactic| first | rfl | with_reducible assumption | walk_at "bx")
local macro_rules | `(tactic| walk_at "mc") => `(tactic| first | with_reducible assumption | exact of_eq_true (eq_true rfl))
local macro_rules | `(tactic| walk_at "mev") => do
  Mac.alts "ev_cst;ev_loc mr mb;ev_attr mev mft;ev_sub mev mev mft;ev_bin mev mev mfp;ev_tup mes" (← `(tactic| fail))
local macro_rules | `(tactic| walk_at "mes") => do
  Mac.alts "evs_nil;evs_cons mev mes" (← `(tactic| fail))
local macro_rules | `(tactic| walk_at "m1") => do
  let a ← Mac.alts "c_call mes;c_callB mes mfp;s_KA ml;g_loc ml;es_ev mes;e_ev mev;b_ev mev mev mft;s_asgK;s_exprK;s_retK;s_ifK;s_KX;s_KB;s_KS;s_cons;s_nil;s_asg;s_ret;s_expr;s_ife;s_for;s_KF;s_cont;s_del;e_cst;e_attr;e_sub;es_cons;es_nil;g_attr;g_sub;b_cmp;b_not;b_callK;b_methK;b_and;b_or;b_cst;b_loc;e_tup;e_lst;e_cmp;e_call;e_callB;e_meth;e_bin;e_neg;e_slc;e_comp;e_or;e_ife;s_augL mr;e_loc mr mb;opt_of mft;optP_of mfp;g_tup mr;s_KI1 mc;s_KI0 mc;s_KW1 mc;s_KW0 mc;if_t mi;if_f mi;k_comp mw mw" (← `(tactic| walk_at "mk"))
  Mac.alts "s_asgL mev ml;s_retE mev;s_ifN mev mev mft mc;s_ifF mev mev mft mc;s_ifT mev mev mft mc" (← `(tactic| first | walk_at "mk0" | $a:tactic))
local macro_rules | `(tactic| walk_at "m") => `(tactic| repeat walk_at "m1")
local macro_rules | `(tactic| walk_at "f") => `(tactic| (with_reducible refine s_F ?_); walk_at "m")
theorem f_deref {S : Sg} {st : Objs} {I : Ids} {x : Sto} (W : StoAt st I x) (hd : Down x.H) {c : Cell} (hc : InH x.H c) {Q : EP} (q : Q (cM (D x.H c)) st) : wpF S b_Cells_deref (frame ns_Cells_deref [.obj I.s, cM c]) st Q := by
  unfold b_Cells_deref
  walk_at "f"
  refine s_wh ⟨fun n loc s => s = st ∧ ∃ d t f, loc = [.obj I.s, cM d, t, f] ∧ D x.H d = D x.H c ∧ InH x.H d ∧ n = d.rank, ⟨_, rfl, c, .unb, .unb, rfl, rfl, hc, rfl⟩, ?_⟩
  rintro n loc _ ⟨rfl, d, t, f, rfl, h1, h2, rfl⟩
  walk_at "m"
  by_cases hr : ∃ a, d = .ref a
  · obtain ⟨a, rfl⟩ := hr
    obtain ⟨e, he⟩ : ∃ e, x.H[a]? = some e := ⟨_, List.getElem?_eq_getElem h2⟩
    have hr := hd.refs a e he
    have a2 := W.a2
    have hcell := W.cell he
    rw [D_ref hd he] at h1
    walk_at "m"
    by_cases k : e = Cell.ref a
    · subst k
      rw [if_pos rfl] at h1
      rw [← h1] at q
      refine s_KI1 (decide_eq_true rfl) ?_
      walk_at "m"
      exact q
    · rw [if_neg k] at h1
      refine s_KI0 (decide_eq_false k) ?_
      walk_at "m"
      refine ⟨e.rank, ?_, rfl, e, _, _, rfl, h1, hr, rfl⟩
      cases e <;> simp [Cell.rank]
      rename_i b
      have := hd a b he
      have : b ≠ a := fun q => k (by rw [q])
      lia
  · have hn : ∀ a, d ≠ .ref a := fun a h => hr ⟨a, h⟩
    rw [D_other hn] at h1
    rw [← h1] at q
    have h0 : ¬ d.tag = 0 := fun h => by cases d <;> first | exact hn _ rfl | cases h
    have h1 : ¬ d.tag = 1 := fun h => by cases d <;> cases h
    refine s_KI0 (decide_eq_false h0) ?_
    walk_at "m"
    refine s_KI0 (decide_eq_false h1) ?_
    walk_at "m"
    exact q


noncomputable def mt (C : Addr) (m : Nat) : Option Addr :=
  if C = 373 then [(25, 201), (26, 208), (27, 215), (28, 229), (29, 243), (30, 250), (31, 257), (32, 264), (33, 271), (34, 285), (35, 292), (36, 299), (37, 306), (38, 320), (39, 363), (40, 370)].lookup m
  else if C = 154 then [(17, 88), (19, 102), (20, 109), (22, 123)].lookup m
  else if C = 399 then [(16, 396)].lookup m
  else none

structure SyIds where
  tx : Nat
  an : Nat
  fl : Nat
  fn : Nat

structure Sym where
  F : List (Int × Int)
  X : List Str

noncomputable def fM (p : Int × Int) : MV := .tup [.int p.1, .int p.2]

structure SymAt (st : Objs) (sy : Nat) (J : SyIds) (y : Sym) : Prop where
  s : st[sy]? = some (.inst 154 [(7, .obj J.tx), (8, .obj J.an), (9, .obj J.fl), (10, .obj J.fn)])
  tx : st[J.tx]? = some (.list (y.X.map .str))
  an : ∃ D, st[J.an]? = some (.dictS D) ∧ D.length ≤ y.X.length ∧ (∀ k v, lookM D k = some v → ∃ i : Nat, v = .int i ∧ y.X[i]? = some k) ∧ ∀ k, lookM D k = none → k ∉ y.X
  fl : st[J.fl]? = some (.list (y.F.map fM))
  fn : ∃ D, st[J.fn]? = some (.dictT D) ∧ D.length ≤ y.F.length ∧ (∀ k v, lookM D k = some v → ∃ (i : Nat) (a n : Int), v = .int i ∧ k = [a, n] ∧ y.F[i]? = some (a, n)) ∧ ∀ k, lookM D k = none → ∀ a n, k = [a, n] → (a, n) ∉ y.F
  lenX : y.X.length ≤ 1000
  lenF : y.F.length ≤ 1000
  ndX : y.X.Nodup
  ndF : y.F.Nodup
  d : J.tx ≠ J.fl

structure Wd (st : Objs) (I : Ids) (J : SyIds) (x : Sto) (y : Sym) : Prop where
  W : StoAt st I x
  Y : SymAt st I.sy J y
  dj : ∀ j ∈ [I.sy, J.tx, J.an, J.fl, J.fn], j ≠ I.s ∧ j ≠ I.hp ∧ j ≠ I.tr

structure Same (X : List Nat) (st st' : Objs) : Prop where
  len : st.length ≤ st'.length
  get : ∀ j, j < st.length → j ∉ X → st'[j]? = st[j]?

theorem Same.refl (X : List Nat) (st : Objs) : Same X st st := ⟨Nat.le_refl _, fun _ _ _ => rfl⟩
theorem Same.trans {X : List Nat} {a b c : Objs} (h : Same X a b) (k : Same X b c) : Same X a c := ⟨Nat.le_trans h.len k.len, fun j hj hx => (k.get j (Nat.lt_of_lt_of_le hj h.len) hx).trans (h.get j hj hx)⟩
theorem Same.weak {X Y : List Nat} {a b : Objs} (h : Same X a b) (hs : ∀ j ∈ X, j ∈ Y) : Same Y a b := ⟨h.len, fun j hj hx => h.get j hj fun q => hx (hs j q)⟩
theorem Same.set (st : Objs) (k : Nat) (o : MO) : Same [k] st (st.set k o) := ⟨by simp, fun j hj hx => by rw [List.getElem?_set_ne]; intro e; exact hx (by simp [e])⟩
theorem Same.app (st g : Objs) : Same [] st (st ++ g) := ⟨by simp, fun j hj _ => List.getElem?_append_left hj⟩
theorem Same.at {X : List Nat} {a b : Objs} (h : Same X a b) {j : Nat} {o : MO} (e : a[j]? = some o) (hx : j ∉ X) : b[j]? = some o := (h.get j (List.getElem?_eq_some_iff.mp e).1 hx).trans e

theorem SymAt.same {X : List Nat} {st st' : Objs} {sy : Nat} {J : SyIds} {y : Sym} (h : SymAt st sy J y) (s : Same X st st') (hx : sy ∉ X ∧ J.tx ∉ X ∧ J.an ∉ X ∧ J.fl ∉ X ∧ J.fn ∉ X) : SymAt st' sy J y :=
  ⟨s.at h.s hx.1, s.at h.tx hx.2.1, let ⟨D, a, b⟩ := h.an; ⟨D, s.at a hx.2.2.1, b⟩, s.at h.fl hx.2.2.2.1, let ⟨D, a, b⟩ := h.fn; ⟨D, s.at a hx.2.2.2.2, b⟩, h.lenX, h.lenF, h.ndX, h.ndF, h.d⟩

theorem StoAt.same {X : List Nat} {st st' : Objs} {I : Ids} {x : Sto} (h : StoAt st I x) (s : Same X st st') (hx : I.s ∉ X ∧ I.hp ∉ X ∧ I.sk ∉ X ∧ I.tr ∉ X) : StoAt st' I x :=
  ⟨s.at h.s hx.1, s.at h.hp hx.2.1, s.at h.sk hx.2.2.1, s.at h.tr hx.2.2.2, h.lenH, h.lenT, h.mh, h.d1, h.d2, h.d3, h.d4, h.d5, h.d6⟩

theorem Wd.same {X : List Nat} {st st' : Objs} {I : Ids} {J : SyIds} {x : Sto} {y : Sym} (h : Wd st I J x y) (s : Same X st st') (hx : ∀ j ∈ X, j ∉ [I.s, I.sy, I.hp, I.sk, I.tr, J.tx, J.an, J.fl, J.fn]) : Wd st' I J x y := by
  have k : ∀ j ∈ [I.s, I.sy, I.hp, I.sk, I.tr, J.tx, J.an, J.fl, J.fn], j ∉ X := fun j hj q => hx j q hj
  simp at k
  exact ⟨h.W.same s ⟨k.1, k.2.2.1, k.2.2.2.1, k.2.2.2.2.1⟩, h.Y.same s ⟨k.2.1, k.2.2.2.2.2⟩, h.dj⟩

section
variable {S : Sg} {st : Objs} {I : Ids} {J : SyIds} {x : Sto} {y : Sym}

theorem mval_sto (hM : S.M = mt) (W : StoAt st I x) (m : Nat) : mval S (.obj I.s) m st = (mt 373 m).map .ref := by
  rw [mval_at W.s, ← hM]; rfl
theorem meth_sto (hM : S.M = mt) (W : StoAt st I x) (m : Nat) (vs : List MV) (Q : EP) : methM S (.obj I.s) m vs st Q = opt (mt 373 m) fun f => S.C f (.obj I.s :: vs) st Q := by
  rw [methM_at W.s, ← hM]; rfl
theorem mval_sym {sy : Nat} (hM : S.M = mt) (W : SymAt st sy J y) (m : Nat) : mval S (.obj sy) m st = (mt 154 m).map .ref := by
  rw [mval_at W.s, ← hM]; rfl
theorem meth_sym {sy : Nat} (hM : S.M = mt) (W : SymAt st sy J y) (m : Nat) (vs : List MV) (Q : EP) : methM S (.obj sy) m vs st Q = opt (mt 154 m) fun f => S.C f (.obj sy :: vs) st Q := by
  rw [methM_at W.s, ← hM]; rfl
theorem mval_app {k : Nat} {xs : List MV} (h : st[k]? = some (.list xs)) : mval S (.obj k) 13 st = some (.builtin "list.append") := mval_at h
theorem mval_pop {k : Nat} {xs : List MV} (h : st[k]? = some (.list xs)) : mval S (.obj k) 14 st = some (.builtin "list.pop") := mval_at h
theorem meth_app {k : Nat} {xs : List MV} (h : st[k]? = some (.list xs)) (v : MV) (Q : EP) : methM S (.obj k) 13 [v] st Q = (xs.length ≤ lim ∧ Q .none (st.set k (.list (xs ++ [v])))) := by
  rw [methM_at h]; exact propext ⟨fun ⟨_, e, z⟩ => by cases e; exact z, fun z => ⟨_, rfl, z⟩⟩
theorem meth_pop {k : Nat} {xs : List MV} (h : st[k]? = some (.list xs)) (Q : EP) : methM S (.obj k) 14 [] st Q = (xs.length ≤ lim ∧ opt xs.getLast? fun v => Q v (st.set k (.list xs.dropLast))) := by
  rw [methM_at h]; exact propext ⟨fun z => z.2, fun z => ⟨rfl, z⟩⟩

theorem len_list {k : Nat} {xs : List MV} (h : st[k]? = some (.list xs)) (hl : xs.length ≤ lim) : callB .len [.obj k] st = some (.int xs.length, st) := by
  rw [lenL h, if_pos hl]

theorem StoAt.lenHp (W : StoAt st I x) : callB .len [.obj I.hp] st = some (.int x.H.length, st) := by
  rw [len_list W.hp (by rw [List.length_map]; have := W.lenH; unfold lim; lia), List.length_map]
theorem StoAt.lenTr (W : StoAt st I x) : callB .len [.obj I.tr] st = some (.int x.T.length, st) := by
  rw [len_list W.tr (by rw [List.length_map]; have := W.lenT; unfold lim; lia), List.length_map]
theorem StoAt.lenSk (W : StoAt st I x) : callB .len [.obj I.sk] st = some (.int 0, st) := by
  rw [len_list W.sk (by simp [lim])]; rfl

theorem StoAt.setH (W : StoAt st I x) {H : List Cell} (hl : H.length ≤ 1000) : StoAt (st.set I.hp (.list (H.map cM))) I { x with H := H } := by
  have hlt := (List.getElem?_eq_some_iff.mp W.hp).1
  refine ⟨?_, ?_, ?_, ?_, hl, W.lenT, W.mh, W.d1, W.d2, W.d3, W.d4, W.d5, W.d6⟩
  · rw [List.getElem?_set_ne W.d1.symm]; exact W.s
  · rw [List.getElem?_set_self hlt]
  · rw [List.getElem?_set_ne W.d4]; exact W.sk
  · rw [List.getElem?_set_ne W.d3]; exact W.tr
theorem StoAt.setT (W : StoAt st I x) {T : List Nat} (hl : T.length ≤ 1000) : StoAt (st.set I.tr (.list (T.map fun (a : Nat) => .int a))) I { x with T := T } := by
  have hlt := (List.getElem?_eq_some_iff.mp W.tr).1
  refine ⟨?_, ?_, ?_, ?_, W.lenH, hl, W.mh, W.d1, W.d2, W.d3, W.d4, W.d5, W.d6⟩
  · rw [List.getElem?_set_ne W.d2.symm]; exact W.s
  · rw [List.getElem?_set_ne W.d3.symm]; exact W.hp
  · rw [List.getElem?_set_ne W.d5]; exact W.sk
  · rw [List.getElem?_set_self hlt]

noncomputable def Sto.bind (x : Sto) (a : Nat) (v : Cell) : Sto := { x with H := x.H.set a v, T := if a < x.hb then x.T ++ [a] else x.T }

theorem Wd.set (w : Wd st I J x y) {k : Nat} {o : MO} {x' : Sto} (W : StoAt (st.set k o) I x') (hk : k = I.hp ∨ k = I.tr ∨ k = I.s) : Wd (st.set k o) I J x' y := by
  have h1 := w.dj I.sy (by simp)
  have h2 := w.dj J.tx (by simp)
  have h3 := w.dj J.an (by simp)
  have h4 := w.dj J.fl (by simp)
  have h5 := w.dj J.fn (by simp)
  refine ⟨W, w.Y.same (Same.set st k o) ?_, w.dj⟩
  rcases hk with rfl | rfl | rfl <;> simp [h1, h2, h3, h4, h5]

inductive SetC (st : Objs) (I : Ids) (J : SyIds) (y : Sym) (x : Sto) (a : Nat) (v : Cell) : Prop
  | mk (st1 : Objs) (h1 : setSubM st (.obj I.hp) (.int a) (cM v) = some st1) (h2 : Wd st1 I J x y) (h3 : Same [I.hp] st st1) (h4 : st1.length = st.length) : SetC st I J y x a v
inductive PushC (S : Sg) (st : Objs) (I : Ids) (J : SyIds) (y : Sym) (x : Sto) (o : Nat) (v : MV) : Prop
  | mk (st1 : Objs) (h1 : ∀ Q : EP, methM S (.obj o) 13 [v] st Q = Q .none st1) (h2 : Wd st1 I J x y) (h3 : Same [o] st st1) (h4 : st1.length = st.length) : PushC S st I J y x o v
theorem Wd.setCell (w : Wd st I J x y) {a : Nat} (ha : a < x.H.length) (v : Cell) : SetC st I J y { x with H := x.H.set a v } a v := by
  refine ⟨st.set I.hp (.list ((x.H.set a v).map cM)), ?_, w.set (w.W.setH (H := x.H.set a v) (by rw [List.length_set]; exact w.W.lenH)) (.inl rfl), Same.set _ _ _, by simp⟩
  have := w.W.lenH
  rw [setL w.W.hp, if_pos ⟨by lia, by unfold big; lia, by rw [List.length_map]; lia⟩, List.map_set]
  rfl
theorem Wd.pushT (w : Wd st I J x y) (hT : x.T.length < 1000) (a : Nat) : PushC S st I J y { x with T := x.T ++ [a] } I.tr (.int a) := by
  refine ⟨st.set I.tr (.list ((x.T ++ [a]).map fun (a : Nat) => .int a)), fun Q => ?_, w.set (w.W.setT (T := x.T ++ [a]) (by simp; lia)) (.inr (.inl rfl)), Same.set _ _ _, by simp⟩
  rw [meth_app w.W.tr, List.map_append]
  have : x.T.length ≤ lim := by unfold lim; lia
  simp [this]
theorem Wd.pushH (w : Wd st I J x y) (hH : x.H.length < 1000) (v : Cell) : PushC S st I J y { x with H := x.H ++ [v] } I.hp (cM v) := by
  refine ⟨st.set I.hp (.list ((x.H ++ [v]).map cM)), fun Q => ?_, w.set (w.W.setH (H := x.H ++ [v]) (by simp; lia)) (.inl rfl), Same.set _ _ _, by simp⟩
  rw [meth_app w.W.hp, List.map_append]
  have : x.H.length ≤ lim := by unfold lim; lia
  simp [this]
theorem Wd.mvT (w : Wd st I J x y) : mval S (.obj I.tr) 13 st = some (.builtin "list.append") := mval_app w.W.tr
theorem Wd.mvH (w : Wd st I J x y) : mval S (.obj I.hp) 13 st = some (.builtin "list.append") := mval_app w.W.hp
theorem Wd.setHb (w : Wd st I J x y) (n : Nat) : ∃ st1, setAttrM st (.obj I.s) 5 (.int n) = some st1 ∧ Wd st1 I J { x with hb := n } y ∧ Same [I.s] st st1 ∧ st1.length = st.length := by
  refine ⟨st.set I.s (.inst 373 (stoAttrs I { x with hb := n })), ?_, w.set (k := I.s) ⟨?_, ?_, ?_, ?_, w.W.lenH, w.W.lenT, w.W.mh, w.W.d1, w.W.d2, w.W.d3, w.W.d4, w.W.d5, w.W.d6⟩ (.inr (.inr rfl)), Same.set _ _ _, by simp⟩
  · rw [setAttrU w.W.s, if_pos ⟨by decide, by simp [stoAttrs], rfl⟩]
    rfl
  · rw [List.getElem?_set_self (List.getElem?_eq_some_iff.mp w.W.s).1]
  · rw [List.getElem?_set_ne w.W.d1]; exact w.W.hp
  · rw [List.getElem?_set_ne w.W.d6]; exact w.W.sk
  · rw [List.getElem?_set_ne w.W.d2]; exact w.W.tr
theorem Wd.setBb (w : Wd st I J x y) : ∃ st1, setAttrM st (.obj I.s) 6 (.int 0) = some st1 ∧ Wd st1 I J x y ∧ Same [I.s] st st1 ∧ st1.length = st.length := by
  refine ⟨st.set I.s (.inst 373 (stoAttrs I x)), ?_, w.set (k := I.s) ⟨?_, ?_, ?_, ?_, w.W.lenH, w.W.lenT, w.W.mh, w.W.d1, w.W.d2, w.W.d3, w.W.d4, w.W.d5, w.W.d6⟩ (.inr (.inr rfl)), Same.set _ _ _, by simp⟩
  · rw [setAttrU w.W.s, if_pos ⟨by decide, by simp [stoAttrs], rfl⟩]
    rfl
  · rw [List.getElem?_set_self (List.getElem?_eq_some_iff.mp w.W.s).1]
  · rw [List.getElem?_set_ne w.W.d1]; exact w.W.hp
  · rw [List.getElem?_set_ne w.W.d6]; exact w.W.sk
  · rw [List.getElem?_set_ne w.W.d2]; exact w.W.tr

inductive C_bind (vs : List MV) (st : Objs) (Q : EP) : Prop
  | mk (I : _) (J : _) (x : _) (y : _) (a : _) (v : _) (h0 : vs = [.obj I.s, cM (.ref a), cM v]) (h1 : Wd st I J x y) (h2 : a < x.H.length) (h3 : x.T.length < 1000) (h4 : ∀ st', Wd st' I J (x.bind a v) y → Same [I.hp, I.tr] st st' → st'.length = st.length → Q .none st') : C_bind vs st Q


theorem mtl (C m : Nat) : mt C m = mt C m := rfl

inductive C_deref (vs : List MV) (st : Objs) (Q : EP) : Prop
  | mk (I : _) (J : _) (x : _) (y : _) (c : _) (h0 : vs = [.obj I.s, cM c]) (h1 : Wd st I J x y) (h2 : Down x.H) (h3 : InH x.H c) (h4 : Q (cM (D x.H c)) st) : C_deref vs st Q

theorem g_deref {vs : List MV} {Q : EP} (h : C_deref vs st Q) : vs.length = 2 ∧ wpF S b_Cells_deref (frame ns_Cells_deref vs) st Q := by
  obtain ⟨I, J, x, y, c, rfl, w, hd, hc, q⟩ := h
  exact ⟨rfl, f_deref w.W hd hc q⟩

theorem call_sto (hM : S.M = mt) (w : Wd st I J x y) {m : Nat} {f : Addr} (hm : mt 373 m = some f) (vs : List MV) (Q : EP) : methM S (.obj I.s) m vs st Q = S.C f (.obj I.s :: vs) st Q := by
  rw [meth_sto hM w.W, hm, opt_some]
theorem mv_sto (hM : S.M = mt) (w : Wd st I J x y) {m : Nat} {f : Addr} (hm : mt 373 m = some f) : mval S (.obj I.s) m st = some (.ref f) := by
  rw [mval_sto hM w.W, hm]; rfl
theorem call_sym (hM : S.M = mt) (w : Wd st I J x y) {m : Nat} {f : Addr} (hm : mt 154 m = some f) (vs : List MV) (Q : EP) : methM S (.obj I.sy) m vs st Q = S.C f (.obj I.sy :: vs) st Q := by
  rw [meth_sym hM w.Y, hm, opt_some]
theorem mv_sym (hM : S.M = mt) (w : Wd st I J x y) {m : Nat} {f : Addr} (hm : mt 154 m = some f) : mval S (.obj I.sy) m st = some (.ref f) := by
  rw [mval_sym hM w.Y, hm]; rfl

theorem v_sto (hM : S.M = mt) (w : Wd st I J x y) {m : Nat} {f : Addr} (hm : mt 373 m = some f) : mval S (.obj I.s) m st = some (.ref f) := mv_sto hM w hm
theorem k_sto (hM : S.M = mt) (w : Wd st I J x y) {m : Nat} {f : Addr} {vs : List MV} {Q : EP} (hm : mt 373 m = some f) (q : S.C f (.obj I.s :: vs) st Q) : mval S (.obj I.s) m st = some (.ref f) ∧ methM S (.obj I.s) m vs st Q :=
  ⟨mv_sto hM w hm, (call_sto hM w hm vs Q).mpr q⟩
theorem v_sym {sy : Nat} (hM : S.M = mt) (Y : SymAt st sy J y) {m : Nat} {f : Addr} (hm : mt 154 m = some f) : mval S (.obj sy) m st = some (.ref f) := by rw [mval_sym hM Y, hm]; rfl
theorem k_sym {sy : Nat} (hM : S.M = mt) (Y : SymAt st sy J y) {m : Nat} {f : Addr} {vs : List MV} {Q : EP} (hm : mt 154 m = some f) (q : S.C f (.obj sy :: vs) st Q) : mval S (.obj sy) m st = some (.ref f) ∧ methM S (.obj sy) m vs st Q :=
  ⟨v_sym hM Y hm, by rw [meth_sym hM Y, hm, opt_some]; exact q⟩
theorem c_sto (hM : S.M = mt) (w : Wd st I J x y) {loc : List MV} {o : ME} {es : List ME} {vs : List MV} {Q : EP} {m : Nat} {f : Addr} (h : Ev S loc st o (.obj I.s)) (hm : mt 373 m = some f) (hs : Evs S loc st es vs) (q : S.C f (.obj I.s :: vs) st Q) : wpE S loc (.meth o m es) st Q := c_meth h hs (k_sto hM w hm q)
theorem c_sym {sy : Nat} (hM : S.M = mt) (Y : SymAt st sy J y) {loc : List MV} {o : ME} {es : List ME} {vs : List MV} {Q : EP} {m : Nat} {f : Addr} (h : Ev S loc st o (.obj sy)) (hm : mt 154 m = some f) (hs : Evs S loc st es vs) (q : S.C f (.obj sy :: vs) st Q) : wpE S loc (.meth o m es) st Q := c_meth h hs (k_sym hM Y hm q)
theorem dt {p : Prop} [Decidable p] (h : p) : decide p = true := decide_eq_true h
theorem df {p : Prop} [Decidable p] (h : ¬ p) : decide p = false := decide_eq_false h
theorem ilt {a b : Nat} (h : a < b) : decide ((a : Int) < (b : Int)) = true := decide_eq_true (Int.ofNat_lt.mpr h)
theorem inlt {a b : Nat} (h : ¬ a < b) : decide ((a : Int) < (b : Int)) = false := decide_eq_false fun q => h (Int.ofNat_lt.mp q)
theorem Same.l {X : List Nat} {a : Nat} {s s' : Objs} (h : Same [a] s s') : Same (a :: X) s s' := h.weak fun j hj => by rw [List.mem_singleton] at hj; rw [hj]; exact List.mem_cons_self
theorem Same.r {a b : Nat} {s s' : Objs} (h : Same [b] s s') : Same [a, b] s s' := h.weak fun j hj => List.mem_cons_of_mem _ hj
end
local macro_rules | `(tactic| walk_at "mY") => `(tactic| first | assumption | exact Wd.Y (by assumption))
local macro_rules | `(tactic| walk_at "mq") => do
  Mac.alts "v_sto ma ma mr;v_sym ma mY mr;v_app ma;v_pop ma" (← `(tactic| fail))
local macro_rules | `(tactic| walk_at "mk") => do
  Mac.alts "k_sto ma ma mr;k_sym ma mY mr;k_app ma ma;k_pop ma ma ma;m_ask mw;m_ask mq" (← `(tactic| fail))
local macro_rules | `(tactic| walk_at "mk0") => do
  Mac.alts "c_sto ma ma mev mr mes;c_sym ma mY mev mr mes;c_app mev mes ma ma;c_pop mev ma ma ma" (← `(tactic| fail))
section
variable {S : Sg} {st : Objs} {I : Ids} {J : SyIds} {x : Sto} {y : Sym}
theorem f_bind {vs : List MV} {Q : EP} (h : C_bind vs st Q) : vs.length = 3 ∧ wpF S b_Cells_bind (frame ns_Cells_bind vs) st Q := by
  obtain ⟨I, J, x, y, a, v, rfl, w, ha, hT, q⟩ := h
  refine ⟨rfl, ?_⟩
  unfold b_Cells_bind
  obtain ⟨st1, e1, w1, s1, l1⟩ := w.setCell ha v
  have a2 := w.W.a2
  have a5 := w1.W.a5
  have a4 := w1.W.a4
  walk_at "f"
  by_cases h : a < x.hb
  · obtain ⟨st2, e2, w2, s2, l2⟩ := w1.pushT (S := S) hT a
    refine s_KI1 (ilt h) ?_
    have mv := w1.mvT (S := S)
    walk_at "m"
    refine ⟨mv, ?_⟩
    rw [show methM S (.obj I.tr) 13 [.int (Cell.ref a).num] st1 = methM S (.obj I.tr) 13 [.int a] st1 from rfl, e2]
    walk_at "m"
    refine q _ ?_ (s1.l.trans s2.r) (l2.trans l1)
    unfold Sto.bind; rw [if_pos h]; exact w2
  · refine s_KI0 (inlt h) ?_
    walk_at "m"
    refine q _ ?_ s1.l l1
    unfold Sto.bind; rw [if_neg h]; exact w1

noncomputable def Cell.isRef : Cell → Bool
  | .ref _ => true
  | _ => false

noncomputable def Sto.bindPair (x : Sto) (a b : Nat) : Sto := if a = b then x else if a < b then x.bind b (.ref a) else x.bind a (.ref b)

inductive C_bind_pair (vs : List MV) (st : Objs) (Q : EP) : Prop
  | mk (I : _) (J : _) (x : _) (y : _) (a : _) (b : _) (h0 : vs = [.obj I.s, cM (.ref a), cM (.ref b)]) (h1 : Wd st I J x y) (h2 : a < x.H.length) (h3 : b < x.H.length) (h4 : x.T.length < 1000) (h5 : ∀ st', Wd st' I J (x.bindPair a b) y → Same [I.hp, I.tr] st st' → st'.length = st.length → Q .none st') : C_bind_pair vs st Q


theorem f_bind_pair (hM : S.M = mt) (hB : Has S 243 C_bind) {vs : List MV} {Q : EP} (h : C_bind_pair vs st Q) : vs.length = 3 ∧ wpF S b_Cells_bind_pair (frame ns_Cells_bind_pair vs) st Q := by
  obtain ⟨I, J, x, y, a, b, rfl, w, ha, hb, hT, q⟩ := h
  refine ⟨rfl, ?_⟩
  unfold b_Cells_bind_pair
  walk_at "f"
  by_cases e : a = b
  · subst e
    refine s_KI1 (dt rfl) ?_
    walk_at "m"
    exact q st (by unfold Sto.bindPair; rw [if_pos rfl]; exact w) (Same.refl _ _) rfl
  · refine s_KI0 (df fun h => by cases h; exact e rfl) ?_
    walk_at "m"
    by_cases l : a < b
    · refine s_KI1 (ilt l) ?_
      walk_at "m"
      exact hB _ _ _ ⟨I, J, x, y, b, .ref a, rfl, w, hb, hT, fun st' w' s' l' => q st' (by unfold Sto.bindPair; rw [if_neg e, if_pos l]; exact w') s' l'⟩
    · refine s_KI0 (inlt l) ?_
      walk_at "m"
      exact hB _ _ _ ⟨I, J, x, y, a, .ref b, rfl, w, ha, hT, fun st' w' s' l' => q st' (by unfold Sto.bindPair; rw [if_neg e, if_neg l]; exact w') s' l'⟩

theorem tag_srf {c : Cell} : ¬ c.tag = 1 := by cases c <;> intro h <;> cases h

noncomputable def C_globalise : Con := C_deref
theorem f_globalise (hM : S.M = mt) (hD : Has S 229 C_deref) {vs : List MV} {Q : EP} (h : C_globalise vs st Q) : vs.length = 2 ∧ wpF S b_Cells_globalise (frame ns_Cells_globalise vs) st Q := by
  obtain ⟨I, J, x, y, c, rfl, w, hd, hc, q⟩ := h
  refine ⟨rfl, ?_⟩
  unfold b_Cells_globalise
  walk_at "f"
  refine hD _ _ _ ⟨I, J, x, y, c, rfl, w, hd, hc, ?_⟩
  walk_at "m"
  refine s_KI0 (df tag_srf) ?_
  walk_at "m"
  exact q

inductive C_mark (vs : List MV) (st : Objs) (Q : EP) : Prop
  | mk (I : _) (J : _) (x : _) (y : _) (h0 : vs = [.obj I.s]) (h1 : Wd st I J x y) (h2 : Q (.int x.T.length) st) : C_mark vs st Q

theorem f_mark {vs : List MV} {Q : EP} (h : C_mark vs st Q) : vs.length = 1 ∧ wpF S b_Cells_mark (frame ns_Cells_mark vs) st Q := by
  obtain ⟨I, J, x, y, rfl, w, q⟩ := h
  refine ⟨rfl, ?_⟩
  unfold b_Cells_mark
  have a4 := w.W.a4
  have l := w.W.lenTr
  walk_at "f"
  exact q

noncomputable def Cell.isComp : Cell → Bool
  | .str _ | .lis _ => true
  | _ => false

theorem isComp_tag (c : Cell) : c.isComp = (decide (c.tag = 2) || decide (c.tag = 3)) := by cases c <;> rfl
theorem isRef_tag (c : Cell) : c.isRef = (decide (c.tag = 0) || decide (c.tag = 1)) := by cases c <;> rfl

theorem f_tags {k l : Int} {c : Cell} {i : Nat} {loc : List MV} {Q : EP} (hl : loc[i]? = some (cM c)) (q : Q (.bool (decide (c.tag = k) || decide (c.tag = l))) st) :
    wpF S [.ret (.or (.cmp .Eq (.sub (.loc i) (.cst (.int 0))) (.cst (.int k))) (.cmp .Eq (.sub (.loc i) (.cst (.int 0))) (.cst (.int l))))] loc st Q := by
  refine s_F (s_cons (s_ret (e_or (e_cmp (e_sub (e_loc hl rfl (e_cst (opt_of (sub_cell0 _ _) (e_cst (opt_of (c_int _ _ _) ?_))))))))))
  refine opt_of rfl ?_
  by_cases h : c.tag = k
  · rw [dt h] at q ⊢
    exact q
  · rw [df h] at q ⊢
    exact e_cmp (e_sub (e_loc hl rfl (e_cst (opt_of (sub_cell0 _ _) (e_cst (opt_of (c_int _ _ _) q))))))

inductive C_is_compound (vs : List MV) (st : Objs) (Q : EP) : Prop
  | mk (o : _) (c : _) (h0 : vs = [o, cM c]) (h1 : Q (.bool c.isComp) st) : C_is_compound vs st Q

theorem f_is_compound {vs : List MV} {Q : EP} (h : C_is_compound vs st Q) : vs.length = 2 ∧ wpF S b_Cells_is_compound (frame ns_Cells_is_compound vs) st Q := by
  obtain ⟨o, c, rfl, q⟩ := h
  exact ⟨rfl, f_tags (c := c) rfl (isComp_tag c ▸ q)⟩

inductive C_is_variable (vs : List MV) (st : Objs) (Q : EP) : Prop
  | mk (c : _) (h0 : vs = [cM c]) (h1 : Q (.bool c.isRef) st) : C_is_variable vs st Q

theorem f_is_variable {vs : List MV} {Q : EP} (h : C_is_variable vs st Q) : vs.length = 1 ∧ wpF S b_is_variable (frame ns_is_variable vs) st Q := by
  obtain ⟨c, rfl, q⟩ := h
  exact ⟨rfl, f_tags (c := c) rfl (isRef_tag c ▸ q)⟩

noncomputable def Cell.base : Cell → Nat
  | .str a => a + 1
  | .lis a => a
  | _ => 0

inductive C_base (vs : List MV) (st : Objs) (Q : EP) : Prop
  | mk (o : _) (c : _) (h0 : vs = [o, cM c]) (h1 : c.isComp = true) (h2 : Q (.int c.base) st) : C_base vs st Q

theorem f_base {vs : List MV} {Q : EP} (h : C_base vs st Q) : vs.length = 2 ∧ wpF S b_Cells_base (frame ns_Cells_base vs) st Q := by
  obtain ⟨o, c, rfl, hc, q⟩ := h
  refine ⟨rfl, ?_⟩
  unfold b_Cells_base
  walk_at "f"
  cases c with
  | str a => refine s_KI0 rfl ?_; walk_at "m"; exact q
  | lis a => refine s_KI1 rfl ?_; walk_at "m"; exact q
  | _ => cases hc

noncomputable def fnAt (H : List Cell) : Cell → Option Nat
  | .lis _ => some 0
  | .str a => match H[a]? with
    | some (.fn f) => some f
    | _ => none
  | _ => none

noncomputable def width (H : List Cell) (F : List (Int × Int)) : Cell → Option Nat
  | .lis _ => some 2
  | .str a => match H[a]? with
    | some (.fn f) => match F[f]? with
      | some (_, n) => some n.toNat
      | none => none
    | _ => none
  | _ => none

theorem SymAt.row {sy : Nat} (Y : SymAt st sy J y) {f : Nat} {p : Int × Int} (e : y.F[f]? = some p) : subM st (.obj J.fl) (.int f) = some (fM p) := by
  have : f < y.F.length := (List.getElem?_eq_some_iff.mp e).1
  have h2 := Y.lenF
  rw [subL Y.fl, if_pos (by unfold big; lia)]
  simp [e]
theorem sub_fM1 (p : Int × Int) : subM st (fM p) (.int 1) = some (.int p.2) := sub_1 _ _ _ _
theorem SymAt.a9 {sy : Nat} (Y : SymAt st sy J y) : attrM st (.obj sy) 9 = some (.obj J.fl) := attrU Y.s _
theorem SymAt.a7 {sy : Nat} (Y : SymAt st sy J y) : attrM st (.obj sy) 7 = some (.obj J.tx) := attrU Y.s _
theorem SymAt.a8 {sy : Nat} (Y : SymAt st sy J y) : attrM st (.obj sy) 8 = some (.obj J.an) := attrU Y.s _
theorem SymAt.a10 {sy : Nat} (Y : SymAt st sy J y) : attrM st (.obj sy) 10 = some (.obj J.fn) := attrU Y.s _

inductive C_arity (vs : List MV) (st : Objs) (Q : EP) : Prop
  | mk (sy : _) (J : _) (y : _) (f : _) (p : _) (h0 : vs = [.obj sy, .int (f : Nat)]) (h1 : SymAt st sy J y) (h2 : y.F[f]? = some p) (h3 : Q (.int p.2) st) : C_arity vs st Q

theorem f_arity {vs : List MV} {Q : EP} (h : C_arity vs st Q) : vs.length = 2 ∧ wpF S b_Symbols_arity (frame ns_Symbols_arity vs) st Q := by
  obtain ⟨sy, J, y, f, p, rfl, Y, e, q⟩ := h
  refine ⟨rfl, ?_⟩
  unfold b_Symbols_arity
  have a9 := Y.a9
  have r := Y.row e
  have r1 := sub_fM1 (st := st) p
  walk_at "f"
  exact q

inductive C_width (vs : List MV) (st : Objs) (Q : EP) : Prop
  | mk (I : _) (J : _) (x : _) (y : _) (c : _) (n : _) (h0 : vs = [.obj I.s, cM c]) (h1 : Wd st I J x y) (h2 : width x.H y.F c = some n) (h3 : (∀ p ∈ y.F, 0 ≤ p.2)) (h4 : Q (.int n) st) : C_width vs st Q

theorem f_width (hM : S.M = mt) (hA : Has S 123 C_arity) {vs : List MV} {Q : EP} (h : C_width vs st Q) : vs.length = 2 ∧ wpF S b_Cells_width (frame ns_Cells_width vs) st Q := by
  obtain ⟨I, J, x, y, c, n, rfl, w, hw, hp, q⟩ := h
  refine ⟨rfl, ?_⟩
  unfold b_Cells_width
  walk_at "f"
  cases c with
  | lis a =>
    cases hw
    refine s_KI1 rfl ?_
    walk_at "m"
    exact q
  | str a =>
    simp only [width] at hw
    split at hw
    · rename_i f hf
      split at hw
      · rename_i a' m hm'
        cases hw
        have a0 := w.W.a0
        have a2 := w.W.a2
        have hc := w.W.cell hf
        refine s_KI0 rfl ?_
        walk_at "m"
        refine hA _ _ _ ⟨I.sy, J, y, f, _, rfl, w.Y, hm', ?_⟩
        have := hp _ (List.mem_of_getElem? hm')
        rwa [Int.toNat_of_nonneg this] at q
      · cases hw
    · cases hw
  | _ => cases hw

inductive C_functor_of (vs : List MV) (st : Objs) (Q : EP) : Prop
  | mk (I : _) (J : _) (x : _) (y : _) (c : _) (f : _) (h0 : vs = [.obj I.s, cM c]) (h1 : Wd st I J x y) (h2 : fnAt x.H c = some f) (h3 : Q (.int f) st) : C_functor_of vs st Q

theorem f_functor_of {vs : List MV} {Q : EP} (h : C_functor_of vs st Q) : vs.length = 2 ∧ wpF S b_Cells_functor_of (frame ns_Cells_functor_of vs) st Q := by
  obtain ⟨I, J, x, y, c, f, rfl, w, hf, q⟩ := h
  refine ⟨rfl, ?_⟩
  unfold b_Cells_functor_of
  walk_at "f"
  cases c with
  | lis a =>
    cases hf
    refine s_KI0 rfl ?_
    walk_at "m"
    exact q
  | str a =>
    simp only [fnAt] at hf
    split at hf
    · rename_i f' hf'
      cases hf
      have a2 := w.W.a2
      have hc := w.W.cell hf'
      refine s_KI1 rfl ?_
      walk_at "m"
      exact q
    · cases hf
  | _ => cases hf
end

set_option tactic.hygienic false

inductive Tm where
  | var (k : Nat)
  | con (a : Int)
  | num (i : Int)
  | app (f : Nat) (args : List Tm)

mutual
noncomputable def Tm.sub (σ : Nat → Tm) : Tm → Tm
  | .var k => σ k
  | .con a => .con a
  | .num i => .num i
  | .app f ts => .app f (Tm.subs σ ts)
noncomputable def Tm.subs (σ : Nat → Tm) : List Tm → List Tm
  | [] => []
  | t :: r => t.sub σ :: Tm.subs σ r
end
mutual
noncomputable def Tm.size : Tm → Nat
  | .app _ ts => Tm.sizes ts + 1
  | _ => 1
noncomputable def Tm.sizes : List Tm → Nat
  | [] => 0
  | t :: r => t.size + Tm.sizes r
end
mutual
noncomputable def Tm.has (k : Nat) : Tm → Prop
  | .var j => j = k
  | .app _ ts => Tm.hass k ts
  | _ => False
noncomputable def Tm.hass (k : Nat) : List Tm → Prop
  | [] => False
  | t :: r => t.has k ∨ Tm.hass k r
end

theorem Tm.subs_map (σ : Nat → Tm) (ts : List Tm) : Tm.subs σ ts = ts.map (Tm.sub σ) := by
  induction ts with
  | nil => rfl
  | cons t r ih => simp [Tm.subs, ih]
theorem Tm.hass_iff {k : Nat} {ts : List Tm} : Tm.hass k ts ↔ ∃ t ∈ ts, t.has k := by
  induction ts with
  | nil => simp [Tm.hass]
  | cons t r ih => simp [Tm.hass, ih]
theorem Tm.sizes_mem {t : Tm} {ts : List Tm} (h : t ∈ ts) : t.size ≤ Tm.sizes ts := by
  induction ts with
  | nil => simp at h
  | cons a r ih =>
    rcases List.mem_cons.mp h with rfl | h
    · simp [Tm.sizes]
    · have := ih h; simp [Tm.sizes]; lia
theorem Tm.size_pos (t : Tm) : 0 < t.size := by cases t <;> simp [Tm.size]

mutual
theorem Tm.sub_ext {σ τ : Nat → Tm} : ∀ {t : Tm}, (∀ k, t.has k → σ k = τ k) → t.sub σ = t.sub τ
  | .var k, h => h k (by simp [Tm.has])
  | .con a, h => rfl
  | .num i, h => rfl
  | .app f ts, h => by simp only [Tm.sub]; rw [Tm.subs_ext (fun k hk => h k (by simpa [Tm.has] using hk))]
theorem Tm.subs_ext {σ τ : Nat → Tm} : ∀ {ts : List Tm}, (∀ k, Tm.hass k ts → σ k = τ k) → Tm.subs σ ts = Tm.subs τ ts
  | [], h => rfl
  | t :: r, h => by
    simp only [Tm.subs]
    rw [Tm.sub_ext (t := t) (fun k hk => h k (by simp [Tm.hass, hk])), Tm.subs_ext (ts := r) (fun k hk => h k (by simp [Tm.hass, hk]))]
end
mutual
theorem Tm.sub_sub {σ τ : Nat → Tm} : ∀ {t : Tm}, (t.sub σ).sub τ = t.sub fun k => (σ k).sub τ
  | .var k => rfl
  | .con a => rfl
  | .num i => rfl
  | .app f ts => by simp only [Tm.sub]; rw [Tm.subs_subs]
theorem Tm.subs_subs {σ τ : Nat → Tm} : ∀ {ts : List Tm}, Tm.subs τ (Tm.subs σ ts) = Tm.subs (fun k => (σ k).sub τ) ts
  | [] => rfl
  | t :: r => by simp only [Tm.subs]; rw [Tm.sub_sub, Tm.subs_subs]
end
mutual
theorem Tm.sub_var : ∀ {t : Tm}, t.sub Tm.var = t
  | .var k => rfl
  | .con a => rfl
  | .num i => rfl
  | .app f ts => by simp only [Tm.sub]; rw [Tm.subs_var]
theorem Tm.subs_var : ∀ {ts : List Tm}, Tm.subs Tm.var ts = ts
  | [] => rfl
  | t :: r => by simp only [Tm.subs]; rw [Tm.sub_var, Tm.subs_var]
end
mutual
theorem Tm.size_sub {σ : Nat → Tm} {k : Nat} : ∀ {t : Tm}, t.has k → (σ k).size ≤ (t.sub σ).size
  | .var j, h => by simp only [Tm.has] at h; subst h; exact Nat.le_refl _
  | .con a, h => by simp [Tm.has] at h
  | .num i, h => by simp [Tm.has] at h
  | .app f ts, h => by
    have := Tm.sizes_sub (σ := σ) (k := k) (ts := ts) (by simpa [Tm.has] using h)
    simp only [Tm.sub, Tm.size]; lia
theorem Tm.sizes_sub {σ : Nat → Tm} {k : Nat} : ∀ {ts : List Tm}, Tm.hass k ts → (σ k).size ≤ Tm.sizes (Tm.subs σ ts)
  | [], h => by simp [Tm.hass] at h
  | t :: r, h => by
    simp only [Tm.subs, Tm.sizes]
    rcases (by simpa [Tm.hass] using h : t.has k ∨ Tm.hass k r) with h | h
    · have := Tm.size_sub (σ := σ) h; lia
    · have := Tm.sizes_sub (σ := σ) h; lia
end

/- the heap read as terms -/
noncomputable def Cell.isFn : Cell → Bool
  | .fn _ => true
  | _ => false

noncomputable def Cell.addr : Cell → Nat
  | .str a => a
  | .lis a => a
  | _ => 0

noncomputable abbrev Fun := List (Int × Int)

noncomputable def valC (H : List Cell) (F : Fun) (ρ : Nat → Tm) : Cell → Tm
  | .ref a => ρ a
  | .con n => .con n
  | .int i => .num i
  | .fn _ => .con 0
  | .str a => .app ((fnAt H (.str a)).getD 0) ((List.range ((width H F (.str a)).getD 0)).map fun i => ρ (a + 1 + i))
  | .lis a => .app 0 [ρ a, ρ (a + 1)]

noncomputable def Sol (H : List Cell) (F : Fun) (ρ : Nat → Tm) : Prop := ∀ (a : Nat) (c : Cell), H[a]? = some c → c.isFn = false → ρ a = valC H F ρ c

noncomputable def Pl (H : List Cell) (a : Nat) : Prop := ∃ d, H[a]? = some d ∧ d.isFn = false

structure Blk (H : List Cell) (F : Fun) (B : List Nat) (c : Cell) : Prop where
  comp : c.isComp = true
  mem : c.addr ∈ B
  wid : ∃ n, width H F c = some n ∧ n ≤ 5 ∧ ∀ i, i < n → Pl H (c.base + i)
  str : ∀ a, c = .str a → ∃ f, H[a]? = some (.fn f) ∧ f ≠ 0

noncomputable def okC (H : List Cell) (F : Fun) (B : List Nat) : Cell → Prop
  | .ref a => Pl H a
  | .con _ => True
  | .int _ => True
  | .fn _ => False
  | .str a => Blk H F B (.str a)
  | .lis a => Blk H F B (.lis a)

structure WF (H : List Cell) (F : Fun) (B : List Nat) : Prop where
  down : Down H
  ok : ∀ (a : Nat) (c : Cell), H[a]? = some c → c.isFn = false → okC H F B c

structure SameFn (H H' : List Cell) : Prop where
  len : H'.length = H.length
  fn : ∀ (a f : Nat), H'[a]? = some (.fn f) ↔ H[a]? = some (.fn f)

theorem SameFn.refl (H : List Cell) : SameFn H H := ⟨rfl, fun _ _ => Iff.rfl⟩
theorem SameFn.trans {H H' H'' : List Cell} (h : SameFn H H') (k : SameFn H' H'') : SameFn H H'' := ⟨k.len.trans h.len, fun a f => (k.fn a f).trans (h.fn a f)⟩

theorem isFn_iff {c : Cell} : c.isFn = true ↔ ∃ f, c = .fn f := by cases c <;> simp [Cell.isFn]

set_option tactic.hygienic true in
theorem SameFn.fnAt {H H' : List Cell} (h : SameFn H H') (c : Cell) : fnAt H' c = fnAt H c := by
  cases c <;> simp only [Mine.Lake.fnAt]
  rename_i a
  cases e : H[a]? with
  | none =>
    have : H'[a]? = none := by rw [List.getElem?_eq_none_iff] at e ⊢; rw [h.len]; exact e
    rw [this]
  | some c =>
    cases e' : H'[a]? with
    | none =>
      rw [List.getElem?_eq_none_iff, h.len, ← List.getElem?_eq_none_iff, e] at e'; cases e'
    | some c' =>
      by_cases k : ∃ f, c = .fn f
      · obtain ⟨f, rfl⟩ := k
        have := (h.fn a f).mpr e
        rw [e'] at this; cases this; rfl
      · have k' : ¬ ∃ f, c' = .fn f := fun ⟨f, q⟩ => by
          subst q
          have := (h.fn a f).mp e'
          rw [e] at this; cases this; exact k ⟨f, rfl⟩
        cases c <;> cases c' <;> simp_all
set_option tactic.hygienic true in
theorem SameFn.width {H H' : List Cell} {F : Fun} (h : SameFn H H') (c : Cell) : width H' F c = width H F c := by
  cases c <;> simp only [Mine.Lake.width]
  rename_i a
  have := h.fnAt (.str a)
  simp only [Mine.Lake.fnAt] at this
  cases e : H[a]? with
  | none =>
    have : H'[a]? = none := by rw [List.getElem?_eq_none_iff] at e ⊢; rw [h.len]; exact e
    rw [this]
  | some c =>
    cases e' : H'[a]? with
    | none =>
      rw [List.getElem?_eq_none_iff, h.len, ← List.getElem?_eq_none_iff, e] at e'; cases e'
    | some c' =>
      rw [e, e'] at this
      cases c <;> cases c' <;> simp_all
set_option tactic.hygienic true in
theorem SameFn.val {H H' : List Cell} {F : Fun} (h : SameFn H H') (ρ : Nat → Tm) (c : Cell) : valC H' F ρ c = valC H F ρ c := by
  cases c <;> simp only [valC]
  rename_i a
  rw [h.fnAt, h.width]
theorem SameFn.pl {H H' : List Cell} (h : SameFn H H') {a : Nat} (p : Pl H a) : Pl H' a := by
  obtain ⟨d, e, k⟩ := p
  have hl := (List.getElem?_eq_some_iff.mp e).1
  have hl' : a < H'.length := by rw [h.len]; exact hl
  refine ⟨H'[a], List.getElem?_eq_getElem hl', ?_⟩
  cases q : (H'[a]).isFn with
  | false => rfl
  | true =>
    obtain ⟨f, e'⟩ := isFn_iff.mp q
    have := (h.fn a f).mp (by rw [List.getElem?_eq_getElem hl', e'])
    rw [e] at this; cases this; cases k
theorem SameFn.symm {H H' : List Cell} (h : SameFn H H') : SameFn H' H := ⟨h.len.symm, fun a f => (h.fn a f).symm⟩
theorem SameFn.blk {H H' : List Cell} {F : Fun} {B : List Nat} (h : SameFn H H') {c : Cell} (b : Blk H F B c) : Blk H' F B c :=
  ⟨b.comp, b.mem, let ⟨n, e, l, p⟩ := b.wid; ⟨n, (h.width c).trans e, l, fun i hi => h.pl (p i hi)⟩, fun a e => let ⟨f, x, y⟩ := b.str a e; ⟨f, (h.fn a f).mpr x, y⟩⟩
theorem SameFn.okC {H H' : List Cell} {F : Fun} {B : List Nat} (h : SameFn H H') {c : Cell} (b : okC H F B c) : okC H' F B c := by
  cases c <;> simp only [Mine.Lake.okC] at b ⊢
  · exact h.pl b
  · exact h.blk b
  · exact h.blk b

noncomputable def Root (H : List Cell) (a : Nat) : Prop := H[a]? = some (.ref a)

theorem okC.inH {H : List Cell} {F : Fun} {B : List Nat} {c : Cell} (h : okC H F B c) : InH H c := by
  cases c <;> simp only [InH]
  obtain ⟨d, e, _⟩ := h
  exact (List.getElem?_eq_some_iff.mp e).1

set_option tactic.hygienic true in
theorem D_ind {H : List Cell} {F : Fun} {B : List Nat} (w : WF H F B) {P : Cell → Prop} (root : ∀ a, Root H a → P (.ref a)) (other : ∀ c, (∀ a, c ≠ .ref a) → okC H F B c → P c)
    (step : ∀ a d, H[a]? = some d → d ≠ .ref a → okC H F B d → D H (.ref a) = D H d → P d → P (.ref a)) : ∀ c, okC H F B c → P c := by
  have main : ∀ (n : Nat) (c : Cell), c.rank ≤ n → okC H F B c → P c := by
    intro n
    induction n with
    | zero =>
      intro c h ok
      exact other c (by intro a e; subst e; simp [Cell.rank] at h) ok
    | succ n ih =>
      intro c h ok
      by_cases k : ∃ a, c = .ref a
      · obtain ⟨a, rfl⟩ := k
        obtain ⟨d, e, hf⟩ := ok
        by_cases q : d = .ref a
        · subst q; exact root a e
        · have okd := w.ok a d e hf
          refine step a d e q okd (by rw [D_ref w.down e, if_neg q]) (ih d ?_ okd)
          cases d <;> simp [Cell.rank] at h ⊢
          rename_i b
          have := w.down a b e
          have : b ≠ a := fun z => q (by rw [z])
          lia
      · exact other c (fun a e => k ⟨a, e⟩) ok
  intro c ok
  exact main c.rank c (Nat.le_refl _) ok

theorem D_root {H : List Cell} {F : Fun} {B : List Nat} (w : WF H F B) {a : Nat} (h : Root H a) : D H (.ref a) = .ref a := by rw [D_ref w.down h, if_pos rfl]

theorem D_end {H : List Cell} {F : Fun} {B : List Nat} (w : WF H F B) : ∀ c, okC H F B c → okC H F B (D H c) ∧ ((∃ a, D H c = .ref a ∧ Root H a) ∨ ∀ a, D H c ≠ .ref a) ∧ D H (D H c) = D H c := by
  refine D_ind w (P := fun c => okC H F B (D H c) ∧ ((∃ a, D H c = .ref a ∧ Root H a) ∨ ∀ a, D H c ≠ .ref a) ∧ D H (D H c) = D H c) ?_ ?_ ?_
  · intro a h
    rw [D_root w h]
    exact ⟨⟨_, h, rfl⟩, .inl ⟨a, rfl, h⟩, D_root w h⟩
  · intro c h ok
    rw [D_other h]
    exact ⟨ok, .inr h, D_other h⟩
  · intro a d e q okd hD ih
    rw [hD]; exact ih

theorem Sol.D {H : List Cell} {F : Fun} {B : List Nat} (w : WF H F B) {ρ : Nat → Tm} (s : Sol H F ρ) : ∀ c, okC H F B c → valC H F ρ (Mine.Lake.D H c) = valC H F ρ c := by
  refine D_ind w (P := fun c => valC H F ρ (Mine.Lake.D H c) = valC H F ρ c) ?_ ?_ ?_
  · intro a h; rw [D_root w h]
  · intro c h ok; rw [D_other h]
  · intro a d e q okd hD ih
    rw [hD, ih]
    have hf : d.isFn = false := by
      cases k : d.isFn with
      | false => rfl
      | true => obtain ⟨f, rfl⟩ := isFn_iff.mp k; exact okd.elim
    exact (s a d e hf).symm


theorem okC.notFn {H : List Cell} {F : Fun} {B : List Nat} {c : Cell} (h : okC H F B c) : c.isFn = false := by
  cases c <;> first | rfl | exact h.elim

section bind
variable {H : List Cell} {F : Fun} {B : List Nat} {a : Nat} {v : Cell}

theorem bind_same (ha : Root H a) (hv : v.isFn = false) : SameFn H (H.set a v) := by
  refine ⟨by simp, fun b f => ?_⟩
  have hlt := (List.getElem?_eq_some_iff.mp ha).1
  by_cases e : a = b
  · subst e
    rw [List.getElem?_set_self hlt, ha]
    constructor
    · intro q; cases q; cases hv
    · intro q; cases q
  · rw [List.getElem?_set_ne e]

theorem bind_WF (w : WF H F B) (ha : Root H a) (hv : okC H F B v) (hd : ∀ b, v = .ref b → b ≤ a) : WF (H.set a v) F B := by
  have sf := bind_same ha hv.notFn
  have hlt := (List.getElem?_eq_some_iff.mp ha).1
  refine ⟨fun b d e => ?_, fun b d e hf => ?_⟩
  · by_cases q : a = b
    · subst q
      rw [List.getElem?_set_self hlt] at e
      cases e; exact hd d rfl
    · rw [List.getElem?_set_ne q] at e; exact w.down b d e
  · by_cases q : a = b
    · subst q
      rw [List.getElem?_set_self hlt] at e
      cases e; exact sf.okC hv
    · rw [List.getElem?_set_ne q] at e; exact sf.okC (w.ok b d e hf)

theorem bind_Sol (ha : Root H a) (hv : v.isFn = false) (ρ : Nat → Tm) : Sol (H.set a v) F ρ ↔ Sol H F ρ ∧ ρ a = valC H F ρ v := by
  have sf := bind_same ha hv
  have hlt := (List.getElem?_eq_some_iff.mp ha).1
  constructor
  · intro s
    have h1 : ρ a = valC H F ρ v := by rw [← sf.val]; exact s a v (List.getElem?_set_self hlt) hv
    refine ⟨fun b d e hf => ?_, h1⟩
    by_cases q : a = b
    · subst q
      rw [ha] at e; cases e; rfl
    · rw [← sf.val]; exact s b d (by rw [List.getElem?_set_ne q]; exact e) hf
  · rintro ⟨s, h1⟩ b d e hf
    rw [sf.val]
    by_cases q : a = b
    · subst q
      rw [List.getElem?_set_self hlt] at e
      cases e; exact h1
    · rw [List.getElem?_set_ne q] at e; exact s b d e hf

theorem bind_D (w : WF H F B) (ha : Root H a) (hv : okC H F B v) (hd : ∀ b, v = .ref b → b < a ∧ Root H b) : ∀ c, okC H F B c → D (H.set a v) c = if D H c = .ref a then v else D H c := by
  have w' := bind_WF w ha hv (fun b e => Nat.le_of_lt (hd b e).1)
  have hlt := (List.getElem?_eq_some_iff.mp ha).1
  have hva : v ≠ .ref a := fun e => by have := (hd a e).1; lia
  have Dv : D (H.set a v) v = v := by
    by_cases k : ∃ b, v = .ref b
    · obtain ⟨b, rfl⟩ := k
      have := hd b rfl
      have hb : (H.set a (.ref b))[b]? = some (.ref b) := by rw [List.getElem?_set_ne (by lia)]; exact this.2
      exact D_root w' hb
    · exact D_other fun b e => k ⟨b, e⟩
  refine D_ind w (P := fun c => D (H.set a v) c = if D H c = .ref a then v else D H c) ?_ ?_ ?_
  · intro b hb
    rw [D_root w hb]
    by_cases e : b = a
    · subst e
      rw [if_pos rfl, D_ref w'.down (List.getElem?_set_self hlt), if_neg hva, Dv]
    · rw [if_neg (by simpa using e)]
      have : (H.set a v)[b]? = some (.ref b) := by rw [List.getElem?_set_ne (Ne.symm e)]; exact hb
      exact D_root w' this
  · intro c h ok
    rw [D_other h, D_other h, if_neg (h a)]
  · intro b d e q okd hD ih
    have hne : a ≠ b := fun z => by subst z; rw [ha] at e; cases e; exact q rfl
    rw [D_ref w'.down (by rw [List.getElem?_set_ne hne]; exact e), if_neg q, ih, hD]
end bind

structure Gen (H : List Cell) (F : Fun) (δ : Nat → Tm) : Prop where
  sol : Sol H F δ
  root : ∀ a, Root H a → δ a = .var a
  gen : ∀ ρ, Sol H F ρ → ∀ a, Pl H a → ρ a = (δ a).sub ρ

theorem Gen.val {H : List Cell} {F : Fun} {B : List Nat} {δ : Nat → Tm} (g : Gen H F δ) {ρ : Nat → Tm} (s : Sol H F ρ) {c : Cell} (h : okC H F B c) : valC H F ρ c = (valC H F δ c).sub ρ := by
  cases c <;> simp only [valC, okC] at h ⊢
  · exact g.gen ρ s _ h
  · obtain ⟨n, e, l, p⟩ := h.wid
    rw [e]
    simp only [Option.getD_some, Tm.sub, Tm.subs_map, List.map_map]
    congr 1
    apply List.map_congr_left
    intro i hi
    exact g.gen ρ s _ (p i (List.mem_range.mp hi))
  · obtain ⟨n, e, l, p⟩ := h.wid
    simp only [width, Option.some.injEq] at e
    subst e
    simp only [Tm.sub, Tm.subs]
    have h0 := g.gen ρ s _ (p 0 (by lia))
    have h1 := g.gen ρ s _ (p 1 (by lia))
    simp only [Cell.base, Nat.add_zero] at h0 h1
    rw [h0, h1]
  · rfl
  · rfl

noncomputable def one (a : Nat) (t : Tm) (k : Nat) : Tm := if k = a then t else .var k

theorem one_sub {a : Nat} {t u : Tm} (h : ¬ u.has a) : u.sub (one a t) = u := by
  have : u.sub (one a t) = u.sub Tm.var := Tm.sub_ext fun k hk => by
    unfold one
    rw [if_neg (fun (e : k = a) => h (by rw [← e]; exact hk))]
  rw [this, Tm.sub_var]

theorem valC_comp {H : List Cell} {F : Fun} {δ : Nat → Tm} {σ : Nat → Tm} (c : Cell) : (valC H F δ c).sub σ = valC H F (fun k => (δ k).sub σ) c := by
  cases c <;> simp only [valC, Tm.sub, Tm.subs, Tm.subs_map, List.map_map] <;> rfl

theorem Gen.bind {H : List Cell} {F : Fun} {B : List Nat} {δ : Nat → Tm} (w : WF H F B) (g : Gen H F δ) {a : Nat} {v : Cell} (ha : Root H a) (hv : okC H F B v) (ho : ¬ (valC H F δ v).has a) :
    Gen (H.set a v) F (fun k => (δ k).sub (one a (valC H F δ v))) := by
  have sf := bind_same ha hv.notFn
  have hlt := (List.getElem?_eq_some_iff.mp ha).1
  have ta : (δ a).sub (one a (valC H F δ v)) = valC H F δ v := by
    rw [g.root a ha]; simp [Tm.sub, one]
  refine ⟨?_, ?_, ?_⟩
  · rw [bind_Sol ha hv.notFn]
    refine ⟨fun b c e hf => ?_, ?_⟩
    · show (δ b).sub _ = _
      rw [g.sol b c e hf]; exact valC_comp c
    · show (δ a).sub _ = _
      rw [ta, ← valC_comp, one_sub ho]
  · intro b hb
    have hne : a ≠ b := fun e => by
      subst e
      unfold Root at hb
      rw [List.getElem?_set_self hlt] at hb
      cases hb
      apply ho
      simp [valC, g.root a ha, Tm.has]
    have hb' : Root H b := by
      unfold Root at hb ⊢
      rw [List.getElem?_set_ne hne] at hb; exact hb
    show (δ b).sub _ = _
    rw [g.root b hb']
    simp [Tm.sub, one, Ne.symm hne]
  · intro ρ s b p
    obtain ⟨s0, e⟩ := (bind_Sol ha hv.notFn ρ).mp s
    have p' := sf.symm.pl p
    show ρ b = ((δ b).sub _).sub ρ
    rw [Tm.sub_sub, g.gen ρ s0 b p']
    apply Tm.sub_ext
    intro k _
    unfold one
    split
    · rename_i q; subst q
      rw [e, g.val s0 hv]
    · rfl

inductive Reach (H : List Cell) (F : Fun) (a : Nat) : Cell → Prop
  | here {c : Cell} : D H c = .ref a → Reach H F a c
  | sub {c : Cell} {n i : Nat} : width H F (D H c) = some n → i < n → Reach H F a (.ref ((D H c).base + i)) → Reach H F a c

theorem has_args {H : List Cell} {F : Fun} {B : List Nat} {δ : Nat → Tm} {d : Cell} (b : Blk H F B d) {a n : Nat} (hn : width H F d = some n) : (valC H F δ d).has a ↔ ∃ i, i < n ∧ (δ (d.base + i)).has a := by
  cases d with
  | str p =>
    simp only [valC, hn, Option.getD_some, Tm.has, Tm.hass_iff, List.mem_map, List.mem_range, Cell.base]
    constructor
    · rintro ⟨t, ⟨i, hi, rfl⟩, h⟩; exact ⟨i, hi, h⟩
    · rintro ⟨i, hi, h⟩; exact ⟨_, ⟨i, hi, rfl⟩, h⟩
  | lis p =>
    simp only [width, Option.some.injEq] at hn
    subst hn
    simp only [valC, Tm.has, Tm.hass, Cell.base, or_false]
    constructor
    · rintro (h | h)
      · exact ⟨0, by lia, by simpa using h⟩
      · exact ⟨1, by lia, h⟩
    · rintro ⟨i, hi, h⟩
      rcases (show i = 0 ∨ i = 1 by lia) with rfl | rfl
      · exact .inl (by simpa using h)
      · exact .inr h
  | _ => have := b.comp; simp [Cell.isComp] at this

theorem size_arg {H : List Cell} {F : Fun} {B : List Nat} {δ : Nat → Tm} {d : Cell} (b : Blk H F B d) {n : Nat} (hn : width H F d = some n) {i : Nat} (hi : i < n) : (δ (d.base + i)).size < (valC H F δ d).size := by
  cases d with
  | str p =>
    simp only [valC, hn, Option.getD_some, Tm.size, Cell.base]
    have := Tm.sizes_mem (t := δ (p + 1 + i)) (ts := (List.range n).map fun i => δ (p + 1 + i)) (List.mem_map.mpr ⟨i, List.mem_range.mpr hi, rfl⟩)
    lia
  | lis p =>
    simp only [width, Option.some.injEq] at hn
    subst hn
    simp only [valC, Tm.size, Tm.sizes, Cell.base]
    rcases (show i = 0 ∨ i = 1 by lia) with rfl | rfl
    · simp only [Nat.add_zero]; lia
    · have := (δ p).size_pos; lia
  | _ => have := b.comp; simp [Cell.isComp] at this

theorem blk_of {H : List Cell} {F : Fun} {B : List Nat} {d : Cell} (h : okC H F B d) (hc : d.isComp = true) : Blk H F B d := by
  cases d <;> simp [Cell.isComp] at hc <;> exact h

theorem isComp_width {H : List Cell} {F : Fun} {d : Cell} {n : Nat} (h : width H F d = some n) : d.isComp = true := by
  cases d <;> simp [width] at h <;> rfl

theorem reach_has {H : List Cell} {F : Fun} {B : List Nat} {δ : Nat → Tm} (w : WF H F B) (g : Gen H F δ) {a : Nat} (ha : Root H a) {c : Cell} (r : Reach H F a c) : okC H F B c → (valC H F δ c).has a := by
  induction r with
  | @here c e =>
    intro h
    rw [← g.sol.D w c h, e]
    simp [valC, g.root a ha, Tm.has]
  | @sub c n i hn hi r ih =>
    intro h
    have b := blk_of (D_end w c h).1 (isComp_width hn)
    rw [← g.sol.D w c h]
    refine (has_args b hn).mpr ⟨i, hi, ?_⟩
    obtain ⟨m, e, l, p⟩ := b.wid
    rw [hn] at e; cases e
    exact ih (p i hi)

theorem has_reach {H : List Cell} {F : Fun} {B : List Nat} {δ : Nat → Tm} (w : WF H F B) (g : Gen H F δ) {a : Nat} : ∀ (k : Nat) (c : Cell), okC H F B c → (valC H F δ c).size ≤ k → (valC H F δ c).has a → Reach H F a c := by
  intro k
  induction k with
  | zero => intro c _ h; have := (valC H F δ c).size_pos; lia
  | succ k ih =>
    intro c h hs hh
    obtain ⟨okd, hend, _⟩ := D_end w c h
    rw [← g.sol.D w c h] at hs hh
    rcases hend with ⟨b, e, hb⟩ | hne
    · rw [e] at hh
      simp [valC, g.root b hb, Tm.has] at hh
      subst hh
      exact .here e
    · by_cases hc : (D H c).isComp = true
      · have b := blk_of okd hc
        obtain ⟨n, e, l, p⟩ := b.wid
        obtain ⟨i, hi, hh'⟩ := (has_args b e).mp hh
        have := size_arg (δ := δ) b e hi
        exact .sub e hi (ih _ (p i hi) (by show (δ _).size ≤ k; lia) hh')
      · cases e : D H c <;> rw [e] at hh hc hne <;> simp [valC, Tm.has, Cell.isComp] at hh hc
        exact (hne _ rfl).elim


set_option tactic.hygienic true

set_option tactic.hygienic false
section
variable {S : Sg} {st : Objs} {I : Ids} {J : SyIds} {x : Sto} {y : Sym}

inductive C_push (vs : List MV) (st : Objs) (Q : EP) : Prop
  | mk (I : _) (J : _) (x : _) (y : _) (c : _) (h0 : vs = [.obj I.s, cM c]) (h1 : Wd st I J x y) (h2 : x.H.length < 1000) (h3 : ∀ st', Wd st' I J { x with H := x.H ++ [c] } y → Same [I.hp] st st' → st'.length = st.length → Q (.int x.H.length) st') : C_push vs st Q

theorem f_push {vs : List MV} {Q : EP} (h : C_push vs st Q) : vs.length = 2 ∧ wpF S b_Cells_push (frame ns_Cells_push vs) st Q := by
  obtain ⟨I, J, x, y, c, rfl, w, hH, q⟩ := h
  refine ⟨rfl, ?_⟩
  unfold b_Cells_push
  obtain ⟨st1, e1, w1, s1, l1⟩ := w.pushH (S := S) hH c
  have hmh := w.W.mh
  have a1 := w.W.a1
  have a2 := w.W.a2
  have l := w.W.lenHp
  have mv := w.mvH (S := S)
  walk_at "f"
  refine s_KI0 (df (by lia)) ?_
  walk_at "m"
  refine ⟨mv, (e1 _).mpr ?_⟩
  walk_at "m"
  exact q st1 w1 s1 l1

inductive C_new_var (vs : List MV) (st : Objs) (Q : EP) : Prop
  | mk (I : _) (J : _) (x : _) (y : _) (h0 : vs = [.obj I.s]) (h1 : Wd st I J x y) (h2 : x.H.length < 1000) (h3 : ∀ st', Wd st' I J { x with H := x.H ++ [Cell.ref x.H.length] } y → Same [I.hp] st st' → st'.length = st.length → Q (cM (.ref x.H.length)) st') : C_new_var vs st Q

theorem f_new_var (hM : S.M = mt) (hP : Has S 201 C_push) {vs : List MV} {Q : EP} (h : C_new_var vs st Q) : vs.length = 1 ∧ wpF S b_Cells_new_var (frame ns_Cells_new_var vs) st Q := by
  obtain ⟨I, J, x, y, rfl, w, hH, q⟩ := h
  refine ⟨rfl, ?_⟩
  unfold b_Cells_new_var
  have a2 := w.W.a2
  have l := w.W.lenHp
  walk_at "f"
  refine hP _ _ _ ⟨I, J, x, y, .ref x.H.length, rfl, w, hH, fun st' w' s' l' => ?_⟩
  walk_at "m"
  exact q st' w' s' l'

noncomputable def fresh (a : Nat) : Nat → List Cell
  | 0 => []
  | n + 1 => fresh a n ++ [Cell.ref (a + n)]
theorem fresh_len (a n : Nat) : (fresh a n).length = n := by
  induction n with
  | zero => rfl
  | succ n ih => simp [fresh, ih]

theorem rngL_up (n : Nat) : rngL 0 n 1 = (List.range n).map fun (i : Nat) => MV.int i := by
  unfold rngL Builtin.Range.rangeSize
  have : (if (1 : Int) > 0 then if (0 : Int) < n then ((n : Int) - 0 - 1) / 1 + 1 else 0 else if (0 : Int) > n then (0 - (n : Int) - 1) / (-1) + 1 else 0).toNat = n := by
    rw [if_pos (by decide)]
    split
    · rw [Int.ediv_one]; lia
    · lia
  rw [this]
  apply List.map_congr_left
  intro i _
  simp
theorem small_up (n : Nat) (h : n ≤ 1000) : smallR 0 n 1 = true := by
  have hs : Builtin.Range.rangeSize 0 n 1 = n := by
    unfold Builtin.Range.rangeSize
    rw [if_pos (by decide)]
    split
    · rw [Int.ediv_one]; lia
    · lia
  unfold smallR Builtin.Range.small
  rw [hs]
  unfold Builtin.Range.rangeFitsLong
  simp
  lia
theorem items_up (n : Nat) (h : n ≤ 1000) : itemsM st (.rng 0 n 1) = some ((List.range n).map fun (i : Nat) => MV.int i) := by
  unfold itemsM
  simp only
  rw [if_pos (small_up n h), rngL_up]
theorem range_up (n : Nat) (h : n ≤ 1000) : callB .range [.int n] st = some (.rng 0 n 1, st) := by
  unfold callB
  simp only
  rw [if_pos (by unfold big; lia)]

inductive C_reserve (vs : List MV) (st : Objs) (Q : EP) : Prop
  | mk (I : _) (J : _) (x : _) (y : _) (n : _) (h0 : vs = [.obj I.s, .int (n : Nat)]) (h1 : Wd st I J x y) (h2 : x.H.length + n ≤ 1000) (h3 : ∀ st', Wd st' I J { x with H := x.H ++ fresh x.H.length n } y → Same [I.hp] st st' → st'.length = st.length → Q (.int x.H.length) st') : C_reserve vs st Q

theorem f_reserve {vs : List MV} {Q : EP} (h : C_reserve vs st Q) : vs.length = 2 ∧ wpF S b_Cells_reserve (frame ns_Cells_reserve vs) st Q := by
  obtain ⟨I, J, x, y, n, rfl, w, hH, q⟩ := h
  refine ⟨rfl, ?_⟩
  unfold b_Cells_reserve
  have hmh := w.W.mh
  have hn : n ≤ 1000 := by lia
  have a1 := w.W.a1
  have a2 := w.W.a2
  have l := w.W.lenHp
  have hr := range_up (st := st) n hn
  have hi := items_up (st := st) n hn
  walk_at "f"
  refine s_KI0 (df (by lia)) ?_
  walk_at "m"
  refine ⟨by rw [List.length_map, List.length_range]; unfold lim; lia, fun k loc s => Wd s I J { x with H := x.H ++ fresh x.H.length k } y ∧ Same [I.hp] st s ∧ s.length = st.length ∧ ∃ v, loc = [.obj I.s, .int n, .int x.H.length, v], ⟨by rw [fresh, List.append_nil]; exact w, Same.refl _ _, rfl, .unb, rfl⟩, ?_⟩
  rintro k _ s ⟨w1, s1, l1, v, rfl⟩
  refine ⟨items_up n hn, ?_⟩
  by_cases hk : k < n
  · obtain ⟨st1, e1, w2, s2, l2⟩ := w1.pushH (S := S) (by rw [List.length_append, fresh_len]; lia) (Cell.ref (x.H.length + k))
    have a2 := w1.W.a2
    have mv := w1.mvH (S := S)
    refine f_some (x := .int k) (by rw [List.getElem?_map, List.getElem?_range hk]; rfl) ?_
    walk_at "m"
    refine ⟨mv, (e1 _).mpr ?_⟩
    walk_at "m"
    exact ⟨by rw [fresh, ← List.append_assoc]; exact w2, s1.trans s2, l2.trans l1, _, rfl⟩
  · refine f_none (by rw [List.length_map, List.length_range]; exact hk) ?_
    rw [List.length_map, List.length_range]
    rintro rfl
    walk_at "m"
    exact q s w1 s1 l1

noncomputable def Sto.block (x : Sto) (f n : Nat) : Sto × Cell :=
  if f = 0 then ({ x with H := x.H ++ fresh x.H.length 2 }, .lis x.H.length)
  else ({ x with H := x.H ++ (Cell.fn f :: (fresh x.H.length (1 + n)).drop 1) }, .str x.H.length)

theorem fresh_cons (a n : Nat) : (fresh a (1 + n)) = Cell.ref a :: (fresh a (1 + n)).drop 1 := by
  induction n with
  | zero => simp [fresh]
  | succ n ih =>
    have : 1 + (n + 1) = (1 + n) + 1 := by lia
    rw [this]
    simp only [fresh]
    rw [ih]
    simp

inductive C_new_block (vs : List MV) (st : Objs) (Q : EP) : Prop
  | mk (I : _) (J : _) (x : _) (y : _) (f : _) (a : _) (n : Nat) (h0 : vs = [.obj I.s, .int (f : Nat)]) (h1 : Wd st I J x y) (h2 : y.F[f]? = some (a, (n : Int))) (h3 : x.H.length + 1 + n ≤ 1000) (h4 : x.H.length + 2 ≤ 1000) (h5 : ∀ st', Wd st' I J (x.block f n).1 y → Same [I.hp] st st' → st'.length = st.length → Q (cM (x.block f n).2) st') : C_new_block vs st Q

theorem f_new_block (hM : S.M = mt) (hR : Has S 215 C_reserve) (hA : Has S 123 C_arity) {vs : List MV} {Q : EP} (h : C_new_block vs st Q) : vs.length = 2 ∧ wpF S b_Cells_new_block (frame ns_Cells_new_block vs) st Q := by
  obtain ⟨I, J, x, y, f, a, n, rfl, w, hf, hn, h2, q⟩ := h
  refine ⟨rfl, ?_⟩
  unfold b_Cells_new_block
  walk_at "f"
  by_cases hz : f = 0
  · subst hz
    refine s_KI1 rfl ?_
    walk_at "m"
    refine hR _ _ _ ⟨I, J, x, y, 2, rfl, w, h2, fun st' w' s' l' => ?_⟩
    walk_at "m"
    unfold Sto.block at q
    rw [if_pos rfl] at q
    exact q st' w' s' l'
  · refine s_KI0 (df (by lia)) ?_
    have a0 := w.W.a0
    walk_at "m"
    refine hA _ _ _ ⟨I.sy, J, y, f, _, rfl, w.Y, hf, ?_⟩
    walk_at "m"
    refine hR _ _ _ ⟨I, J, x, y, 1 + n, by rw [Int.natCast_add]; rfl, w, by lia, fun st' w' s' l' => ?_⟩
    obtain ⟨st2, e2, w2, s2, l2⟩ := w'.setCell (a := x.H.length) (by rw [List.length_append, fresh_len]; lia) (.fn f)
    have a2 := w'.W.a2
    walk_at "m"
    unfold Sto.block at q
    rw [if_neg hz] at q
    refine q st2 ?_ (s'.trans s2) (l2.trans l')
    rw [fresh_cons, List.set_append_right _ _ (Nat.le_refl _), Nat.sub_self, List.set_cons_zero] at w2
    exact w2
end

set_option tactic.hygienic true

set_option tactic.hygienic false
section
variable {S : Sg} {st : Objs} {I : Ids} {J : SyIds} {x : Sto} {y : Sym}

theorem Wd.app (w : Wd st I J x y) (g : Objs) : Wd (st ++ g) I J x y := w.same (X := []) (Same.app st g) (by simp)

theorem ids_lt (w : Wd st I J x y) : I.s < st.length ∧ I.hp < st.length ∧ I.tr < st.length := ⟨(List.getElem?_eq_some_iff.mp w.W.s).1, (List.getElem?_eq_some_iff.mp w.W.hp).1, (List.getElem?_eq_some_iff.mp w.W.tr).1⟩

noncomputable def sameShape (H : List Cell) : Cell → Cell → Bool
  | .str a, .str b => decide (H[a]? = H[b]?)
  | .lis _, .lis _ => true
  | _, _ => false

inductive C_same_shape (vs : List MV) (st : Objs) (Q : EP) : Prop
  | mk (I : _) (J : _) (x : _) (y : _) (c : _) (d : _) (h0 : vs = [.obj I.s, cM c, cM d]) (h1 : Wd st I J x y) (h2 : c.isComp = true) (h3 : (∀ a, c = .str a → a < x.H.length)) (h4 : (∀ a, d = .str a → a < x.H.length)) (h5 : Q (.bool (sameShape x.H c d)) st) : C_same_shape vs st Q


theorem shape_tag {H : List Cell} {c d : Cell} (h : ¬ c.tag = d.tag) : sameShape H c d = false := by
  cases c <;> cases d <;> first | rfl | exact (h rfl).elim
theorem f_same_shape {vs : List MV} {Q : EP} (h : C_same_shape vs st Q) : vs.length = 3 ∧ wpF S b_same_shape (frame ns_same_shape vs) st Q := by
  obtain ⟨I, J, x, y, c, d, rfl, w, hc, h1, h2, q⟩ := h
  refine ⟨rfl, ?_⟩
  unfold b_same_shape
  walk_at "f"
  by_cases ht : c.tag = d.tag
  case neg =>
    refine s_KI1 (by rw [df ht]; rfl) ?_
    walk_at "m"
    rw [shape_tag ht] at q; exact q
  refine s_KI0 (by rw [dt ht]; rfl) ?_
  walk_at "m"
  cases c with
  | lis a =>
    refine s_KI1 rfl ?_
    walk_at "m"
    cases d with
    | lis b => exact q
    | _ => cases ht
  | str a =>
    refine s_KI0 rfl ?_
    cases d with
    | str b =>
      obtain ⟨u, hu⟩ : ∃ u, x.H[a]? = some u := ⟨_, List.getElem?_eq_getElem (h1 a rfl)⟩
      obtain ⟨v, hv⟩ : ∃ v, x.H[b]? = some v := ⟨_, List.getElem?_eq_getElem (h2 b rfl)⟩
      have a2 := w.W.a2
      have hcu := w.W.cell hu
      have hcv := w.W.cell hv
      walk_at "m"
      have e : sameShape x.H (.str a) (.str b) = decide (u = v) := by show decide (x.H[a]? = x.H[b]?) = _; rw [hu, hv]; exact decide_eq_decide.mpr ⟨fun h => Option.some.inj h, fun h => by rw [h]⟩
      rw [e] at q; exact q
    | _ => cases ht
  | _ => cases hc

noncomputable def down : Nat → List Nat
  | 0 => []
  | n + 1 => n :: down n
theorem down_len (n : Nat) : (down n).length = n := by
  induction n with
  | zero => rfl
  | succ n ih => simp [down, ih]
theorem down_get {n k : Nat} (h : k < n) : (down n)[k]? = some (n - 1 - k) := by
  induction n generalizing k with
  | zero => lia
  | succ n ih =>
    cases k with
    | zero => simp [down]
    | succ k =>
      simp [down]
      rw [ih (by lia)]
      congr 1
      lia
theorem size_down (n : Nat) : Builtin.Range.rangeSize ((n : Int) - 1) (-1) (-1) = n := by
  unfold Builtin.Range.rangeSize
  rw [if_neg (by decide)]
  split
  · have : -(-1 : Int) = 1 := by decide
    rw [this, Int.ediv_one]; lia
  · lia
theorem rngL_down (n : Nat) : rngL ((n : Int) - 1) (-1) (-1) = (down n).map fun (i : Nat) => MV.int i := by
  unfold rngL
  rw [size_down]
  apply List.ext_getElem?
  intro k
  rw [List.getElem?_map, List.getElem?_map]
  by_cases h : k < n
  · rw [down_get h]
    simp [h]
    lia
  · rw [List.getElem?_eq_none (by simp; lia), List.getElem?_eq_none (by rw [down_len]; lia)]
    rfl
theorem small_down (n : Nat) (h : n ≤ 1000) : smallR ((n : Int) - 1) (-1) (-1) = true := by
  unfold smallR Builtin.Range.small
  rw [size_down]
  unfold Builtin.Range.rangeFitsLong
  simp
  exact ⟨⟨Int.le_trans (show _ ≤ (-1 : Int) by decide) (by lia), by lia⟩, by lia⟩
theorem items_down (n : Nat) (h : n ≤ 1000) : itemsM st (.rng ((n : Int) - 1) (-1) (-1)) = some ((down n).map fun (i : Nat) => MV.int i) := by
  unfold itemsM
  simp only
  rw [if_pos (small_down n h), rngL_down]
theorem range_down (n : Nat) (h : n ≤ 1000) : callB .range [.int ((n : Int) - 1), .int (-1), .int (-1)] st = some (.rng ((n : Int) - 1) (-1) (-1), st) := by
  unfold callB
  simp only
  rw [if_pos ⟨by unfold big; lia, by unfold big; lia, trivial, trivial⟩]

noncomputable def argsDown (H : List Cell) (b : Nat) (n : Nat) : List Cell := (down n).map fun i => H.getD (b + i) (.con 0)

structure Free (st : Objs) (I : Ids) (J : SyIds) (k : Nat) : Prop where
  ne : k ∉ [I.s, I.sy, I.hp, I.sk, I.tr, J.tx, J.an, J.fl, J.fn]

inductive C_push_arguments (vs : List MV) (st : Objs) (Q : EP) : Prop
  | mk (I : _) (J : _) (x : _) (y : _) (c : _) (n : _) (wk : _) (ws : _) (h0 : vs = [.obj I.s, cM c, .obj wk]) (h1 : Wd st I J x y) (h2 : Free st I J wk) (h3 : st[wk]? = some (.list ws)) (h4 : c.isComp = true) (h5 : width x.H y.F c = some n) (h6 : (∀ p ∈ y.F, 0 ≤ p.2)) (h7 : c.base + n ≤ x.H.length) (h8 : ws.length + n ≤ 100000) (h9 : Q .none (st.set wk (.list (ws ++ (argsDown x.H c.base n).map cM)))) : C_push_arguments vs st Q


theorem set_same {st : Objs} {k : Nat} {o : MO} (h : st[k]? = some o) : st.set k o = st := by
  apply List.ext_getElem?
  intro j
  by_cases e : k = j
  · subst e; rw [List.getElem?_set_self (List.getElem?_eq_some_iff.mp h).1, h]
  · rw [List.getElem?_set_ne e]

theorem Wd.arg (w : Wd st I J x y) {b m : Nat} (h : b + m < x.H.length) : subM st (.obj I.hp) (.int ((b : Int) + (m : Int))) = some (cM (x.H.getD (b + m) (.con 0))) := by
  rw [← Int.natCast_add]
  exact w.W.cell (by rw [List.getD_eq_getElem?_getD, List.getElem?_eq_getElem h]; rfl)

theorem f_push_arguments (hM : S.M = mt) (hB : Has S 306 C_base) (hW : Has S 299 C_width) {vs : List MV} {Q : EP} (h : C_push_arguments vs st Q) : vs.length = 3 ∧ wpF S b_push_arguments (frame ns_push_arguments vs) st Q := by
  obtain ⟨I, J, x, y, c, n, wk, ws, rfl, w, fr, hwk, hc, hw, hp, hn, hl, q⟩ := h
  refine ⟨rfl, ?_⟩
  unfold b_push_arguments
  have hlen := w.W.lenH
  have hn1 : n ≤ 1000 := by lia
  have hr := range_down (st := st) n hn1
  have hi := items_down (st := st) n hn1
  walk_at "f"
  refine hB _ _ _ ⟨_, c, rfl, hc, ?_⟩
  walk_at "m"
  refine hW _ _ _ ⟨I, J, x, y, c, n, rfl, w, hw, hp, ?_⟩
  walk_at "m"
  have hlt := (List.getElem?_eq_some_iff.mp hwk).1
  have hal : (argsDown x.H c.base n).length = n := by unfold argsDown; rw [List.length_map, down_len]
  refine ⟨by rw [List.length_map, down_len]; unfold lim; lia, fun k loc s => s = st.set wk (.list (ws ++ ((argsDown x.H c.base n).take k).map cM)) ∧ ∃ v, loc = [.obj I.s, cM c, .obj wk, .int c.base, v], ⟨?_, .unb, rfl⟩, ?_⟩
  · rw [List.take_zero, List.map_nil, List.append_nil, set_same hwk]
  rintro k _ s ⟨rfl, v, rfl⟩
  refine ⟨items_down n hn1, ?_⟩
  have w1 : Wd (st.set wk (.list (ws ++ ((argsDown x.H c.base n).take k).map cM))) I J x y := w.same (Same.set _ _ _) (by intro j hj; rw [List.mem_singleton] at hj; subst hj; exact fr.ne)
  have hwk1 : (st.set wk (.list (ws ++ ((argsDown x.H c.base n).take k).map cM)))[wk]? = some (.list (ws ++ ((argsDown x.H c.base n).take k).map cM)) := List.getElem?_set_self hlt
  have hll : (ws ++ ((argsDown x.H c.base n).take k).map cM).length ≤ lim := by rw [List.length_append, List.length_map, List.length_take]; unfold lim; lia
  generalize hs1 : st.set wk (.list (ws ++ ((argsDown x.H c.base n).take k).map cM)) = st1 at w1 hwk1
  by_cases hk : k < n
  · have hd := down_get hk
    have hargs : (argsDown x.H c.base n)[k]? = some (x.H.getD (c.base + (n - 1 - k)) (.con 0)) := by unfold argsDown; rw [List.getElem?_map, hd]; rfl
    have hcell := w1.arg (b := c.base) (m := n - 1 - k) (by lia)
    have a2 := w1.W.a2
    refine f_some (x := .int (n - 1 - k : Nat)) (by rw [List.getElem?_map, hd]; rfl) ?_
    walk_at "m"
    refine ⟨?_, _, rfl⟩
    rw [← hs1, List.set_set, List.take_add_one, hargs, List.map_append, ← List.append_assoc]; rfl
  · refine f_none (by rw [List.length_map, down_len]; exact hk) ?_
    rw [List.length_map, down_len]
    rintro rfl
    walk_at "m"
    rw [← hs1, List.take_of_length_le (Nat.le_of_eq hal)]
    exact q
end

set_option tactic.hygienic true

set_option tactic.hygienic false
section
variable {S : Sg} {st : Objs} {I : Ids} {J : SyIds} {x : Sto} {y : Sym}

noncomputable def pM (p : Cell × Cell) : MV := .tup [cM p.1, cM p.2]

noncomputable def pairsDown (H : List Cell) (b d : Nat) (n : Nat) : List (Cell × Cell) := (down n).map fun i => (H.getD (b + i) (.con 0), H.getD (d + i) (.con 0))

inductive C_push_pairs (vs : List MV) (st : Objs) (Q : EP) : Prop
  | mk (I : _) (J : _) (x : _) (y : _) (c : _) (d : _) (n : _) (wk : _) (ws : _) (h0 : vs = [.obj I.s, cM c, cM d, .obj wk]) (h1 : Wd st I J x y) (h2 : Free st I J wk) (h3 : st[wk]? = some (.list ws)) (h4 : c.isComp = true) (h5 : d.isComp = true) (h6 : width x.H y.F c = some n) (h7 : (∀ p ∈ y.F, 0 ≤ p.2)) (h8 : c.base + n ≤ x.H.length) (h9 : d.base + n ≤ x.H.length) (h10 : ws.length + n ≤ 100000) (h11 : Q .none (st.set wk (.list (ws ++ (pairsDown x.H c.base d.base n).map pM)))) : C_push_pairs vs st Q


theorem f_push_pairs (hM : S.M = mt) (hB : Has S 306 C_base) (hW : Has S 299 C_width) {vs : List MV} {Q : EP} (h : C_push_pairs vs st Q) : vs.length = 4 ∧ wpF S b_push_pairs (frame ns_push_pairs vs) st Q := by
  obtain ⟨I, J, x, y, c, d, n, wk, ws, rfl, w, fr, hwk, hc, hd', hw, hp, hn, hn', hl, q⟩ := h
  refine ⟨rfl, ?_⟩
  unfold b_push_pairs
  have hlen := w.W.lenH
  have hn1 : n ≤ 1000 := by lia
  have hr := range_down (st := st) n hn1
  have hi := items_down (st := st) n hn1
  walk_at "f"
  refine hB _ _ _ ⟨_, c, rfl, hc, ?_⟩
  walk_at "m"
  refine hB _ _ _ ⟨_, d, rfl, hd', ?_⟩
  walk_at "m"
  refine hW _ _ _ ⟨I, J, x, y, c, n, rfl, w, hw, hp, ?_⟩
  walk_at "m"
  have hlt := (List.getElem?_eq_some_iff.mp hwk).1
  have hal : (pairsDown x.H c.base d.base n).length = n := by unfold pairsDown; rw [List.length_map, down_len]
  refine ⟨by rw [List.length_map, down_len]; unfold lim; lia, fun k loc s => s = st.set wk (.list (ws ++ ((pairsDown x.H c.base d.base n).take k).map pM)) ∧ ∃ v, loc = [.obj I.s, cM c, cM d, .obj wk, .int c.base, .int d.base, v], ⟨?_, .unb, rfl⟩, ?_⟩
  · rw [List.take_zero, List.map_nil, List.append_nil, set_same hwk]
  rintro k _ s ⟨rfl, v, rfl⟩
  refine ⟨items_down n hn1, ?_⟩
  have w1 : Wd (st.set wk (.list (ws ++ ((pairsDown x.H c.base d.base n).take k).map pM))) I J x y := w.same (Same.set _ _ _) (by intro j hj; rw [List.mem_singleton] at hj; subst hj; exact fr.ne)
  have hwk1 : (st.set wk (.list (ws ++ ((pairsDown x.H c.base d.base n).take k).map pM)))[wk]? = some (.list (ws ++ ((pairsDown x.H c.base d.base n).take k).map pM)) := List.getElem?_set_self hlt
  have hll : (ws ++ ((pairsDown x.H c.base d.base n).take k).map pM).length ≤ lim := by rw [List.length_append, List.length_map, List.length_take]; unfold lim; lia
  generalize hs1 : st.set wk (.list (ws ++ ((pairsDown x.H c.base d.base n).take k).map pM)) = st1 at w1 hwk1
  by_cases hk : k < n
  · have hd := down_get hk
    have hargs : (pairsDown x.H c.base d.base n)[k]? = some (x.H.getD (c.base + (n - 1 - k)) (.con 0), x.H.getD (d.base + (n - 1 - k)) (.con 0)) := by unfold pairsDown; rw [List.getElem?_map, hd]; rfl
    have hcell := w1.arg (b := c.base) (m := n - 1 - k) (by lia)
    have hcell2 := w1.arg (b := d.base) (m := n - 1 - k) (by lia)
    have a2 := w1.W.a2
    refine f_some (x := .int (n - 1 - k : Nat)) (by rw [List.getElem?_map, hd]; rfl) ?_
    walk_at "m"
    refine ⟨?_, _, rfl⟩
    rw [← hs1, List.set_set, List.take_add_one, hargs, List.map_append, ← List.append_assoc]; rfl
  · refine f_none (by rw [List.length_map, down_len]; exact hk) ?_
    rw [List.length_map, down_len]
    rintro rfl
    walk_at "m"
    rw [← hs1, List.take_of_length_le (Nat.le_of_eq hal)]
    exact q

inductive C_PairSet (vs : List MV) (st : Objs) (Q : EP) : Prop
  | mk (I : _) (J : _) (x : _) (y : _) (h0 : vs = [.obj I.s]) (h1 : Wd st I J x y) (h2 : ∀ st', Same [] st st' → st'[st.length]? = some (.inst 399 [(11, .int (x.H.length + 1)), (12, .obj (st.length + 1))]) → st'[st.length + 1]? = some (.set []) → st'.length = st.length + 2 →   Q (.obj st.length) st') : C_PairSet vs st Q


theorem set_last {α : Type} (l : List α) (a b : α) : (l ++ [a]).set l.length b = l ++ [b] := by simp
theorem get_last {α : Type} (l : List α) (a : α) : (l ++ [a])[l.length]? = some a := by simp

theorem f_PairSet {vs : List MV} {Q : EP} (h : C_PairSet vs st Q) : vs.length = 1 ∧ wpF S b_PairSet_init (frame ns_PairSet_init (.obj st.length :: vs ++ [])) (st ++ [.inst 399 []]) fun v st' => v = .none ∧ Q (.obj st.length) st' := by
  obtain ⟨I, J, x, y, rfl, w, q⟩ := h
  refine ⟨rfl, ?_⟩
  unfold b_PairSet_init
  have a2 := (w.app [.inst 399 []]).W.a2
  have l := (w.app [.inst 399 []]).W.lenHp
  have e1 : setAttrM (st ++ [.inst 399 []]) (.obj st.length) 11 (.int ((x.H.length : Int) + 1)) = some (st ++ [.inst 399 [(11, .int ((x.H.length : Int) + 1))]]) := by
    unfold setAttrM
    simp only [get_last, set_last]
    rw [if_pos ⟨by decide, Nat.le_of_ble_eq_true rfl, rfl⟩]; rfl
  have hl : (st ++ [MO.inst 399 [(11, .int ((x.H.length : Int) + 1))]]).length = st.length + 1 := List.length_append
  have e3 : setAttrM (st ++ [.inst 399 [(11, .int ((x.H.length : Int) + 1))]] ++ [.set []]) (.obj st.length) 12 (.obj (st ++ [MO.inst 399 [(11, .int ((x.H.length : Int) + 1))]]).length) = some (st ++ [.inst 399 [(11, .int ((x.H.length : Int) + 1)), (12, .obj (st.length + 1))]] ++ [.set []]) := by
    rw [List.append_assoc, hl]
    unfold setAttrM
    simp only [List.getElem?_append_right (Nat.le_refl _), Nat.sub_self, List.cons_append, List.nil_append, List.getElem?_cons_zero]
    rw [if_pos ⟨by decide, Nat.le_of_ble_eq_true rfl, rfl⟩, List.set_append_right _ _ (Nat.le_refl _), Nat.sub_self, List.append_assoc]; rfl
  walk_at "f"
  refine ⟨rfl, q _ ?_ ?_ ?_ ?_⟩
  · rw [List.append_assoc]
    exact Same.app st _
  · rw [List.append_assoc, List.getElem?_append_right (Nat.le_refl _), Nat.sub_self]; rfl
  · rw [List.append_assoc, List.getElem?_append_right (Nat.le_succ _), Nat.succ_sub (Nat.le_refl _), Nat.sub_self]; rfl
  · rw [List.length_append, List.length_append]; rfl

inductive C_add (vs : List MV) (st : Objs) (Q : EP) : Prop
  | mk (ps ms : Nat) (sp : Nat) (xs : List Int) (c d : Cell) (h0 : vs = [.obj ps, cM c, cM d]) (h1 : st[ps]? = some (.inst 399 [(11, .int sp), (12, .obj ms)])) (h2 : st[ms]? = some (.set xs)) (h3 : xs.length < 4000) (h4 : sp ≤ 2000) (h5 : 0 ≤ c.num) (h6 : c.num ≤ 2000) (h7 : (if c.num * sp + d.num ∈ xs then Q (.bool false) st else Q (.bool true) (st.set ms (.set (xs ++ [c.num * sp + d.num]))))) : C_add vs st Q


theorem f_add {vs : List MV} {Q : EP} (h : C_add vs st Q) : vs.length = 3 ∧ wpF S b_PairSet_add (frame ns_PairSet_add vs) st Q := by
  obtain ⟨ps, ms, sp, xs, c, d, rfl, hps, hms, hz, h1, h2, h3, q⟩ := h
  refine ⟨rfl, ?_⟩
  unfold b_PairSet_add
  have a11 : attrM st (.obj ps) 11 = some (.int sp) := attrU hps _
  have a12 : attrM st (.obj ps) 12 = some (.obj ms) := attrU hps _
  have mul : binM .Mult (.int c.num) (.int (sp : Int)) st = some (.int (c.num * sp), st) := by
    unfold binM; simp only; rw [if_pos ⟨by unfold big; lia, by unfold big; lia, by unfold big; lia, by unfold big; lia⟩]
  have hin := c_in (n := c.num * sp + d.num) hms
  have mv := v_add (S := S) hms
  walk_at "f"
  by_cases hm : c.num * sp + d.num ∈ xs
  · rw [if_pos hm] at q
    refine s_KI1 (dt hm) ?_
    walk_at "m"
    exact q
  · rw [if_neg hm] at q
    refine s_KI0 (df hm) ?_
    walk_at "m"
    refine k_add hms hz hm ?_
    walk_at "m"
    exact q

noncomputable def undo (l : List Nat) (H : List Cell) : List Cell := l.foldr (fun a H => H.set a (.ref a)) H
theorem undo_len (l : List Nat) (H : List Cell) : (undo l H).length = H.length := by
  induction l with
  | nil => rfl
  | cons a l ih => simp [undo] at ih ⊢; exact ih
theorem undo_snoc (l : List Nat) (a : Nat) (H : List Cell) : undo (l ++ [a]) H = undo l (H.set a (.ref a)) := by simp [undo]

inductive C_undo_to (vs : List MV) (st : Objs) (Q : EP) : Prop
  | mk (I : _) (J : _) (x : _) (y : _) (m : Nat) (h0 : vs = [.obj I.s, .int m]) (h1 : Wd st I J x y) (h2 : m ≤ x.T.length) (h3 : (∀ a ∈ x.T, a < x.H.length)) (h4 : ∀ st', Wd st' I J { x with H := undo (x.T.drop m) x.H, T := x.T.take m } y → Same [I.hp, I.tr] st st' → st'.length = st.length → Q .none st') : C_undo_to vs st Q


theorem Wd.popT (w : Wd st I J x y) {T : List Nat} {a : Nat} (e : x.T = T ++ [a]) : ∃ st1, (∀ Q : EP, methM S (.obj I.tr) 14 [] st Q = Q (.int a) st1) ∧ Wd st1 I J { x with T := T } y ∧ Same [I.tr] st st1 ∧ st1.length = st.length := by
  have hT := w.W.lenT
  have htr := w.W.tr
  rw [e] at hT htr
  simp at hT
  refine ⟨st.set I.tr (.list (T.map fun (a : Nat) => .int a)), fun Q => ?_, w.set (w.W.setT (T := T) (by lia)) (.inr (.inl rfl)), Same.set _ _ _, by simp⟩
  rw [meth_pop htr]
  have : T.length + 1 ≤ lim := by unfold lim; lia
  simp [this, opt_some]

theorem f_undo_to {vs : List MV} {Q : EP} (h : C_undo_to vs st Q) : vs.length = 2 ∧ wpF S b_Cells_undo_to (frame ns_Cells_undo_to vs) st Q := by
  obtain ⟨I, J, x, y, m, rfl, w, hm, hT, q⟩ := h
  refine ⟨rfl, ?_⟩
  unfold b_Cells_undo_to
  walk_at "f"
  refine s_wh ⟨fun n loc s => m + n ≤ x.T.length ∧ Wd s I J { x with H := undo (x.T.drop (m + n)) x.H, T := x.T.take (m + n) } y ∧ Same [I.hp, I.tr] st s ∧ s.length = st.length ∧ ∃ u v, loc = [.obj I.s, .int m, u, v],
    ⟨x.T.length - m, Nat.le_of_eq (Nat.add_sub_cancel' hm), by rw [Nat.add_sub_cancel' hm, List.drop_length, List.take_length]; exact w, Same.refl _ _, rfl, .unb, .unb, rfl⟩, ?_⟩
  rintro n _ s ⟨hle, w1, s1, l1, u, v, rfl⟩
  have a4 := w1.W.a4
  have htr := w1.W.lenTr
  rw [show (x.T.take (m + n)).length = m + n by rw [List.length_take]; lia] at htr
  walk_at "m"
  cases n with
  | zero =>
    refine s_KW0 (df (by lia)) ?_
    walk_at "m"
    exact q s w1 s1 l1
  | succ n =>
    have hlt : m + n < x.T.length := by lia
    have hsplit : x.T.take (m + (n + 1)) = x.T.take (m + n) ++ [x.T[m + n]] := by
      rw [show m + (n + 1) = (m + n) + 1 from rfl, List.take_add_one, List.getElem?_eq_getElem hlt]; rfl
    have hdrop : x.T.drop (m + n) = x.T[m + n] :: x.T.drop (m + n + 1) := List.drop_eq_getElem_cons hlt
    obtain ⟨st2, e2, w2, s2, l2⟩ := w1.popT (S := S) (T := x.T.take (m + n)) (a := x.T[m + n]) hsplit
    have hin : x.T[m + n] < (undo (x.T.drop (m + (n + 1))) x.H).length := by rw [undo_len]; exact hT _ (List.getElem_mem hlt)
    obtain ⟨st3, e3, w3, s3, l3⟩ := w2.setCell hin (.ref x.T[m + n])
    have mv : mval S (.obj I.tr) 14 s = some (.builtin "list.pop") := mval_pop w1.W.tr
    have a2 := w2.W.a2
    refine s_KW1 (dt (by lia)) ?_
    walk_at "m"
    refine ⟨mv, (e2 _).mpr ?_⟩
    walk_at "m"
    refine ⟨n, Nat.lt_succ_self n, Nat.le_of_lt hlt, ?_, (s1.trans s2.r).trans s3.l, l3.trans (l2.trans l1), _, _, rfl⟩
    rw [show undo (x.T.drop (m + n)) x.H = (undo (x.T.drop (m + (n + 1))) x.H).set x.T[m + n] (.ref x.T[m + n]) by rw [hdrop]; rfl]
    exact w3
end

set_option tactic.hygienic true

set_option tactic.hygienic false

theorem nodup_len {l B : List Nat} (h : l.Nodup) (hs : ∀ a ∈ l, a ∈ B) : l.length ≤ B.length := by
  induction l generalizing B with
  | nil => simp
  | cons a r ih =>
    rw [List.nodup_cons] at h
    have ha : a ∈ B := hs a (by simp)
    have := ih (B := B.erase a) h.2 (fun b hb => (List.mem_erase_of_ne (fun (e : b = a) => h.1 (by rw [← e]; exact hb))).mpr (hs b (by simp [hb])))
    rw [List.length_erase_of_mem ha] at this
    have : 0 < B.length := List.length_pos_of_mem ha
    simp; lia

theorem D_step {H : List Cell} {F : Fun} {B : List Nat} (w : WF H F B) {b : Nat} {e : Cell} (h : H[b]? = some e) : D H (.ref b) = D H e := by
  rw [D_ref w.down h]
  split
  · rename_i q; subst q; exact (D_root w h).symm
  · rfl

theorem Reach.of_D {H : List Cell} {F : Fun} {a : Nat} {c d : Cell} (r : Reach H F a c) (e : D H c = D H d) : Reach H F a d := by
  cases r with
  | here h => exact .here (e ▸ h)
  | sub hn hi r => exact .sub (by rw [← e]; exact hn) hi (by rw [← e]; exact r)

set_option tactic.hygienic true in
theorem same_blk {H : List Cell} {F : Fun} {B : List Nat} {c d : Cell} (hc : Blk H F B c) (hd : Blk H F B d) (e : c.addr = d.addr) : c = d := by
  have h1 := hc.comp
  have h2 := hd.comp
  cases c <;> simp [Cell.isComp] at h1 <;> cases d <;> simp [Cell.isComp] at h2
  · simp [Cell.addr] at e; rw [e]
  · rename_i p q
    simp [Cell.addr] at e; subst e
    obtain ⟨f, hf, _⟩ := hc.str p rfl
    obtain ⟨n, hn, _, hp⟩ := hd.wid
    simp [width] at hn; subst hn
    obtain ⟨d, hd', hdf⟩ := hp 0 (by lia)
    simp [Cell.base] at hd'
    rw [hf] at hd'; cases hd'; cases hdf
  · rename_i p q
    simp [Cell.addr] at e; subst e
    obtain ⟨f, hf, _⟩ := hd.str _ rfl
    obtain ⟨n, hn, _, hp⟩ := hc.wid
    simp [width] at hn; subst hn
    obtain ⟨d, hd', hdf⟩ := hp 0 (by lia)
    simp [Cell.base] at hd'
    rw [hf] at hd'; cases hd'; cases hdf
  · simp [Cell.addr] at e; rw [e]

/- the search for a variable -/
noncomputable def Seen (H : List Cell) (met : List Nat) (work : List Cell) (a : Nat) (x : Cell) : Prop :=
  (∃ c ∈ work, D H c = D H x) ∨ ((D H x).isComp = true ∧ (D H x).addr ∈ met) ∨ ((D H x).isComp = false ∧ D H x ≠ .ref a)

structure Occ (H : List Cell) (F : Fun) (B : List Nat) (a : Nat) (c0 : Cell) (met : List Nat) (work : List Cell) : Prop where
  ok : ∀ c ∈ work, okC H F B c
  snd : ∀ c ∈ work, Reach H F a c → Reach H F a c0
  top : Seen H met work a c0
  kids : ∀ d, Blk H F B d → d.addr ∈ met → ∀ n i, width H F d = some n → i < n → Seen H met work a (.ref (d.base + i))
  sub : ∀ m ∈ met, m ∈ B
  nd : met.Nodup

section
variable {H : List Cell} {F : Fun} {B : List Nat} {a : Nat} {c0 : Cell} {met : List Nat} {work : List Cell}

theorem Occ.done (w : WF H F B) (h : Occ H F B a c0 met []) (hc0 : okC H F B c0) : ¬ Reach H F a c0 := by
  have key : ∀ x, Reach H F a x → okC H F B x → ¬ Seen H met [] a x := by
    intro x r
    induction r with
    | @here c e =>
      intro ok s
      rcases s with ⟨c, hc, _⟩ | ⟨hc, _⟩ | ⟨_, hn⟩
      · simp at hc
      · rw [e] at hc; cases hc
      · exact hn e
    | @sub c n i hn hi r ih =>
      intro ok s
      have b := blk_of (D_end w c ok).1 (isComp_width hn)
      rcases s with ⟨c, hc, _⟩ | ⟨hc, hm⟩ | ⟨hc, _⟩
      · simp at hc
      · obtain ⟨m, e, l, p⟩ := b.wid
        rw [hn] at e; cases e
        exact ih (p i hi) (h.kids _ b hm n i hn hi)
      · rw [isComp_width hn] at hc; cases hc
  intro r
  exact key c0 r hc0 h.top

theorem Seen.pop {c x : Cell} (h : Seen H met (work ++ [c]) a x) (hx : ((D H c).isComp = true ∧ (D H c).addr ∈ met) ∨ ((D H c).isComp = false ∧ D H c ≠ .ref a)) : Seen H met work a x := by
  rcases h with ⟨d, hd, e⟩ | h | h
  · rcases List.mem_append.mp hd with hd | hd
    · exact .inl ⟨d, hd, e⟩
    · simp at hd; subst hd
      rw [e] at hx; exact .inr hx
  · exact .inr (.inl h)
  · exact .inr (.inr h)

theorem Occ.skip {c : Cell} (h : Occ H F B a c0 met (work ++ [c])) (hx : ((D H c).isComp = true ∧ (D H c).addr ∈ met) ∨ ((D H c).isComp = false ∧ D H c ≠ .ref a)) : Occ H F B a c0 met work :=
  ⟨fun d hd => h.ok d (by simp [hd]), fun d hd => h.snd d (by simp [hd]), h.top.pop hx, fun d b hm n i hn hi => (h.kids d b hm n i hn hi).pop hx, h.sub, h.nd⟩

theorem Seen.grow {m : Nat} {ws : List Cell} {x : Cell} (h : Seen H met work a x) : Seen H (met ++ [m]) (work ++ ws) a x := by
  rcases h with ⟨d, hd, e⟩ | ⟨h1, h2⟩ | h
  · exact .inl ⟨d, by simp [hd], e⟩
  · exact .inr (.inl ⟨h1, by simp [h2]⟩)
  · exact .inr (.inr h)

theorem down_mem {n i : Nat} : i ∈ down n ↔ i < n := by
  induction n with
  | zero => simp [down]
  | succ n ih => simp [down, ih]; lia
theorem args_mem {b n i : Nat} (hi : i < n) : H.getD (b + i) (.con 0) ∈ argsDown H b n := by
  unfold argsDown
  exact List.mem_map.mpr ⟨i, down_mem.mpr hi, rfl⟩
theorem args_of {b n : Nat} {e : Cell} (h : e ∈ argsDown H b n) : ∃ i, i < n ∧ e = H.getD (b + i) (.con 0) := by
  unfold argsDown at h
  obtain ⟨i, hi, rfl⟩ := List.mem_map.mp h
  exact ⟨i, down_mem.mp hi, rfl⟩

theorem Occ.push (w : WF H F B) {c : Cell} (h : Occ H F B a c0 met (work ++ [c])) {n : Nat} (hn : width H F (D H c) = some n) (hm : (D H c).addr ∉ met) :
    Occ H F B a c0 (met ++ [(D H c).addr]) (work ++ argsDown H (D H c).base n) := by
  have okc := h.ok c (by simp)
  have hcomp := isComp_width hn
  have b := blk_of (D_end w c okc).1 hcomp
  obtain ⟨m, e, l, p⟩ := b.wid
  rw [hn] at e; cases e
  have arg : ∀ i, i < n → ∃ d, H[(D H c).base + i]? = some d ∧ H.getD ((D H c).base + i) (.con 0) = d ∧ okC H F B d := fun i hi => by
    obtain ⟨d, hd, hf⟩ := p i hi
    exact ⟨d, hd, by rw [List.getD_eq_getElem?_getD, hd]; rfl, w.ok _ d hd hf⟩
  have hx : ((D H c).isComp = true ∧ (D H c).addr ∈ met ++ [(D H c).addr]) ∨ ((D H c).isComp = false ∧ D H c ≠ .ref a) := .inl ⟨hcomp, by simp⟩
  have up : ∀ x, Seen H met (work ++ [c]) a x → Seen H (met ++ [(D H c).addr]) (work ++ argsDown H (D H c).base n) a x := fun x s => by
    rcases s with ⟨d, hd, e⟩ | ⟨h1, h2⟩ | h
    · rcases List.mem_append.mp hd with hd | hd
      · exact .inl ⟨d, by simp [hd], e⟩
      · simp at hd; subst hd
        exact .inr (.inl ⟨by rw [← e]; exact hcomp, by rw [← e]; simp⟩)
    · exact .inr (.inl ⟨h1, by simp [h2]⟩)
    · exact .inr (.inr h)
  refine ⟨fun d hd => ?_, fun d hd => ?_, up _ h.top, fun d bd hdm k i hk hi => ?_, fun m' hm' => ?_, ?_⟩
  · rcases List.mem_append.mp hd with hd | hd
    · exact h.ok d (by simp [hd])
    · obtain ⟨i, hi, rfl⟩ := args_of hd
      obtain ⟨d, _, e, ok⟩ := arg i hi
      rw [e]; exact ok
  · rcases List.mem_append.mp hd with hd | hd
    · exact h.snd d (by simp [hd])
    · obtain ⟨i, hi, rfl⟩ := args_of hd
      obtain ⟨d, e1, e, ok⟩ := arg i hi
      rw [e]
      intro r
      exact h.snd c (by simp) (.sub hn hi (r.of_D (D_step w e1).symm))
  · rcases List.mem_append.mp hdm with hdm | hdm
    · exact up _ (h.kids d bd hdm k i hk hi)
    · simp at hdm
      have := same_blk bd b hdm
      subst this
      rw [hn] at hk; cases hk
      obtain ⟨d', e1, e, ok⟩ := arg i hi
      refine .inl ⟨d', ?_, (D_step w e1).symm⟩
      rw [← e]
      exact List.mem_append.mpr (.inr (args_mem hi))
  · rcases List.mem_append.mp hm' with hm' | hm'
    · exact h.sub m' hm'
    · simp at hm'; subst hm'; exact b.mem
  · rw [List.nodup_append]
    exact ⟨h.nd, by simp, fun x hx y hy => by simp at hy; subst hy; exact fun (e : x = _) => hm (by rw [← e]; exact hx)⟩
end

set_option tactic.hygienic true

set_option tactic.hygienic false
section
variable {S : Sg} {st : Objs} {I : Ids} {J : SyIds} {x : Sto} {y : Sym}

theorem two0 (st : Objs) (a b : MO) : (st ++ [a, b])[st.length]? = some a := by simp
theorem two1 (st : Objs) (a b : MO) : (st ++ [a, b])[st.length + 1]? = some b := by simp
theorem two0s (st : Objs) (a b c : MO) : (st ++ [a, b]).set st.length c = st ++ [c, b] := by simp
theorem two1s (st : Objs) (a b c : MO) : (st ++ [a, b]).set (st.length + 1) c = st ++ [a, c] := by simp

theorem Wd.free (w : Wd st I J x y) {k : Nat} (h : st.length ≤ k) (g : Objs) : Free (st ++ g) I J k := by
  refine ⟨fun hk => ?_⟩
  have h1 := (List.getElem?_eq_some_iff.mp w.W.s).1
  have h2 := (List.getElem?_eq_some_iff.mp w.Y.s).1
  have h3 := (List.getElem?_eq_some_iff.mp w.W.hp).1
  have h4 := (List.getElem?_eq_some_iff.mp w.W.sk).1
  have h5 := (List.getElem?_eq_some_iff.mp w.W.tr).1
  have h6 := (List.getElem?_eq_some_iff.mp w.Y.tx).1
  have h7 := let ⟨D, e, _⟩ := w.Y.an; (List.getElem?_eq_some_iff.mp e).1
  have h8 := (List.getElem?_eq_some_iff.mp w.Y.fl).1
  have h9 := let ⟨D, e, _⟩ := w.Y.fn; (List.getElem?_eq_some_iff.mp e).1
  have all : ∀ j ∈ [I.s, I.sy, I.hp, I.sk, I.tr, J.tx, J.an, J.fl, J.fn], j < st.length :=
    List.forall_mem_cons.mpr ⟨h1, List.forall_mem_cons.mpr ⟨h2, List.forall_mem_cons.mpr ⟨h3, List.forall_mem_cons.mpr ⟨h4, List.forall_mem_cons.mpr ⟨h5, List.forall_mem_cons.mpr ⟨h6, List.forall_mem_cons.mpr ⟨h7, List.forall_mem_cons.mpr ⟨h8, List.forall_mem_cons.mpr ⟨h9, fun _ z => nomatch z⟩⟩⟩⟩⟩⟩⟩⟩⟩
  exact Nat.lt_irrefl _ (Nat.lt_of_lt_of_le (all k hk) h)

inductive C_occurs_in (vs : List MV) (st : Objs) (Q : EP) : Prop
  | mk (I : _) (J : _) (x : _) (y : _) (B : _) (a : _) (c : _) (h0 : vs = [.obj I.s, cM (.ref a), cM c]) (h1 : Wd st I J x y) (h2 : WF x.H y.F B) (h3 : Root x.H a) (h4 : okC x.H y.F B c) (h5 : B.length ≤ 100) (h6 : (∀ p ∈ y.F, 0 ≤ p.2)) (h7 : ∀ b g, (b = true ↔ Reach x.H y.F a c) → Q (.bool b) (st ++ g)) : C_occurs_in vs st Q


theorem base_fit {H : List Cell} {F : Fun} {B : List Nat} {d : Cell} (b : Blk H F B d) {n : Nat} (hn : width H F d = some n) : d.base + n ≤ H.length ∧ n ≤ 5 := by
  obtain ⟨m, e, l, p⟩ := b.wid
  rw [hn] at e; cases e
  refine ⟨?_, l⟩
  cases n with
  | zero =>
    cases d with
    | str a => obtain ⟨f, hf, _⟩ := b.str a rfl; have := (List.getElem?_eq_some_iff.mp hf).1; simp [Cell.base]; lia
    | lis a => simp [width] at hn
    | _ => have := b.comp; simp [Cell.isComp] at this
  | succ n =>
    obtain ⟨d', e, _⟩ := p n (by lia)
    have := (List.getElem?_eq_some_iff.mp e).1
    lia

theorem addr_num {c : Cell} (h : c.isComp = true) : c.num = c.addr := by cases c <;> simp [Cell.isComp] at h <;> rfl

inductive OInv (st : Objs) (I : Ids) (x : Sto) (y : Sym) (B : List Nat) (a : Nat) (c : Cell) (n : Nat) (loc : List MV) (s : Objs) : Prop
  | mk (met : List Nat) (ws : List Cell) (u : MV) (hs : s = st ++ [.set (met.map fun (m : Nat) => (m : Int)), .list (ws.map cM)]) (hl : loc = [.obj I.s, cM (.ref a), u, .obj st.length, .obj (st.length + 1)])
      (oc : Occ x.H y.F B a c met ws) (hw : ws.length ≤ 1 + 5 * met.length) (hn : n = ws.length + 6 * (B.length - met.length)) : OInv st I x y B a c n loc s

theorem f_occurs_in (hM : S.M = mt) (hD : Has S 229 C_deref) (hC : Has S 285 C_is_compound) (hP : Has S 410 C_push_arguments) {vs : List MV} {Q : EP} (h : C_occurs_in vs st Q) : vs.length = 3 ∧ wpF S b_occurs_in (frame ns_occurs_in vs) st Q := by
  obtain ⟨I, J, x, y, B, a, c, rfl, w, wf, ha, ok, hB, hp, q⟩ := h
  refine ⟨rfl, ?_⟩
  unfold b_occurs_in
  walk_at "f"
  refine hD _ _ _ ⟨I, J, x, y, c, rfl, w, wf.down, ok.inH, ?_⟩
  walk_at "m"
  by_cases e1 : D x.H c = .ref a
  · refine s_KI1 (dt e1) ?_
    walk_at "m"
    have := q true [] ⟨fun _ => .here e1, fun _ => rfl⟩
    rwa [List.append_nil] at this
  refine s_KI0 (df e1) ?_
  walk_at "m"
  refine hC _ _ _ ⟨_, _, rfl, ?_⟩
  walk_at "m"
  by_cases e2 : (D x.H c).isComp = true
  case neg =>
    have e2 := Bool.eq_false_iff.mpr e2
    refine s_KI1 (by rw [e2]; rfl) ?_
    walk_at "m"
    have := q false [] ⟨fun h => (by cases h), fun r => by
      cases r with
      | here h => exact (e1 h).elim
      | sub hn _ _ => rw [isComp_width hn] at e2; cases e2⟩
    rwa [List.append_nil] at this
  refine s_KI0 (by rw [e2]; rfl) ?_
  walk_at "m"
  have okd := (D_end wf c ok).1
  have fit := D_end wf c ok
  refine s_wh ⟨OInv st I x y B a c, ⟨_, [], [D x.H c], _, List.append_assoc _ _ _, by rw [List.length_append]; rfl, ⟨?_, ?_, ?_, ?_, ?_, List.nodup_nil⟩, Nat.le_refl 1, rfl⟩, ?_⟩
  · intro d hd; rw [List.mem_singleton] at hd; subst hd; exact okd
  · intro d hd r; rw [List.mem_singleton] at hd; subst hd; exact r.of_D fit.2.2
  · exact .inl ⟨_, List.mem_singleton_self _, fit.2.2⟩
  · intro d _ hm; cases hm
  · intro m hm; cases hm
  rintro n _ _ ⟨met, ws, u, rfl, rfl, oc, hwl, rfl⟩
  have hmet := nodup_len oc.nd oc.sub
  have hlen : callB .len [.obj (st.length + 1)] (st ++ [.set (met.map fun (m : Nat) => (m : Int)), .list (ws.map cM)]) = some (.int ws.length, st ++ [.set (met.map fun (m : Nat) => (m : Int)), .list (ws.map cM)]) := by
    rw [len_list (two1 _ _ _) (by rw [List.length_map]; unfold lim; lia), List.length_map]
  walk_at "m"
  rcases List.eq_nil_or_concat ws with rfl | ⟨ws', d, hwd⟩
  · refine s_KW0 rfl ?_
    walk_at "m"
    exact q false _ ⟨fun h => (by cases h), fun r => (oc.done wf ok r).elim⟩
  rw [List.concat_eq_append] at hwd
  subst hwd
  have hwl' : ws'.length + 1 ≤ 1 + 5 * met.length := by rw [List.length_append] at hwl; exact hwl
  have hll : (ws' ++ [d]).length = ws'.length + 1 := List.length_append
  refine s_KW1 (dt (by rw [hll]; lia)) ?_
  have hwk := two1 st (.set (met.map fun (m : Nat) => (m : Int))) (.list ((ws' ++ [d]).map cM))
  have mvp := mval_pop (S := S) hwk
  have pop : ∀ Q : EP, methM S (.obj (st.length + 1)) 14 [] (st ++ [.set (met.map fun (m : Nat) => (m : Int)), .list ((ws' ++ [d]).map cM)]) Q = Q (cM d) (st ++ [.set (met.map fun (m : Nat) => (m : Int)), .list (ws'.map cM)]) := fun Q => by
    rw [meth_pop hwk, two1s, List.map_append, List.map_singleton, List.getLast?_concat, List.dropLast_concat, opt_some, List.length_append, List.length_map]
    exact eq_iff_iff.mpr ⟨fun h => h.2, fun h => ⟨by unfold lim; show ws'.length + 1 ≤ _; lia, h⟩⟩
  have w1 := w.app [.set (met.map fun (m : Nat) => (m : Int)), .list ((ws' ++ [d]).map cM)]
  have w2 := w.app [.set (met.map fun (m : Nat) => (m : Int)), .list (ws'.map cM)]
  have okd' := oc.ok d (List.mem_append.mpr (.inr (List.mem_singleton_self d)))
  walk_at "m"
  refine ⟨mvp, (pop _).mpr ?_⟩
  walk_at "m"
  refine hD _ _ _ ⟨I, J, x, y, d, rfl, w2, wf.down, okd'.inH, ?_⟩
  walk_at "m"
  by_cases e3 : D x.H d = .ref a
  · refine s_KI1 (dt e3) ?_
    walk_at "m"
    exact q true _ ⟨fun _ => oc.snd d (List.mem_append.mpr (.inr (List.mem_singleton_self d))) (.here e3), fun _ => rfl⟩
  refine s_KI0 (df e3) ?_
  walk_at "m"
  refine hC _ _ _ ⟨_, _, rfl, ?_⟩
  have hin : ∀ k : Nat, cmpM (st ++ [.set (met.map fun (m : Nat) => (m : Int)), .list (ws'.map cM)]) .NotIn (.int k) (.obj st.length) = some (!decide (k ∈ met)) := fun k => by
    rw [c_nin (two0 _ _ _)]
    congr 2
    exact decide_eq_decide.mpr ⟨fun h => by
      obtain ⟨m, hm, e⟩ := List.mem_map.mp h
      exact Int.ofNat_inj.mp e ▸ hm, fun h => List.mem_map.mpr ⟨k, h, rfl⟩⟩
  have skip : ((D x.H d).isComp = true ∧ (D x.H d).addr ∈ met) ∨ ((D x.H d).isComp = false ∧ D x.H d ≠ .ref a) → ∃ m, m < (ws' ++ [d]).length + 6 * (B.length - met.length) ∧ OInv st I x y B a c m [.obj I.s, cM (.ref a), cM (D x.H d), .obj st.length, .obj (st.length + 1)] (st ++ [.set (met.map fun (m : Nat) => (m : Int)), .list (ws'.map cM)]) := fun h =>
    ⟨ws'.length + 6 * (B.length - met.length), by rw [hll]; lia, met, ws', _, rfl, rfl, oc.skip h, by lia, rfl⟩
  walk_at "m"
  by_cases e4 : (D x.H d).isComp = true
  case neg =>
    have e4 := Bool.eq_false_iff.mpr e4
    refine if_f e4 ?_
    walk_at "m"
    exact skip (.inr ⟨e4, e3⟩)
  refine if_t e4 ?_
  have b := blk_of (D_end wf d okd').1 e4
  have hin' := hin (D x.H d).addr
  rw [← addr_num e4] at hin'
  walk_at "m"
  by_cases e5 : (D x.H d).addr ∈ met
  · refine s_KI0 (by rw [dt e5]; rfl) ?_
    walk_at "m"
    exact skip (.inl ⟨e4, e5⟩)
  refine s_KI1 (by rw [df e5]; rfl) ?_
  obtain ⟨k, hk, _, _⟩ := b.wid
  have fit := base_fit b hk
  have oc' := oc.push wf hk e5
  have hmet' := nodup_len oc'.nd oc'.sub
  rw [List.length_append, List.length_singleton] at hmet'
  have mva := v_add (S := S) (two0 st (.set (met.map fun (m : Nat) => (m : Int))) (.list (ws'.map cM)))
  walk_at "m"
  refine k_add (two0 _ _ _) (by rw [List.length_map]; lia) (fun h => ?_) ?_
  · obtain ⟨m, hm, e⟩ := List.mem_map.mp h
    rw [addr_num e4] at e
    exact e5 (Int.ofNat_inj.mp e ▸ hm)
  rw [two0s, addr_num e4, show (met.map fun (m : Nat) => (m : Int)) ++ [((D x.H d).addr : Int)] = (met ++ [(D x.H d).addr]).map fun (m : Nat) => (m : Int) by rw [List.map_append]; rfl]
  walk_at "m"
  refine hP _ _ _ ⟨I, J, x, y, D x.H d, k, st.length + 1, ws'.map cM, rfl, w.app _, w.free (by lia) _, two1 _ _ _, e4, hk, hp, fit.1, by rw [List.length_map]; lia, ?_⟩
  rw [two1s, ← List.map_append]
  walk_at "m"
  have hal : (argsDown x.H (D x.H d).base k).length = k := by unfold argsDown; rw [List.length_map, down_len]
  refine ⟨_, ?_, met ++ [(D x.H d).addr], ws' ++ argsDown x.H (D x.H d).base k, _, rfl, rfl, oc', ?_, rfl⟩
  · simp only [List.length_append, hal, List.length_singleton]; lia
  · simp only [List.length_append, hal, List.length_singleton]; lia
end

set_option tactic.hygienic true

set_option tactic.hygienic false

structure Ext (x0 x : Sto) : Prop where
  hb : x.hb = x0.hb
  mh : x.mh = x0.mh
  sf : SameFn x0.H x.H
  cells : ∀ a, x.H[a]? = x0.H[a]? ∨ (Root x0.H a ∧ ∃ v, x.H[a]? = some v ∧ v ≠ .ref a ∧ ∀ b, v = .ref b → Root x0.H b)
  trail : ∃ l, x.T = x0.T ++ l ∧ l.Nodup ∧ (∀ a ∈ l, Root x0.H a ∧ ¬ Root x.H a) ∧ ∀ a, x.H[a]? ≠ x0.H[a]? → a < x.hb → a ∈ l

theorem Ext.refl (x : Sto) : Ext x x := ⟨rfl, rfl, SameFn.refl _, fun a => .inl rfl, [], by simp, List.nodup_nil, by simp, fun a h => (h rfl).elim⟩

theorem Ext.root {x0 x : Sto} (e : Ext x0 x) {a : Nat} (h : Root x.H a) : Root x0.H a := by
  rcases e.cells a with h1 | ⟨h1, _⟩
  · unfold Root at h ⊢; rw [← h1]; exact h
  · exact h1

theorem Ext.bind {x0 x : Sto} (e : Ext x0 x) {a : Nat} {v : Cell} (ha : Root x.H a) (hv : v.isFn = false) (hva : v ≠ .ref a) (hr : ∀ b, v = .ref b → Root x.H b) : Ext x0 (x.bind a v) := by
  have hlt := (List.getElem?_eq_some_iff.mp ha).1
  obtain ⟨l, h1, h2, h3, h4⟩ := e.trail
  have nr : ¬ Root (x.H.set a v) a := by
    unfold Root
    rw [List.getElem?_set_self hlt]
    intro q; cases q; exact hva rfl
  refine ⟨e.hb, e.mh, e.sf.trans (bind_same ha hv), fun b => ?_, ?_⟩
  · show (x.H.set a v)[b]? = _ ∨ _
    by_cases q : a = b
    · subst q
      exact .inr ⟨e.root ha, v, List.getElem?_set_self hlt, hva, fun b hb => e.root (hr b hb)⟩
    · simp only [Sto.bind]
      rw [List.getElem?_set_ne q]
      exact e.cells b
  · refine ⟨if a < x.hb then l ++ [a] else l, ?_, ?_, ?_, ?_⟩
    · simp only [Sto.bind]; split <;> simp [h1]
    · split
      · rw [List.nodup_append]
        refine ⟨h2, by simp, fun b hb c hc => ?_⟩
        simp at hc; subst hc
        rintro rfl
        exact (h3 b hb).2 ha
      · exact h2
    · intro b hb
      have : b ∈ l ∨ b = a := by
        split at hb
        · simpa using hb
        · exact .inl hb
      rcases this with hb | rfl
      · refine ⟨(h3 b hb).1, ?_⟩
        have hne : a ≠ b := fun q => by subst q; exact (h3 a hb).2 ha
        show ¬ Root (x.H.set a v) b
        unfold Root
        rw [List.getElem?_set_ne hne]
        exact (h3 b hb).2
      · exact ⟨e.root ha, nr⟩
    · intro b hb hlt'
      by_cases q : a = b
      · subst q
        have hlt2 : a < x.hb := hlt'
        rw [if_pos hlt2]; simp
      · have hb' : x.H[b]? ≠ x0.H[b]? := by
          intro z; apply hb
          show (x.H.set a v)[b]? = _
          rw [List.getElem?_set_ne q]; exact z
        have := h4 b hb' hlt'
        split
        · simp [this]
        · exact this

noncomputable def Seen2 (H : List Cell) (met work : List (Cell × Cell)) (u v : Cell) : Prop :=
  (∃ p ∈ work, D H p.1 = D H u ∧ D H p.2 = D H v) ∨ D H u = D H v ∨ (D H u, D H v) ∈ met

structure Pair (H : List Cell) (F : Fun) (B : List Nat) (p : Cell × Cell) : Prop where
  l : Blk H F B p.1
  r : Blk H F B p.2
  sh : sameShape H p.1 p.2 = true

noncomputable def numP (n : Nat) (p : Cell × Cell) : Nat := p.1.addr * n + p.2.addr

structure Uni (F : Fun) (B : List Nat) (x0 : Sto) (c1 c2 : Cell) (x : Sto) (met work : List (Cell × Cell)) : Prop where
  wf : WF x.H F B
  ext : Ext x0 x
  gen : ∃ δ, Gen x.H F δ
  ok : ∀ p ∈ work, okC x.H F B p.1 ∧ okC x.H F B p.2
  sols : ∀ ρ, (Sol x0.H F ρ ∧ valC x0.H F ρ c1 = valC x0.H F ρ c2) ↔ (Sol x.H F ρ ∧ ∀ p ∈ work, valC x.H F ρ p.1 = valC x.H F ρ p.2)
  pairs : ∀ p ∈ met, Pair x.H F B p
  kids : ∀ p ∈ met, ∀ n i, width x.H F p.1 = some n → i < n → Seen2 x.H met work (.ref (p.1.base + i)) (.ref (p.2.base + i))
  nd : (met.map (numP (x.H.length + 1))).Nodup

section
variable {F : Fun} {B : List Nat} {x0 x : Sto} {c1 c2 : Cell} {met work : List (Cell × Cell)}

theorem shape_width {H : List Cell} {p : Cell × Cell} (h : sameShape H p.1 p.2 = true) : width H F p.1 = width H F p.2 ∧ fnAt H p.1 = fnAt H p.2 := by
  obtain ⟨c, d⟩ := p
  cases c <;> cases d <;> simp [sameShape] at h
  · simp only [width, fnAt, h]; exact ⟨trivial, trivial⟩
  · exact ⟨rfl, rfl⟩

set_option tactic.hygienic true in
theorem val_args {H : List Cell} {ρ : Nat → Tm} {p : Cell × Cell} (P : Pair H F B p) {n : Nat} (hn : width H F p.1 = some n) :
    valC H F ρ p.1 = valC H F ρ p.2 ↔ ∀ i, i < n → ρ (p.1.base + i) = ρ (p.2.base + i) := by
  obtain ⟨c, d⟩ := p
  obtain ⟨hc, hd, sh⟩ := P
  have hw := shape_width (F := F) sh
  simp only at hc hd sh hn hw ⊢
  cases c <;> cases d <;> simp [sameShape] at sh
  · rename_i a b
    have h2 : width H F (.str b) = some n := hw.1 ▸ hn
    simp only [valC, hn, h2, Option.getD_some, Cell.base, hw.2]
    constructor
    · intro e i hi
      simp only [Tm.app.injEq, true_and] at e
      have := congrArg (fun l => l[i]?) e
      simpa [hi] using this
    · intro e
      congr 1
      apply List.map_congr_left
      intro i hi
      exact e i (List.mem_range.mp hi)
  · rename_i a b
    simp only [width, Option.some.injEq] at hn
    subst hn
    simp only [valC, Cell.base, Tm.app.injEq, true_and, List.cons.injEq, and_true]
    constructor
    · rintro ⟨e1, e2⟩ i hi
      rcases (show i = 0 ∨ i = 1 by lia) with rfl | rfl
      · exact e1
      · exact e2
    · intro e
      exact ⟨e 0 (by lia), e 1 (by lia)⟩

theorem met_eq (wf : WF x.H F B) {work' : List (Cell × Cell)} (pairs : ∀ p ∈ met, Pair x.H F B p)
    (ok : ∀ p ∈ work', okC x.H F B p.1 ∧ okC x.H F B p.2)
    (kids : ∀ p ∈ met, ∀ n i, width x.H F p.1 = some n → i < n → Seen2 x.H met work' (.ref (p.1.base + i)) (.ref (p.2.base + i))) {ρ : Nat → Tm} (s : Sol x.H F ρ) (hw : ∀ p ∈ work', valC x.H F ρ p.1 = valC x.H F ρ p.2) :
    ∀ (k : Nat) p, p ∈ met → (valC x.H F ρ p.1).size ≤ k → valC x.H F ρ p.1 = valC x.H F ρ p.2 := by
  intro k
  induction k with
  | zero => intro p _ h; have := (valC x.H F ρ p.1).size_pos; lia
  | succ k ih =>
    intro p hp hs
    have P := pairs p hp
    obtain ⟨n, hn, l, pl⟩ := P.l.wid
    obtain ⟨n', hn', l', pl'⟩ := P.r.wid
    have := (shape_width (F := F) P.sh).1
    rw [hn, hn'] at this; cases this
    refine (val_args P hn).mpr fun i hi => ?_
    have oku : okC x.H F B (.ref (p.1.base + i)) := pl i hi
    have okv : okC x.H F B (.ref (p.2.base + i)) := pl' i hi
    have du := s.D wf _ oku
    have dv := s.D wf _ okv
    show valC x.H F ρ (.ref _) = valC x.H F ρ (.ref _)
    rw [← du, ← dv]
    rcases kids p hp n i hn hi with ⟨q, hq, e1, e2⟩ | e | hm
    · rw [← e1, ← e2, s.D wf _ (ok q hq).1, s.D wf _ (ok q hq).2]
      exact hw q hq
    · rw [e]
    · refine ih _ hm ?_
      show (valC x.H F ρ (D x.H _)).size ≤ k
      rw [du]
      have := size_arg (δ := ρ) P.l hn hi
      show (ρ _).size ≤ k
      lia

theorem Seen2.pop {H : List Cell} {p : Cell × Cell} {u v : Cell} (h : Seen2 H met (work ++ [p]) u v) (hp : D H p.1 = D H p.2 ∨ (D H p.1, D H p.2) ∈ met) : Seen2 H met work u v := by
  rcases h with ⟨q, hq, e1, e2⟩ | h | h
  · rcases List.mem_append.mp hq with hq | hq
    · exact .inl ⟨q, hq, e1, e2⟩
    · simp at hq; subst hq
      rw [e1, e2] at hp
      exact .inr hp
  · exact .inr (.inl h)
  · exact .inr (.inr h)

theorem mem_snoc {α : Type} {l : List α} {a : α} {P : α → Prop} : (∀ p ∈ l ++ [a], P p) ↔ (∀ p ∈ l, P p) ∧ P a := by
  constructor
  · intro h; exact ⟨fun p hp => h p (by simp [hp]), h a (by simp)⟩
  · rintro ⟨h1, h2⟩ p hp
    rcases List.mem_append.mp hp with hp | hp
    · exact h1 p hp
    · simp at hp; subst hp; exact h2

theorem Uni.skip {p : Cell × Cell} (u : Uni F B x0 c1 c2 x met (work ++ [p])) (hp : D x.H p.1 = D x.H p.2 ∨ (D x.H p.1, D x.H p.2) ∈ met) : Uni F B x0 c1 c2 x met work := by
  have ok := mem_snoc.mp u.ok
  have kids : ∀ p ∈ met, ∀ n i, width x.H F p.1 = some n → i < n → Seen2 x.H met work (.ref (p.1.base + i)) (.ref (p.2.base + i)) := fun q hq n i hn hi => (u.kids q hq n i hn hi).pop hp
  refine ⟨u.wf, u.ext, u.gen, ok.1, fun ρ => ?_, u.pairs, kids, u.nd⟩
  rw [u.sols ρ, mem_snoc]
  constructor
  · rintro ⟨s, h, _⟩; exact ⟨s, h⟩
  · rintro ⟨s, h⟩
    refine ⟨s, h, ?_⟩
    rw [← s.D u.wf _ ok.2.1, ← s.D u.wf _ ok.2.2]
    rcases hp with e | hm
    · rw [e]
    · exact met_eq u.wf u.pairs ok.1 kids s h _ _ hm (Nat.le_refl _)

theorem Uni.push {p : Cell × Cell} (u : Uni F B x0 c1 c2 x met (work ++ [p])) (hc : (D x.H p.1).isComp = true) (hd : (D x.H p.2).isComp = true) (sh : sameShape x.H (D x.H p.1) (D x.H p.2) = true)
    (hm : numP (x.H.length + 1) (D x.H p.1, D x.H p.2) ∉ met.map (numP (x.H.length + 1))) {n : Nat} (hn : width x.H F (D x.H p.1) = some n) :
    Uni F B x0 c1 c2 x (met ++ [(D x.H p.1, D x.H p.2)]) (work ++ pairsDown x.H (D x.H p.1).base (D x.H p.2).base n) := by
  have ok := mem_snoc.mp u.ok
  have b1 := blk_of (D_end u.wf _ ok.2.1).1 hc
  have b2 := blk_of (D_end u.wf _ ok.2.2).1 hd
  have P : Pair x.H F B (D x.H p.1, D x.H p.2) := ⟨b1, b2, sh⟩
  obtain ⟨m, e, _, pl⟩ := b1.wid
  rw [hn] at e; cases e
  obtain ⟨m, e, _, pl'⟩ := b2.wid
  have := (shape_width (F := F) (p := (D x.H p.1, D x.H p.2)) sh).1
  simp only at this
  rw [hn, e] at this; cases this
  have arg : ∀ a, Pl x.H a → ∃ d, x.H[a]? = some d ∧ x.H.getD a (.con 0) = d ∧ okC x.H F B d := fun a ⟨d, hd, hf⟩ => ⟨d, hd, by rw [List.getD_eq_getElem?_getD, hd]; rfl, u.wf.ok _ d hd hf⟩
  have mem : ∀ q, q ∈ pairsDown x.H (D x.H p.1).base (D x.H p.2).base n ↔ ∃ i, i < n ∧ q = (x.H.getD ((D x.H p.1).base + i) (.con 0), x.H.getD ((D x.H p.2).base + i) (.con 0)) := fun q => by
    unfold pairsDown
    rw [List.mem_map]
    constructor
    · rintro ⟨i, hi, rfl⟩; exact ⟨i, down_mem.mp hi, rfl⟩
    · rintro ⟨i, hi, rfl⟩; exact ⟨i, down_mem.mpr hi, rfl⟩
  have up : ∀ a b, Seen2 x.H met (work ++ [p]) a b → Seen2 x.H (met ++ [(D x.H p.1, D x.H p.2)]) (work ++ pairsDown x.H (D x.H p.1).base (D x.H p.2).base n) a b := fun a b s => by
    rcases s with ⟨q, hq, e1, e2⟩ | h | h
    · rcases List.mem_append.mp hq with hq | hq
      · exact .inl ⟨q, by simp [hq], e1, e2⟩
      · simp at hq; subst hq
        exact .inr (.inr (by rw [← e1, ← e2]; simp))
    · exact .inr (.inl h)
    · exact .inr (.inr (by simp [h]))
  refine ⟨u.wf, u.ext, u.gen, fun q hq => ?_, fun ρ => ?_, mem_snoc.mpr ⟨u.pairs, P⟩, fun q hq k i hk hi => ?_, ?_⟩
  · rcases List.mem_append.mp hq with hq | hq
    · exact ok.1 q hq
    · obtain ⟨i, hi, rfl⟩ := (mem q).mp hq
      obtain ⟨d, _, e1, k1⟩ := arg _ (pl i hi)
      obtain ⟨d', _, e2, k2⟩ := arg _ (pl' i hi)
      simp only [e1, e2]
      exact ⟨k1, k2⟩
  · rw [u.sols ρ]
    have key : Sol x.H F ρ → ((valC x.H F ρ p.1 = valC x.H F ρ p.2) ↔ ∀ q ∈ pairsDown x.H (D x.H p.1).base (D x.H p.2).base n, valC x.H F ρ q.1 = valC x.H F ρ q.2) := fun s => by
      rw [← s.D u.wf _ ok.2.1, ← s.D u.wf _ ok.2.2, val_args P hn]
      constructor
      · intro h q hq
        obtain ⟨i, hi, rfl⟩ := (mem q).mp hq
        obtain ⟨d, g1, e1, k1⟩ := arg _ (pl i hi)
        obtain ⟨d', g2, e2, k2⟩ := arg _ (pl' i hi)
        simp only [e1, e2]
        rw [← s _ d g1 k1.notFn, ← s _ d' g2 k2.notFn]
        exact h i hi
      · intro h i hi
        have := h _ ((mem _).mpr ⟨i, hi, rfl⟩)
        obtain ⟨d, g1, e1, k1⟩ := arg _ (pl i hi)
        obtain ⟨d', g2, e2, k2⟩ := arg _ (pl' i hi)
        simp only [e1, e2] at this
        rw [s _ d g1 k1.notFn, s _ d' g2 k2.notFn]
        exact this
    constructor
    · rintro ⟨s, h⟩
      have h := mem_snoc.mp h
      refine ⟨s, fun q hq => ?_⟩
      rcases List.mem_append.mp hq with hq | hq
      · exact h.1 q hq
      · exact (key s).mp h.2 q hq
    · rintro ⟨s, h⟩
      exact ⟨s, mem_snoc.mpr ⟨fun q hq => h q (by simp [hq]), (key s).mpr fun q hq => h q (by simp [hq])⟩⟩
  · rcases List.mem_append.mp hq with hq | hq
    · exact up _ _ (u.kids q hq k i hk hi)
    · simp at hq; subst hq
      simp only at hk ⊢
      rw [hn] at hk; cases hk
      obtain ⟨d, g1, e1, k1⟩ := arg _ (pl i hi)
      obtain ⟨d', g2, e2, k2⟩ := arg _ (pl' i hi)
      refine .inl ⟨_, List.mem_append.mpr (.inr ((mem _).mpr ⟨i, hi, rfl⟩)), ?_, ?_⟩
      · simp only [e1]; exact (D_step u.wf g1).symm
      · simp only [e2]; exact (D_step u.wf g2).symm
  · rw [List.map_append, List.nodup_append]
    refine ⟨u.nd, by simp, fun a ha b hb => ?_⟩
    simp at hb; subst hb
    rintro rfl; exact hm ha

set_option tactic.hygienic true in
theorem Uni.bind {p : Cell × Cell} (u : Uni F B x0 c1 c2 x met (work ++ [p])) {a : Nat} {v : Cell} (ha : Root x.H a) (hv : okC x.H F B v) (hd : ∀ b, v = .ref b → b < a ∧ Root x.H b) (hr : ¬ Reach x.H F a v)
    (hp : (D x.H p.1 = .ref a ∧ D x.H p.2 = v) ∨ (D x.H p.1 = v ∧ D x.H p.2 = .ref a)) : Uni F B x0 c1 c2 (x.bind a v) met work := by
  have ok := mem_snoc.mp u.ok
  have sf := bind_same ha hv.notFn
  have hva : v ≠ .ref a := fun e => by have := (hd a e).1; lia
  obtain ⟨δ, g⟩ := u.gen
  have DD := bind_D u.wf ha hv hd
  have dok : ∀ c, okC x.H F B c → okC (x.H.set a v) F B c := fun c h => sf.okC h
  have hne : (Cell.ref a) ≠ v := Ne.symm hva
  have dp : D (x.H.set a v) p.1 = v ∧ D (x.H.set a v) p.2 = v := by
    rw [DD _ ok.2.1, DD _ ok.2.2]
    rcases hp with ⟨e1, e2⟩ | ⟨e1, e2⟩ <;> rw [e1, e2] <;> simp [hva]
  have plp : ∀ q ∈ met, ∀ n i, width x.H F q.1 = some n → i < n → okC x.H F B (.ref (q.1.base + i)) ∧ okC x.H F B (.ref (q.2.base + i)) := fun q hq n i hn hi => by
    obtain ⟨m, e, _, pl⟩ := (u.pairs q hq).l.wid
    rw [hn] at e; cases e
    obtain ⟨m, e, _, pl'⟩ := (u.pairs q hq).r.wid
    have := (shape_width (F := F) (u.pairs q hq).sh).1
    rw [hn, e] at this; cases this
    exact ⟨pl i hi, pl' i hi⟩
  have shp : ∀ c d, sameShape (x.H.set a v) c d = sameShape x.H c d ∨ ¬ (Blk x.H F B c ∧ Blk x.H F B d) := fun c d => by
    by_cases k : Blk x.H F B c ∧ Blk x.H F B d
    · refine .inl ?_
      obtain ⟨k1, k2⟩ := k
      cases c <;> cases d <;> simp only [sameShape]
      rename_i s t
      obtain ⟨f, hf, _⟩ := k1.str s rfl
      obtain ⟨f', hf', _⟩ := k2.str t rfl
      rw [hf, hf', (sf.fn s f).mpr hf, (sf.fn t f').mpr hf']
    · exact .inr k
  refine ⟨bind_WF u.wf ha hv (fun b e => Nat.le_of_lt (hd b e).1), u.ext.bind ha hv.notFn hva (fun b e => (hd b e).2), ⟨_, g.bind u.wf ha hv fun h => hr (has_reach u.wf g _ v hv (Nat.le_refl _) h)⟩, fun q hq => ⟨dok _ (ok.1 q hq).1, dok _ (ok.1 q hq).2⟩, fun ρ => ?_, fun q hq => ?_, fun q hq n i hn hi => ?_, ?_⟩
  · rw [u.sols ρ, mem_snoc]
    show _ ↔ Sol (x.H.set a v) F ρ ∧ ∀ q ∈ work, valC (x.H.set a v) F ρ q.1 = valC (x.H.set a v) F ρ q.2
    simp only [sf.val, bind_Sol ha hv.notFn]
    have key : Sol x.H F ρ → ((valC x.H F ρ p.1 = valC x.H F ρ p.2) ↔ ρ a = valC x.H F ρ v) := fun s => by
      rw [← s.D u.wf _ ok.2.1, ← s.D u.wf _ ok.2.2]
      rcases hp with ⟨e1, e2⟩ | ⟨e1, e2⟩ <;> rw [e1, e2] <;> simp only [valC]
      exact eq_comm
    constructor
    · rintro ⟨s, h1, h2⟩; exact ⟨⟨s, (key s).mp h2⟩, h1⟩
    · rintro ⟨⟨s, h2⟩, h1⟩; exact ⟨s, h1, (key s).mpr h2⟩
  · have P := u.pairs q hq
    refine ⟨sf.blk P.l, sf.blk P.r, ?_⟩
    rcases shp q.1 q.2 with e | e
    · show sameShape (x.H.set a v) q.1 q.2 = true
      rw [e]; exact P.sh
    · exact (e ⟨P.l, P.r⟩).elim
  · have hn' : width x.H F q.1 = some n := by rw [← sf.width]; exact hn
    obtain ⟨o1, o2⟩ := plp q hq n i hn' hi
    show Seen2 (x.H.set a v) met work _ _
    unfold Seen2
    rw [DD _ o1, DD _ o2]
    rcases u.kids q hq n i hn' hi with ⟨r, hr', e1, e2⟩ | e | hm
    · rcases List.mem_append.mp hr' with hr' | hr'
      · refine .inl ⟨r, hr', ?_, ?_⟩
        · rw [DD _ (ok.1 r hr').1, e1]
        · rw [DD _ (ok.1 r hr').2, e2]
      · simp at hr'; subst hr'
        refine .inr (.inl ?_)
        rw [← e1, ← e2, ← DD _ ok.2.1, ← DD _ ok.2.2, dp.1, dp.2]
    · exact .inr (.inl (by rw [e]))
    · refine .inr (.inr ?_)
      have P := u.pairs _ hm
      have h1 := P.l.comp
      have h2 := P.r.comp
      simp only at h1 h2
      rw [if_neg (fun e => by rw [e] at h1; cases h1), if_neg (fun e => by rw [e] at h2; cases h2)]
      exact hm
  · show (met.map (numP ((x.H.set a v).length + 1))).Nodup
    rw [List.length_set]; exact u.nd
end

set_option tactic.hygienic true

set_option tactic.hygienic false

structure UPost (F : Fun) (B : List Nat) (x0 : Sto) (c1 c2 : Cell) (x : Sto) (b : Bool) : Prop where
  ext : Ext x0 x
  ok : b = true → WF x.H F B ∧ (∃ δ, Gen x.H F δ) ∧ ∀ ρ, (Sol x0.H F ρ ∧ valC x0.H F ρ c1 = valC x0.H F ρ c2) ↔ Sol x.H F ρ
  no : b = false → ∀ ρ, Sol x0.H F ρ → valC x0.H F ρ c1 ≠ valC x0.H F ρ c2

section
variable {F : Fun} {B : List Nat} {x0 x : Sto} {c1 c2 : Cell} {met work : List (Cell × Cell)}

theorem Uni.start (wf : WF x.H F B) (g : ∃ δ, Gen x.H F δ) (h1 : okC x.H F B c1) (h2 : okC x.H F B c2) : Uni F B x c1 c2 x [] [(c1, c2)] :=
  ⟨wf, Ext.refl x, g, fun p hp => by simp at hp; subst hp; exact ⟨h1, h2⟩, fun ρ => by simp, fun p hp => by simp at hp, fun p hp => by simp at hp, by simp⟩

theorem Uni.done (u : Uni F B x0 c1 c2 x met []) : UPost F B x0 c1 c2 x true :=
  ⟨u.ext, fun _ => ⟨u.wf, u.gen, fun ρ => by rw [u.sols ρ]; simp⟩, fun h => by cases h⟩

theorem Uni.fail {p : Cell × Cell} (u : Uni F B x0 c1 c2 x met (work ++ [p])) (h : ∀ ρ, Sol x.H F ρ → valC x.H F ρ (D x.H p.1) ≠ valC x.H F ρ (D x.H p.2)) : UPost F B x0 c1 c2 x false := by
  have ok := mem_snoc.mp u.ok
  refine ⟨u.ext, fun h => (by cases h), fun _ ρ s e => ?_⟩
  obtain ⟨s', h'⟩ := (u.sols ρ).mp ⟨s, e⟩
  have h' := (mem_snoc.mp h').2
  exact h ρ s' (by rw [s'.D u.wf _ ok.2.1, s'.D u.wf _ ok.2.2]; exact h')

set_option tactic.hygienic true in
theorem clash {H : List Cell} {c d : Cell} (hc : okC H F B c) (hd : okC H F B d) (nc : ∀ a, c ≠ .ref a) (nd : ∀ a, d ≠ .ref a) (ne : c ≠ d) (hs : ¬ (c.isComp = true ∧ sameShape H c d = true)) (ρ : Nat → Tm) : valC H F ρ c ≠ valC H F ρ d := by
  intro e
  cases c
  case ref a => exact nc a rfl
  case fn => exact hc.elim
  case con n =>
    cases d
    case ref a => exact nd a rfl
    case fn => exact hd.elim
    case con m => simp [valC] at e; exact ne (by rw [e])
    all_goals simp [valC] at e
  case int n =>
    cases d
    case ref a => exact nd a rfl
    case fn => exact hd.elim
    case int m => simp [valC] at e; exact ne (by rw [e])
    all_goals simp [valC] at e
  case lis n =>
    cases d
    case ref a => exact nd a rfl
    case fn => exact hd.elim
    case lis m => exact hs ⟨rfl, rfl⟩
    case str m =>
      obtain ⟨f, hf, hz⟩ := Blk.str hd m rfl
      simp only [valC, fnAt, hf, Option.getD_some, Tm.app.injEq] at e
      exact hz e.1.symm
    all_goals simp [valC] at e
  case str n =>
    obtain ⟨f, hf, hz⟩ := Blk.str hc n rfl
    cases d
    case ref a => exact nd a rfl
    case fn => exact hd.elim
    case lis m =>
      simp only [valC, fnAt, hf, Option.getD_some, Tm.app.injEq] at e
      exact hz e.1
    case str m =>
      obtain ⟨f', hf', hz'⟩ := Blk.str hd m rfl
      simp only [valC, fnAt, hf, hf', Option.getD_some, Tm.app.injEq] at e
      apply hs
      refine ⟨rfl, ?_⟩
      simp only [sameShape, hf, hf', e.1]
      simp
    all_goals simp [valC] at e

theorem occurs {H : List Cell} (wf : WF H F B) (g : ∃ δ, Gen H F δ) {a : Nat} {v : Cell} (ha : Root H a) (hv : okC H F B v) (nv : ∀ b, v ≠ .ref b) (r : Reach H F a v) (ρ : Nat → Tm) (s : Sol H F ρ) : ρ a ≠ valC H F ρ v := by
  obtain ⟨δ, g⟩ := g
  intro e
  have h := reach_has wf g ha r hv
  have ev := g.val s hv
  have hc : v.isComp = true := by
    cases v <;> first | rfl | skip
    · exact (nv _ rfl).elim
    · simp [valC, Tm.has] at h
    · simp [valC, Tm.has] at h
    · exact hv.elim
  have b := blk_of hv hc
  obtain ⟨n, hn, _, pl⟩ := b.wid
  obtain ⟨i, hi, hh⟩ := (has_args b hn).mp h
  have h1 := size_arg (δ := ρ) b hn hi
  have h2 := g.gen ρ s _ (pl i hi)
  have h3 := Tm.size_sub (σ := ρ) hh
  rw [← h2] at h3
  rw [← e] at h1
  lia

theorem Ext.room (e : Ext x0 x) : x.T.length ≤ x0.T.length + x0.H.length ∧ x.H.length = x0.H.length := by
  obtain ⟨l, h1, h2, h3, _⟩ := e.trail
  have := nodup_len (B := List.range x0.H.length) h2 (fun a ha => List.mem_range.mpr (List.getElem?_eq_some_iff.mp (h3 a ha).1).1)
  rw [List.length_range] at this
  rw [h1, List.length_append]
  exact ⟨by lia, e.sf.len⟩

theorem numP_inj {H : List Cell} {p q : Cell × Cell} (hp : Pair H F B p) (hq : Pair H F B q) (e : numP (H.length + 1) p = numP (H.length + 1) q) : p = q := by
  have lt : ∀ c, Blk H F B c → c.addr < H.length := fun c b => by
    cases c with
    | str a => obtain ⟨f, hf, _⟩ := b.str a rfl; exact (List.getElem?_eq_some_iff.mp hf).1
    | lis a =>
      obtain ⟨n, hn, _, pl⟩ := b.wid
      simp [width] at hn; subst hn
      obtain ⟨d, e, _⟩ := pl 0 (by lia)
      have := (List.getElem?_eq_some_iff.mp e).1
      simpa [Cell.base, Cell.addr] using this
    | _ => have := b.comp; simp [Cell.isComp] at this
  unfold numP at e
  have h1 := lt _ hp.r
  have h2 := lt _ hq.r
  have e1 : p.1.addr = q.1.addr := by
    have a1 : (p.1.addr * (H.length + 1) + p.2.addr) / (H.length + 1) = p.1.addr := by
      rw [Nat.mul_comm, Nat.mul_add_div (by lia), Nat.div_eq_of_lt (by lia)]; rfl
    have a2 : (q.1.addr * (H.length + 1) + q.2.addr) / (H.length + 1) = q.1.addr := by
      rw [Nat.mul_comm, Nat.mul_add_div (by lia), Nat.div_eq_of_lt (by lia)]; rfl
    rw [← a1, e, a2]
  have e2 : p.2.addr = q.2.addr := by rw [e1] at e; lia
  exact Prod.ext (same_blk hp.l hq.l e1) (same_blk hp.r hq.r e2)

theorem met_len {H : List Cell} (pairs : ∀ p ∈ met, Pair H F B p) (nd : (met.map (numP (H.length + 1))).Nodup) : met.length ≤ B.length * B.length := by
  have := nodup_len (B := B.flatMap fun a => B.map fun b => a * (H.length + 1) + b) nd (fun n hn => by
    obtain ⟨p, hp, rfl⟩ := List.mem_map.mp hn
    have P := pairs p hp
    exact List.mem_flatMap.mpr ⟨_, P.l.mem, List.mem_map.mpr ⟨_, P.r.mem, rfl⟩⟩)
  rw [List.length_map] at this
  have e : ∀ (l : List Nat), (l.flatMap fun a => B.map fun b => a * (H.length + 1) + b).length = l.length * B.length := by
    intro l
    induction l with
    | nil => simp
    | cons a l ih => rw [List.flatMap_cons, List.length_append, ih, List.length_map, List.length_cons, Nat.add_mul]; lia
  rw [e] at this
  exact this
end

set_option tactic.hygienic true

set_option tactic.hygienic false
section
variable {S : Sg} {st : Objs} {I : Ids} {J : SyIds} {x : Sto} {y : Sym}

inductive C_bind_checked (vs : List MV) (st : Objs) (Q : EP) : Prop
  | mk (I : _) (J : _) (x : _) (y : _) (B : _) (a : _) (v : _) (h0 : vs = [.obj I.s, cM (.ref a), cM v, .bool true]) (h1 : Wd st I J x y) (h2 : WF x.H y.F B) (h3 : Root x.H a) (h4 : okC x.H y.F B v) (h5 : B.length ≤ 100) (h6 : (∀ p ∈ y.F, 0 ≤ p.2)) (h7 : x.T.length < 1000) (h8 : (Reach x.H y.F a v → ∀ g, Q (.bool false) (st ++ g))) (h9 : (¬ Reach x.H y.F a v → ∀ st', Wd st' I J (x.bind a v) y → Same [I.hp, I.tr] st st' → Q (.bool true) st')) : C_bind_checked vs st Q


theorem f_bind_checked (hM : S.M = mt) (hO : Has S 459 C_occurs_in) (hB : Has S 243 C_bind) {vs : List MV} {Q : EP} (h : C_bind_checked vs st Q) : vs.length = 4 ∧ wpF S b_bind_checked (frame ns_bind_checked vs) st Q := by
  obtain ⟨I, J, x, y, B, a, v, rfl, w, wf, ha, ok, hl, hp, hT, q1, q2⟩ := h
  refine ⟨rfl, ?_⟩
  unfold b_bind_checked
  walk_at "f"
  refine hO _ _ _ ⟨I, J, x, y, B, a, v, rfl, w, wf, ha, ok, hl, hp, fun b g hb => ?_⟩
  walk_at "m"
  by_cases r : Reach x.H y.F a v
  · refine s_KI1 (hb.mpr r) ?_
    walk_at "m"
    exact q1 r g
  · refine s_KI0 (Bool.eq_false_iff.mpr fun h => r (hb.mp h)) ?_
    have w1 := w.app g
    walk_at "m"
    refine hB _ _ _ ⟨I, J, x, y, a, v, rfl, w1, (List.getElem?_eq_some_iff.mp ha).1, hT, fun st' w' s' l' => ?_⟩
    walk_at "m"
    exact q2 r st' w' (((Same.app st g).weak (fun j hj => by cases hj)).trans s')

inductive C_unify (vs : List MV) (st : Objs) (Q : EP) : Prop
  | mk (I : _) (J : _) (x : _) (y : _) (B : _) (c1 : _) (c2 : _) (h0 : vs = [.obj I.s, cM c1, cM c2, .bool true]) (h1 : Wd st I J x y) (h2 : WF x.H y.F B) (h3 : (∃ δ, Gen x.H y.F δ)) (h4 : okC x.H y.F B c1) (h5 : okC x.H y.F B c2) (h6 : B.length ≤ 60) (h7 : (∀ p ∈ y.F, 0 ≤ p.2)) (h8 : x.T.length + x.H.length < 1000) (h9 : ∀ b x' st', UPost y.F B x c1 c2 x' b → Wd st' I J x' y → Same [I.hp, I.tr] st st' → Q (.bool b) st') : C_unify vs st Q


structure UAt (st : Objs) (st0 : Objs) (I : Ids) (J : SyIds) (x : Sto) (y : Sym) (nums : List Nat) (work : List (Cell × Cell)) : Prop where
  w : Wd st I J x y
  same : Same [I.hp, I.tr] st0 st
  ps : st[st0.length]? = some (.inst 399 [(11, .int (x.H.length + 1)), (12, .obj (st0.length + 1))])
  ms : st[st0.length + 1]? = some (.set (nums.map fun (m : Nat) => (m : Int)))
  wk : st[st0.length + 2]? = some (.list (work.map pM))

theorem UAt.step {st' st0 : Objs} {nums : List Nat} {work : List (Cell × Cell)} {x' x0 : Sto} (u : UAt st st0 I J x y nums work) (w0 : Wd st0 I J x0 y) (w : Wd st' I J x' y) (hl : x'.H.length = x.H.length) (s : Same [I.hp, I.tr] st st') : UAt st' st0 I J x' y nums work := by
  have l := ids_lt w0
  exact ⟨w, u.same.trans s, by rw [hl]; exact s.at u.ps (by simp; lia), s.at u.ms (by simp; lia), s.at u.wk (by simp; lia)⟩

theorem UAt.set {st0 : Objs} {nums nums' : List Nat} {work work' : List (Cell × Cell)} {x0 : Sto} (u : UAt st st0 I J x y nums work) (w0 : Wd st0 I J x0 y) {k : Nat} {o : MO} (hk : st0.length + 1 ≤ k)
    (hm : (st.set k o)[st0.length + 1]? = some (.set (nums'.map fun (m : Nat) => (m : Int)))) (hw : (st.set k o)[st0.length + 2]? = some (.list (work'.map pM))) : UAt (st.set k o) st0 I J x y nums' work' := by
  have f := (w0.free (k := k) (by lia) []).ne
  refine ⟨u.w.same (Same.set _ _ _) (by intro j hj; simp at hj; subst hj; exact f), ⟨by rw [List.length_set]; exact u.same.len, fun j hj hx => ?_⟩, ?_, hm, hw⟩
  · rw [List.getElem?_set_ne (by lia)]; exact u.same.get j hj hx
  · rw [List.getElem?_set_ne (by lia)]; exact u.ps

theorem UAt.pop {st0 : Objs} {nums : List Nat} {work : List (Cell × Cell)} {x0 : Sto} {p : Cell × Cell} (u : UAt st st0 I J x y nums (work ++ [p])) (w0 : Wd st0 I J x0 y) (hl : work.length + 1 ≤ lim) :
    ∃ s', (∀ Q : EP, methM S (.obj (st0.length + 2)) 14 [] st Q = Q (pM p) s') ∧ UAt s' st0 I J x y nums work := by
  have hlt := (List.getElem?_eq_some_iff.mp u.wk).1
  refine ⟨st.set (st0.length + 2) (.list (work.map pM)), fun Q => ?_, u.set w0 (by lia) ?_ ?_⟩
  · rw [meth_pop u.wk]
    simp [hl, opt_some]
  · rw [List.getElem?_set_ne (by lia)]; exact u.ms
  · rw [List.getElem?_set_self hlt]

theorem sub_pM0 (p : Cell × Cell) : subM st (pM p) (.int 0) = some (cM p.1) := sub_0 _ _ _

inductive UInv (st : Objs) (I : Ids) (J : SyIds) (y : Sym) (B : List Nat) (x0 : Sto) (c1 c2 : Cell) (n : Nat) (loc : List MV) (s : Objs) : Prop
  | mk (x : Sto) (met work : List (Cell × Cell)) (u v : MV) (ua : UAt s st I J x y (met.map (numP (x.H.length + 1))) work) (un : Uni y.F B x0 c1 c2 x met work)
      (hl : loc = [.obj I.s, cM c1, cM c2, .bool true, .obj st.length, .obj (st.length + 2), u, v]) (hw : work.length ≤ 1 + 5 * met.length) (hn : n = work.length + 6 * (B.length * B.length - met.length)) : UInv st I J y B x0 c1 c2 n loc s

theorem not_reach_ref {H : List Cell} {F : Fun} {a b : Nat} (hb : D H (.ref b) = .ref b) (h : a ≠ b) : ¬ Reach H F a (.ref b) := by
  intro r
  cases r with
  | here e => rw [hb] at e; cases e; exact h rfl
  | sub hn _ _ => rw [hb] at hn; simp [width] at hn

theorem isRef_iff {c : Cell} : c.isRef = true ↔ ∃ a, c = .ref a := by cases c <;> simp [Cell.isRef]

theorem num_cast (a b n : Nat) : (a : Int) * (n : Int) + (b : Int) = ((a * n + b : Nat) : Int) := by rw [Int.natCast_add, Int.natCast_mul]
theorem isRef_no {c : Cell} (h : ∀ a, c ≠ .ref a) : c.isRef = false := by cases c <;> first | rfl | exact (h _ rfl).elim
theorem root_of {H : List Cell} {c : Cell} {a : Nat} (E : (∃ b, D H c = .ref b ∧ Root H b) ∨ ∀ b, D H c ≠ .ref b) (h : D H c = .ref a) : Root H a := by
  rcases E with ⟨b, hb, rb⟩ | hn
  · rw [h] at hb; cases hb; exact rb
  · exact (hn a h).elim
theorem bp_lt {x : Sto} {a b : Nat} (h : a < b) : x.bindPair a b = x.bind b (.ref a) := by
  unfold Sto.bindPair; rw [if_neg (Nat.ne_of_lt h), if_pos h]
theorem bp_gt {x : Sto} {a b : Nat} (ne : a ≠ b) (h : ¬ a < b) : x.bindPair a b = x.bind a (.ref b) := by
  unfold Sto.bindPair; rw [if_neg ne, if_neg h]
theorem UAt.bound {st' st0 : Objs} {met work : List (Cell × Cell)} {x0 : Sto} {a : Nat} {v : Cell} (u : UAt st st0 I J x y (met.map (numP (x.H.length + 1))) work) (w0 : Wd st0 I J x0 y) (w : Wd st' I J (x.bind a v) y) (s : Same [I.hp, I.tr] st st') :
    UAt st' st0 I J (x.bind a v) y (met.map (numP ((x.bind a v).H.length + 1))) work := by
  have hl : (x.bind a v).H.length = x.H.length := List.length_set
  have := u.step w0 w hl s
  rwa [← hl] at this
theorem shape_comp {H : List Cell} {c d : Cell} (h : sameShape H c d = true) : d.isComp = true := by cases c <;> cases d <;> first | rfl | cases h
theorem addr_lt {H : List Cell} {F : Fun} {c : Cell} {k : Nat} (hw : width H F c = some k) (h : c.base + k ≤ H.length) : c.addr < H.length := by
  cases c with
  | str a => exact Nat.lt_of_lt_of_le (Nat.lt_succ_self a) (Nat.le_trans (Nat.le_add_right _ _) h)
  | lis a => cases hw; exact Nat.lt_of_lt_of_le (Nat.lt_add_of_pos_right (by decide)) h
  | _ => cases hw

theorem f_unify (hM : S.M = mt) (hPS : Has S 399 C_PairSet) (hD : Has S 229 C_deref) (hV : Has S 431 C_is_variable) (hBP : Has S 250 C_bind_pair) (hBC : Has S 445 C_bind_checked) (hC : Has S 285 C_is_compound)
    (hSS : Has S 424 C_same_shape) (hA : Has S 396 C_add) (hPP : Has S 417 C_push_pairs) {vs : List MV} {Q : EP} (h : C_unify vs st Q) : vs.length = 4 ∧ wpF S b_unify (frame ns_unify vs) st Q := by
  obtain ⟨I, J, x0, y, B, c1, c2, rfl, w0, wf0, g0, ok1, ok2, hB, hp, hroom, q⟩ := h
  refine ⟨rfl, ?_⟩
  unfold b_unify
  walk_at "f"
  refine hPS _ _ _ ⟨I, J, x0, y, rfl, w0, fun st1 s1 e1 e2 l1 => ?_⟩
  have w1 : Wd st1 I J x0 y := w0.same s1 (fun j hj => by cases hj)
  have hinit : UAt (st1 ++ [.list [.tup [cM c1, cM c2]]]) st I J x0 y [] [(c1, c2)] :=
    ⟨w1.app _, (s1.weak (fun j hj => by cases hj)).trans ((Same.app _ _).weak (fun j hj => by cases hj)), by rw [List.getElem?_append_left (by lia)]; exact e1, by rw [List.getElem?_append_left (by lia)]; exact e2, by rw [← l1]; exact get_last _ _⟩
  walk_at "m"
  refine s_wh ⟨UInv st I J y B x0 c1 c2, ⟨_, x0, [], [(c1, c2)], .unb, .unb, hinit, Uni.start wf0 g0 ok1 ok2, by rw [← l1]; rfl, Nat.le_refl 1, rfl⟩, ?_⟩
  clear hinit w1 s1 e1 e2 l1 wf0 g0 ok1 ok2
  rintro n _ s ⟨x, met, work, u', v', ua, u, rfl, hwl, rfl⟩
  have hml := met_len u.pairs u.nd
  have hBB : B.length * B.length ≤ 3600 := Nat.mul_le_mul hB hB
  have hlen : callB .len [.obj (st.length + 2)] s = some (.int work.length, s) := by
    rw [len_list ua.wk (by rw [List.length_map]; unfold lim; lia), List.length_map]
  walk_at "m"
  rcases List.eq_nil_or_concat work with rfl | ⟨work', p, hwd⟩
  · refine s_KW0 rfl ?_
    walk_at "m"
    exact q true x s u.done ua.w ua.same
  rw [List.concat_eq_append] at hwd
  subst hwd
  have hll : (work' ++ [p]).length = work'.length + 1 := List.length_append
  rw [hll] at hwl ⊢
  refine s_KW1 (dt (by lia)) ?_
  have mvp := mval_pop (S := S) ua.wk
  obtain ⟨s1, pop, ua1⟩ := ua.pop (S := S) w0 (by unfold lim; lia)
  have ok := (mem_snoc.mp u.ok).2
  have room := u.ext.room
  have w1 := ua1.w
  -- how a turn ends
  have go : ∀ s2 x2 met2 work2 u2 v2, UAt s2 st I J x2 y (met2.map (numP (x2.H.length + 1))) work2 → Uni y.F B x0 c1 c2 x2 met2 work2 → work2.length ≤ 1 + 5 * met2.length → work2.length + 6 * (B.length * B.length - met2.length) < work'.length + 1 + 6 * (B.length * B.length - met.length) →
      ∃ m, m < work'.length + 1 + 6 * (B.length * B.length - met.length) ∧ UInv st I J y B x0 c1 c2 m [.obj I.s, cM c1, cM c2, .bool true, .obj st.length, .obj (st.length + 2), u2, v2] s2 :=
    fun s2 x2 met2 work2 u2 v2 a b c d => ⟨_, d, x2, met2, work2, u2, v2, a, b, rfl, c, rfl⟩
  have go1 : ∀ s2 x2 u2 v2, UAt s2 st I J x2 y (met.map (numP (x2.H.length + 1))) work' → Uni y.F B x0 c1 c2 x2 met work' → ∃ m, m < work'.length + 1 + 6 * (B.length * B.length - met.length) ∧ UInv st I J y B x0 c1 c2 m [.obj I.s, cM c1, cM c2, .bool true, .obj st.length, .obj (st.length + 2), u2, v2] s2 :=
    fun s2 x2 u2 v2 a b => go s2 x2 met work' u2 v2 a b (by lia) (by lia)
  walk_at "m"
  refine ⟨mvp, (pop _).mpr ?_⟩
  walk_at "m"
  refine hD _ _ _ ⟨I, J, x, y, p.1, rfl, w1, u.wf.down, ok.1.inH, ?_⟩
  walk_at "m"
  refine hD _ _ _ ⟨I, J, x, y, p.2, rfl, w1, u.wf.down, ok.2.inH, ?_⟩
  have E1 := D_end u.wf p.1 ok.1
  have E2 := D_end u.wf p.2 ok.2
  walk_at "m"
  by_cases eq : D x.H p.1 = D x.H p.2
  · refine s_KI1 (dt eq) ?_
    walk_at "m"
    exact go1 s1 x _ _ ua1 (u.skip (.inl eq))
  refine s_KI0 (df eq) ?_
  walk_at "m"
  refine hV _ _ _ ⟨_, rfl, ?_⟩
  walk_at "m"
  by_cases v1 : ∃ a, D x.H p.1 = .ref a
  · obtain ⟨a, ha⟩ := v1
    have ra := root_of E1.2.1 ha
    refine s_KI1 (by rw [ha]; rfl) ?_
    walk_at "m"
    refine hV _ _ _ ⟨_, rfl, ?_⟩
    walk_at "m"
    by_cases v2 : ∃ b, D x.H p.2 = .ref b
    · obtain ⟨b, hb⟩ := v2
      have rb := root_of E2.2.1 hb
      have hab : a ≠ b := fun e => eq (by rw [ha, hb, e])
      refine s_KI1 (by rw [hb]; rfl) ?_
      walk_at "m"
      refine hBP _ _ _ ⟨I, J, x, y, a, b, by rw [ha, hb], w1, (List.getElem?_eq_some_iff.mp ra).1, (List.getElem?_eq_some_iff.mp rb).1, by lia, fun s2 w2 sm l2 => ?_⟩
      walk_at "m"
      by_cases lt : a < b
      · rw [bp_lt lt] at w2
        have u2 := u.bind rb E1.1 (fun c hc => by rw [ha] at hc; cases hc; exact ⟨lt, ra⟩) (by rw [ha]; exact not_reach_ref (D_root u.wf ra) (Ne.symm hab)) (.inr ⟨rfl, hb⟩)
        rw [ha] at u2
        exact go1 s2 _ _ _ (ua1.bound w0 w2 sm) u2
      · rw [bp_gt hab lt] at w2
        have u2 := u.bind ra E2.1 (fun c hc => by rw [hb] at hc; cases hc; exact ⟨by lia, rb⟩) (by rw [hb]; exact not_reach_ref (D_root u.wf rb) hab) (.inl ⟨ha, rfl⟩)
        rw [hb] at u2
        exact go1 s2 _ _ _ (ua1.bound w0 w2 sm) u2
    · have nv2 : ∀ b, D x.H p.2 ≠ .ref b := fun b e => v2 ⟨b, e⟩
      refine s_KI0 (isRef_no nv2) ?_
      walk_at "m"
      refine hBC _ _ _ ⟨I, J, x, y, B, a, D x.H p.2, by rw [ha], w1, u.wf, ra, E2.1, by lia, hp, by lia, fun r g => ?_, fun r s2 w2 sm => ?_⟩
      · walk_at "m"
        refine q false x _ (u.fail fun ρ sl => ?_) (w1.app g) (ua1.same.trans ((Same.app _ _).weak (fun j hj => by cases hj)))
        rw [ha]
        exact occurs u.wf u.gen ra E2.1 nv2 r ρ sl
      · walk_at "m"
        exact go1 s2 _ _ _ (ua1.bound w0 w2 sm) (u.bind ra E2.1 (fun c hc => (nv2 c hc).elim) r (.inl ⟨ha, rfl⟩))
  · have nv1 : ∀ b, D x.H p.1 ≠ .ref b := fun b e => v1 ⟨b, e⟩
    refine s_KI0 (isRef_no nv1) ?_
    walk_at "m"
    refine hV _ _ _ ⟨_, rfl, ?_⟩
    walk_at "m"
    by_cases v2 : ∃ b, D x.H p.2 = .ref b
    · obtain ⟨b, hb⟩ := v2
      have rb := root_of E2.2.1 hb
      refine s_KI1 (by rw [hb]; rfl) ?_
      walk_at "m"
      refine hBC _ _ _ ⟨I, J, x, y, B, b, D x.H p.1, by rw [hb], w1, u.wf, rb, E1.1, by lia, hp, by lia, fun r g => ?_, fun r s2 w2 sm => ?_⟩
      · walk_at "m"
        refine q false x _ (u.fail fun ρ sl => ?_) (w1.app g) (ua1.same.trans ((Same.app _ _).weak (fun j hj => by cases hj)))
        rw [hb]
        exact (occurs u.wf u.gen rb E1.1 nv1 r ρ sl).symm
      · walk_at "m"
        exact go1 s2 _ _ _ (ua1.bound w0 w2 sm) (u.bind rb E1.1 (fun c hc => (nv1 c hc).elim) r (.inr ⟨rfl, hb⟩))
    · have nv2 : ∀ b, D x.H p.2 ≠ .ref b := fun b e => v2 ⟨b, e⟩
      refine s_KI0 (isRef_no nv2) ?_
      walk_at "m"
      refine hC _ _ _ ⟨_, _, rfl, ?_⟩
      have fail : ¬ ((D x.H p.1).isComp = true ∧ sameShape x.H (D x.H p.1) (D x.H p.2) = true) → Q (.bool false) s1 := fun hs =>
        q false x _ (u.fail fun ρ sl => clash E1.1 E2.1 nv1 nv2 eq hs ρ) w1 ua1.same
      walk_at "m"
      by_cases hc : (D x.H p.1).isComp = true
      case neg =>
        refine if_f (Bool.eq_false_iff.mpr hc) (s_KI0 rfl ?_)
        walk_at "m"
        exact fail fun h => hc h.1
      refine if_t hc ?_
      walk_at "m"
      have str_lt : ∀ c, okC x.H y.F B c → ∀ a, c = .str a → a < x.H.length := fun c ok a e => by
        subst e; obtain ⟨f, hf, _⟩ := Blk.str ok a rfl; exact (List.getElem?_eq_some_iff.mp hf).1
      refine hSS _ _ _ ⟨I, J, x, y, _, _, rfl, w1, hc, str_lt _ E1.1, str_lt _ E2.1, ?_⟩
      walk_at "m"
      by_cases hs : sameShape x.H (D x.H p.1) (D x.H p.2) = true
      case neg =>
        refine s_KI0 (Bool.eq_false_iff.mpr hs) ?_
        walk_at "m"
        exact fail fun h => hs h.2
      refine s_KI1 hs ?_
      have hd := shape_comp hs
      have b1 := blk_of E1.1 hc
      have b2 := blk_of E2.1 hd
      have P : Pair x.H y.F B (D x.H p.1, D x.H p.2) := ⟨b1, b2, hs⟩
      obtain ⟨k, hk, _, _⟩ := b1.wid
      have fit1 := base_fit b1 hk
      have fit2 := base_fit b2 (by rw [← (shape_width (F := y.F) (p := (D x.H p.1, D x.H p.2)) hs).1]; exact hk)
      have mva : mval S (.obj st.length) 16 s1 = some (.ref 396) := by
        rw [mval_at ua1.ps]; show (S.M _ _).map _ = _; rw [hM]; rfl
      have madd : ∀ (vs : List MV) (Q : EP), methM S (.obj st.length) 16 vs s1 Q = S.C 396 (.obj st.length :: vs) s1 Q := fun vs Q => by
        rw [methM_at ua1.ps]; show opt (S.M _ _) _ = _; rw [hM]; rfl
      have n1 := addr_num hc
      have n2 := addr_num hd
      have lt1 := addr_lt hk fit1.1
      have hnum : (D x.H p.1).num * ((x.H.length + 1 : Nat) : Int) + (D x.H p.2).num = ((numP (x.H.length + 1) (D x.H p.1, D x.H p.2) : Nat) : Int) := by
        rw [n1, n2]; exact num_cast _ _ _
      have hmem : (((numP (x.H.length + 1) (D x.H p.1, D x.H p.2) : Nat) : Int) ∈ (met.map (numP (x.H.length + 1))).map fun (m : Nat) => (m : Int)) ↔ numP (x.H.length + 1) (D x.H p.1, D x.H p.2) ∈ met.map (numP (x.H.length + 1)) := by
        constructor
        · intro h
          obtain ⟨m, hm, e⟩ := List.mem_map.mp h
          exact Int.ofNat_inj.mp e ▸ hm
        · intro h; exact List.mem_map.mpr ⟨_, h, rfl⟩
      walk_at "m"
      refine ⟨mva, (madd _ _).mpr (hA _ _ _ ⟨st.length, st.length + 1, x.H.length + 1, _, D x.H p.1, D x.H p.2, rfl, ua1.ps, ua1.ms, by rw [List.length_map, List.length_map]; lia, by lia, by rw [n1]; lia, by rw [n1]; lia, ?_⟩)⟩
      rw [hnum]
      by_cases hin : numP (x.H.length + 1) (D x.H p.1, D x.H p.2) ∈ met.map (numP (x.H.length + 1))
      · rw [if_pos (hmem.mpr hin)]
        obtain ⟨r, hr, e⟩ := List.mem_map.mp hin
        have : r = (D x.H p.1, D x.H p.2) := numP_inj (u.pairs r hr) P e
        walk_at "m"
        exact go1 s1 x _ _ ua1 (u.skip (.inr (this ▸ hr)))
      · rw [if_neg (fun h => hin (hmem.mp h))]
        have u2 := u.push hc hd hs hin hk
        have hml2 := met_len u2.pairs u2.nd
        rw [List.length_append, List.length_singleton] at hml2
        have hlt := (List.getElem?_eq_some_iff.mp ua1.ms).1
        have ua2 := ua1.set w0 (k := st.length + 1) (o := .set ((met.map (numP (x.H.length + 1))).map (fun (m : Nat) => (m : Int)) ++ [((numP (x.H.length + 1) (D x.H p.1, D x.H p.2) : Nat) : Int)])) (nums' := (met ++ [(D x.H p.1, D x.H p.2)]).map (numP (x.H.length + 1))) (work' := work') (Nat.le_refl _) (by rw [List.getElem?_set_self hlt, List.map_append, List.map_append]; rfl) (by rw [List.getElem?_set_ne (by lia)]; exact ua1.wk)
        generalize s1.set (st.length + 1) (.set ((met.map (numP (x.H.length + 1))).map (fun (m : Nat) => (m : Int)) ++ [((numP (x.H.length + 1) (D x.H p.1, D x.H p.2) : Nat) : Int)])) = s2 at ua2 ⊢
        walk_at "m"
        have hlt2 := (List.getElem?_eq_some_iff.mp ua2.wk).1
        have kl := fit1.2
        have hpl : (pairsDown x.H (D x.H p.1).base (D x.H p.2).base k).length = k := by unfold pairsDown; rw [List.length_map, down_len]
        refine hPP _ _ _ ⟨I, J, x, y, D x.H p.1, D x.H p.2, k, st.length + 2, work'.map pM, rfl, ua2.w, ⟨(w0.free (k := st.length + 2) (by lia) []).ne⟩, ua2.wk, hc, hd, hk, hp, fit1.1, fit2.1, by rw [List.length_map]; lia, ?_⟩
        have ua3 := ua2.set w0 (k := st.length + 2) (o := .list (work'.map pM ++ (pairsDown x.H (D x.H p.1).base (D x.H p.2).base k).map pM)) (nums' := (met ++ [(D x.H p.1, D x.H p.2)]).map (numP (x.H.length + 1))) (work' := work' ++ pairsDown x.H (D x.H p.1).base (D x.H p.2).base k) (by lia) (by rw [List.getElem?_set_ne (by lia)]; exact ua2.ms) (by rw [List.getElem?_set_self hlt2, List.map_append])
        walk_at "m"
        exact go _ x _ _ _ _ ua3 u2 (by rw [List.length_append, hpl, List.length_append, List.length_singleton]; lia) (by rw [List.length_append, hpl, List.length_append, List.length_singleton]; lia)
end

set_option tactic.hygienic true

set_option tactic.hygienic false

theorem undo_get (l : List Nat) (H : List Cell) (a : Nat) : (undo l H)[a]? = if a ∈ l ∧ a < H.length then some (.ref a) else H[a]? := by
  induction l with
  | nil => simp [undo]
  | cons b l ih =>
    have e : undo (b :: l) H = (undo l H).set b (.ref b) := rfl
    rw [e]
    by_cases q : b = a
    · subst q
      by_cases h : b < H.length
      · rw [List.getElem?_set_self (by rw [undo_len]; exact h)]; simp [h]
      · rw [List.getElem?_eq_none (by rw [List.length_set, undo_len]; lia)]
        simp [h]
    · rw [List.getElem?_set_ne q, ih]
      simp [Ne.symm q]

theorem Ext.undone {x0 x : Sto} (e : Ext x0 x) (hb : x0.hb = x0.H.length) : undo (x.T.drop x0.T.length) x.H = x0.H := by
  obtain ⟨l, h1, h2, h3, h4⟩ := e.trail
  rw [h1, List.drop_append_of_le_length (Nat.le_refl _)]
  simp
  apply List.ext_getElem?
  intro a
  rw [undo_get]
  split
  · rename_i h
    exact ((h3 a h.1).1).symm
  · rename_i h
    by_cases q : x.H[a]? = x0.H[a]?
    · exact q
    · exfalso
      have hlt : a < x0.H.length := by
        rcases e.cells a with h' | ⟨h', _⟩
        · exact (q h').elim
        · exact (List.getElem?_eq_some_iff.mp h').1
      exact h ⟨h4 a q (by rw [e.hb, hb]; exact hlt), by rw [e.sf.len]; exact hlt⟩

section
variable {S : Sg} {st : Objs} {I : Ids} {J : SyIds} {x : Sto} {y : Sym}

inductive C_trial (vs : List MV) (st : Objs) (Q : EP) : Prop
  | mk (I : _) (J : _) (x : _) (y : _) (B : _) (c1 : _) (c2 : _) (h0 : vs = [.obj I.s, cM c1, cM c2, .bool true]) (h1 : Wd st I J x y) (h2 : WF x.H y.F B) (h3 : (∃ δ, Gen x.H y.F δ)) (h4 : okC x.H y.F B c1) (h5 : okC x.H y.F B c2) (h6 : B.length ≤ 60) (h7 : (∀ p ∈ y.F, 0 ≤ p.2)) (h8 : x.T.length + x.H.length < 1000) (h9 : (∀ a ∈ x.T, a < x.H.length)) (h10 : ∀ b st', (b = true ↔ ∃ ρ, Sol x.H y.F ρ ∧ valC x.H y.F ρ c1 = valC x.H y.F ρ c2) → Wd st' I J x y → Same [I.s, I.hp, I.tr] st st' → Q (.bool b) st') : C_trial vs st Q


theorem UPost.iff {F : Fun} {B : List Nat} {x0 x : Sto} {c1 c2 : Cell} {b : Bool} (u : UPost F B x0 c1 c2 x b) : b = true ↔ ∃ ρ, Sol x0.H F ρ ∧ valC x0.H F ρ c1 = valC x0.H F ρ c2 := by
  constructor
  · intro h
    obtain ⟨_, ⟨δ, g⟩, e⟩ := u.ok h
    exact ⟨δ, (e δ).mpr g.sol⟩
  · rintro ⟨ρ, s, e⟩
    cases b with
    | true => rfl
    | false => exact (u.no rfl ρ s e).elim

theorem Same.to3 {a b c : Nat} {s s' : Objs} {X : List Nat} (h : Same X s s') (hx : ∀ j ∈ X, j = a ∨ j = b ∨ j = c) : Same [a, b, c] s s' := h.weak fun j hj => by
  rcases hx j hj with rfl | rfl | rfl
  · exact .head _
  · exact .tail _ (.head _)
  · exact .tail _ (.tail _ (.head _))
theorem Same.s3 {a b c : Nat} {s s' : Objs} (h : Same [a] s s') : Same [a, b, c] s s' := h.to3 fun j hj => by rw [List.mem_singleton] at hj; exact .inl hj
theorem Same.t3 {a b c : Nat} {s s' : Objs} (h : Same [b, c] s s') : Same [a, b, c] s s' := h.to3 fun j hj => by
  rcases List.mem_cons.mp hj with h | h
  · exact .inr (.inl h)
  · rw [List.mem_singleton] at h; exact .inr (.inr h)

theorem f_trial (hM : S.M = mt) (hMk : Has S 264 C_mark) (hU : Has S 438 C_unify) (hUn : Has S 271 C_undo_to) {vs : List MV} {Q : EP} (h : C_trial vs st Q) : vs.length = 4 ∧ wpF S b_trial (frame ns_trial vs) st Q := by
  obtain ⟨I, J, x, y, B, c1, c2, rfl, w, wf, g, ok1, ok2, hB, hp, hroom, hTr, q⟩ := h
  refine ⟨rfl, ?_⟩
  unfold b_trial
  have a5 := w.W.a5
  have a6 := w.W.a6
  walk_at "f"
  refine hMk _ _ _ ⟨I, J, x, y, rfl, w, ?_⟩
  obtain ⟨s1, e1, w1, m1, l1⟩ := w.setHb x.H.length
  obtain ⟨s2, e2, w2, m2, l2⟩ := w1.setBb
  have a2 := w.W.a2
  have lh := w.W.lenHp
  have a3 := w1.W.a3
  have lk := w1.W.lenSk
  walk_at "m"
  refine hU _ _ _ ⟨I, J, _, y, B, c1, c2, rfl, w2, wf, g, ok1, ok2, hB, hp, hroom, fun b x' s3 up w3 m3 => ?_⟩
  walk_at "m"
  obtain ⟨l, hl1, hl2, hl3, hl4⟩ := up.ext.trail
  have hl1 : x'.T = x.T ++ l := hl1
  have hlen : x'.H.length = x.H.length := up.ext.sf.len
  refine hUn _ _ _ ⟨I, J, x', y, x.T.length, rfl, w3, by rw [hl1, List.length_append]; exact Nat.le_add_right _ _, ?_, fun s4 w4 m4 l4 => ?_⟩
  · intro a ha
    rw [hl1] at ha
    rw [hlen]
    rcases List.mem_append.mp ha with ha | ha
    · exact hTr a ha
    · exact (List.getElem?_eq_some_iff.mp (hl3 a ha).1).1
  have und : undo (x'.T.drop x.T.length) x'.H = x.H := up.ext.undone rfl
  rw [und, hl1, List.take_left] at w4
  obtain ⟨s5, e5, w5, m5, l5⟩ := w4.setHb x.hb
  obtain ⟨s6, e6, w6, m6, l6⟩ := w5.setBb
  walk_at "m"
  have hmh : x'.mh = x.mh := up.ext.mh
  refine q b s6 up.iff ?_ ((((((m1.s3).trans m2.s3).trans m3.t3).trans m4.t3).trans m5.s3).trans m6.s3)
  rw [hmh] at w6
  exact w6
end

set_option tactic.hygienic true

set_option tactic.hygienic false

structure Pre (H H' : List Cell) : Prop where
  len : H.length ≤ H'.length
  get : ∀ a, a < H.length → H'[a]? = H[a]?

theorem Pre.refl (H : List Cell) : Pre H H := ⟨Nat.le_refl _, fun _ _ => rfl⟩
theorem Pre.trans {H H' H'' : List Cell} (h : Pre H H') (k : Pre H' H'') : Pre H H'' := ⟨Nat.le_trans h.len k.len, fun a ha => (k.get a (Nat.lt_of_lt_of_le ha h.len)).trans (h.get a ha)⟩
theorem Pre.app (H g : List Cell) : Pre H (H ++ g) := ⟨by simp, fun a ha => List.getElem?_append_left ha⟩
theorem Pre.some {H H' : List Cell} (h : Pre H H') {a : Nat} {c : Cell} (e : H[a]? = some c) : H'[a]? = some c := (h.get a (List.getElem?_eq_some_iff.mp e).1).trans e

section
variable {H H' : List Cell} {F : Fun} {B : List Nat}

theorem Pre.blk (h : Pre H H') {c : Cell} (b : Blk H F B c) (B' : List Nat) (hB : ∀ m ∈ B, m ∈ B') : fnAt H' c = fnAt H c ∧ width H' F c = width H F c ∧ Blk H' F B' c := by
  have pl : ∀ a, Pl H a → Pl H' a := fun a ⟨d, e, k⟩ => ⟨d, h.some e, k⟩
  have e : fnAt H' c = fnAt H c ∧ width H' F c = width H F c := by
    cases c with
    | str a =>
      obtain ⟨f, hf, _⟩ := b.str a rfl
      simp only [fnAt, width, hf, h.some hf]
      exact ⟨trivial, trivial⟩
    | _ => exact ⟨rfl, rfl⟩
  refine ⟨e.1, e.2, b.comp, hB _ b.mem, ?_, fun a ha => let ⟨f, x, y⟩ := b.str a ha; ⟨f, h.some x, y⟩⟩
  obtain ⟨n, hn, l, p⟩ := b.wid
  exact ⟨n, e.2.trans hn, l, fun i hi => pl _ (p i hi)⟩

theorem Pre.okC (h : Pre H H') {c : Cell} (b : okC H F B c) (B' : List Nat) (hB : ∀ m ∈ B, m ∈ B') : okC H' F B' c := by
  cases c <;> simp only [Mine.Lake.okC] at b ⊢
  · obtain ⟨d, e, k⟩ := b; exact ⟨d, h.some e, k⟩
  · exact (h.blk b B' hB).2.2
  · exact (h.blk b B' hB).2.2

set_option tactic.hygienic true in
theorem Pre.val (h : Pre H H') {c : Cell} (b : Mine.Lake.okC H F B c) (ρ : Nat → Tm) : valC H' F ρ c = valC H F ρ c := by
  cases c <;> simp only [valC]
  rename_i a
  have := h.blk b B (fun _ h => h)
  rw [this.1, this.2.1]

structure Fresh (H g : List Cell) : Prop where
  fn : ∀ (i : Nat) (c : Cell), g[i]? = some c → c.isFn = true ∨ c = .ref (H.length + i)

theorem Fresh.wf {g : List Cell} (f : Fresh H g) (w : WF H F B) (B' : List Nat) (hB : ∀ m ∈ B, m ∈ B') : WF (H ++ g) F B' := by
  refine ⟨fun a b e => ?_, fun a c e hf => ?_⟩
  · rw [List.getElem?_append] at e
    split at e
    · exact w.down a b e
    · rcases f.fn _ _ e with h | h
      · cases h
      · cases h; lia
  · by_cases ha : a < H.length
    · rw [List.getElem?_append_left ha] at e
      exact (Pre.app H g).okC (w.ok a c e hf) B' hB
    · rw [List.getElem?_append_right (by lia)] at e
      rcases f.fn _ _ e with h | h
      · rw [hf] at h; cases h
      · subst h
        refine ⟨.ref (H.length + (a - H.length)), ?_, rfl⟩
        rw [List.getElem?_append_right (by lia)]
        rw [show H.length + (a - H.length) - H.length = a - H.length by lia]; exact e

theorem Fresh.sol {g : List Cell} (f : Fresh H g) (w : WF H F B) (ρ : Nat → Tm) : Sol (H ++ g) F ρ ↔ Sol H F ρ := by
  constructor
  · intro s a c e hf
    rw [s a c ((Pre.app H g).some e) hf, (Pre.app H g).val (w.ok a c e hf)]
  · intro s a c e hf
    by_cases ha : a < H.length
    · rw [List.getElem?_append_left ha] at e
      rw [(Pre.app H g).val (w.ok a c e hf)]; exact s a c e hf
    · rw [List.getElem?_append_right (by lia)] at e
      rcases f.fn _ _ e with h | h
      · rw [hf] at h; cases h
      · subst h
        simp only [valC]
        rw [show H.length + (a - H.length) = a by lia]

theorem gen_roots {δ : Nat → Tm} (w : WF H F B) (g : Gen H F δ) {c : Cell} (h : Mine.Lake.okC H F B c) {v : Nat} (hv : (valC H F δ c).has v) : Root H v := by
  have r := has_reach w g (a := v) _ c h (Nat.le_refl _) hv
  have key : ∀ c, Reach H F v c → Mine.Lake.okC H F B c → Root H v := by
    intro c r
    induction r with
    | @here c e =>
      intro ok
      rcases (D_end w c ok).2.1 with ⟨b, hb, rb⟩ | hn
      · rw [e] at hb; cases hb; exact rb
      · exact (hn v e).elim
    | @sub c n i hn hi r ih =>
      intro ok
      have b := blk_of (D_end w c ok).1 (isComp_width hn)
      obtain ⟨m, e, l, p⟩ := b.wid
      rw [hn] at e; cases e
      exact ih (p i hi)
  exact key c r h

theorem Root.lt {a : Nat} (h : Root H a) : a < H.length := (List.getElem?_eq_some_iff.mp h).1

theorem Fresh.gen {g : List Cell} {δ : Nat → Tm} (f : Fresh H g) (w : WF H F B) (G : Gen H F δ) : Gen (H ++ g) F fun a => if a < H.length then δ a else .var a := by
  have agree : ∀ c, Mine.Lake.okC H F B c → valC H F (fun a => if a < H.length then δ a else .var a) c = valC H F δ c := fun c ok => by
    have lt : ∀ a, Pl H a → a < H.length := fun a ⟨d, e, _⟩ => (List.getElem?_eq_some_iff.mp e).1
    cases c <;> simp only [valC, Mine.Lake.okC] at ok ⊢
    · rw [if_pos (lt _ ok)]
    · obtain ⟨n, hn, l, p⟩ := ok.wid
      simp only [hn, Option.getD_some]
      congr 1
      apply List.map_congr_left
      intro i hi
      have := lt _ (p i (List.mem_range.mp hi))
      simp only [Cell.base] at this
      rw [if_pos this]
    · obtain ⟨n, hn, l, p⟩ := ok.wid
      simp only [width, Option.some.injEq] at hn
      subst hn
      have h0 := lt _ (p 0 (by lia))
      have h1 := lt _ (p 1 (by lia))
      simp only [Cell.base, Nat.add_zero] at h0 h1
      rw [if_pos h0, if_pos h1]
  refine ⟨(f.sol w _).mpr fun a c e hf => ?_, fun a ha => ?_, fun ρ s a p => ?_⟩
  · have hlt := (List.getElem?_eq_some_iff.mp e).1
    show (if a < H.length then δ a else .var a) = _
    rw [agree c (w.ok a c e hf), if_pos hlt]; exact G.sol a c e hf
  · show (if a < H.length then δ a else .var a) = _
    split
    · rename_i hlt
      exact G.root a (by unfold Root at ha ⊢; rw [List.getElem?_append_left hlt] at ha; exact ha)
    · rfl
  · show ρ a = (if a < H.length then δ a else .var a).sub ρ
    split
    · rename_i hlt
      obtain ⟨d, e, k⟩ := p
      rw [List.getElem?_append_left hlt] at e
      exact G.gen ρ ((f.sol w ρ).mp s) a ⟨d, e, k⟩
    · rfl
end

inductive WT (F : Fun) (V : Nat → Prop) : Tm → Prop
  | var {k : Nat} : V k → WT F V (.var k)
  | con (a : Int) : WT F V (.con a)
  | num (i : Int) : WT F V (.num i)
  | app {f : Nat} {ts : List Tm} (p : Int) : F[f]? = some (p, (ts.length : Int)) → ts.length ≤ 5 → (f = 0 → ts.length = 2) → (∀ t ∈ ts, WT F V t) → WT F V (.app f ts)

noncomputable def blk (H : List Cell) (f n : Nat) : List Cell × Cell :=
  if f = 0 then (H ++ fresh H.length 2, .lis H.length) else (H ++ (Cell.fn f :: (fresh H.length (1 + n)).drop 1), .str H.length)

theorem fresh_get {a n i : Nat} (h : i < n) : (fresh a n)[i]? = some (.ref (a + i)) := by
  induction n with
  | zero => lia
  | succ n ih =>
    simp only [fresh]
    by_cases e : i < n
    · rw [List.getElem?_append_left (by rw [fresh_len]; exact e)]; exact ih e
    · have : i = n := by lia
      subst this
      rw [List.getElem?_append_right (by rw [fresh_len]; lia), fresh_len]; simp

theorem blk_eq (H : List Cell) (f n : Nat) : ∃ g, (blk H f n).1 = H ++ g ∧ Fresh H g ∧ (f = 0 → g = fresh H.length 2) ∧ (f ≠ 0 → g.length = 1 + n ∧ g[0]? = some (.fn f) ∧ ∀ i, i < n → g[1 + i]? = some (.ref (H.length + (1 + i)))) := by
  unfold blk
  by_cases hf : f = 0
  · refine ⟨fresh H.length 2, by rw [if_pos hf], ⟨fun i c e => ?_⟩, fun _ => rfl, fun h => (h hf).elim⟩
    have hlt : i < 2 := by have := (List.getElem?_eq_some_iff.mp e).1; rwa [fresh_len] at this
    rw [fresh_get hlt] at e; cases e; exact .inr rfl
  · refine ⟨Cell.fn f :: (fresh H.length (1 + n)).drop 1, by rw [if_neg hf], ⟨fun i c e => ?_⟩, fun h => (hf h).elim, fun _ => ⟨by simp [fresh_len]; lia, rfl, fun i hi => ?_⟩⟩
    · cases i with
      | zero => simp at e; subst e; exact .inl rfl
      | succ i =>
        simp at e
        have hlt : i + 1 < 1 + n := by have := (List.getElem?_eq_some_iff.mp e).1; rwa [fresh_len] at this
        rw [fresh_get hlt] at e; cases e
        exact .inr rfl
    · rw [Nat.add_comm 1 i, List.getElem?_cons_succ, List.getElem?_drop, fresh_get (by lia)]
      congr 2; lia

theorem blk_len (H : List Cell) (f n : Nat) (hf : f = 0 → n = 2) : (blk H f n).1.length = H.length + n + (if f = 0 then 0 else 1) := by
  obtain ⟨g, e, _, h0, h1⟩ := blk_eq H f n
  rw [e, List.length_append]
  by_cases k : f = 0
  · rw [h0 k, fresh_len, if_pos k, hf k]
  · rw [(h1 k).1, if_neg k]; lia

theorem blk_ok {H : List Cell} {F : Fun} {B : List Nat} (w : WF H F B) {f n : Nat} {p : Int} (hF : F[f]? = some (p, (n : Int))) (hn : n ≤ 5) (hf : f = 0 → n = 2) :
    WF (blk H f n).1 F (B ++ [H.length]) ∧ Blk (blk H f n).1 F (B ++ [H.length]) (blk H f n).2 ∧ width (blk H f n).1 F (blk H f n).2 = some n ∧ fnAt (blk H f n).1 (blk H f n).2 = some f ∧ (∀ i, i < n → Root (blk H f n).1 ((blk H f n).2.base + i)) ∧
    (blk H f n).2.base + n = (blk H f n).1.length ∧ H.length ≤ (blk H f n).2.base ∧ Pre H (blk H f n).1 := by
  obtain ⟨g, e, fr, h0, h1⟩ := blk_eq H f n
  have wf' := fr.wf w (B ++ [H.length]) (fun m hm => by simp [hm])
  have len := blk_len H f n hf
  rw [e] at len ⊢
  have root : ∀ i, i < n → Root (H ++ g) ((blk H f n).2.base + i) := by
    intro i hi
    unfold Root
    by_cases k : f = 0
    · have : n = 2 := hf k
      have e2 : (blk H f n).2 = .lis H.length := by unfold blk; rw [if_pos k]
      rw [e2, h0 k]
      simp only [Cell.base]
      rw [List.getElem?_append_right (by lia), show H.length + i - H.length = i by lia, fresh_get (by lia)]
    · have e2 : (blk H f n).2 = .str H.length := by unfold blk; rw [if_neg k]
      rw [e2]
      simp only [Cell.base]
      rw [List.getElem?_append_right (by lia), show H.length + 1 + i - H.length = 1 + i by lia, (h1 k).2.2 i hi]
      congr 2; lia
  by_cases k : f = 0
  · have e2 : (blk H f n).2 = .lis H.length := by unfold blk; rw [if_pos k]
    have hn2 := hf k
    subst hn2
    rw [e2] at root ⊢
    rw [if_pos k] at len
    refine ⟨wf', ⟨rfl, by simp [Cell.addr], ⟨2, rfl, by lia, fun i hi => ⟨_, root i hi, rfl⟩⟩, fun a h => by cases h⟩, rfl, by simp [fnAt, k], root, by simp only [Cell.base]; lia, by simp [Cell.base], Pre.app _ _⟩
  · have e2 : (blk H f n).2 = .str H.length := by unfold blk; rw [if_neg k]
    rw [e2] at root ⊢
    rw [if_neg k] at len
    have hfn : (H ++ g)[H.length]? = some (.fn f) := by
      rw [List.getElem?_append_right (Nat.le_refl _), Nat.sub_self]; exact (h1 k).2.1
    have hw : width (H ++ g) F (.str H.length) = some n := by simp only [width, hfn, hF]; simp
    refine ⟨wf', ⟨rfl, by simp [Cell.addr], ⟨n, hw, hn, fun i hi => ⟨_, root i hi, rfl⟩⟩, fun a h => by cases h; exact ⟨f, hfn, k⟩⟩, hw, by simp only [fnAt, hfn], root, by simp only [Cell.base]; lia, by simp [Cell.base], Pre.app _ _⟩

set_option tactic.hygienic true

set_option tactic.hygienic false

theorem valC_blk {H : List Cell} {F : Fun} {B : List Nat} {c : Cell} (b : Blk H F B c) {f n : Nat} (hf : fnAt H c = some f) (hn : width H F c = some n) (ρ : Nat → Tm) : valC H F ρ c = .app f ((List.range n).map fun i => ρ (c.base + i)) := by
  cases c with
  | str a => simp only [valC, hf, hn, Option.getD_some, Cell.base]
  | lis a =>
    simp only [width, Option.some.injEq] at hn
    simp only [fnAt, Option.some.injEq] at hf
    subst hn; subst hf
    simp [valC, Cell.base, List.range_succ]
  | _ => have := b.comp; simp [Cell.isComp] at this

structure PutI (F : Fun) (H0 : List Cell) (B0 : List Nat) (δ0 : Nat → Tm) (tbl : Nat → Nat) (V : Nat → Prop) (t0 : Tm) (made : Cell) (H : List Cell) (B : List Nat) (δ : Nat → Tm) (P : List (Nat × Tm)) : Prop where
  wf : WF H F B
  gen : Gen H F δ
  old : ∀ a, Pl H0 a → δ a = δ0 a
  pre : Pre H0 H
  pend : ∀ q ∈ P, Root H q.1 ∧ H0.length ≤ q.1 ∧ WT F V q.2
  nd : (P.map Prod.fst).Nodup
  j1 : ∀ ρ, Sol H F ρ → (∀ q ∈ P, ρ q.1 = q.2.sub fun k => ρ (tbl k)) → valC H F ρ made = t0.sub fun k => ρ (tbl k)
  okm : okC H F B made
  bs : ∀ m ∈ B0, m ∈ B

section
variable {F : Fun} {H0 : List Cell} {B0 : List Nat} {δ0 : Nat → Tm} {tbl : Nat → Nat} {V : Nat → Prop} {t0 : Tm} {made : Cell} {H : List Cell} {B : List Nat} {δ : Nat → Tm} {P : List (Nat × Tm)}

theorem Root.pl {a : Nat} (h : Root H a) : Pl H a := ⟨_, h, rfl⟩

theorem PutI.write (w0 : WF H0 F B0) (g0 : Gen H0 F δ0) {q : Nat × Tm} (i : PutI F H0 B0 δ0 tbl V t0 made H B δ (q :: P)) {c : Cell} (hc : okC H F B c) (hr : ∀ b, c = .ref b → b ≤ q.1) (ho : ¬ (valC H F δ c).has q.1) {K : List (Nat × Tm)}
    (hv : ∀ ρ, (∀ r ∈ K, ρ r.1 = r.2.sub fun k => ρ (tbl k)) → valC H F ρ c = q.2.sub fun k => ρ (tbl k))
    (hK : ∀ r ∈ K, Root H r.1 ∧ H0.length ≤ r.1 ∧ WT F V r.2 ∧ r.1 ≠ q.1) (nd : ((P ++ K).map Prod.fst).Nodup) :
    PutI F H0 B0 δ0 tbl V t0 made (H.set q.1 c) B (fun k => (δ k).sub (one q.1 (valC H F δ c))) (P ++ K) := by
  obtain ⟨ra, la, wa⟩ := i.pend q (by simp)
  have sf := bind_same ra hc.notFn
  have ndq := i.nd
  rw [List.map_cons, List.nodup_cons] at ndq
  refine ⟨bind_WF i.wf ra hc hr, i.gen.bind i.wf ra hc ho, fun a ha => ?_, ?_, fun r hr => ?_, nd, fun ρ s hp => ?_, sf.okC i.okm, i.bs⟩
  · show (δ a).sub _ = _
    rw [i.old a ha]
    apply one_sub
    intro hh
    have := (gen_roots w0 g0 (c := .ref a) ha (v := q.1) hh).lt
    lia
  · refine ⟨by rw [List.length_set]; exact i.pre.len, fun a ha => ?_⟩
    rw [List.getElem?_set_ne (by lia)]; exact i.pre.get a ha
  · have keep : ∀ b, b ≠ q.1 → Root H b → Root (H.set q.1 c) b := fun b hb h => by
      unfold Root; rw [List.getElem?_set_ne (Ne.symm hb)]; exact h
    rcases List.mem_append.mp hr with hr | hr
    · obtain ⟨h1, h2, h3⟩ := i.pend r (by simp [hr])
      exact ⟨keep _ (fun e => ndq.1 (by rw [← e]; exact List.mem_map.mpr ⟨r, hr, rfl⟩)) h1, h2, h3⟩
    · obtain ⟨h1, h2, h3, h4⟩ := hK r hr
      exact ⟨keep _ h4 h1, h2, h3⟩
  · obtain ⟨s0, e⟩ := (bind_Sol ra hc.notFn ρ).mp s
    rw [sf.val]
    apply i.j1 ρ s0
    intro r hr
    rcases List.mem_cons.mp hr with rfl | hr
    · rw [e]; exact hv ρ fun r' hr' => hp r' (by simp [hr'])
    · exact hp r (by simp [hr])

theorem PutI.alloc (w0 : WF H0 F B0) (i : PutI F H0 B0 δ0 tbl V t0 made H B δ P) {f n : Nat} {p : Int} (hF : F[f]? = some (p, (n : Int))) (hn : n ≤ 5) (hf : f = 0 → n = 2) :
    PutI F H0 B0 δ0 tbl V t0 made (blk H f n).1 (B ++ [H.length]) (fun a => if a < H.length then δ a else .var a) P := by
  obtain ⟨g, e, fr, _, _⟩ := blk_eq H f n
  obtain ⟨wf', b, _, _, _, _, _, pre⟩ := blk_ok i.wf hF hn hf
  rw [e] at wf' b pre ⊢
  refine ⟨wf', fr.gen i.wf i.gen, fun a ha => ?_, i.pre.trans pre, fun q hq => ?_, i.nd, fun ρ s hp => ?_, pre.okC i.okm _ (fun m hm => by simp [hm]), fun m hm => by simp [i.bs m hm]⟩
  · obtain ⟨d, hd, _⟩ := ha
    have := (List.getElem?_eq_some_iff.mp hd).1
    have := i.pre.len
    show (if a < H.length then δ a else .var a) = _
    rw [if_pos (by lia)]; exact i.old a ⟨d, hd, by assumption⟩
  · obtain ⟨h1, h2, h3⟩ := i.pend q hq
    exact ⟨pre.some h1, h2, h3⟩
  · rw [pre.val i.okm]
    exact i.j1 ρ ((fr.sol i.wf ρ).mp s) hp

noncomputable def kids (b : Nat) (us : List Tm) : List (Nat × Tm) := (List.range us.length).map fun j => (b + j, us.getD j (.con 0))

theorem kids_mem {b : Nat} {us : List Tm} {r : Nat × Tm} : r ∈ kids b us ↔ ∃ j, j < us.length ∧ r = (b + j, us.getD j (.con 0)) := by
  unfold kids
  rw [List.mem_map]
  constructor
  · rintro ⟨j, hj, rfl⟩; exact ⟨j, List.mem_range.mp hj, rfl⟩
  · rintro ⟨j, hj, rfl⟩; exact ⟨j, List.mem_range.mpr hj, rfl⟩
theorem kids_fst (b : Nat) (us : List Tm) : (kids b us).map Prod.fst = (List.range us.length).map fun j => b + j := by
  unfold kids; rw [List.map_map]; rfl
theorem kids_nd (b : Nat) (us : List Tm) : ((kids b us).map Prod.fst).Nodup := by
  rw [kids_fst]
  rw [List.nodup_iff_pairwise_ne, List.pairwise_map]
  have := List.nodup_range (n := us.length)
  rw [List.nodup_iff_pairwise_ne] at this
  exact this.imp fun h => by lia

theorem getD_mem {us : List Tm} {j : Nat} (h : j < us.length) : us.getD j (.con 0) ∈ us := by
  rw [List.getD_eq_getElem?_getD, List.getElem?_eq_getElem h]
  exact List.getElem_mem h

theorem app_val {σ : Nat → Tm} {f : Nat} {us : List Tm} {g : Nat → Tm} (h : ∀ j, j < us.length → g j = (us.getD j (.con 0)).sub σ) : Tm.app f ((List.range us.length).map g) = (Tm.app f us).sub σ := by
  simp only [Tm.sub, Tm.subs_map]
  congr 1
  apply List.ext_getElem?
  intro j
  rw [List.getElem?_map, List.getElem?_map]
  by_cases hj : j < us.length
  · rw [List.getElem?_range hj, List.getElem?_eq_getElem hj]
    simp only [Option.map_some]
    rw [h j hj, List.getD_eq_getElem?_getD, List.getElem?_eq_getElem hj]; rfl
  · rw [List.getElem?_eq_none (by simp; lia), List.getElem?_eq_none (by lia)]; rfl

theorem PutI.start (w0 : WF H0 F B0) (g0 : Gen H0 F δ0) {f : Nat} {us : List Tm} (ht : WT F V (.app f us)) :
    PutI F H0 B0 δ0 tbl V (.app f us) (blk H0 f us.length).2 (blk H0 f us.length).1 (B0 ++ [H0.length]) (fun a => if a < H0.length then δ0 a else .var a) (kids (blk H0 f us.length).2.base us) := by
  cases ht with
  | app p hF hn hf hus =>
    obtain ⟨g, e, fr, _, _⟩ := blk_eq H0 f us.length
    obtain ⟨wf', b, hw, hfn, root, hb, hlb, pre⟩ := blk_ok w0 hF hn hf
    have gen' := fr.gen w0 g0
    rw [← e] at gen'
    refine ⟨wf', gen', fun a ha => ?_, pre, fun q hq => ?_, kids_nd _ _, fun ρ s hp => ?_, ?_, fun m hm => by simp [hm]⟩
    · obtain ⟨d, hd, _⟩ := ha
      have := (List.getElem?_eq_some_iff.mp hd).1
      show (if a < H0.length then δ0 a else .var a) = _
      rw [if_pos this]
    · obtain ⟨j, hj, rfl⟩ := kids_mem.mp hq
      exact ⟨root j hj, by simp only; lia, hus _ (getD_mem hj)⟩
    · rw [valC_blk b hfn hw]
      exact app_val fun j hj => hp _ (kids_mem.mpr ⟨j, hj, rfl⟩)
    · have hc := b.comp
      cases hb : (blk H0 f us.length).2 <;> rw [hb] at b hc <;> simp [Cell.isComp] at hc <;> exact b

noncomputable def leaf (tbl : Nat → Nat) : Tm → Option Cell
  | .var k => some (.ref (tbl k))
  | .con a => some (.con a)
  | .num i => some (.int i)
  | .app .. => none

theorem PutI.leaf (w0 : WF H0 F B0) (g0 : Gen H0 F δ0) (ht : ∀ k, V k → Pl H0 (tbl k)) {a : Nat} {t : Tm} (i : PutI F H0 B0 δ0 tbl V t0 made H B δ ((a, t) :: P)) {c : Cell} (hc : Mine.Lake.leaf tbl t = some c) :
    ∃ δ', PutI F H0 B0 δ0 tbl V t0 made (H.set a c) B δ' P := by
  obtain ⟨ra, la, wa⟩ := i.pend (a, t) (by simp)
  have ndq := i.nd
  rw [List.map_cons, List.nodup_cons] at ndq
  rw [← List.append_nil P]
  refine ⟨_, i.write w0 g0 (c := c) (K := []) ?_ ?_ ?_ ?_ (by simp) (by simpa using ndq.2)⟩
  · cases t <;> simp [Mine.Lake.leaf] at hc <;> subst hc
    · cases wa with
      | var hk =>
        obtain ⟨d, hd, hf⟩ := ht _ hk
        exact ⟨d, i.pre.some hd, hf⟩
    · trivial
    · trivial
  · intro b e
    subst e
    cases t <;> simp [Mine.Lake.leaf] at hc
    subst hc
    cases wa with
    | var hk =>
      obtain ⟨d, hd, _⟩ := ht _ hk
      have := (List.getElem?_eq_some_iff.mp hd).1
      simp only; lia
  · cases t <;> simp [Mine.Lake.leaf] at hc <;> subst hc
    · cases wa with
      | var hk =>
        simp only [valC]
        rw [i.old _ (ht _ hk)]
        intro hh
        have := (gen_roots w0 g0 (c := .ref _) (ht _ hk) (v := a) hh).lt
        simp only at la; lia
    · simp [valC, Tm.has]
    · simp [valC, Tm.has]
  · intro ρ _
    cases t <;> simp [Mine.Lake.leaf] at hc <;> subst hc <;> rfl

theorem PutI.inner (w0 : WF H0 F B0) (g0 : Gen H0 F δ0) {a : Nat} {f : Nat} {us : List Tm} (i : PutI F H0 B0 δ0 tbl V t0 made H B δ ((a, .app f us) :: P)) :
    ∃ δ', PutI F H0 B0 δ0 tbl V t0 made ((blk H f us.length).1.set a (blk H f us.length).2) (B ++ [H.length]) δ' (P ++ kids (blk H f us.length).2.base us) := by
  obtain ⟨ra, la, wa⟩ := i.pend (a, .app f us) (by simp)
  cases wa with
  | app p hF hn hf hus =>
    obtain ⟨wf', b, hw, hfn, root, hb, hlb, pre⟩ := blk_ok i.wf hF hn hf
    have i1 := i.alloc w0 hF hn hf
    have okc : okC (blk H f us.length).1 F (B ++ [H.length]) (blk H f us.length).2 := by
      have hc := b.comp
      cases hb : (blk H f us.length).2 <;> rw [hb] at b hc <;> simp [Cell.isComp] at hc <;> exact b
    have ndq := i.nd
    rw [List.map_cons, List.nodup_cons] at ndq
    have alt := ra.lt
    simp only at alt
    refine ⟨_, i1.write w0 g0 okc ?_ ?_ ?_ ?_ ?_⟩
    · intro b' e
      have hc := b.comp
      rw [e] at hc; cases hc
    · rw [has_args b hw]
      rintro ⟨j, hj, hh⟩
      simp only at hh
      rw [if_neg (by lia)] at hh
      simp [Tm.has] at hh
      lia
    · intro ρ hp
      rw [valC_blk b hfn hw]
      exact app_val fun j hj => hp _ (kids_mem.mpr ⟨j, hj, rfl⟩)
    · intro r hr
      obtain ⟨j, hj, rfl⟩ := kids_mem.mp hr
      have := i.pre.len
      exact ⟨root j hj, by simp only; lia, hus _ (getD_mem hj), by simp only; lia⟩
    · rw [List.map_append, List.nodup_append]
      refine ⟨ndq.2, kids_nd _ _, fun u hu v hv => ?_⟩
      obtain ⟨r, hr, rfl⟩ := List.mem_map.mp hu
      obtain ⟨s, hs, rfl⟩ := List.mem_map.mp hv
      obtain ⟨j, hj, rfl⟩ := kids_mem.mp hs
      have := (i.pend r (by simp [hr])).1.lt
      simp only; lia
end

set_option tactic.hygienic true

set_option tactic.hygienic false

mutual
noncomputable def tmM : Tm → MV
  | .var k => .tup [.str (Str.ofString "v"), .int k]
  | .con a => .tup [.str (Str.ofString "a"), .int a]
  | .num i => .tup [.str (Str.ofString "i"), .int i]
  | .app f ts => .tup [.str (Str.ofString "s"), .int f, .tup (tmsM ts)]
noncomputable def tmsM : List Tm → List MV
  | [] => []
  | t :: r => tmM t :: tmsM r
end
theorem tmsM_map (ts : List Tm) : tmsM ts = ts.map tmM := by
  induction ts with
  | nil => rfl
  | cons t r ih => simp [tmsM, ih]
theorem nz_tmM (t : Tm) : nz (some (tmM t)) = some (tmM t) := by cases t <;> simp [tmM, nz]

theorem eqM_str (st : Objs) {a b : Str} (ha : PyData.strOk a = true) (hb : PyData.strOk b = true) : eqM st (.str a) (.str b) = some (decide (a = b)) := by
  simp only [eqM, pyV, pyE, pyOf, ha, hb, if_true, PyData.depth, PyData.eqv]
  simp
  by_cases h : a = b
  · subst h; simp
  · simp [h]

theorem okv : PyData.strOk (Str.ofString "v") = true := by decide +kernel
theorem oka : PyData.strOk (Str.ofString "a") = true := by decide +kernel
theorem oki : PyData.strOk (Str.ofString "i") = true := by decide +kernel
theorem oks : PyData.strOk (Str.ofString "s") = true := by decide +kernel
section
variable (st : Objs)
theorem e_vv : eqM st (.str (Str.ofString "v")) (.str (Str.ofString "v")) = some true := by rw [eqM_str st okv okv]; simp
theorem e_av : eqM st (.str (Str.ofString "a")) (.str (Str.ofString "v")) = some false := by rw [eqM_str st oka okv]; congr 1
theorem e_iv : eqM st (.str (Str.ofString "i")) (.str (Str.ofString "v")) = some false := by rw [eqM_str st oki okv]; congr 1
theorem e_sv : eqM st (.str (Str.ofString "s")) (.str (Str.ofString "v")) = some false := by rw [eqM_str st oks okv]; congr 1
theorem e_aa : eqM st (.str (Str.ofString "a")) (.str (Str.ofString "a")) = some true := by rw [eqM_str st oka oka]; simp
theorem e_ia : eqM st (.str (Str.ofString "i")) (.str (Str.ofString "a")) = some false := by rw [eqM_str st oki oka]; congr 1
theorem e_sa : eqM st (.str (Str.ofString "s")) (.str (Str.ofString "a")) = some false := by rw [eqM_str st oks oka]; congr 1
theorem e_ii : eqM st (.str (Str.ofString "i")) (.str (Str.ofString "i")) = some true := by rw [eqM_str st oki oki]; simp
theorem e_si : eqM st (.str (Str.ofString "s")) (.str (Str.ofString "i")) = some false := by rw [eqM_str st oks oki]; congr 1
theorem x_vv : cmpM st .Eq (.str (Str.ofString "v")) (.str (Str.ofString "v")) = some true := e_vv st
theorem x_av : cmpM st .Eq (.str (Str.ofString "a")) (.str (Str.ofString "v")) = some false := e_av st
theorem x_iv : cmpM st .Eq (.str (Str.ofString "i")) (.str (Str.ofString "v")) = some false := e_iv st
theorem x_sv : cmpM st .Eq (.str (Str.ofString "s")) (.str (Str.ofString "v")) = some false := e_sv st
theorem x_aa : cmpM st .Eq (.str (Str.ofString "a")) (.str (Str.ofString "a")) = some true := e_aa st
theorem x_ia : cmpM st .Eq (.str (Str.ofString "i")) (.str (Str.ofString "a")) = some false := e_ia st
theorem x_sa : cmpM st .Eq (.str (Str.ofString "s")) (.str (Str.ofString "a")) = some false := e_sa st
theorem x_ii : cmpM st .Eq (.str (Str.ofString "i")) (.str (Str.ofString "i")) = some true := e_ii st
theorem x_si : cmpM st .Eq (.str (Str.ofString "s")) (.str (Str.ofString "i")) = some false := e_si st
theorem sub_two0 (a b : MV) : subM st (.tup [a, b]) (.int 0) = some a := sub_0 _ _ _
theorem sub_two1 (a b : MV) : subM st (.tup [a, b]) (.int 1) = some b := sub_1 _ _ _ _
theorem sub_three0 (a b c : MV) : subM st (.tup [a, b, c]) (.int 0) = some a := sub_0 _ _ _
theorem sub_three1 (a b c : MV) : subM st (.tup [a, b, c]) (.int 1) = some b := sub_1 _ _ _ _
theorem sub_three2 (a b c : MV) : subM st (.tup [a, b, c]) (.int 2) = some c := sub_2 _ _ _ _ _
end

section
variable (st : Objs)
theorem tv0 (k : Nat) : subM st (tmM (.var k)) (.int 0) = some (.str (Str.ofString "v")) := sub_two0 _ _ _
theorem tv1 (k : Nat) : subM st (tmM (.var k)) (.int 1) = some (.int k) := sub_two1 _ _ _
theorem ta0 (k : Int) : subM st (tmM (.con k)) (.int 0) = some (.str (Str.ofString "a")) := sub_two0 _ _ _
theorem ta1 (k : Int) : subM st (tmM (.con k)) (.int 1) = some (.int k) := sub_two1 _ _ _
theorem ti0 (k : Int) : subM st (tmM (.num k)) (.int 0) = some (.str (Str.ofString "i")) := sub_two0 _ _ _
theorem ti1 (k : Int) : subM st (tmM (.num k)) (.int 1) = some (.int k) := sub_two1 _ _ _
theorem ts0 (f : Nat) (us : List Tm) : subM st (tmM (.app f us)) (.int 0) = some (.str (Str.ofString "s")) := sub_three0 _ _ _ _
theorem ts1 (f : Nat) (us : List Tm) : subM st (tmM (.app f us)) (.int 1) = some (.int f) := sub_three1 _ _ _ _
theorem ts2 (f : Nat) (us : List Tm) : subM st (tmM (.app f us)) (.int 2) = some (.tup (tmsM us)) := sub_three2 _ _ _ _
end
theorem isB_tm (t : Tm) : isB (tmM t) = true := by cases t <;> rfl
local macro_rules | `(tactic| walk_at "x") => do
  Mac.alts "tv0;tv1;ta0;ta1;ti0;ti1;ts0;ts1;ts2;x_vv;x_av;x_iv;x_sv;x_aa;x_ia;x_sa;x_ii;x_si" (← `(tactic| fail))
local macro_rules | `(tactic| walk_at "bx") => `(tactic| apply isB_tm)

mutual
noncomputable def nApp : Tm → Nat
  | .app _ ts => nApps ts + 1
  | _ => 0
noncomputable def nApps : List Tm → Nat
  | [] => 0
  | t :: r => nApp t + nApps r
end
mutual
noncomputable def hsz : Tm → Nat
  | .app f ts => ts.length + (if f = 0 then 0 else 1) + hszs ts
  | _ => 0
noncomputable def hszs : List Tm → Nat
  | [] => 0
  | t :: r => hsz t + hszs r
end

structure TblAt (st : Objs) (tb : Nat) (D : List (Int × MV)) (tbl : Nat → Nat) (V : Nat → Prop) : Prop where
  at_ : st[tb]? = some (.dictI D)
  len : D.length ≤ 100
  look : ∀ k, V k → lookM D (k : Int) = some (cM (.ref (tbl k)))
  all : ∀ e ∈ D, ∃ a, lookM D e.1 = some (cM (.ref a))

section
variable {S : Sg} {st : Objs} {I : Ids} {J : SyIds} {x : Sto} {y : Sym}

noncomputable def pA (P : List (Nat × Tm)) : Nat := (P.map fun q => nApp q.2).sum
noncomputable def pH (P : List (Nat × Tm)) : Nat := (P.map fun q => hsz q.2).sum

theorem sum_kids (g : Tm → Nat) (gs : List Tm → Nat) (h0 : gs [] = 0) (h1 : ∀ t r, gs (t :: r) = g t + gs r) (b : Nat) (us : List Tm) : ((kids b us).map fun q => g q.2).sum = gs us := by
  have key : ∀ (us : List Tm) (k : Nat → Nat), ((List.range us.length).map fun j => g (us.getD j (.con 0))).sum = gs us := by
    intro us k
    induction us with
    | nil => simp [h0]
    | cons t r ih =>
      rw [h1, ← ih]
      simp [List.range_succ_eq_map]
      rfl
  unfold kids
  rw [List.map_map]
  exact key us id

theorem pA_kids (b : Nat) (us : List Tm) : pA (kids b us) = nApps us := sum_kids nApp nApps rfl (fun _ _ => rfl) b us
theorem pH_kids (b : Nat) (us : List Tm) : pH (kids b us) = hszs us := sum_kids hsz hszs rfl (fun _ _ => rfl) b us
theorem pA_app (P Q : List (Nat × Tm)) : pA (P ++ Q) = pA P + pA Q := by simp [pA]
theorem pH_app (P Q : List (Nat × Tm)) : pH (P ++ Q) = pH P + pH Q := by simp [pH]

theorem kids_get {b : Nat} {us : List Tm} {j : Nat} (h : j < us.length) : (kids b us).drop j = (b + j, us[j]) :: (kids b us).drop (j + 1) := by
  have hl : j < (kids b us).length := by unfold kids; simpa using h
  rw [List.drop_eq_getElem_cons hl]
  congr 1
  unfold kids
  simp [List.getD_eq_getElem?_getD, h]

noncomputable def wM (w : Nat × List Tm) : MV := .tup [.int w.1, .tup (tmsM w.2)]
noncomputable def flat (W : List (Nat × List Tm)) : List (Nat × Tm) := W.flatMap fun w => kids w.1 w.2

inductive C_put (vs : List MV) (st : Objs) (Q : EP) : Prop
  | mk (I : _) (J : _) (x : _) (y : _) (B : _) (δ : _) (tb : _) (D : _) (tbl : _) (V : _) (t : _) (h0 : vs = [.obj I.s, tmM t, .obj tb]) (h1 : Wd st I J x y) (h2 : WF x.H y.F B) (h3 : Gen x.H y.F δ) (h4 : TblAt st tb D tbl V) (h5 : Free st I J tb) (h6 : (∀ k, V k → Pl x.H (tbl k))) (h7 : WT y.F V t) (h8 : x.H.length + hsz t ≤ 900) (h9 : nApp t ≤ 900) (h10 : (∀ p ∈ y.F, 0 ≤ p.2)) (h11 : ∀ st' H' B' δ' c, Pre x.H H' → WF H' y.F B' → Gen H' y.F δ' → (∀ a, Pl x.H a → δ' a = δ a) → (∀ ρ, Sol H' y.F ρ → valC H' y.F ρ c = t.sub fun k => ρ (tbl k)) → okC H' y.F B' c → (∀ m ∈ B, m ∈ B') → B'.length = B.length + nApp t → H'.length = x.H.length + hsz t →     Wd st' I J { x with H := H' } y → Same [I.hp] st st' → Q (cM c) st') : C_put vs st Q


theorem tbl_loop {tb : Nat} {D : List (Int × MV)} {tbl : Nat → Nat} {V : Nat → Prop} (T : TblAt st tb D tbl V) {k : Int} (h : k ∈ D.map (·.1)) : ∃ a, subM st (.obj tb) (.int k) = some (cM (.ref a)) := by
  obtain ⟨e, he, rfl⟩ := List.mem_map.mp h
  obtain ⟨a, ha⟩ := T.all e he
  refine ⟨a, ?_⟩
  exact (subD T.at_).trans ha

theorem Wd.other (w : Wd st I J x y) {k : Nat} {o : MO} (f : Free st I J k) : Wd (st.set k o) I J x y := w.same (Same.set _ _ _) (by intro j hj; simp at hj; subst hj; exact f.ne)

theorem TblAt.same {st' : Objs} {X : List Nat} {tb : Nat} {D : List (Int × MV)} {tbl : Nat → Nat} {V : Nat → Prop} (T : TblAt st tb D tbl V) (s : Same X st st') (h : tb ∉ X) : TblAt st' tb D tbl V := ⟨s.at T.at_ h, T.len, T.look, T.all⟩

theorem block_blk (x : Sto) (f n : Nat) : x.block f n = ({ x with H := (blk x.H f n).1 }, (blk x.H f n).2) := by
  unfold Sto.block blk
  split <;> rfl

inductive PutX (y : Sym) (H0 : List Cell) (B : List Nat) (δ : Nat → Tm) (tbl : Nat → Nat) (V : Nat → Prop) (t : Tm) (made : Cell) (H : List Cell) (P : List (Nat × Tm)) : Prop
  | mk (B' : List Nat) (δ' : Nat → Tm) (h1 : PutI y.F H0 B δ tbl V t made H B' δ' P) (h2 : B'.length + pA P = B.length + nApp t) : PutX y H0 B δ tbl V t made H P
structure PutAt (s st0 : Objs) (I : Ids) (J : SyIds) (x : Sto) (y : Sym) (tb wk : Nat) (D : List (Int × MV)) (tbl : Nat → Nat) (V : Nat → Prop) (B : List Nat) (δ : Nat → Tm) (t : Tm) (made : Cell) (W : List (Nat × List Tm)) (H : List Cell) (P : List (Nat × Tm)) : Prop where
  w : Wd s I J { x with H := H } y
  same : Same [I.hp] st0 s
  tbl_ : TblAt s tb D tbl V
  wk : s[wk]? = some (.list (W.map wM))
  put : PutX y x.H B δ tbl V t made H P
  hs : H.length + pH P = x.H.length + hsz t
  ws : W.length + pA P ≤ nApp t

section put
variable {st0 s s' : Objs} {tb wk : Nat} {D : List (Int × MV)} {tbl : Nat → Nat} {V : Nat → Prop} {B : List Nat} {δ : Nat → Tm} {t : Tm} {made : Cell} {W : List (Nat × List Tm)} {H : List Cell} {P : List (Nat × Tm)}

theorem PutAt.leafStep (wf : WF x.H y.F B) (g : Gen x.H y.F δ) (hpl : ∀ k, V k → Pl x.H (tbl k)) {a : Nat} {u : Tm} (p : PutAt s st0 I J x y tb wk D tbl V B δ t made W H ((a, u) :: P)) (htb : tb ≠ I.hp) (hwk : wk ≠ I.hp) {c : Cell} (hc : leaf tbl u = some c)
    (w : Wd s' I J { x with H := H.set a c } y) (sm : Same [I.hp] s s') : PutAt s' st0 I J x y tb wk D tbl V B δ t made W (H.set a c) P := by
  obtain ⟨B', δ', i, hb⟩ := p.put
  obtain ⟨δ2, i2⟩ := i.leaf wf g hpl hc
  have e0 : nApp u = 0 := by cases u <;> simp [leaf] at hc <;> rfl
  have e1 : hsz u = 0 := by cases u <;> simp [leaf] at hc <;> rfl
  have h1 := p.hs
  have h2 := p.ws
  simp [pA, e0] at hb h2
  simp [pH, e1] at h1
  exact ⟨w, p.same.trans sm, p.tbl_.same sm (by simpa using htb), sm.at p.wk (by simpa using hwk), ⟨B', δ2, i2, by simpa [pA] using hb⟩, by rw [List.length_set]; simpa [pH] using h1, by simpa [pA] using h2⟩

theorem PutAt.innerStep (wf : WF x.H y.F B) (g : Gen x.H y.F δ) {a f : Nat} {us : List Tm} (p : PutAt s st0 I J x y tb wk D tbl V B δ t made W H ((a, .app f us) :: P)) (hf : f = 0 → us.length = 2)
    (w : Wd s' I J { x with H := (blk H f us.length).1.set a (blk H f us.length).2 } y) (sm : Same [I.hp] st0 s') (T : TblAt s' tb D tbl V) (hw : s'[wk]? = some (.list ((W ++ [((blk H f us.length).2.base, us)]).map wM))) :
    PutAt s' st0 I J x y tb wk D tbl V B δ t made (W ++ [((blk H f us.length).2.base, us)]) ((blk H f us.length).1.set a (blk H f us.length).2) (P ++ kids (blk H f us.length).2.base us) := by
  obtain ⟨B', δ', i, hb⟩ := p.put
  obtain ⟨δ2, i2⟩ := i.inner wf g
  have h1 := p.hs
  have h2 := p.ws
  have hl := blk_len H f us.length hf
  simp only [pA, pH, List.map_cons, List.sum_cons, nApp, hsz] at hb h1 h2
  refine ⟨w, sm, T, hw, ⟨_, δ2, i2, ?_⟩, ?_, ?_⟩
  · rw [pA_app, pA_kids, List.length_append]
    simp only [pA, List.length_cons, List.length_nil]
    lia
  · rw [List.length_set, hl, pH_app, pH_kids]
    simp only [pH]
    lia
  · rw [List.length_append, pA_app, pA_kids]
    simp only [pA, List.length_cons, List.length_nil]
    lia

inductive PInv (st0 : Objs) (I : Ids) (J : SyIds) (x : Sto) (y : Sym) (tb wk : Nat) (D : List (Int × MV)) (tbl : Nat → Nat) (V : Nat → Prop) (B : List Nat) (δ : Nat → Tm) (t : Tm) (made : Cell) (n : Nat) (loc : List MV) (s : Objs) : Prop
  | mk (W : List (Nat × List Tm)) (at_ : Nat) (H : List Cell) (v3 v4 v8 v9 v10 v11 : MV) (pa_ : PutAt s st0 I J x y tb wk D tbl V B δ t made W H (flat (W.drop at_))) (hat : at_ ≤ W.length)
      (hl : loc = [.obj I.s, tmM t, .obj tb, v3, v4, cM made, .obj wk, .int at_, v8, v9, v10, v11]) (hn : n = (W.drop at_).length + pA (flat (W.drop at_))) : PInv st0 I J x y tb wk D tbl V B δ t made n loc s

inductive QInv (st0 : Objs) (I : Ids) (J : SyIds) (x : Sto) (y : Sym) (tb wk : Nat) (D : List (Int × MV)) (tbl : Nat → Nat) (V : Nat → Prop) (B : List Nat) (δ : Nat → Tm) (t : Tm) (made : Cell) (n b : Nat) (us : List Tm) (at_ : Nat) (j : Nat) (loc : List MV) (s : Objs) : Prop
  | mk (W : List (Nat × List Tm)) (H : List Cell) (v3 v4 v10 v11 : MV) (pa_ : PutAt s st0 I J x y tb wk D tbl V B δ t made W H ((kids b us).drop j ++ flat (W.drop (at_ + 1)))) (hat : at_ + 1 ≤ W.length)
      (hl : loc = [.obj I.s, tmM t, .obj tb, v3, v4, cM made, .obj wk, .int (at_ + 1), .int (b + j), .tup (tmsM us), v10, v11]) (hm : (W.drop (at_ + 1)).length + pA ((kids b us).drop j ++ flat (W.drop (at_ + 1))) + 1 ≤ n) : QInv st0 I J x y tb wk D tbl V B δ t made n b us at_ j loc s
end put

theorem flat_nil : flat [] = [] := rfl
theorem flat_cons (w : Nat × List Tm) (W : List (Nat × List Tm)) : flat (w :: W) = kids w.1 w.2 ++ flat W := List.flatMap_cons
theorem flat_snoc (W : List (Nat × List Tm)) (b : Nat) (us : List Tm) : flat (W ++ [(b, us)]) = flat W ++ kids b us := by
  unfold flat; rw [List.flatMap_append, List.flatMap_cons, List.flatMap_nil, List.append_nil]
theorem kids_len (b : Nat) (us : List Tm) : (kids b us).length = us.length := by unfold kids; rw [List.length_map, List.length_range]
theorem tms_len (us : List Tm) : (tmsM us).length = us.length := by rw [tmsM_map, List.length_map]
theorem tms_get {us : List Tm} {j : Nat} (h : j < us.length) : (tmsM us)[j]? = some (tmM us[j]) := by rw [tmsM_map, List.getElem?_map, List.getElem?_eq_getElem h]; rfl
theorem pA_nil : pA [] = 0 := rfl
theorem pH_nil : pH [] = 0 := rfl
theorem pA_cons (p : Nat × Tm) (P : List (Nat × Tm)) : pA (p :: P) = nApp p.2 + pA P := by unfold pA; rw [List.map_cons, List.sum_cons]
theorem pH_cons (p : Nat × Tm) (P : List (Nat × Tm)) : pH (p :: P) = hsz p.2 + pH P := by unfold pH; rw [List.map_cons, List.sum_cons]
theorem hsz_app (f : Nat) (us : List Tm) : hsz (.app f us) = us.length + (if f = 0 then 0 else 1) + hszs us := by rw [hsz]
theorem nApp_app (f : Nat) (us : List Tm) : nApp (.app f us) = nApps us + 1 := by rw [nApp]
theorem blk_room {h m f n r : Nat} (e : h + (n + (if f = 0 then 0 else 1) + m) ≤ 900) (hf : f = 0 → n = 2) : h + 1 + n ≤ 1000 ∧ h + 2 ≤ 1000 := by
  by_cases hz : f = 0
  · have := hf hz; rw [if_pos hz] at e; lia
  · rw [if_neg hz] at e; lia

theorem f_put (hM : S.M = mt) (hG : Has S 257 C_globalise) (hNV : Has S 208 C_new_var) (hNB : Has S 320 C_new_block) (hB : Has S 306 C_base) {vs : List MV} {Q : EP} (h : C_put vs st Q) : vs.length = 3 ∧ wpF S b_Store_put_term (frame ns_Store_put_term vs) st Q := by
  obtain ⟨I, J, x, y, B, δ, tb, D, tbl, V, t, rfl, w, wf, g, T, fr, hpl, wt, hsz_, hnapp, hp, q⟩ := h
  refine ⟨rfl, ?_⟩
  unfold b_Store_put_term
  have hDl : D.length ≤ lim := by have := T.len; unfold lim; lia
  have hlist : callB .list [.obj tb] st = some (.obj st.length, st ++ [.list (D.map fun kv => .int kv.1)]) := by
    rw [copyD T.at_, if_pos hDl]
  have hitems : itemsM (st ++ [.list (D.map fun kv => .int kv.1)]) (.obj st.length) = some (D.map fun kv => .int kv.1) := by
    exact itemsU (get_last _ _)
  have w1 := w.app [.list (D.map fun kv => .int kv.1)]
  have T1 := T.same (Same.app st [.list (D.map fun kv => .int kv.1)]) (fun h => by cases h)
  walk_at "f"
  refine ⟨by rw [List.length_map]; exact hDl, fun k loc s => s = st ++ [.list (D.map fun kv => .int kv.1)] ∧ ∃ v, loc = [.obj I.s, tmM t, .obj tb, v, .unb, .unb, .unb, .unb, .unb, .unb, .unb, .unb], ⟨rfl, .unb, rfl⟩, ?_⟩
  rintro k _ _ ⟨rfl, v, rfl⟩
  refine ⟨hitems, ?_⟩
  by_cases hk : k < D.length
  · obtain ⟨a, ha⟩ := tbl_loop T1 (k := D[k].1) (List.mem_map.mpr ⟨D[k], List.getElem_mem hk, rfl⟩)
    refine f_some (x := .int D[k].1) (by rw [List.getElem?_map, List.getElem?_eq_getElem hk]; rfl) ?_
    walk_at "m"
    exact ⟨rfl, _, rfl⟩
  refine f_none (by rw [List.length_map]; exact hk) fun _ => ?_
  clear hlist hitems
  have m1 : Same [I.hp] st (st ++ [MO.list (D.map fun kv => .int kv.1)]) := (Same.app _ _).weak (fun j hj => by cases hj)
  generalize st ++ [MO.list (D.map fun kv => .int kv.1)] = s1 at w1 T1 m1 ⊢
  cases t with
  | var n =>
    cases wt with
    | var hn =>
      have hl := T1.look n hn
      have hin : cmpM s1 .NotIn (.int n) (.obj tb) = some false := by rw [ninU T1.at_, hl]; rfl
      have hsub : subM s1 (.obj tb) (.int n) = some (cM (.ref (tbl n))) := (subD T1.at_).trans hl
      walk_at "m"
      exact q s1 x.H B δ (.ref (tbl n)) (Pre.refl _) wf g (fun _ _ => rfl) (fun ρ s => rfl) (hpl n hn) (fun m hm => hm) rfl rfl w1 m1
  | con a =>
    walk_at "m"
    exact q s1 x.H B δ (.con a) (Pre.refl _) wf g (fun _ _ => rfl) (fun ρ s => rfl) trivial (fun m hm => hm) rfl rfl w1 m1
  | num a =>
    walk_at "m"
    exact q s1 x.H B δ (.int a) (Pre.refl _) wf g (fun _ _ => rfl) (fun ρ s => rfl) trivial (fun m hm => hm) rfl rfl w1 m1
  | app f us =>
    have pst := PutI.start wf g wt (tbl := tbl) (H0 := x.H)
    cases wt with
    | app p0 hF hn5 hf hus =>
    have hbl := blk_len x.H f us.length hf
    rw [hsz_app] at hsz_
    rw [nApp_app] at hnapp
    have room := blk_room (r := 0) hsz_ hf
    walk_at "m"
    refine hNB _ _ _ ⟨I, J, x, y, f, p0, us.length, rfl, w1, hF, room.1, room.2, fun s2 w2 m2 l2 => ?_⟩
    rw [block_blk] at w2 ⊢
    simp only at w2 ⊢
    obtain ⟨wfb, bb, hw, hfn, _, _, _, _⟩ := blk_ok wf hF hn5 hf
    walk_at "m"
    refine hB _ _ _ ⟨_, (blk x.H f us.length).2, rfl, bb.comp, ?_⟩
    walk_at "m"
    have hwkne : s2.length ≠ I.hp := by have := (ids_lt w2).2.1; lia
    have htbne : tb ≠ I.hp := fun e => fr.ne (by rw [e]; exact .tail _ (.tail _ (.head _)))
    have hfree : Free s2 I J s2.length := ⟨(w2.free (k := s2.length) (Nat.le_refl _) []).ne⟩
    have hinit : PutAt (s2 ++ [.list [.tup [.int (blk x.H f us.length).2.base, .tup (tmsM us)]]]) st I J x y tb s2.length D tbl V B δ (.app f us) (blk x.H f us.length).2 [((blk x.H f us.length).2.base, us)] (blk x.H f us.length).1 (flat ([((blk x.H f us.length).2.base, us)].drop 0)) := by
      have e : flat ([((blk x.H f us.length).2.base, us)].drop 0) = kids (blk x.H f us.length).2.base us := by rw [List.drop_zero, flat_cons, flat_nil, List.append_nil]
      rw [e]
      refine ⟨w2.app _, (m1.trans m2).trans ((Same.app _ _).weak (fun j hj => by cases hj)), (T1.same m2 (fun h => htbne (List.mem_singleton.mp h))).same (Same.app _ _) (fun h => by cases h), get_last _ _, ⟨_, _, pst, ?_⟩, ?_, ?_⟩
      · rw [pA_kids, nApp_app, List.length_append, List.length_singleton]; lia
      · rw [pH_kids, hsz_app, hbl]; lia
      · rw [pA_kids, nApp_app, List.length_singleton]; lia
    refine s_wh ⟨PInv st I J x y tb s2.length D tbl V B δ (.app f us) (blk x.H f us.length).2, ⟨_, _, 0, _, _, _, _, _, _, _, hinit, Nat.zero_le _, rfl, rfl⟩, ?_⟩
    clear hinit pst w1 T1 hNV hG hw hfn bb wfb
    rintro n _ s ⟨W, at_, H, v3, v4, v8, v9, v10, v11, pa_, hat, rfl, hn⟩
    have hWs := pa_.ws
    rw [nApp_app] at hWs
    have hWl : (W.map wM).length ≤ lim := by rw [List.length_map]; unfold lim; lia
    have hlen : callB .len [.obj s2.length] s = some (.int W.length, s) := by
      rw [len_list pa_.wk hWl, List.length_map]
    walk_at "m"
    by_cases hend : at_ = W.length
    · subst hend
      refine s_KW0 (inlt (Nat.lt_irrefl _)) ?_
      walk_at "m"
      obtain ⟨B', δ', i, hb⟩ := pa_.put
      have hs := pa_.hs
      rw [List.drop_length, flat_nil] at i hb hs
      exact q s H B' δ' _ i.pre i.wf i.gen i.old (fun ρ sl => i.j1 ρ sl (fun p hp => by cases hp)) i.okm i.bs hb hs pa_.w pa_.same
    have hlt : at_ < W.length := by lia
    have hdrop : W.drop at_ = W[at_] :: W.drop (at_ + 1) := List.drop_eq_getElem_cons hlt
    have hsubW : subM s (.obj s2.length) (.int at_) = some (wM W[at_]) := by
      rw [subL pa_.wk, if_pos ⟨by lia, by unfold big; lia⟩, Int.toNat_natCast, List.getElem?_map, List.getElem?_eq_getElem hlt]; rfl
    rcases hWe : W[at_] with ⟨b, us'⟩
    rw [hWe] at hsubW hdrop
    have hflat : flat (W.drop at_) = kids b us' ++ flat (W.drop (at_ + 1)) := by rw [hdrop, flat_cons]
    have hus' : us'.length ≤ 900 := by
      obtain ⟨B', δ', i, hb⟩ := pa_.put
      have hsz2 := pa_.hs
      rw [hsz_app] at hsz2
      have := nodup_len (B := List.range H.length) i.nd (fun a ha => by
        obtain ⟨q, hq, rfl⟩ := List.mem_map.mp ha
        exact List.mem_range.mpr (i.pend q hq).1.lt)
      rw [hflat, List.length_map, List.length_append, kids_len, List.length_range] at this
      lia
    have hustm : (tmsM us').length ≤ lim := by rw [tms_len]; unfold lim; lia
    have hitems : ∀ s, itemsM s (.tup (tmsM us')) = some (tmsM us') := fun _ => rfl
    refine s_KW1 (ilt hlt) ?_
    walk_at "m"
    refine ⟨hustm, QInv st I J x y tb s2.length D tbl V B δ (.app f us) (blk x.H f us.length).2 n b us' at_, ⟨W, H, v3, v4, v10, v11, by rw [hflat] at pa_; exact pa_, hlt, by rw [show ((b : Int) + ((0 : Nat) : Int)) = (b : Int) from Int.add_zero _]; rfl, ?_⟩, ?_⟩
    · rw [List.drop_zero, hn, hflat, hdrop, List.length_cons]; lia
    clear hn pa_ hlen hsubW hWl hflat hWe hdrop hat hlt hend hWs
    rintro j _ s ⟨W, H, v3, v4, v10, v11, pa_, hat, rfl, hm⟩
    refine ⟨rfl, ?_⟩
    by_cases hj : j < us'.length
    case neg =>
      refine f_none (by rw [tms_len]; exact hj) fun _ => ?_
      have e : (kids b us').drop j = [] := List.drop_of_length_le (by rw [kids_len]; lia)
      rw [e, List.nil_append] at pa_ hm
      exact ⟨_, by lia, W, at_ + 1, H, v3, v4, .int (b + j), .tup (tmsM us'), v10, v11, pa_, hat, rfl, rfl⟩
    refine f_some (tms_get hj) ?_
    have hkid := kids_get (b := b) hj
    rw [hkid, List.cons_append] at pa_ hm
    obtain ⟨B', δ', pi, hb⟩ := pa_.put
    obtain ⟨ra, la, wa⟩ := pi.pend (b + j, us'[j]) (.head _)
    have hcast : ((b : Int) + (j : Int)) = ((b + j : Nat) : Int) := (Int.natCast_add b j).symm
    have htbl := pa_.tbl_
    have fin : ∀ (W' : List (Nat × List Tm)) (H' : List Cell) (s' : Objs) (u4 u10 u11 : MV), PutAt s' st I J x y tb s2.length D tbl V B δ (.app f us) (blk x.H f us.length).2 W' H' ((kids b us').drop (j + 1) ++ flat (W'.drop (at_ + 1))) → at_ + 1 ≤ W'.length →
        (W'.drop (at_ + 1)).length + pA ((kids b us').drop (j + 1) ++ flat (W'.drop (at_ + 1))) + 1 ≤ n →
        QInv st I J x y tb s2.length D tbl V B δ (.app f us) (blk x.H f us.length).2 n b us' at_ (j + 1) [.obj I.s, tmM (.app f us), .obj tb, v3, u4, cM (blk x.H f us.length).2, .obj s2.length, .int (at_ + 1), .int ((b : Int) + j + 1), .tup (tmsM us'), u10, u11] s' :=
      fun W' H' s' u4 u10 u11 a b c => ⟨W', H', v3, u4, u10, u11, a, b, by rw [Int.natCast_add, ← Int.add_assoc]; rfl, c⟩
    have hwk := pa_.wk
    have alt : b + j < H.length := ra.lt
    have a2 := pa_.w.W.a2
    have w0 := pa_.w
    rw [pA_cons] at hm
    generalize us'[j] = u at pa_ hm pi wa ⊢
    cases u with
    | var m =>
      cases wa with
      | var hv =>
        have hl := htbl.look m hv
        have hin : cmpM s .In (.int m) (.obj tb) = some true := by rw [inU htbl.at_, hl]; rfl
        have hsub : subM s (.obj tb) (.int m) = some (cM (.ref (tbl m))) := (subD htbl.at_).trans hl
        obtain ⟨s3, e3, w3, m3, l3⟩ := pa_.w.setCell alt (.ref (tbl m))
        rw [← hcast] at e3
        walk_at "m"
        exact fin W _ s3 _ _ _ (pa_.leafStep wf g hpl htbne hwkne rfl w3 m3) hat (by rw [show nApp (.var m) = 0 from rfl, Nat.zero_add] at hm; exact hm)
    | con m =>
      obtain ⟨s3, e3, w3, m3, l3⟩ := pa_.w.setCell alt (.con m)
      rw [← hcast] at e3
      walk_at "m"
      exact fin W _ s3 _ _ _ (pa_.leafStep wf g hpl htbne hwkne rfl w3 m3) hat (by rw [show nApp (.con m) = 0 from rfl, Nat.zero_add] at hm; exact hm)
    | num m =>
      obtain ⟨s3, e3, w3, m3, l3⟩ := pa_.w.setCell alt (.int m)
      rw [← hcast] at e3
      walk_at "m"
      exact fin W _ s3 _ _ _ (pa_.leafStep wf g hpl htbne hwkne rfl w3 m3) hat (by rw [show nApp (.num m) = 0 from rfl, Nat.zero_add] at hm; exact hm)
    | app f2 vs2 =>
      cases wa with
      | app p2 hF2 hn2 hf2 hus2 =>
        have h1 := pa_.hs
        have h2 := pa_.ws
        rw [pH_cons, hsz_app, hsz_app] at h1
        rw [pA_cons, nApp_app, nApp_app] at h2
        rw [nApp_app] at hm
        have room2 := blk_room (h := H.length) (m := hszs vs2) (r := 0) (f := f2) (n := vs2.length) (by lia) hf2
        walk_at "m"
        refine hNB _ _ _ ⟨I, J, _, y, f2, p2, vs2.length, rfl, pa_.w, hF2, room2.1, room2.2, fun s3 w3 m3 l3 => ?_⟩
        rw [block_blk] at w3 ⊢
        simp only at w3 ⊢
        obtain ⟨_, bb2, _, _, _, _, _, pre2⟩ := blk_ok pi.wf hF2 hn2 hf2
        have alt2 : b + j < (blk H f2 vs2.length).1.length := by have := pre2.len; lia
        obtain ⟨s4, e4, w4, m4, l4⟩ := w3.setCell alt2 (blk H f2 vs2.length).2
        rw [← hcast] at e4
        have a3 := w3.W.a2
        have hwk4 : s4[s2.length]? = some (.list (W.map wM)) := (m3.trans m4).at hwk (fun h => hwkne (List.mem_singleton.mp h))
        have hWl2 : (W.map wM).length ≤ lim := by rw [List.length_map]; unfold lim; lia
        have mva := mval_app (S := S) hwk4
        walk_at "m"
        refine hB _ _ _ ⟨_, (blk H f2 vs2.length).2, rfl, bb2.comp, ?_⟩
        have hlt4 := (List.getElem?_eq_some_iff.mp hwk4).1
        have sm4 : Same [I.hp] st s4 := (pa_.same.trans m3).trans m4
        have T4 : TblAt s4 tb D tbl V := htbl.same (m3.trans m4) (fun h => htbne (List.mem_singleton.mp h))
        have key := pa_.innerStep (s' := s4.set s2.length (.list ((W ++ [((blk H f2 vs2.length).2.base, vs2)]).map wM))) wf g hf2 ?_ ?_ ?_ ?_
        · rw [List.map_append] at key
          walk_at "m"
          have hdl : (W ++ [((blk H f2 vs2.length).2.base, vs2)]).drop (at_ + 1) = W.drop (at_ + 1) ++ [((blk H f2 vs2.length).2.base, vs2)] := List.drop_append_of_le_length hat
          refine fin (W ++ [((blk H f2 vs2.length).2.base, vs2)]) _ _ _ _ _ (by rw [hdl, flat_snoc, ← List.append_assoc]; exact key) (by rw [List.length_append, List.length_singleton]; lia) ?_
          rw [hdl, flat_snoc, ← List.append_assoc, pA_app, pA_kids, List.length_append, List.length_singleton]
          lia
        · exact w4.same (Same.set _ _ _) (by intro i hi; rw [List.mem_singleton] at hi; subst hi; exact hfree.ne)
        · refine ⟨by rw [List.length_set]; exact sm4.len, fun i hi hx => ?_⟩
          have : s2.length ≠ i := by have := m1.len; have := m2.len; lia
          rw [List.getElem?_set_ne this]; exact sm4.get i hi hx
        · have htbwk : tb ≠ s2.length := by have := (List.getElem?_eq_some_iff.mp T.at_).1; have := m1.len; have := m2.len; lia
          exact T4.same (Same.set _ _ _) (fun h => htbwk (List.mem_singleton.mp h))
        · rw [List.getElem?_set_self hlt4]
end

set_option tactic.hygienic true

set_option tactic.hygienic false
section
variable {S : Sg} {st : Objs} {I : Ids} {J : SyIds} {x : Sto} {y : Sym}

noncomputable def tabD (j : Nat) : List (Int × MV) := (List.range j).map fun (k : Nat) => ((k : Int), cM (.ref (k + 1)))
theorem tabD_succ (j : Nat) : tabD (j + 1) = tabD j ++ [((j : Int), cM (.ref (j + 1)))] := by simp [tabD, List.range_succ]
theorem tabD_none (j : Nat) : lookM (tabD j) (j : Int) = none := by
  unfold lookM tabD
  rw [Option.map_eq_none_iff, List.find?_eq_none]
  intro e he
  obtain ⟨k, hk, rfl⟩ := List.mem_map.mp he
  have := List.mem_range.mp hk
  simp; lia
theorem tabD_put (j : Nat) (v : MV) : putM (tabD j) (j : Int) v = tabD j ++ [((j : Int), v)] := by
  unfold putM
  have : (tabD j).any (fun kv => decide (kv.1 = (j : Int))) = false := by
    rw [List.any_eq_false]
    intro e he
    obtain ⟨k, hk, rfl⟩ := List.mem_map.mp he
    have := List.mem_range.mp hk
    simp; lia
  rw [this]; rfl
theorem tabD_look {j k : Nat} (h : k < j) : lookM (tabD j) (k : Int) = some (cM (.ref (k + 1))) := by
  induction j with
  | zero => lia
  | succ j ih =>
    rw [tabD_succ]
    unfold lookM
    rw [List.find?_append]
    by_cases e : k < j
    · have := ih e
      unfold lookM at this
      cases h2 : (tabD j).find? fun kv => decide (kv.1 = (k : Int)) with
      | none => rw [h2] at this; cases this
      | some p => rw [h2] at this; simpa using this
    · have : k = j := by lia
      subst this
      have := tabD_none k
      unfold lookM at this
      rw [Option.map_eq_none_iff] at this
      rw [this]; simp

noncomputable def H5 (f : Nat) : List Cell := [.fn f, .ref 1, .ref 2, .ref 3, .ref 4, .ref 5]
noncomputable def T5 (f : Nat) : Tm := .app f [.var 0, .var 1, .var 2, .var 3, .var 4]

inductive C_put0 (vs : List MV) (st : Objs) (Q : EP) : Prop
  | mk (I : _) (J : _) (x : _) (y : _) (tb : _) (f : _) (p : _) (h0 : vs = [.obj I.s, tmM (T5 f), .obj tb]) (h1 : Wd st I J x y) (h2 : x.H = []) (h3 : st[tb]? = some (.dictI [])) (h4 : Free st I J tb) (h5 : y.F[f]? = some (p, 5)) (h6 : f ≠ 0) (h7 : ∀ st', Wd st' I J { x with H := H5 f } y → st'[tb]? = some (.dictI (tabD 5)) → Same [I.hp, tb] st st' → Q (cM (.str 0)) st') : C_put0 vs st Q


noncomputable def us5 : List Tm := [.var 0, .var 1, .var 2, .var 3, .var 4]
inductive P0Inv (st : Objs) (I : Ids) (J : SyIds) (x : Sto) (y : Sym) (tb wk f : Nat) (n : Nat) (loc : List MV) (s : Objs) : Prop
  | mk (v3 v4 v8 v9 v10 v11 : MV) (w : Wd s I J { x with H := H5 f } y) (sm : Same [I.hp, tb] st s) (hw : s[wk]? = some (.list [.tup [.int 1, .tup (tmsM us5)]])) (hn : n ≤ 1) (ht : s[tb]? = some (.dictI (tabD (5 * (1 - n)))))
      (hl : loc = [.obj I.s, tmM (T5 f), .obj tb, v3, v4, cM (.str 0), .obj wk, .int ((1 - n : Nat) : Int), v8, v9, v10, v11]) : P0Inv st I J x y tb wk f n loc s
inductive P1Inv (st : Objs) (I : Ids) (J : SyIds) (x : Sto) (y : Sym) (tb wk f : Nat) (j : Nat) (loc : List MV) (s : Objs) : Prop
  | mk (v3 v4 v10 v11 : MV) (w : Wd s I J { x with H := H5 f } y) (sm : Same [I.hp, tb] st s) (hw : s[wk]? = some (.list [.tup [.int 1, .tup (tmsM us5)]])) (ht : s[tb]? = some (.dictI (tabD j)))
      (hl : loc = [.obj I.s, tmM (T5 f), .obj tb, v3, v4, cM (.str 0), .obj wk, .int 1, .int (1 + (j : Int)), .tup (tmsM us5), v10, v11]) : P1Inv st I J x y tb wk f j loc s

theorem f_put0 (hM : S.M = mt) (hNB : Has S 320 C_new_block) (hB : Has S 306 C_base) {vs : List MV} {Q : EP} (h : C_put0 vs st Q) : vs.length = 3 ∧ wpF S b_Store_put_term (frame ns_Store_put_term vs) st Q := by
  obtain ⟨I, J, x, y, tb, f, p, rfl, w, hx, htb, fr, hF, hf, q⟩ := h
  refine ⟨rfl, ?_⟩
  unfold b_Store_put_term
  have hlist : callB .list [.obj tb] st = some (.obj st.length, st ++ [.list []]) := by
    rw [copyD htb]; rfl
  have hitems : itemsM (st ++ [.list []]) (.obj st.length) = some [] := by
    exact itemsU (get_last _ _)
  walk_at "f"
  refine ⟨Nat.zero_le _, fun k loc s => s = st ++ [.list []] ∧ loc = [.obj I.s, tmM (T5 f), .obj tb, .unb, .unb, .unb, .unb, .unb, .unb, .unb, .unb, .unb], ⟨rfl, rfl⟩, ?_⟩
  rintro k _ _ ⟨rfl, rfl⟩
  refine ⟨hitems, f_none (Nat.not_lt_zero k) fun _ => ?_⟩
  have w1 := w.app [.list []]
  have htb1 := (Same.app st [MO.list []]).at htb (fun h => by cases h)
  have m1 : Same [I.hp, tb] st (st ++ [MO.list []]) := (Same.app _ _).weak (fun j hj => by cases hj)
  clear hlist hitems
  generalize st ++ [MO.list []] = s1 at w1 htb1 m1 ⊢
  have h0 : subM s1 (tmM (T5 f)) (.int 0) = some (.str (Str.ofString "s")) := ts0 _ _ _
  have h1 : subM s1 (tmM (T5 f)) (.int 1) = some (.int f) := ts1 _ _ _
  walk_at "m"
  refine hNB _ _ _ ⟨I, J, x, y, f, p, 5, rfl, w1, hF, by rw [hx]; decide, by rw [hx]; decide, fun s2 w2 m2 l2 => ?_⟩
  have hblk : x.block f 5 = ({ x with H := H5 f }, .str 0) := by
    unfold Sto.block; rw [if_neg hf, hx]; rfl
  rw [hblk] at w2 ⊢
  have h2 : subM s2 (tmM (T5 f)) (.int 2) = some (.tup (tmsM us5)) := ts2 _ _ _
  have w2 : Wd s2 I J { x with H := H5 f } y := w2
  walk_at "m"
  refine hB _ _ _ ⟨_, .str 0, rfl, rfl, ?_⟩
  have htbne : tb ≠ I.hp := fun e => fr.ne (by rw [e]; exact .tail _ (.tail _ (.head _)))
  have htb2 : s2[tb]? = some (.dictI []) := m2.at htb1 (fun h => htbne (List.mem_singleton.mp h))
  have htblt := (List.getElem?_eq_some_iff.mp htb2).1
  have w3 := w2.app [.list [.tup [.int 1, .tup (tmsM us5)]]]
  have ma := Same.app s2 [MO.list [.tup [.int 1, .tup (tmsM us5)]]]
  walk_at "m"
  refine s_wh ⟨P0Inv st I J x y tb s2.length f, ⟨1, _, _, _, _, _, _, w3, (m1.trans m2.l).trans (ma.weak (fun j hj => by cases hj)), get_last _ _, Nat.le_refl _, ma.at htb2 (fun h => by cases h), rfl⟩, ?_⟩
  clear w3 ma w1 h0 h1 h2
  rintro n _ s ⟨v3, v4, v8, v9, v10, v11, ws, ms, hwk, hn, htbs, rfl⟩
  have hlen : callB .len [.obj s2.length] s = some (.int 1, s) := by
    rw [len_list hwk (Nat.le_of_ble_eq_true rfl)]; rfl
  walk_at "m"
  rcases (show n = 0 ∨ n = 1 by lia) with rfl | rfl
  · refine s_KW0 rfl ?_
    walk_at "m"
    exact q s ws htbs ms
  have hsubW : subM s (.obj s2.length) (.int ((1 - 1 : Nat) : Int)) = some (.tup [.int 1, .tup (tmsM us5)]) := by
    rw [subL hwk, if_pos ⟨by decide, by unfold big; decide⟩]; rfl
  have hi : itemsM s (.tup (tmsM us5)) = some (tmsM us5) := rfl
  refine s_KW1 rfl ?_
  walk_at "m"
  refine ⟨Nat.le_of_ble_eq_true rfl, P1Inv st I J x y tb s2.length f, ⟨_, _, _, _, ws, ms, hwk, htbs, rfl⟩, ?_⟩
  rintro j _ s' ⟨v3, v4, v10, v11, ws', ms', hwk', htbs', rfl⟩
  have hwkne : s2.length ≠ tb := by lia
  refine ⟨rfl, ?_⟩
  by_cases hj : j < 5
  case neg =>
    refine f_none hj fun e => ?_
    have e : j = 5 := e
    subst e
    exact ⟨0, by decide, _, _, _, _, _, _, ws', ms', hwk', by decide, htbs', rfl⟩
  have hget : (tmsM us5)[j]? = some (tmM (.var j)) := by
    rcases (show j = 0 ∨ j = 1 ∨ j = 2 ∨ j = 3 ∨ j = 4 by lia) with rfl | rfl | rfl | rfl | rfl <;> rfl
  have hin : cmpM s' .In (.int j) (.obj tb) = some false := by rw [inU htbs', tabD_none]; rfl
  have hset : setSubM s' (.obj tb) (.int j) (.tup [.int 0, .int (1 + (j : Int))]) = some (s'.set tb (.dictI (tabD (j + 1)))) := by
    rw [setD htbs', if_pos (by unfold tabD; rw [List.length_map, List.length_range]; unfold lim; lia), tabD_put, tabD_succ]
    have : MV.tup [.int 0, .int (1 + (j : Int))] = cM (.ref (j + 1)) := by rw [Int.add_comm]; rfl
    rw [this]
  refine f_some hget ?_
  walk_at "m"
  have hlt' := (List.getElem?_eq_some_iff.mp htbs').1
  exact ⟨_, _, _, _, ws'.other ⟨fr.ne⟩, ms'.trans (Same.set _ _ _).r, by rw [List.getElem?_set_ne (Ne.symm hwkne)]; exact hwk', by rw [List.getElem?_set_self hlt'], by rw [Int.natCast_add, ← Int.add_assoc]; rfl⟩
end

set_option tactic.hygienic true

set_option tactic.hygienic false

/- numbering by first occurrence -/
mutual
noncomputable def occ (l : List Nat) : Tm → List Nat
  | .var a => if a ∈ l then l else l ++ [a]
  | .app _ ts => occs l ts
  | _ => l
noncomputable def occs (l : List Nat) : List Tm → List Nat
  | [] => l
  | t :: r => occs (occ l t) r
end
noncomputable def ren (l : List Nat) (t : Tm) : Tm := t.sub fun a => .var (l.idxOf a)

mutual
theorem occ_pre : ∀ (t : Tm) (l : List Nat), ∃ m, occ l t = l ++ m
  | .var a, l => by
    unfold occ; split
    · exact ⟨[], by simp⟩
    · exact ⟨[a], rfl⟩
  | .con a, l => ⟨[], by simp [occ]⟩
  | .num a, l => ⟨[], by simp [occ]⟩
  | .app f ts, l => by unfold occ; exact occs_pre ts l
theorem occs_pre : ∀ (ts : List Tm) (l : List Nat), ∃ m, occs l ts = l ++ m
  | [], l => ⟨[], by simp [occs]⟩
  | t :: r, l => by
    unfold occs
    obtain ⟨m, e⟩ := occ_pre t l
    obtain ⟨m', e'⟩ := occs_pre r (occ l t)
    exact ⟨m ++ m', by rw [e', e, List.append_assoc]⟩
end
mutual
theorem occ_has : ∀ (t : Tm) (l : List Nat) (a : Nat), a ∈ occ l t ↔ a ∈ l ∨ t.has a
  | .var b, l, a => by
    unfold occ; split
    · rename_i h; simp [Tm.has]; rintro rfl; exact h
    · simp [Tm.has, eq_comm]
  | .con b, l, a => by simp [occ, Tm.has]
  | .num b, l, a => by simp [occ, Tm.has]
  | .app f ts, l, a => by unfold occ Tm.has; exact occs_has ts l a
theorem occs_has : ∀ (ts : List Tm) (l : List Nat) (a : Nat), a ∈ occs l ts ↔ a ∈ l ∨ Tm.hass a ts
  | [], l, a => by simp [occs, Tm.hass]
  | t :: r, l, a => by
    unfold occs Tm.hass
    rw [occs_has r, occ_has t, or_assoc]
end
mutual
theorem occ_id : ∀ (t : Tm) (l : List Nat), (∀ a, t.has a → a ∈ l) → occ l t = l
  | .var b, l, h => by unfold occ; rw [if_pos (h b (by simp [Tm.has]))]
  | .con b, l, h => rfl
  | .num b, l, h => rfl
  | .app f ts, l, h => by unfold occ; exact occs_id ts l (fun a ha => h a (by simpa [Tm.has] using ha))
theorem occs_id : ∀ (ts : List Tm) (l : List Nat), (∀ a, Tm.hass a ts → a ∈ l) → occs l ts = l
  | [], l, h => rfl
  | t :: r, l, h => by
    unfold occs
    rw [occ_id t l (fun a ha => h a (by simp [Tm.hass, ha]))]
    exact occs_id r l (fun a ha => h a (by simp [Tm.hass, ha]))
end
theorem ren_pre {t : Tm} {l m : List Nat} (h : ∀ a, t.has a → a ∈ l) : ren (l ++ m) t = ren l t := by
  unfold ren
  apply Tm.sub_ext
  intro a ha
  rw [List.idxOf_append, if_pos (h a ha)]

inductive It where
  | visit (c : Cell)
  | build (c : Cell)

section
variable (H : List Cell) (F : Fun) (δ : Nat → Tm)

noncomputable def stepI (i : It) (s : List Tm × List Nat) : List Tm × List Nat := match i with
  | .visit c => (s.1 ++ [ren (occ s.2 (valC H F δ c)) (valC H F δ c)], occ s.2 (valC H F δ c))
  | .build d => (s.1.take (s.1.length - (width H F d).getD 0) ++ [.app ((fnAt H d).getD 0) (s.1.drop (s.1.length - (width H F d).getD 0))], s.2)

noncomputable def exec_ (ws : List It) (s : List Tm × List Nat) : List Tm × List Nat := ws.foldl (fun s i => stepI H F δ i s) s

theorem exec_app (a b : List It) (s : List Tm × List Nat) : exec_ H F δ (a ++ b) s = exec_ H F δ b (exec_ H F δ a s) := List.foldl_append ..
theorem exec_cons (i : It) (b : List It) (s : List Tm × List Nat) : exec_ H F δ (i :: b) s = exec_ H F δ b (stepI H F δ i s) := rfl

theorem exec_visits (cs : List Cell) (R : List Tm) (l : List Nat) : exec_ H F δ (cs.map .visit) (R, l) = (R ++ (cs.map (valC H F δ)).map (ren (occs l (cs.map (valC H F δ)))), occs l (cs.map (valC H F δ))) := by
  induction cs generalizing R l with
  | nil => simp [exec_, occs]
  | cons c cs ih =>
    rw [List.map_cons, exec_cons]
    simp only [stepI]
    rw [ih]
    simp only [List.map_cons, occs, Prod.mk.injEq, and_true]
    obtain ⟨m, e⟩ := occs_pre (cs.map (valC H F δ)) (occ l (valC H F δ c))
    have : ren (occs (occ l (valC H F δ c)) (cs.map (valC H F δ))) (valC H F δ c) = ren (occ l (valC H F δ c)) (valC H F δ c) := by
      rw [e]; exact ren_pre fun a ha => (occ_has _ _ _).mpr (.inr ha)
    rw [this]; simp
end

section
variable {H : List Cell} {F : Fun} {B : List Nat} {δ : Nat → Tm}

noncomputable def argsUp (H : List Cell) (b n : Nat) : List Cell := (List.range n).map fun i => H.getD (b + i) (.con 0)

theorem argsUp_val (wf : WF H F B) (g : Gen H F δ) {d : Cell} (b : Blk H F B d) {n : Nat} (hn : width H F d = some n) : (argsUp H d.base n).map (valC H F δ) = (List.range n).map (fun i => δ (d.base + i)) ∧ ∀ c ∈ argsUp H d.base n, okC H F B c := by
  obtain ⟨m, e, _, p⟩ := b.wid
  rw [hn] at e; cases e
  constructor
  · unfold argsUp
    rw [List.map_map]
    apply List.map_congr_left
    intro i hi
    obtain ⟨c, hc, hf⟩ := p i (List.mem_range.mp hi)
    simp only [Function.comp, List.getD_eq_getElem?_getD, hc, Option.getD_some]
    exact (g.sol _ c hc hf).symm
  · intro c hc
    obtain ⟨i, hi, rfl⟩ := List.mem_map.mp hc
    obtain ⟨c, hc', hf⟩ := p i (List.mem_range.mp hi)
    rw [List.getD_eq_getElem?_getD, hc']
    exact wf.ok _ c hc' hf

theorem expand (wf : WF H F B) (g : Gen H F δ) {c d : Cell} (b : Blk H F B d) {f n : Nat} (hn : width H F d = some n) (hf : fnAt H d = some f) (hc : valC H F δ c = valC H F δ d) (s : List Tm × List Nat) :
    exec_ H F δ ((argsUp H d.base n).map .visit ++ [.build d]) s = stepI H F δ (.visit c) s := by
  obtain ⟨R, l⟩ := s
  rw [exec_app, exec_visits, (argsUp_val wf g b hn).1]
  simp only [exec_, List.foldl_cons, List.foldl_nil, stepI, hn, hf, Option.getD_some, hc, valC_blk b hf hn]
  have hl : (((List.range n).map fun i => δ (d.base + i)).map (ren (occs l ((List.range n).map fun i => δ (d.base + i))))).length = n := by simp
  have h1 : (R ++ ((List.range n).map fun i => δ (d.base + i)).map (ren (occs l ((List.range n).map fun i => δ (d.base + i))))).length - n = R.length := by rw [List.length_append, hl]; lia
  rw [h1, List.take_left' rfl, List.drop_left' rfl]
  simp only [occ, ren, Tm.sub, Tm.subs_map]
  rfl

structure TakeI (H : List Cell) (F : Fun) (B : List Nat) (δ : Nat → Tm) (c0 : Cell) (l0 : List Nat) (K : List (Nat × Option Tm)) (R : List Tm) (l : List Nat) (ws : List It) : Prop where
  fin : exec_ H F δ ws (R, l) = exec_ H F δ [.visit c0] ([], l0)
  vis : ∀ c, .visit c ∈ ws → okC H F B c
  bld : ∀ pre d post, ws = pre ++ .build d :: post → Blk H F B d ∧ (∀ a, (valC H F δ d).has a → a ∈ (exec_ H F δ pre (R, l)).2) ∧ ∀ n, width H F d = some n → ∃ R0, (exec_ H F δ pre (R, l)).1 = R0 ++ (List.range n).map fun i => ren (exec_ H F δ pre (R, l)).2 (δ (d.base + i))
  ord : ∀ pre d post, ws = pre ++ .build d :: post → ∀ c, .visit c ∈ pre → (valC H F δ c).size < (valC H F δ d).size
  kn : ∀ a t, (a, some t) ∈ K → ∀ d, Blk H F B d → d.addr = a → t = ren l (valC H F δ d) ∧ ∀ v, (valC H F δ d).has v → v ∈ l
  kn0 : ∀ a, (a, none) ∈ K → ∃ d, .build d ∈ ws ∧ d.addr = a
  ks : (K.map Prod.fst).Nodup ∧ ∀ a ∈ K.map Prod.fst, a ∈ B

theorem TakeI.start {c0 : Cell} {l0 : List Nat} (h : okC H F B c0) : TakeI H F B δ c0 l0 [] [] l0 [.visit c0] :=
  ⟨rfl, fun c hc => by simp at hc; subst hc; exact h, fun pre d post e => by cases pre <;> simp at e, fun pre d post e => by cases pre <;> simp at e, fun a t h => by simp at h, fun a h => by simp at h, by simp⟩

theorem TakeI.done {c0 : Cell} {l0 l : List Nat} {K : List (Nat × Option Tm)} {R : List Tm} (t : TakeI H F B δ c0 l0 K R l []) : R = [ren (occ l0 (valC H F δ c0)) (valC H F δ c0)] ∧ l = occ l0 (valC H F δ c0) := by
  have := t.fin
  simp only [exec_, List.foldl_nil, List.foldl_cons, stepI, List.nil_append, Prod.mk.injEq] at this
  exact this

theorem TakeI.leaf {c0 c : Cell} {l0 l : List Nat} {K : List (Nat × Option Tm)} {R : List Tm} {ws : List It} (t : TakeI H F B δ c0 l0 K R l (.visit c :: ws)) :
    TakeI H F B δ c0 l0 K (R ++ [ren (occ l (valC H F δ c)) (valC H F δ c)]) (occ l (valC H F δ c)) ws := by
  obtain ⟨m, e⟩ := occ_pre (valC H F δ c) l
  refine ⟨t.fin, fun d hd => t.vis d (by simp [hd]), fun pre d post h => ?_, fun pre d post h d' hd' => ?_, fun a u h d b hd => ?_, fun a h => ?_, t.ks⟩
  · exact t.bld (.visit c :: pre) d post (by rw [h]; rfl)
  · exact t.ord (.visit c :: pre) d post (by rw [h]; rfl) d' (by simp [hd'])
  · obtain ⟨h1, h2⟩ := t.kn a u h d b hd
    exact ⟨by rw [h1, e, ren_pre h2], fun v hv => by rw [e]; simp [h2 v hv]⟩
  · obtain ⟨d, hd, h2⟩ := t.kn0 a h
    simp at hd
    exact ⟨d, hd, h2⟩

theorem TakeI.fresh {c0 c d : Cell} {l0 l : List Nat} {K : List (Nat × Option Tm)} {R : List Tm} {ws : List It} (t : TakeI H F B δ c0 l0 K R l (.visit c :: ws)) (b : Blk H F B d) (hv : valC H F δ c = valC H F δ d) : (d.addr, none) ∉ K := by
  intro h
  obtain ⟨e, he, ha⟩ := t.kn0 _ h
  simp at he
  obtain ⟨pre, post, hp⟩ := List.append_of_mem he
  have hb := (t.bld (.visit c :: pre) e post (by rw [hp]; rfl)).1
  have hs := t.ord (.visit c :: pre) e post (by rw [hp]; rfl) c (by simp)
  have := same_blk hb b ha
  subst this
  rw [hv] at hs
  lia

theorem TakeI.openUp (wf : WF H F B) (g : Gen H F δ) {c0 c d : Cell} {l0 l : List Nat} {K : List (Nat × Option Tm)} {R : List Tm} {ws : List It} (t : TakeI H F B δ c0 l0 K R l (.visit c :: ws)) (b : Blk H F B d) (hv : valC H F δ c = valC H F δ d) {f n : Nat} (hn : width H F d = some n) (hf : fnAt H d = some f)
    (hk : d.addr ∉ K.map Prod.fst) : TakeI H F B δ c0 l0 (K ++ [(d.addr, none)]) R l ((argsUp H d.base n).map .visit ++ .build d :: ws) := by
  have ex := expand wf g b hn hf hv (R, l)
  obtain ⟨av, aok⟩ := argsUp_val wf g b hn
  have exl : ∀ p, exec_ H F δ ((argsUp H d.base n).map .visit ++ .build d :: p) (R, l) = exec_ H F δ (.visit c :: p) (R, l) := fun p => by
    rw [show ((argsUp H d.base n).map It.visit ++ It.build d :: p) = ((argsUp H d.base n).map It.visit ++ [It.build d]) ++ p by simp, exec_app, ex]
    rfl
  -- where a build item of the new list stands
  have split : ∀ pre e post, (argsUp H d.base n).map It.visit ++ It.build d :: ws = pre ++ It.build e :: post → (pre = (argsUp H d.base n).map It.visit ∧ e = d ∧ post = ws) ∨ ∃ p, pre = (argsUp H d.base n).map It.visit ++ It.build d :: p ∧ ws = p ++ It.build e :: post := by
    intro pre e post h
    generalize argsUp H d.base n = cs at h
    induction cs generalizing pre with
    | nil =>
      cases pre with
      | nil => simp at h; exact .inl ⟨rfl, h.1.symm, h.2.symm⟩
      | cons i pre =>
        simp at h
        exact .inr ⟨pre, by simp [h.1], h.2⟩
    | cons x cs ih =>
      cases pre with
      | nil => simp at h
      | cons i pre =>
        simp at h
        rcases ih pre h.2 with ⟨h1, h2, h3⟩ | ⟨p, h1, h2⟩
        · exact .inl ⟨by simp [h.1, h1], h2, h3⟩
        · exact .inr ⟨p, by simp [h.1, h1], h2⟩
  refine ⟨?_, fun e he => ?_, fun pre e post h => ?_, fun pre e post h x hx => ?_, fun a u h e be he => ?_, fun a h => ?_, ?_, ?_⟩
  · rw [exl]; exact t.fin
  · rcases List.mem_append.mp he with he | he
    · obtain ⟨x, hx, e'⟩ := List.mem_map.mp he
      cases e'; exact aok _ hx
    · simp at he; exact t.vis e (by simp [he])
  · rcases split pre e post h with ⟨rfl, rfl, rfl⟩ | ⟨p, rfl, hw⟩
    · refine ⟨b, ?_, fun k hk' => ?_⟩
      · intro a ha
        rw [exec_visits, av]
        simp only
        rw [occs_has, Tm.hass_iff]
        refine .inr ?_
        obtain ⟨i, hi, hh⟩ := (has_args b hn).mp ha
        exact ⟨_, List.mem_map.mpr ⟨i, List.mem_range.mpr hi, rfl⟩, hh⟩
      · rw [hn] at hk'; cases hk'
        refine ⟨R, ?_⟩
        rw [exec_visits, av, List.map_map]; rfl
    · have := t.bld (.visit c :: p) e post (by rw [hw]; rfl)
      rw [← exl p] at this
      exact this
  · rcases split pre e post h with ⟨rfl, rfl, rfl⟩ | ⟨p, rfl, hw⟩
    · obtain ⟨y, hy, e'⟩ := List.mem_map.mp hx
      cases e'
      obtain ⟨i, hi, rfl⟩ := List.mem_map.mp hy
      have hi := List.mem_range.mp hi
      obtain ⟨m, em, _, pl⟩ := b.wid
      rw [hn] at em; cases em
      obtain ⟨z, hz, hfz⟩ := pl i hi
      rw [List.getD_eq_getElem?_getD, hz]
      simp only [Option.getD_some]
      rw [← g.sol _ z hz hfz]
      exact size_arg b hn hi
    · have o := t.ord (.visit c :: p) e post (by rw [hw]; rfl)
      rcases List.mem_append.mp hx with hx | hx
      · have oc := o c (by simp)
        obtain ⟨y, hy, e'⟩ := List.mem_map.mp hx
        cases e'
        obtain ⟨i, hi, rfl⟩ := List.mem_map.mp hy
        have hi := List.mem_range.mp hi
        obtain ⟨m, em, _, pl⟩ := b.wid
        rw [hn] at em; cases em
        obtain ⟨z, hz, hfz⟩ := pl i hi
        rw [List.getD_eq_getElem?_getD, hz]
        simp only [Option.getD_some]
        rw [← g.sol _ z hz hfz]
        have := size_arg (δ := δ) b hn hi
        rw [hv] at oc
        lia
      · simp at hx
        exact o x (by simp [hx])
  · have h : (a, some u) ∈ K := by simpa using h
    exact t.kn a u h e be he
  · rcases List.mem_append.mp h with h | h
    · obtain ⟨e, he, h2⟩ := t.kn0 a h
      simp at he
      exact ⟨e, by simp [he], h2⟩
    · simp at h
      exact ⟨d, by simp, h.symm⟩
  · rw [List.map_append, List.nodup_append]
    refine ⟨t.ks.1, by simp, fun u hu v hv' => ?_⟩
    simp at hv'; subst hv'
    rintro rfl; exact hk hu
  · intro a ha
    simp at ha
    rcases ha with ha | rfl
    · exact t.ks.2 a (by simpa using ha)
    · exact b.mem

theorem TakeI.memo {c0 c d : Cell} {l0 l : List Nat} {K : List (Nat × Option Tm)} {R : List Tm} {ws : List It} (t : TakeI H F B δ c0 l0 K R l (.visit c :: ws)) (b : Blk H F B d) (hv : valC H F δ c = valC H F δ d) {u : Tm} (hu : (d.addr, some u) ∈ K) :
    TakeI H F B δ c0 l0 K (R ++ [u]) l ws := by
  have h := t.leaf
  obtain ⟨h1, h2⟩ := t.kn _ u hu d b rfl
  rw [occ_id _ l (by rw [hv]; exact h2), hv, ← h1] at h
  exact h

noncomputable def bldT (H : List Cell) (d : Cell) (n : Nat) (R : List Tm) : Tm := .app ((fnAt H d).getD 0) (R.drop (R.length - n))

noncomputable def setK (K : List (Nat × Option Tm)) (a : Nat) (u : Tm) : List (Nat × Option Tm) := K.map fun p => if p.1 = a then (p.1, some u) else p

theorem setK_fst (K : List (Nat × Option Tm)) (a : Nat) (u : Tm) : (setK K a u).map Prod.fst = K.map Prod.fst := by
  unfold setK
  rw [List.map_map]
  apply List.map_congr_left
  intro p _
  simp only [Function.comp]
  split <;> rfl

theorem TakeI.build {c0 d : Cell} {l0 l : List Nat} {K : List (Nat × Option Tm)} {R : List Tm} {ws : List It} (t : TakeI H F B δ c0 l0 K R l (.build d :: ws)) {f n : Nat} (hn : width H F d = some n) (hf : fnAt H d = some f) :
    n ≤ R.length ∧ TakeI H F B δ c0 l0 (setK K d.addr (bldT H d n R)) (R.take (R.length - n) ++ [bldT H d n R]) l ws := by
  obtain ⟨b, hvar, hargs⟩ := t.bld [] d ws rfl
  obtain ⟨R0, hR⟩ := hargs n hn
  simp only [exec_, List.foldl_nil] at hvar hR
  have hl : R.length = R0.length + n := by rw [hR]; simp
  have hu : bldT H d n R = ren l (valC H F δ d) := by
    unfold bldT
    rw [hl, show R0.length + n - n = R0.length by lia, hR, List.drop_left' rfl, valC_blk b hf hn, hf]
    simp only [ren, Tm.sub, Tm.subs_map, List.map_map, Option.getD_some]
    rfl
  have st1 : stepI H F δ (.build d) (R, l) = (R.take (R.length - n) ++ [bldT H d n R], l) := by
    simp only [stepI, hn, Option.getD_some]; rfl
  refine ⟨by lia, ?_, fun c hc => t.vis c (by simp [hc]), fun pre e post h => ?_, fun pre e post h c hc => ?_, fun a u h e be he => ?_, fun a h => ?_, ?_, ?_⟩
  · have := t.fin
    rw [exec_cons, st1] at this
    exact this
  · have := t.bld (.build d :: pre) e post (by rw [h]; rfl)
    rw [exec_cons, st1] at this
    exact this
  · exact t.ord (.build d :: pre) e post (by rw [h]; rfl) c (by simp [hc])
  · obtain ⟨p, hp, e'⟩ := List.mem_map.mp h
    split at e'
    · rename_i hpa
      cases e'
      have : e = d := same_blk be b (by rw [he, hpa])
      subst this
      exact ⟨hu, hvar⟩
    · subst e'; exact t.kn a u hp e be he
  · obtain ⟨p, hp, e'⟩ := List.mem_map.mp h
    split at e'
    · cases e'
    · rename_i hne
      subst e'
      obtain ⟨e, he, ha⟩ := t.kn0 a hp
      simp at he
      rcases he with rfl | he
      · exact (hne ha.symm).elim
      · exact ⟨e, he, ha⟩
  · rw [setK_fst]; exact t.ks.1
  · rw [setK_fst]; exact t.ks.2
end

set_option tactic.hygienic true

set_option tactic.hygienic false

noncomputable def numD (k : Nat) : List Nat → List (Int × MV)
  | [] => []
  | a :: r => ((a : Int), .int (k : Nat)) :: numD (k + 1) r

theorem numD_len (k : Nat) (l : List Nat) : (numD k l).length = l.length := by
  induction l generalizing k with
  | nil => rfl
  | cons a r ih => simp [numD, ih]
theorem numD_app (k : Nat) (l m : List Nat) : numD k (l ++ m) = numD k l ++ numD (k + l.length) m := by
  induction l generalizing k with
  | nil => simp [numD]
  | cons a r ih => simp [numD, ih]; congr 1; lia
theorem numD_look (k : Nat) (l : List Nat) (a : Nat) : lookM (numD k l) (a : Int) = if a ∈ l then some (.int ((k + l.idxOf a : Nat) : Int)) else none := by
  induction l generalizing k with
  | nil => simp [numD, lookM]
  | cons b r ih =>
    by_cases e : b = a
    · subst e; simp [numD, lookM]
    · have e' : ¬ (b : Int) = (a : Int) := by lia
      have := ih (k + 1)
      unfold lookM at this ⊢
      simp only [numD, List.find?_cons, e', decide_false]
      rw [this]
      have hne : ¬ a = b := fun q => e q.symm
      by_cases h : a ∈ r
      · have e2 : (b == a) = false := by simp [e]
        simp [h, hne, List.idxOf_cons, e2]; lia
      · simp [h, hne]
theorem numD_put (l : List Nat) (a : Nat) (h : a ∉ l) : putM (numD 0 l) (a : Int) (.int (l.length : Nat)) = numD 0 (l ++ [a]) := by
  have hn := numD_look 0 l a
  rw [if_neg h] at hn
  unfold putM
  have : (numD 0 l).any (fun kv => decide (kv.1 = (a : Int))) = false := by
    unfold lookM at hn
    rw [Option.map_eq_none_iff, List.find?_eq_none] at hn
    rw [List.any_eq_false]
    intro e he; exact hn e he
  rw [this, numD_app]
  simp [numD]

noncomputable def kM (p : Nat × Option Tm) : Int × MV := ((p.1 : Int), match p.2 with | none => .none | some t => tmM t)

theorem kM_look {K : List (Nat × Option Tm)} (nd : (K.map Prod.fst).Nodup) {a : Nat} {u : Option Tm} (h : (a, u) ∈ K) : lookM (K.map kM) (a : Int) = some (kM (a, u)).2 := by
  induction K with
  | nil => simp at h
  | cons p r ih =>
    rw [List.map_cons, List.nodup_cons] at nd
    unfold lookM at ih ⊢
    rw [List.map_cons, List.find?_cons]
    rcases List.mem_cons.mp h with rfl | h
    · simp [kM]
    · have hne : ¬ p.1 = a := fun e => nd.1 (List.mem_map.mpr ⟨_, h, e.symm⟩)
      have e' : ¬ (kM p).1 = (a : Int) := by simp only [kM]; lia
      simp only [e', decide_false]
      exact ih nd.2 h
theorem kM_any (K : List (Nat × Option Tm)) (a : Nat) : (K.map kM).any (fun kv => decide (kv.1 = (a : Int))) = decide (a ∈ K.map Prod.fst) := by
  induction K with
  | nil => simp
  | cons p r ih =>
    rw [List.map_cons, List.any_cons, ih, List.map_cons]
    by_cases e : p.1 = a
    · simp [kM, e]
    · have e' : ¬ (p.1 : Int) = (a : Int) := by lia
      have e2 : ¬ a = p.1 := fun q => e q.symm
      simp [kM, e', e2]
theorem kM_isSome (K : List (Nat × Option Tm)) (a : Nat) : (lookM (K.map kM) (a : Int)).isSome = decide (a ∈ K.map Prod.fst) := by
  rw [← kM_any]
  unfold lookM
  rw [Option.isSome_map, Bool.eq_iff_iff, List.find?_isSome, List.any_eq_true]
theorem kM_new {K : List (Nat × Option Tm)} {a : Nat} (h : a ∉ K.map Prod.fst) : putM (K.map kM) (a : Int) .none = (K ++ [(a, none)]).map kM := by
  unfold putM
  rw [kM_any]
  simp only [h, decide_false, Bool.false_eq_true, if_false, List.map_append, List.map_cons, List.map_nil]
  rfl
theorem kM_set {K : List (Nat × Option Tm)} {a : Nat} (h : a ∈ K.map Prod.fst) (u : Tm) : putM (K.map kM) (a : Int) (tmM u) = (setK K a u).map kM := by
  unfold putM
  rw [kM_any]
  simp only [h, decide_true, if_true]
  unfold setK
  rw [List.map_map, List.map_map]
  apply List.map_congr_left
  intro p _
  simp only [Function.comp]
  by_cases e : p.1 = a
  · simp [kM, e]
  · have e' : ¬ (p.1 : Int) = (a : Int) := by lia
    simp [kM, e, e']

noncomputable def itM : It → MV
  | .visit c => .tup [.int 0, cM c]
  | .build c => .tup [.int 1, cM c]

theorem down_rev (n : Nat) : (down n).reverse = List.range n := by
  induction n with
  | zero => rfl
  | succ n ih => rw [down, List.reverse_cons, ih, List.range_succ]
theorem argsDown_rev (H : List Cell) (b n : Nat) : (argsDown H b n).reverse = argsUp H b n := by
  unfold argsDown argsUp
  rw [← List.map_reverse, down_rev]

structure TkAt (st s : Objs) (I : Ids) (J : SyIds) (x : Sto) (y : Sym) (tb : Nat) (K : List (Nat × Option Tm)) (R : List Tm) (l : List Nat) (ws : List It) : Prop where
  w : Wd s I J x y
  same : Same [tb] st s
  tb_ : s[tb]? = some (.dictI (numD 0 l))
  kn : s[st.length]? = some (.dictI (K.map kM))
  rs : s[st.length + 1]? = some (.list (R.map tmM))
  wk : s[st.length + 2]? = some (.list (ws.reverse.map itM))

section
variable {S : Sg} {st s : Objs} {I : Ids} {J : SyIds} {x : Sto} {y : Sym} {tb : Nat} {K : List (Nat × Option Tm)} {R : List Tm} {l : List Nat} {ws : List It}

theorem TkAt.upd (t : TkAt st s I J x y tb K R l ws) (w0 : Wd st I J x y) {k : Nat} (hk : st.length ≤ k) (o : MO) : Wd (s.set k o) I J x y ∧ Same [tb] st (s.set k o) := by
  have f := w0.free hk []
  refine ⟨t.w.other ⟨f.ne⟩, by rw [List.length_set]; exact t.same.len, fun i hi hx => ?_⟩
  rw [List.getElem?_set_ne (by lia)]; exact t.same.get i hi hx

theorem TkAt.setK_ (t : TkAt st s I J x y tb K R l ws) (w0 : Wd st I J x y) (htb : tb < st.length) (K' : List (Nat × Option Tm)) : TkAt st (s.set st.length (.dictI (K'.map kM))) I J x y tb K' R l ws := by
  obtain ⟨a, b⟩ := t.upd w0 (Nat.le_refl _) (.dictI (K'.map kM))
  refine ⟨a, b, ?_, ?_, ?_, ?_⟩
  · rw [List.getElem?_set_ne (by lia)]; exact t.tb_
  · rw [List.getElem?_set_self (List.getElem?_eq_some_iff.mp t.kn).1]
  · rw [List.getElem?_set_ne (by lia)]; exact t.rs
  · rw [List.getElem?_set_ne (by lia)]; exact t.wk
theorem TkAt.setR (t : TkAt st s I J x y tb K R l ws) (w0 : Wd st I J x y) (htb : tb < st.length) (R' : List Tm) : TkAt st (s.set (st.length + 1) (.list (R'.map tmM))) I J x y tb K R' l ws := by
  obtain ⟨a, b⟩ := t.upd w0 (k := st.length + 1) (by lia) (.list (R'.map tmM))
  refine ⟨a, b, ?_, ?_, ?_, ?_⟩
  · rw [List.getElem?_set_ne (by lia)]; exact t.tb_
  · rw [List.getElem?_set_ne (by lia)]; exact t.kn
  · rw [List.getElem?_set_self (List.getElem?_eq_some_iff.mp t.rs).1]
  · rw [List.getElem?_set_ne (by lia)]; exact t.wk
theorem TkAt.setW (t : TkAt st s I J x y tb K R l ws) (w0 : Wd st I J x y) (htb : tb < st.length) (ws' : List It) : TkAt st (s.set (st.length + 2) (.list (ws'.reverse.map itM))) I J x y tb K R l ws' := by
  obtain ⟨a, b⟩ := t.upd w0 (k := st.length + 2) (by lia) (.list (ws'.reverse.map itM))
  refine ⟨a, b, ?_, ?_, ?_, ?_⟩
  · rw [List.getElem?_set_ne (by lia)]; exact t.tb_
  · rw [List.getElem?_set_ne (by lia)]; exact t.kn
  · rw [List.getElem?_set_ne (by lia)]; exact t.rs
  · rw [List.getElem?_set_self (List.getElem?_eq_some_iff.mp t.wk).1]
theorem TkAt.setT (t : TkAt st s I J x y tb K R l ws) (f : Free st I J tb) (htb : tb < st.length) (l' : List Nat) : TkAt st (s.set tb (.dictI (numD 0 l'))) I J x y tb K R l' ws := by
  refine ⟨t.w.other ⟨f.ne⟩, t.same.trans (Same.set _ _ _), ?_, ?_, ?_, ?_⟩
  · rw [List.getElem?_set_self (List.getElem?_eq_some_iff.mp t.tb_).1]
  · rw [List.getElem?_set_ne (by lia)]; exact t.kn
  · rw [List.getElem?_set_ne (by lia)]; exact t.rs
  · rw [List.getElem?_set_ne (by lia)]; exact t.wk
theorem TkAt.app (t : TkAt st s I J x y tb K R l ws) (g : Objs) : TkAt st (s ++ g) I J x y tb K R l ws := by
  have h := Same.app s g
  exact ⟨t.w.app g, t.same.trans (h.weak (by simp)), h.at t.tb_ (by simp), h.at t.kn (by simp), h.at t.rs (by simp), h.at t.wk (by simp)⟩

inductive TkOp (S : Sg) (st s : Objs) (I : Ids) (J : SyIds) (x : Sto) (y : Sym) (tb : Nat) (K : List (Nat × Option Tm)) (R : List Tm) (l : List Nat) (ws : List It) (o m : Nat) (vs : List MV) (r : MV) : Prop
  | mk (s' : Objs) (h1 : ∀ Q : EP, methM S (.obj o) m vs s Q = Q r s') (h2 : TkAt st s' I J x y tb K R l ws) : TkOp S st s I J x y tb K R l ws o m vs r
theorem TkAt.pop {i : It} (t : TkAt st s I J x y tb K R l (i :: ws)) (w0 : Wd st I J x y) (htb : tb < st.length) (hl : ws.length + 1 ≤ lim) :
    TkOp S st s I J x y tb K R l ws (st.length + 2) 14 [] (itM i) := by
  refine ⟨_, fun Q => ?_, t.setW w0 htb ws⟩
  rw [meth_pop t.wk]
  simp [hl, opt_some]
theorem TkAt.pushR (t : TkAt st s I J x y tb K R l ws) (w0 : Wd st I J x y) (htb : tb < st.length) (hl : R.length ≤ lim) (u : Tm) :
    TkOp S st s I J x y tb K (R ++ [u]) l ws (st.length + 1) 13 [tmM u] .none := by
  refine ⟨_, fun Q => ?_, t.setR w0 htb (R ++ [u])⟩
  rw [meth_app t.rs]
  simp [hl]
theorem TkAt.pushW (t : TkAt st s I J x y tb K R l ws) (w0 : Wd st I J x y) (htb : tb < st.length) (hl : ws.length ≤ lim) (i : It) :
    TkOp S st s I J x y tb K R l (i :: ws) (st.length + 2) 13 [itM i] .none := by
  refine ⟨_, fun Q => ?_, t.setW w0 htb (i :: ws)⟩
  rw [meth_app t.wk]
  simp [hl]
end

set_option tactic.hygienic true

set_option tactic.hygienic false

section
variable {S : Sg} {st s : Objs} {I : Ids} {J : SyIds} {x : Sto} {y : Sym}

inductive C_take (vs : List MV) (st : Objs) (Q : EP) : Prop
  | mk (I : _) (J : _) (x : _) (y : _) (B : _) (δ : _) (tb : _) (c : _) (l : _) (h0 : vs = [.obj I.s, cM c, .obj tb]) (h1 : Wd st I J x y) (h2 : WF x.H y.F B) (h3 : Gen x.H y.F δ) (h4 : okC x.H y.F B c) (h5 : st[tb]? = some (.dictI (numD 0 l))) (h6 : Free st I J tb) (h7 : (l.Nodup ∧ ∀ a ∈ l, Root x.H a)) (h8 : B.length ≤ 100) (h9 : (∀ p ∈ y.F, 0 ≤ p.2)) (h10 : ∀ st' l', l' = occ l (valC x.H y.F δ c) → (l'.Nodup ∧ ∀ a ∈ l', Root x.H a) → Wd st' I J x y → Same [tb] st st' → st'[tb]? = some (.dictI (numD 0 l')) → Q (tmM (ren l' (valC x.H y.F δ c))) st') : C_take vs st Q


inductive TInv (st : Objs) (I : Ids) (J : SyIds) (x : Sto) (y : Sym) (tb : Nat) (B : List Nat) (δ : Nat → Tm) (c0 : Cell) (l0 : List Nat) (n : Nat) (loc : List MV) (s : Objs) : Prop
  | mk (K : List (Nat × Option Tm)) (R : List Tm) (l : List Nat) (ws : List It) (u v6 v7 v8 v9 v10 v11 v12 : MV) (ta : TkAt st s I J x y tb K R l ws) (ti : TakeI x.H y.F B δ c0 l0 K R l ws) (hl : l.Nodup ∧ ∀ a ∈ l, Root x.H a) (hlen : R.length + ws.length ≤ 1 + 6 * K.length) (hbk : ∀ d, .build d ∈ ws → d.addr ∈ K.map Prod.fst)
      (hloc : loc = [.obj I.s, u, .obj tb, .obj st.length, .obj (st.length + 1), .obj (st.length + 2), v6, v7, v8, v9, v10, v11, v12]) (hn : n = ws.length + 7 * (B.length - K.length)) : TInv st I J x y tb B δ c0 l0 n loc s

inductive TPush (st : Objs) (I : Ids) (J : SyIds) (x : Sto) (y : Sym) (tb : Nat) (K : List (Nat × Option Tm)) (R : List Tm) (l : List Nat) (ws : List It) (d : Cell) (n : Nat) (v6 v7 v8 v9 v10 : MV) (k : Nat) (loc : List MV) (s : Objs) : Prop
  | mk (v12 : MV) (ta : TkAt st s I J x y tb K R l (((argsDown x.H d.base n).take k).reverse.map .visit ++ .build d :: ws))
      (hl : loc = [.obj I.s, cM d, .obj tb, .obj st.length, .obj (st.length + 1), .obj (st.length + 2), v6, v7, v8, v9, v10, .int d.base, v12]) : TPush st I J x y tb K R l ws d n v6 v7 v8 v9 v10 k loc s

theorem K_len {H : List Cell} {F : Fun} {B : List Nat} {δ : Nat → Tm} {c0 : Cell} {l0 l : List Nat} {K : List (Nat × Option Tm)} {R : List Tm} {ws : List It} (t : TakeI H F B δ c0 l0 K R l ws) : K.length ≤ B.length := by
  have := nodup_len t.ks.1 t.ks.2
  simpa using this

theorem root_len {H : List Cell} {l : List Nat} (h : l.Nodup ∧ ∀ a ∈ l, Root H a) : l.length ≤ H.length := by
  have := nodup_len (B := List.range H.length) h.1 (fun a ha => List.mem_range.mpr (h.2 a ha).lt)
  simpa using this

theorem eq01 : eqM st (.int 0) (.int 1) = some false := by rw [eqM_int]; rfl
theorem eq11 : eqM st (.int 1) (.int 1) = some true := by rw [eqM_int]; rfl
theorem isNone_tm (t : Tm) : isNoneM (tmM t) = some false := by cases t <;> rfl

theorem TkAt.setKn {st s : Objs} {tb : Nat} {K : List (Nat × Option Tm)} {R : List Tm} {l : List Nat} {ws : List It} (t : TkAt st s I J x y tb K R l ws) (hl : (K.map kM).length ≤ lim) {a : Nat} (h : a ∈ K.map Prod.fst) (u : Tm) : setSubM s (.obj st.length) (.int a) (tmM u) = some (s.set st.length (.dictI ((setK K a u).map kM))) := by
  rw [setD t.kn, if_pos hl, kM_set h]
theorem TkAt.newKn {st s : Objs} {tb : Nat} {K : List (Nat × Option Tm)} {R : List Tm} {l : List Nat} {ws : List It} (t : TkAt st s I J x y tb K R l ws) (hl : (K.map kM).length ≤ lim) {a : Nat} (h : a ∉ K.map Prod.fst) : setSubM s (.obj st.length) (.int a) .none = some (s.set st.length (.dictI ((K ++ [(a, none)]).map kM))) := by
  rw [setD t.kn, if_pos hl, kM_new h]

theorem comp_tag {c : Cell} (h : c.isComp = true) : ¬ c.tag = 0 ∧ ¬ c.tag = 4 ∧ ¬ c.tag = 5 := by
  cases c <;> simp [Cell.isComp] at h <;> simp [Cell.tag]

theorem fn_of {H : List Cell} {F : Fun} {B : List Nat} {d : Cell} (bd : Blk H F B d) : ∃ f, fnAt H d = some f := by
  cases d with
  | str a => obtain ⟨f, hf, _⟩ := bd.str a rfl; exact ⟨f, by simp only [fnAt, hf]⟩
  | lis a => exact ⟨0, rfl⟩
  | _ => cases bd.comp
theorem setK_len (K : List (Nat × Option Tm)) (a : Nat) (u : Tm) : (setK K a u).length = K.length := List.length_map _

theorem f_take (hM : S.M = mt) (hG : Has S 257 C_globalise) (hD : Has S 229 C_deref) (hF : Has S 292 C_functor_of) (hW : Has S 299 C_width) (hB : Has S 306 C_base) {vs : List MV} {Q : EP} (h : C_take vs st Q) : vs.length = 3 ∧ wpF S b_Store_take_term (frame ns_Store_take_term vs) st Q := by
  obtain ⟨I, J, x, y, B, δ, tb, c0, l0, rfl, w0, wf, g, ok0, htb, fr, hl0, hBl, hp, q⟩ := h
  refine ⟨rfl, ?_⟩
  unfold b_Store_take_term
  have tlt := (List.getElem?_eq_some_iff.mp htb).1
  have E0 := D_end wf c0 ok0
  have v0 := g.sol.D wf c0 ok0
  walk_at "f"
  refine e_dictI ?_
  have w1 : Wd (st ++ [MO.dictI []] ++ [MO.list []]) I J x y := (w0.app _).app _
  walk_at "m"
  refine hG _ _ _ ⟨I, J, x, y, c0, rfl, w1, wf.down, ok0.inH, ?_⟩
  have e1 : (st ++ [MO.dictI []]).length = st.length + 1 := List.length_append
  have e2 : (st ++ [MO.dictI []] ++ [MO.list []]).length = st.length + 2 := by rw [List.length_append, e1]; rfl
  have hinit : TkAt st (st ++ [.dictI []] ++ [.list []] ++ [.list [.tup [.int 0, cM (D x.H c0)]]]) I J x y tb [] [] l0 [.visit (D x.H c0)] :=
    ⟨w1.app _, (((Same.app _ _).trans (Same.app _ _)).trans (Same.app _ _)).weak (fun j hj => by cases hj), ((Same.app _ _).at ((Same.app _ _).at ((Same.app _ _).at htb (fun h => by cases h)) (fun h => by cases h)) (fun h => by cases h)),
      (Same.app _ _).at ((Same.app _ _).at (get_last _ _) (fun h => by cases h)) (fun h => by cases h), by rw [← e1]; exact (Same.app _ _).at (get_last _ _) (fun h => by cases h), by rw [← e2]; exact get_last _ _⟩
  have q' : ∀ st', Wd st' I J x y → Same [tb] st st' → ∀ l' R, (R = [ren (occ l0 (valC x.H y.F δ (D x.H c0))) (valC x.H y.F δ (D x.H c0))] ∧ l' = occ l0 (valC x.H y.F δ (D x.H c0))) → (l'.Nodup ∧ ∀ a ∈ l', Root x.H a) → st'[tb]? = some (.dictI (numD 0 l')) → Q (tmM (ren l' (valC x.H y.F δ c0))) st' := fun st' w' s' l' R e hl e' => by
    rw [v0] at e
    exact q st' l' e.2 hl w' s' e'
  walk_at "m"
  refine s_wh ⟨TInv st I J x y tb B δ (D x.H c0) l0, ⟨_, [], [], l0, _, _, _, _, _, _, _, _, _, hinit, TakeI.start E0.1, hl0, Nat.le_refl 1, fun d hd => (by cases hd with | tail _ h => cases h), by rw [e1, e2]; rfl, rfl⟩, ?_⟩
  clear hinit q e1 e2 w1
  rintro n _ s ⟨K, R, l, ws, u, v6, v7, v8, v9, v10, v11, v12, ta, ti, hl, hlen, hbk, rfl, hn⟩
  have hK := K_len ti
  have hll := root_len hl
  have hHl := ta.w.W.lenH
  have hlenw : callB .len [.obj (st.length + 2)] s = some (.int ws.length, s) := by
    rw [len_list ta.wk (by rw [List.length_map, List.length_reverse]; unfold lim; lia), List.length_map, List.length_reverse]
  walk_at "m"
  cases ws with
  | nil =>
    have dn := ti.done
    have hsub : subM s (.obj (st.length + 1)) (.int 0) = some (tmM (ren l (valC x.H y.F δ c0))) := by
      rw [subL ta.rs, dn.1, dn.2, v0, if_pos ⟨by decide, by unfold big; decide⟩]; rfl
    refine s_KW0 rfl ?_
    walk_at "m"
    exact q' s ta.w ta.same l R dn hl ta.tb_
  | cons i ws =>
  have mvp : mval S (.obj (st.length + 2)) 14 s = some (.builtin "list.pop") := mval_pop ta.wk
  rw [List.length_cons] at hlen hn
  have hws : R.length + ws.length + 1 ≤ 601 := by lia
  obtain ⟨s1, pop, t1⟩ := ta.pop (S := S) w0 tlt (by unfold lim; lia)
  have hKl : (K.map kM).length ≤ lim := by rw [List.length_map]; unfold lim; lia
  have hRl : R.length ≤ lim := by unfold lim; lia
  have hlt : l.length ≤ lim := by unfold lim; lia
  have wd1 := t1.w
  have go : ∀ s2 K2 R2 l2 ws2 u' a6 a7 a8 a9 a10 a11 a12, TkAt st s2 I J x y tb K2 R2 l2 ws2 → TakeI x.H y.F B δ (D x.H c0) l0 K2 R2 l2 ws2 → (l2.Nodup ∧ ∀ a ∈ l2, Root x.H a) → R2.length + ws2.length ≤ 1 + 6 * K2.length → (∀ d, .build d ∈ ws2 → d.addr ∈ K2.map Prod.fst) → ws2.length + 7 * (B.length - K2.length) < n →
      ∃ m, m < n ∧ TInv st I J x y tb B δ (D x.H c0) l0 m [.obj I.s, u', .obj tb, .obj st.length, .obj (st.length + 1), .obj (st.length + 2), a6, a7, a8, a9, a10, a11, a12] s2 :=
    fun s2 K2 R2 l2 ws2 u' a6 a7 a8 a9 a10 a11 a12 a b c d b' e => ⟨_, e, K2, R2, l2, ws2, u', a6, a7, a8, a9, a10, a11, a12, a, b, c, d, b', rfl, rfl⟩
  have go1 : ∀ s2 l2 t u' a6 a7 a8 a9 a10 a11 a12, TkAt st s2 I J x y tb K (R ++ [t]) l2 ws → TakeI x.H y.F B δ (D x.H c0) l0 K (R ++ [t]) l2 ws → (l2.Nodup ∧ ∀ a ∈ l2, Root x.H a) →
      ∃ m, m < n ∧ TInv st I J x y tb B δ (D x.H c0) l0 m [.obj I.s, u', .obj tb, .obj st.length, .obj (st.length + 1), .obj (st.length + 2), a6, a7, a8, a9, a10, a11, a12] s2 :=
    fun s2 l2 t u' a6 a7 a8 a9 a10 a11 a12 a b c => go s2 K _ l2 ws u' a6 a7 a8 a9 a10 a11 a12 a b c (by rw [List.length_append, List.length_singleton]; lia) (fun e he => hbk e (.tail _ he)) (by lia)
  refine s_KW1 (dt (by rw [List.length_cons]; lia)) ?_
  walk_at "m"
  refine ⟨mvp, (pop _).mpr ?_⟩
  cases i with
  | build d =>
    have bd := (ti.bld [] d ws rfl).1
    obtain ⟨k, hk, hk5, _⟩ := bd.wid
    obtain ⟨f, hf⟩ := fn_of bd
    obtain ⟨hkR, tb2⟩ := ti.build hk hf
    have hin : d.addr ∈ K.map Prod.fst := hbk d (.head _)
    walk_at "m"
    refine hF _ _ _ ⟨I, J, x, y, d, f, rfl, t1.w, hf, ?_⟩
    have hlenr : callB .len [.obj (st.length + 1)] s1 = some (.int R.length, s1) := by
      rw [len_list t1.rs (by rw [List.length_map]; exact hRl), List.length_map]
    walk_at "m"
    refine hW _ _ _ ⟨I, J, x, y, d, k, rfl, t1.w, hk, hp, ?_⟩
    have hbin : binM .Sub (.int R.length) (.int k) s1 = some (.int ((R.length - k : Nat) : Int), s1) := by rw [Int.ofNat_sub hkR]; rfl
    obtain ⟨m, hm⟩ : ∃ m, R.length - k = m := ⟨_, rfl⟩
    rw [hm] at hbin
    have hmR : m ≤ R.length := by lia
    have hlist : listS S s1 (.obj (st.length + 1)) = some (R.map tmM) := by
      show listM s1 (.obj (st.length + 1)) = _; rw [listU t1.rs, if_pos (by rw [List.length_map]; exact hRl)]
    have hslc : slcL (R.map tmM) (.int m) .none .none = some ((R.drop m).map tmM) := by
      unfold slcL; simp only
      rw [if_pos ⟨Int.natCast_nonneg m, by unfold big; lia⟩, Int.toNat_natCast, List.map_drop]
    have htup : callB .tuple [.obj s1.length] (s1 ++ [.list ((R.drop m).map tmM)]) = some (.tup ((R.drop m).map tmM), s1 ++ [.list ((R.drop m).map tmM)]) := by
      have h2 : ((R.drop m).map tmM).length ≤ lim := by rw [List.length_map, List.length_drop]; unfold lim; lia
      exact tupL ((listU (get_last _ _)).trans (if_pos h2))
    have hterm : MV.tup [.str (Str.ofString "s"), .int f, .tup ((R.drop m).map tmM)] = tmM (bldT x.H d k R) := by
      unfold bldT; rw [hf, hm]; simp only [tmM, Option.getD_some, tmsM_map]
    have t2 := t1.app [.list ((R.drop m).map tmM)]
    have t3 := t2.setR w0 tlt (R.take m)
    have t4 := t3.setK_ w0 tlt (setK K d.addr (bldT x.H d k R))
    obtain ⟨s5, push, t5⟩ := t4.pushR (S := S) w0 tlt (by rw [List.length_take]; unfold lim; lia) (bldT x.H d k R)
    walk_at "m"
    refine k_del t2.rs (by rw [List.length_map]; exact hmR) (by rw [List.length_map]; exact hRl) ?_
    rw [← List.map_take]
    have hset := t3.setKn hKl hin (bldT x.H d k R)
    rw [← hterm, ← addr_num bd.comp] at hset
    have mva := mval_app (S := S) t4.rs
    rw [← hterm] at push
    walk_at "m"
    refine ⟨mva, (push _).mpr ?_⟩
    walk_at "m"
    rw [hm] at tb2
    refine go s5 _ _ _ ws _ _ _ _ _ _ _ _ t5 tb2 hl ?_ ?_ ?_
    · rw [setK_len, List.length_append, List.length_take, List.length_singleton]; lia
    · intro e he; rw [setK_fst]; exact hbk e (.tail _ he)
    · rw [hn, setK_len]; lia
  | visit c =>
    have okc := ti.vis c (.head _)
    have Ec := D_end wf c okc
    have vc := g.sol.D wf c okc
    have mva : mval S (.obj (st.length + 1)) 13 s1 = some (.builtin "list.append") := mval_app t1.rs
    have leaf := ti.leaf
    rw [← vc] at leaf
    have deref : ∀ d, D x.H c = d → ∀ Q : EP, Q (cM d) s1 → S.C 229 [.obj I.s, cM c] s1 Q := fun d e Q h => hD _ _ _ ⟨I, J, x, y, c, rfl, t1.w, wf.down, okc.inH, e ▸ h⟩
    walk_at "m"
    generalize hdc : D x.H c = d at *
    by_cases hcmp : d.isComp = true
    case pos =>
      refine deref d rfl _ ?_
      have bd := blk_of Ec.1 hcmp
      obtain ⟨t0, t4, t5⟩ := comp_tag hcmp
      have hv : valC x.H y.F δ c = valC x.H y.F δ d := vc.symm
      obtain ⟨k, hk, hk5, _⟩ := bd.wid
      obtain ⟨f, hf⟩ := fn_of bd
      have hnum := addr_num hcmp
      have hkin : cmpM s1 .In (.int d.num) (.obj st.length) = some (decide (d.addr ∈ K.map Prod.fst)) := by
        rw [hnum, inU t1.kn, kM_isSome]
      walk_at "m"
      refine s_KI0 (df t0) ?_
      walk_at "m"
      refine s_KI0 (df t4) ?_
      walk_at "m"
      refine s_KI0 (df t5) ?_
      walk_at "m"
      by_cases hin : d.addr ∈ K.map Prod.fst
      · obtain ⟨p, hp1, hp2⟩ := List.mem_map.mp hin
        obtain ⟨a, u'⟩ := p
        have hp2 : a = d.addr := hp2
        subst hp2
        cases u' with
        | none => exact (ti.fresh bd hv hp1).elim
        | some t =>
          have t2i := ti.memo bd hv hp1
          obtain ⟨s2, push, t2⟩ := t1.pushR (S := S) w0 tlt hRl t
          have hsub : subM s1 (.obj st.length) (.int d.num) = some (tmM t) := by
            rw [hnum, subD t1.kn, kM_look ti.ks.1 hp1]; rfl
          have hno : cmpM s1 .Is (tmM t) .none = some false := by unfold cmpM; exact isNone_tm t
          refine s_KI1 (dt hin) ?_
          walk_at "m"
          refine ⟨mva, (push _).mpr ?_⟩
          walk_at "m"
          exact go1 s2 _ _ _ _ _ _ _ _ _ _ t2 t2i hl
      · have t2i := ti.openUp wf g bd hv hk hf hin
        have hset := t1.newKn hKl hin
        rw [← hnum] at hset
        have t2 := t1.setK_ w0 tlt (K ++ [(d.addr, none)])
        generalize s1.set st.length (.dictI ((K ++ [(d.addr, none)]).map kM)) = s2 at hset t2
        obtain ⟨s3, push, t3⟩ := t2.pushW (S := S) w0 tlt (by unfold lim; lia) (.build d)
        have mvw : mval S (.obj (st.length + 2)) 13 s2 = some (.builtin "list.append") := mval_app t2.wk
        have hKn : (K ++ [(d.addr, (none : Option Tm))]).length ≤ B.length := K_len t2i
        rw [List.length_append, List.length_singleton] at hKn
        have w3 := t3.w
        refine s_KI0 (df hin) ?_
        walk_at "m"
        refine ⟨mvw, (push _).mpr ?_⟩
        walk_at "m"
        refine hB _ _ _ ⟨_, d, rfl, hcmp, ?_⟩
        walk_at "m"
        refine hW _ _ _ ⟨I, J, x, y, d, k, rfl, t3.w, hk, hp, ?_⟩
        have hr := range_down (st := s3) k (by lia)
        have hi := items_down (st := s3) k (by lia)
        walk_at "m"
        refine ⟨by rw [List.length_map, down_len]; unfold lim; lia, TPush st I J x y tb (K ++ [(d.addr, none)]) R l ws d k (.int 0) v7 v8 v9 (.int d.tag), ⟨v12, t3, rfl⟩, ?_⟩
        rintro j _ s4 ⟨v12, t4', rfl⟩
        have fit := base_fit bd hk
        refine ⟨items_down k (by lia), ?_⟩
        by_cases hj : j < k
        · have hd' := down_get hj
          have hargs : (argsDown x.H d.base k)[j]? = some (x.H.getD (d.base + (k - 1 - j)) (.con 0)) := by unfold argsDown; rw [List.getElem?_map, hd']; rfl
          have hcell := t4'.w.arg (b := d.base) (m := k - 1 - j) (by lia)
          have a2 := t4'.w.W.a2
          have mvw4 : mval S (.obj (st.length + 2)) 13 s4 = some (.builtin "list.append") := mval_app t4'.wk
          obtain ⟨s5, push5, t5'⟩ := t4'.pushW (S := S) w0 tlt (by rw [List.length_append, List.length_map, List.length_reverse, List.length_take, List.length_cons]; unfold lim; lia) (.visit (x.H.getD (d.base + (k - 1 - j)) (.con 0)))
          refine f_some (x := .int (k - 1 - j : Nat)) (by rw [List.getElem?_map, hd']; rfl) ?_
          walk_at "m"
          refine ⟨mvw4, (push5 _).mpr ?_⟩
          walk_at "m"
          refine ⟨_, ?_, rfl⟩
          rw [List.take_add_one, hargs, Option.toList_some, List.reverse_append, List.reverse_singleton, List.map_append]
          exact t5'
        · refine f_none (by rw [List.length_map, down_len]; exact hj) ?_
          rw [List.length_map, down_len]
          rintro rfl
          have hal : (argsDown x.H d.base j).length = j := by unfold argsDown; rw [List.length_map, down_len]
          rw [List.take_of_length_le (Nat.le_of_eq hal), argsDown_rev] at t4'
          have hau : (argsUp x.H d.base j).length = j := by unfold argsUp; rw [List.length_map, List.length_range]
          walk_at "m"
          refine go s4 _ _ _ _ _ _ _ _ _ _ _ _ t4' t2i hl ?_ ?_ ?_
          · rw [List.length_append, List.length_map, hau, List.length_cons, List.length_append, List.length_singleton]; lia
          · intro e he
            rw [List.map_append]
            rcases List.mem_append.mp he with he | he
            · obtain ⟨z, _, hz⟩ := List.mem_map.mp he
              cases hz
            · rcases List.mem_cons.mp he with he | he
              · cases he; exact List.mem_append.mpr (.inr (.head _))
              · exact List.mem_append.mpr (.inl (hbk e (.tail _ he)))
          · rw [hn, List.length_append, List.length_map, hau, List.length_cons, List.length_append, List.length_singleton]
            lia
    case neg =>
    cases d with
    | ref a =>
      have ra : Root x.H a := by
        rcases Ec.2.1 with ⟨b, hb, rb⟩ | h
        · cases hb; exact rb
        · exact (h a rfl).elim
      have hv : valC x.H y.F δ (.ref a) = .var a := g.root a ra
      rw [hv] at leaf
      have htin : cmpM s1 .NotIn (.int a) (.obj tb) = some (!decide (a ∈ l)) := by
        rw [ninU t1.tb_, numD_look]
        by_cases h : a ∈ l
        · rw [if_pos h, dt h]; rfl
        · rw [if_neg h, df h]; rfl
      refine deref _ rfl _ ?_
      walk_at "m"
      by_cases hal : a ∈ l
      · have hocc : occ l (.var a) = l := by unfold occ; rw [if_pos hal]
        rw [hocc] at leaf
        obtain ⟨s2, push, t2⟩ := t1.pushR (S := S) w0 tlt hRl (.var (l.idxOf a))
        have hsub : subM s1 (.obj tb) (.int a) = some (.int (l.idxOf a)) := by
          rw [subD t1.tb_, numD_look, if_pos hal, Nat.zero_add]
        refine s_KI0 (by rw [dt hal]; rfl) ?_
        walk_at "m"
        refine ⟨mva, (push _).mpr ?_⟩
        walk_at "m"
        exact go1 s2 _ _ _ _ _ _ _ _ _ _ t2 leaf hl
      · have hocc : occ l (.var a) = l ++ [a] := by unfold occ; rw [if_neg hal]
        rw [hocc] at leaf
        have t1' := t1.setT fr tlt (l ++ [a])
        have hset : setSubM s1 (.obj tb) (.int a) (.int l.length) = some (s1.set tb (.dictI (numD 0 (l ++ [a])))) := by
          rw [setD t1.tb_, if_pos (by rw [numD_len]; exact hlt), numD_put l a hal]
        have hlent : callB .len [.obj tb] s1 = some (.int l.length, s1) := by
          rw [lenD t1.tb_, if_pos (by rw [numD_len]; exact hlt), numD_len]
        have hl2 : (l ++ [a]).Nodup ∧ ∀ b ∈ l ++ [a], Root x.H b := by
          refine ⟨?_, fun b hb => ?_⟩
          · rw [List.nodup_append]; exact ⟨hl.1, List.pairwise_singleton _ _, fun u hu v hv' => by rw [List.mem_singleton] at hv'; subst hv'; rintro rfl; exact hal hu⟩
          · rcases List.mem_append.mp hb with hb | hb
            · exact hl.2 b hb
            · rw [List.mem_singleton] at hb; subst hb; exact ra
        have hal2 : a ∈ l ++ [a] := List.mem_append.mpr (.inr (.head _))
        generalize l ++ [a] = l2 at t1' hset leaf hl2 hal2
        generalize s1.set tb (.dictI (numD 0 l2)) = s1' at t1' hset
        have mva' : mval S (.obj (st.length + 1)) 13 s1' = some (.builtin "list.append") := mval_app t1'.rs
        obtain ⟨s2, push, t2⟩ := t1'.pushR (S := S) w0 tlt hRl (.var (l2.idxOf a))
        have hsub : subM s1' (.obj tb) (.int a) = some (.int (l2.idxOf a)) := by
          rw [subD t1'.tb_, numD_look, if_pos hal2, Nat.zero_add]
        refine s_KI1 (by rw [df hal]; rfl) ?_
        walk_at "m"
        refine ⟨mva', (push _).mpr ?_⟩
        walk_at "m"
        exact go1 s2 _ _ _ _ _ _ _ _ _ _ t2 leaf hl2
    | con m =>
      obtain ⟨s2, push, t2⟩ := t1.pushR (S := S) w0 tlt hRl (.con m)
      refine deref _ rfl _ ?_
      walk_at "m"
      refine ⟨mva, (push _).mpr ?_⟩
      walk_at "m"
      exact go1 s2 _ _ _ _ _ _ _ _ _ _ t2 leaf hl
    | int m =>
      obtain ⟨s2, push, t2⟩ := t1.pushR (S := S) w0 tlt hRl (.num m)
      refine deref _ rfl _ ?_
      walk_at "m"
      refine ⟨mva, (push _).mpr ?_⟩
      walk_at "m"
      exact go1 s2 _ _ _ _ _ _ _ _ _ _ t2 leaf hl
    | fn m => exact Ec.1.elim
    | _ => exact (hcmp rfl).elim
end

set_option tactic.hygienic true

set_option tactic.hygienic false

section
variable {K : Type} [DecidableEq K]
theorem putM_none {D : List (K × MV)} {k : K} (h : lookM D k = none) (v : MV) : putM D k v = D ++ [(k, v)] := by
  unfold putM
  have : D.any (fun kv => decide (kv.1 = k)) = false := by
    unfold lookM at h
    rw [Option.map_eq_none_iff, List.find?_eq_none] at h
    rw [List.any_eq_false]
    intro e he; exact h e he
  rw [this]; rfl
theorem lookM_app (D : List (K × MV)) (k : K) (v : MV) (k' : K) : lookM (D ++ [(k, v)]) k' = match lookM D k' with | some w => some w | none => if k = k' then some v else none := by
  unfold lookM
  rw [List.find?_append]
  cases h : D.find? fun kv => decide (kv.1 = k') with
  | some p => simp
  | none => by_cases e : k = k' <;> simp [e]
end

structure SyExt (k : Nat) (y y' : Sym) : Prop where
  X : ∀ (i : Nat) t, y.X[i]? = some t → y'.X[i]? = some t
  F : ∀ (i : Nat) p, y.F[i]? = some p → y'.F[i]? = some p
  lx : y'.X.length ≤ y.X.length + k
  lf : y'.F.length ≤ y.F.length + k
  pos : (∀ p ∈ y.F, 0 ≤ p.2) → ∀ p ∈ y'.F, 0 ≤ p.2

theorem SyExt.refl (y : Sym) : SyExt 0 y y := ⟨fun _ _ h => h, fun _ _ h => h, Nat.le_refl _, Nat.le_refl _, fun h => h⟩
theorem SyExt.trans {k l : Nat} {a b c : Sym} (h : SyExt k a b) (h' : SyExt l b c) : SyExt (k + l) a c := ⟨fun i t e => h'.X i t (h.X i t e), fun i p e => h'.F i p (h.F i p e), by have := h.lx; have := h'.lx; lia, by have := h.lf; have := h'.lf; lia, fun p => h'.pos (h.pos p)⟩
theorem SyExt.more {k l : Nat} {a b : Sym} (h : SyExt k a b) (hl : k ≤ l) : SyExt l a b := ⟨h.X, h.F, by have := h.lx; lia, by have := h.lf; lia, h.pos⟩

section
variable {S : Sg} {st : Objs} {sy : Nat} {J : SyIds} {y : Sym}

structure SyNe (sy : Nat) (J : SyIds) : Prop where
  a : sy ≠ J.tx ∧ sy ≠ J.an ∧ sy ≠ J.fl ∧ sy ≠ J.fn
  b : J.tx ≠ J.an ∧ J.tx ≠ J.fl ∧ J.tx ≠ J.fn
  c : J.an ≠ J.fl ∧ J.an ≠ J.fn
  d : J.fl ≠ J.fn

theorem SymAt.ne (Y : SymAt st sy J y) : SyNe sy J := by
  obtain ⟨D, hD, _⟩ := Y.an
  obtain ⟨E, hE, _⟩ := Y.fn
  have h1 := Y.s
  have h2 := Y.tx
  have h3 := Y.fl
  refine ⟨⟨?_, ?_, ?_, ?_⟩, ⟨?_, Y.d, ?_⟩, ⟨?_, ?_⟩, ?_⟩
  · intro e; rw [e, h2] at h1; cases h1
  · intro e; rw [e, hD] at h1; cases h1
  · intro e; rw [e, h3] at h1; cases h1
  · intro e; rw [e, hE] at h1; cases h1
  · intro e; rw [e, hD] at h2; cases h2
  · intro e; rw [e, hE] at h2; cases h2
  · intro e; rw [e, h3] at hD; cases hD
  · intro e; rw [e, hE] at hD; cases hD
  · intro e; rw [e, hE] at h3; cases h3

theorem nodup_snoc {α : Type} {l : List α} {a : α} (h : l.Nodup) (n : a ∉ l) : (l ++ [a]).Nodup := by
  rw [List.nodup_append]
  exact ⟨h, by simp, fun u hu v hv => by simp at hv; subst hv; rintro rfl; exact n hu⟩

theorem gsn {α : Type} {l : List α} {a : α} {i : Nat} {b : α} (h : l[i]? = some b) : (l ++ [a])[i]? = some b := by
  rw [List.getElem?_append_left (List.getElem?_eq_some_iff.mp h).1]; exact h

theorem SymAt.newX (Y : SymAt st sy J y) (hl : y.X.length < 1000) {D : List (Str × MV)} (hD : st[J.an]? = some (.dictS D)) {t : Str} (ht : lookM D t = none) :
    SymAt ((st.set J.tx (.list ((y.X ++ [t]).map .str))).set J.an (.dictS (putM D t (.int (y.X.length : Nat))))) sy J { y with X := y.X ++ [t] } := by
  have N := Y.ne
  obtain ⟨D', hD', hDl, hs, hc⟩ := Y.an
  rw [hD] at hD'; cases hD'
  have ltx := (List.getElem?_eq_some_iff.mp Y.tx).1
  have lan := (List.getElem?_eq_some_iff.mp hD).1
  refine ⟨?_, ?_, ⟨_, by rw [List.getElem?_set_self (by simpa using lan)], ?_, fun k v h => ?_, fun k h => ?_⟩, ?_, ?_, by simp; lia, Y.lenF, nodup_snoc Y.ndX (hc t ht), Y.ndF, Y.d⟩
  · rw [List.getElem?_set_ne (Ne.symm N.a.2.1), List.getElem?_set_ne (Ne.symm N.a.1)]; exact Y.s
  · rw [List.getElem?_set_ne (Ne.symm N.b.1), List.getElem?_set_self ltx]
  · rw [putM_none ht]; simp; lia
  · rw [putM_none ht, lookM_app] at h
    cases e : lookM D k with
    | some w =>
      rw [e] at h; cases h
      obtain ⟨i, h1, h2⟩ := hs k _ e
      exact ⟨i, h1, gsn h2⟩
    | none =>
      rw [e] at h
      simp only at h
      split at h
      · rename_i e2; cases h; subst e2; exact ⟨y.X.length, rfl, by simp⟩
      · cases h
  · rw [putM_none ht, lookM_app] at h
    cases e : lookM D k with
    | some w => rw [e] at h; cases h
    | none =>
      rw [e] at h
      simp only at h
      split at h
      · cases h
      · rename_i hne
        simp only [List.mem_append, List.mem_singleton, not_or]
        exact ⟨hc k e, fun q => hne q.symm⟩
  · rw [List.getElem?_set_ne N.c.1, List.getElem?_set_ne N.b.2.1]; exact Y.fl
  · obtain ⟨E, hE, r⟩ := Y.fn
    exact ⟨E, by rw [List.getElem?_set_ne N.c.2, List.getElem?_set_ne N.b.2.2]; exact hE, r⟩

theorem SymAt.newF (Y : SymAt st sy J y) (hl : y.F.length < 1000) {D : List (List Int × MV)} (hD : st[J.fn]? = some (.dictT D)) {a n : Int} (ht : lookM D [a, n] = none) :
    SymAt ((st.set J.fl (.list ((y.F ++ [(a, n)]).map fM))).set J.fn (.dictT (putM D [a, n] (.int (y.F.length : Nat))))) sy J { y with F := y.F ++ [(a, n)] } := by
  have N := Y.ne
  obtain ⟨D', hD', hDl, hs, hc⟩ := Y.fn
  rw [hD] at hD'; cases hD'
  have ltx := (List.getElem?_eq_some_iff.mp Y.fl).1
  have lan := (List.getElem?_eq_some_iff.mp hD).1
  refine ⟨?_, ?_, ?_, ?_, ⟨_, by rw [List.getElem?_set_self (by simpa using lan)], ?_, fun k v h => ?_, fun k h b m hk => ?_⟩, Y.lenX, by simp; lia, Y.ndX, nodup_snoc Y.ndF (hc _ ht a n rfl), Y.d⟩
  · rw [List.getElem?_set_ne (Ne.symm N.a.2.2.2), List.getElem?_set_ne (Ne.symm N.a.2.2.1)]; exact Y.s
  · rw [List.getElem?_set_ne (Ne.symm N.b.2.2), List.getElem?_set_ne (Ne.symm N.b.2.1)]; exact Y.tx
  · obtain ⟨E, hE, r⟩ := Y.an
    exact ⟨E, by rw [List.getElem?_set_ne (Ne.symm N.c.2), List.getElem?_set_ne (Ne.symm N.c.1)]; exact hE, r⟩
  · rw [List.getElem?_set_ne (Ne.symm N.d), List.getElem?_set_self ltx]
  · rw [putM_none ht]; simp; lia
  · rw [putM_none ht, lookM_app] at h
    cases e : lookM D k with
    | some w =>
      rw [e] at h; cases h
      obtain ⟨i, a', n', h1, h2, h3⟩ := hs k _ e
      exact ⟨i, a', n', h1, h2, gsn h3⟩
    | none =>
      rw [e] at h
      simp only at h
      split at h
      · rename_i e2; cases h; subst e2; exact ⟨y.F.length, a, n, rfl, rfl, by simp⟩
      · cases h
  · rw [putM_none ht, lookM_app] at h
    cases e : lookM D k with
    | some w => rw [e] at h; cases h
    | none =>
      rw [e] at h
      simp only at h
      split at h
      · cases h
      · rename_i hne
        simp only [List.mem_append, List.mem_singleton, not_or]
        exact ⟨hc k e b m hk, fun q => hne (by cases q; exact hk.symm)⟩

inductive C_atom (vs : List MV) (st : Objs) (Q : EP) : Prop
  | mk (sy : _) (J : _) (y : _) (t : _) (h0 : vs = [.obj sy, .str t]) (h1 : SymAt st sy J y) (h2 : y.X.length < 1000) (h3 : ∀ st' y' i, SymAt st' sy J y' → SyExt 1 y y' → y'.F = y.F → y'.X[i]? = some t → Same [J.tx, J.an] st st' → st'.length = st.length → Q (.int (i : Nat)) st') : C_atom vs st Q


theorem f_atom {vs : List MV} {Q : EP} (h : C_atom vs st Q) : vs.length = 2 ∧ wpF S b_Symbols_atom (frame ns_Symbols_atom vs) st Q := by
  obtain ⟨sy, J, y, t, rfl, Y, hl, q⟩ := h
  refine ⟨rfl, ?_⟩
  unfold b_Symbols_atom
  obtain ⟨D, hD, hDl, hs, hc⟩ := Y.an
  have mvg : mval S (.obj J.an) 15 st = some (.builtin "dict.get") := mval_at hD
  have get : ∀ d (Q : EP), methM S (.obj J.an) 15 [.str t, d] st Q = Q ((lookM D t).getD d) st := fun d Q => by rw [methM_at hD]; exact propext ⟨fun ⟨_, _, e, z⟩ => by cases e; exact z, fun z => ⟨_, _, rfl, z⟩⟩
  have a8 := Y.a8
  walk_at "f"
  refine ⟨mvg, (get _ _).mpr ?_⟩
  cases e : lookM D t with
  | some v =>
    obtain ⟨i, rfl, hi⟩ := hs t v e
    rw [Option.getD_some]
    walk_at "m"
    exact q st y i Y (SyExt.refl y |>.more (Nat.zero_le 1)) rfl hi (Same.refl _ _) rfl
  | none =>
    have hlm : (y.X.map MV.str).length ≤ lim := by rw [List.length_map]; unfold lim; lia
    have hlen : callB .len [.obj J.tx] st = some (.int y.X.length, st) := by rw [len_list Y.tx hlm, List.length_map]
    have htx := Y.tx
    have mva : mval S (.obj J.tx) 13 st = some (.builtin "list.append") := mval_app Y.tx
    have N := Y.ne
    have Y1 := Y.newX hl hD e
    have a7 := Y.a7
    have a8' : attrM (st.set J.tx (.list (y.X.map .str ++ [.str t]))) (.obj sy) 8 = some (.obj J.an) := by
      exact attrU ((List.getElem?_set_ne (Ne.symm N.a.1)).trans Y.s) 8
    have hset : setSubM (st.set J.tx (.list (y.X.map .str ++ [.str t]))) (.obj J.an) (.str t) (.int (y.X.length : Nat)) = some ((st.set J.tx (.list (y.X.map .str ++ [.str t]))).set J.an (.dictS (putM D t (.int (y.X.length : Nat))))) := by
      rw [setS ((List.getElem?_set_ne N.b.1).trans hD), if_pos (by unfold lim; lia)]
    rw [List.map_append, List.map_singleton] at Y1
    have key := q _ _ y.X.length Y1 ⟨fun i u h => gsn h, fun i p h => h, by rw [List.length_append]; exact Nat.le_refl _, Nat.le_add_right _ _, fun h => h⟩ rfl (by rw [List.getElem?_append_right (Nat.le_refl _), Nat.sub_self]; rfl) ((Same.set _ _ _).l.trans (Same.set _ _ _).r) (by rw [List.length_set, List.length_set])
    rw [Option.getD_none]
    walk_at "m"
    exact key

inductive C_functor (vs : List MV) (st : Objs) (Q : EP) : Prop
  | mk (sy : _) (J : _) (y : _) (a : _) (n : _) (h0 : vs = [.obj sy, .int a, .int n]) (h1 : SymAt st sy J y) (h2 : y.F.length < 1000) (h3 : 0 ≤ n) (h4 : ∀ st' y' i, SymAt st' sy J y' → SyExt 1 y y' → y'.X = y.X → y'.F[i]? = some (a, n) → Same [J.fl, J.fn] st st' → st'.length = st.length → Q (.int (i : Nat)) st') : C_functor vs st Q


theorem f_functor {vs : List MV} {Q : EP} (h : C_functor vs st Q) : vs.length = 3 ∧ wpF S b_Symbols_functor (frame ns_Symbols_functor vs) st Q := by
  obtain ⟨sy, J, y, a, n, rfl, Y, hl, hn, q⟩ := h
  refine ⟨rfl, ?_⟩
  unfold b_Symbols_functor
  obtain ⟨D, hD, hDl, hs, hc⟩ := Y.fn
  have mvg : mval S (.obj J.fn) 15 st = some (.builtin "dict.get") := mval_at hD
  have get : ∀ d (Q : EP), methM S (.obj J.fn) 15 [.tup [.int a, .int n], d] st Q = Q ((lookM D [a, n]).getD d) st := fun d Q => by rw [methM_at hD]; exact propext ⟨fun ⟨_, _, e, z⟩ => by cases e; exact z, fun z => ⟨_, _, rfl, z⟩⟩
  have a10 := Y.a10
  walk_at "f"
  refine ⟨mvg, (get _ _).mpr ?_⟩
  cases e : lookM D [a, n] with
  | some v =>
    obtain ⟨i, a', n', rfl, he, hi⟩ := hs _ v e
    cases he
    rw [Option.getD_some]
    walk_at "m"
    exact q st y i Y (SyExt.refl y |>.more (Nat.zero_le 1)) rfl hi (Same.refl _ _) rfl
  | none =>
    have hlm : (y.F.map fM).length ≤ lim := by rw [List.length_map]; unfold lim; lia
    have hlen : callB .len [.obj J.fl] st = some (.int y.F.length, st) := by rw [len_list Y.fl hlm, List.length_map]
    have hfl := Y.fl
    have mva : mval S (.obj J.fl) 13 st = some (.builtin "list.append") := mval_app Y.fl
    have N := Y.ne
    have Y1 := Y.newF hl hD e
    have a9 := Y.a9
    have a10' : attrM (st.set J.fl (.list (y.F.map fM ++ [.tup [.int a, .int n]]))) (.obj sy) 10 = some (.obj J.fn) := by
      exact attrU ((List.getElem?_set_ne (Ne.symm N.a.2.2.1)).trans Y.s) 10
    have hset : setSubM (st.set J.fl (.list (y.F.map fM ++ [.tup [.int a, .int n]]))) (.obj J.fn) (.tup [.int a, .int n]) (.int (y.F.length : Nat)) = some ((st.set J.fl (.list (y.F.map fM ++ [.tup [.int a, .int n]]))).set J.fn (.dictT (putM D [a, n] (.int (y.F.length : Nat))))) := by
      rw [setT (key := [a, n]) ((List.getElem?_set_ne N.d).trans hD) rfl, if_pos (by unfold lim; lia)]
    rw [List.map_append, List.map_singleton] at Y1
    have key := q _ _ y.F.length Y1 ⟨fun i u h => h, fun i p h => gsn h, Nat.le_add_right _ _, by rw [List.length_append]; exact Nat.le_refl _, fun h p hp => by
      rcases List.mem_append.mp hp with hp | hp
      · exact h p hp
      · rw [List.mem_singleton] at hp; subst hp; exact hn⟩ rfl (by rw [List.getElem?_append_right (Nat.le_refl _), Nat.sub_self]; rfl) ((Same.set _ _ _).l.trans (Same.set _ _ _).r) (by rw [List.length_set, List.length_set])
    rw [Option.getD_none]
    walk_at "m"
    exact key

inductive C_func (vs : List MV) (st : Objs) (Q : EP) : Prop
  | mk (sy : _) (J : _) (y : _) (t : _) (n : _) (h0 : vs = [.obj sy, .str t, .int n]) (h1 : SymAt st sy J y) (h2 : y.X.length < 1000) (h3 : y.F.length < 1000) (h4 : 0 ≤ n) (h5 : ∀ st' (y' : Sym) (i a : Nat), SymAt st' sy J y' → SyExt 1 y y' → y'.X[a]? = some t → y'.F[i]? = some ((a : Int), n) → Same [J.tx, J.an, J.fl, J.fn] st st' → st'.length = st.length → Q (.int (i : Nat)) st') : C_func vs st Q


theorem f_func (hM : S.M = mt) (hA : Has S 88 C_atom) (hF : Has S 102 C_functor) {vs : List MV} {Q : EP} (h : C_func vs st Q) : vs.length = 3 ∧ wpF S b_Symbols_func (frame ns_Symbols_func vs) st Q := by
  obtain ⟨sy, J, y, t, n, rfl, Y, hX, hF', hn, q⟩ := h
  refine ⟨rfl, ?_⟩
  unfold b_Symbols_func
  walk_at "f"
  refine hA _ _ _ ⟨sy, J, y, t, rfl, Y, hX, fun s1 y1 a Y1 x1 e1 t1 sm1 l1 => ?_⟩
  walk_at "m"
  refine hF _ _ _ ⟨sy, J, y1, a, n, rfl, Y1, by rw [e1]; exact hF', hn, fun s2 y2 i Y2 x2 e2 f2 sm2 l2 => ?_⟩
  walk_at "m"
  refine q s2 y2 i a Y2 ⟨fun i t h => x2.X i t (x1.X i t h), fun i p h => x2.F i p (x1.F i p h), ?_, ?_, fun h => x2.pos (x1.pos h)⟩ (by rw [e2]; exact t1) f2 ((sm1.weak fun j hj => List.mem_append.mpr (.inl hj)).trans (sm2.weak fun j hj => List.mem_append.mpr (.inr hj))) (l2.trans l1)
  · rw [e2]; exact x1.lx
  · have := x2.lf; rw [e1] at this; exact this
end

set_option tactic.hygienic true

set_option tactic.hygienic false

noncomputable def atomsL : List Str := [Str.ofString "[]", Str.ofString ".", Str.ofString "{}", Str.ofString "-", Str.ofString "+", Str.ofString "*", Str.ofString "/", Str.ofString ",", Str.ofString "|", Str.ofString ";", Str.ofString "->", Str.ofString "\\+", Str.ofString ":-", Str.ofString "?-", Str.ofString "-->", Str.ofString "!", Str.ofString "true", Str.ofString "fail", Str.ofString "false", Str.ofString "call", Str.ofString "=", Str.ofString "^", Str.ofString "error", Str.ofString "", Str.ofString "end_of_file", Str.ofString "system", Str.ofString "$VAR", Str.ofString "catch", Str.ofString "throw"]
noncomputable def functorsL : List (Str × Int) := [(Str.ofString ".", 2), (Str.ofString ",", 2), (Str.ofString ";", 2), (Str.ofString "->", 2), (Str.ofString "\\+", 1), (Str.ofString ":-", 2), (Str.ofString ":-", 1), (Str.ofString "?-", 1), (Str.ofString "-->", 2), (Str.ofString "{}", 1), (Str.ofString "=", 2), (Str.ofString "^", 2), (Str.ofString "-", 1), (Str.ofString "-", 2), (Str.ofString "+", 2), (Str.ofString "/", 2), (Str.ofString "error", 2), (Str.ofString "$VAR", 1), (Str.ofString "catch", 3), (Str.ofString "throw", 1), (Str.ofString "!", 0), (Str.ofString "true", 0), (Str.ofString "fail", 0), (Str.ofString "false", 0), (Str.ofString "call", 1), (Str.ofString "call", 2), (Str.ofString "call", 3), (Str.ofString "call", 4), (Str.ofString "call", 5), (Str.ofString "call", 6), (Str.ofString "call", 7), (Str.ofString "call", 8)]
noncomputable def rowM (p : Str × Int) : MV := .tup [.str p.1, .int p.2]

section
variable {S : Sg} {st : Objs}

inductive C_fixed_atoms (vs : List MV) (st : Objs) (Q : EP) : Prop
  | mk (h0 : vs = []) (h1 : Q (.tup (atomsL.map .str)) st) : C_fixed_atoms vs st Q

theorem f_fixed_atoms {vs : List MV} {Q : EP} (h : C_fixed_atoms vs st Q) : vs.length = 0 ∧ wpF S b_fixed_atoms (frame ns_fixed_atoms vs) st Q := by
  obtain ⟨rfl, q⟩ := h
  refine ⟨rfl, ?_⟩
  exact q
inductive C_fixed_functors (vs : List MV) (st : Objs) (Q : EP) : Prop
  | mk (h0 : vs = []) (h1 : Q (.tup (functorsL.map rowM)) st) : C_fixed_functors vs st Q

theorem f_fixed_functors {vs : List MV} {Q : EP} (h : C_fixed_functors vs st Q) : vs.length = 0 ∧ wpF S b_fixed_functors (frame ns_fixed_functors vs) st Q := by
  obtain ⟨rfl, q⟩ := h
  refine ⟨rfl, ?_⟩
  exact q

theorem attrPut (g : Objs) (C : Addr) (as : List (Nat × MV)) (a : Nat) (v : MV) (h1 : a < 13) (h2 : as.length < 13) (h3 : plainV v = true) : setAttrM (st ++ (.inst C as :: g)) (.obj st.length) a v = some (st ++ (.inst C (putA as a v) :: g)) := by
  have h : (st ++ (MO.inst C as :: g))[st.length]? = some (MO.inst C as) := by simp
  rw [setAttrU h, if_pos ⟨h1, h2, h3⟩]
  simp

/- filling a new object -/
section put
variable {loc : List MV} {N Ct : NP} {R : EP} {C : Addr} {as : List (Nat × MV)} {g : Objs} {a : Nat}
theorem put_attr {e : ME} {v : MV} (he : ∀ (s : Objs) (Q : EP), Q v s → wpE S loc e s Q) (hl : loc[0]? = some (.obj st.length)) (h1 : a < 13) (h2 : as.length < 13) (h3 : plainV v = true) (q : N loc (st ++ (.inst C (putA as a v) :: g))) :
    wpS S (.asg (.attr (.loc 0) a) e) loc (st ++ (.inst C as :: g)) N Ct R := s_asg (he _ _ (g_attr (e_loc hl rfl (opt_of (attrPut _ _ _ _ _ h1 h2 h3) q))))
theorem put_new {e : ME} {o : MO} (he : ∀ (s : Objs) (Q : EP), Q (.obj s.length) (s ++ [o]) → wpE S loc e s Q) (hl : loc[0]? = some (.obj st.length)) (h1 : a < 13) (h2 : as.length < 13) (q : N loc (st ++ (.inst C (putA as a (.obj (st.length + (g.length + 1)))) :: (g ++ [o])))) :
    wpS S (.asg (.attr (.loc 0) a) e) loc (st ++ (.inst C as :: g)) N Ct R := by
  refine s_asg (he _ _ (g_attr (e_loc hl rfl ?_)))
  rw [List.append_assoc, List.cons_append, List.length_append, List.length_cons]
  exact opt_of (attrPut _ _ _ _ _ h1 h2 rfl) q
theorem new_lst {s : Objs} {Q : EP} (q : Q (.obj s.length) (s ++ [.list []])) : wpE S loc (.lst []) s Q := q
end put

inductive C_Store (vs : List MV) (st : Objs) (Q : EP) : Prop
  | mk (sy : _) (h0 : vs = [.obj sy]) (h1 : Q (.obj st.length) (st ++ [.inst 373 (stoAttrs ⟨st.length, sy, st.length + 1, st.length + 2, st.length + 3⟩ ⟨[], [], 0, 100000⟩), .list [], .list [], .list []])) : C_Store vs st Q


theorem f_Store {vs : List MV} {Q : EP} (h : C_Store vs st Q) : vs.length = 1 ∧ wpF S b_Cells_init (frame ns_Cells_init (.obj st.length :: vs ++ [.int 100000])) (st ++ [.inst 373 []]) fun v st' => v = .none ∧ Q (.obj st.length) st' := by
  obtain ⟨sy, rfl, q⟩ := h
  refine ⟨rfl, ?_⟩
  unfold b_Cells_init
  have lt : ∀ n, Nat.ble (n + 1) 13 = true → n < 13 := fun n h => Nat.le_of_ble_eq_true h
  refine s_F (s_cons (put_attr (v := .obj sy) (fun _ _ q => e_loc rfl rfl q) rfl (lt _ rfl) (lt _ rfl) rfl (s_KS (s_cons ?_))))
  refine put_attr (v := .int 100000) (fun _ _ q => e_loc rfl rfl q) rfl (lt _ rfl) (lt _ rfl) rfl (s_KS (s_cons ?_))
  refine put_new (fun _ _ q => new_lst q) rfl (lt _ rfl) (lt _ rfl) (s_KS (s_cons ?_))
  refine put_new (fun _ _ q => new_lst q) rfl (lt _ rfl) (lt _ rfl) (s_KS (s_cons ?_))
  refine put_new (fun _ _ q => new_lst q) rfl (lt _ rfl) (lt _ rfl) (s_KS (s_cons ?_))
  refine put_attr (v := .int 0) (fun _ _ q => e_cst q) rfl (lt _ rfl) (lt _ rfl) rfl (s_KS (s_cons ?_))
  refine put_attr (v := .int 0) (fun _ _ q => e_cst q) rfl (lt _ rfl) (lt _ rfl) rfl (s_KS (s_nil ?_))
  exact ⟨rfl, q⟩
end

set_option tactic.hygienic true

set_option tactic.hygienic false
section
variable {S : Sg} {st : Objs}

noncomputable def newJ (n : Nat) : SyIds := ⟨n + 1, n + 2, n + 3, n + 4⟩

noncomputable def C_Symbols : Con := fun vs st Q => vs = [] ∧ ∀ st' y, SymAt st' st.length (newJ st.length) y → y.X.length ≤ 100 → y.F.length ≤ 100 → (∃ p, y.F[0]? = some (p, 2)) → (∀ p ∈ y.F, 0 ≤ p.2) → Same [] st st' → Q (.obj st.length) st'

theorem fun_pos : ∀ p ∈ functorsL, 0 ≤ p.2 := by decide +kernel

theorem Same.tail {st a b : Objs} {X : List Nat} (h : Same [] st a) (h2 : Same X a b) (hx : ∀ j ∈ X, st.length ≤ j) : Same [] st b := by
  refine ⟨Nat.le_trans h.len h2.len, fun j hj _ => ?_⟩
  rw [h2.get j (Nat.lt_of_lt_of_le hj h.len) (fun q => by have := hx j q; lia)]
  exact h.get j hj (by simp)

inductive SyInv1 (st : Objs) (k : Nat) (loc : List MV) (s : Objs) : Prop
  | mk (y : Sym) (v : MV) (Y : SymAt s st.length (newJ st.length) y) (hX : y.X.length ≤ k) (hF : y.F = []) (sm : Same [] st s) (hl : loc = [.obj st.length, v, .unb]) : SyInv1 st k loc s
inductive SyInv2 (st : Objs) (v : MV) (k : Nat) (loc : List MV) (s : Objs) : Prop
  | mk (y : Sym) (u : MV) (Y : SymAt s st.length (newJ st.length) y) (hX : y.X.length ≤ 29 + k) (hF : y.F.length ≤ k) (h0 : 0 < k → ∃ p, y.F[0]? = some (p, 2)) (hp : ∀ p ∈ y.F, 0 ≤ p.2) (sm : Same [] st s) (hl : loc = [.obj st.length, v, u]) : SyInv2 st v k loc s

theorem f_Symbols (hM : S.M = mt) (h60 : Has S 60 C_fixed_atoms) (h67 : Has S 67 C_fixed_functors) (hA : Has S 88 C_atom) (hF : Has S 109 C_func) {vs : List MV} {Q : EP} (h : C_Symbols vs st Q) :
    vs.length = 0 ∧ wpF S b_Symbols_init (frame ns_Symbols_init (.obj st.length :: vs ++ [])) (st ++ [.inst 154 []]) fun v st' => v = .none ∧ Q (.obj st.length) st' := by
  obtain ⟨rfl, q⟩ := h
  refine ⟨rfl, ?_⟩
  unfold b_Symbols_init
  have lt : ∀ n, Nat.ble (n + 1) 13 = true → n < 13 := fun n h => Nat.le_of_ble_eq_true h
  refine s_F (s_cons (put_new (fun _ _ q => new_lst q) rfl (lt _ rfl) (lt _ rfl) (s_KS (s_cons ?_))))
  refine put_new (fun _ _ q => ⟨.dictS [], .inr (.inl rfl), q⟩) rfl (lt _ rfl) (lt _ rfl) (s_KS (s_cons ?_))
  refine put_new (fun _ _ q => new_lst q) rfl (lt _ rfl) (lt _ rfl) (s_KS (s_cons ?_))
  refine put_new (fun _ _ q => ⟨.dictT [], .inr (.inr rfl), q⟩) rfl (lt _ rfl) (lt _ rfl) (s_KS ?_)
  have Y0 : SymAt (st ++ [.inst 154 [(7, .obj (st.length + 1)), (8, .obj (st.length + 2)), (9, .obj (st.length + 3)), (10, .obj (st.length + 4))], .list [], .dictS [], .list [], .dictT []]) st.length (newJ st.length) ⟨[], []⟩ := by
    have at_ : ∀ i : Nat, (st ++ [.inst 154 [(7, .obj (st.length + 1)), (8, .obj (st.length + 2)), (9, .obj (st.length + 3)), (10, .obj (st.length + 4))], .list [], .dictS [], .list [], .dictT []])[st.length + i]? = ([.inst 154 [(7, .obj (st.length + 1)), (8, .obj (st.length + 2)), (9, .obj (st.length + 3)), (10, .obj (st.length + 4))], .list [], .dictS [], .list [], .dictT []] : Objs)[i]? := fun i => by
      rw [List.getElem?_append_right (Nat.le_add_right _ _), Nat.add_sub_cancel_left]
    exact ⟨at_ 0, at_ 1, ⟨[], at_ 2, Nat.le_refl _, fun k v h => (by cases h), fun k _ h => by cases h⟩, at_ 3, ⟨[], at_ 4, Nat.le_refl _, fun k v h => (by cases h), fun k _ a n _ h => by cases h⟩, Nat.zero_le _, Nat.zero_le _, .nil, .nil, by unfold newJ; simp only; lia⟩
  have s0 : Same [] st (st ++ [.inst 154 [(7, .obj (st.length + 1)), (8, .obj (st.length + 2)), (9, .obj (st.length + 3)), (10, .obj (st.length + 4))], .list [], .dictS [], .list [], .dictT []]) := Same.app _ _
  show wpSs S _ _ (st ++ [.inst 154 [(7, .obj (st.length + 1)), (8, .obj (st.length + 2)), (9, .obj (st.length + 3)), (10, .obj (st.length + 4))], .list [], .dictS [], .list [], .dictT []]) _ _ _
  generalize st ++ [.inst 154 [(7, .obj (st.length + 1)), (8, .obj (st.length + 2)), (9, .obj (st.length + 3)), (10, .obj (st.length + 4))], .list [], .dictS [], .list [], .dictT []] = s1 at Y0 s0 ⊢
  walk_at "m"
  refine h60 _ _ _ ⟨rfl, ?_⟩
  have l60 : (atomsL.map MV.str).length = 29 := rfl
  have l67 : (functorsL.map rowM).length = 32 := rfl
  have hi1 : itemsM s1 (.tup (atomsL.map MV.str)) = some (atomsL.map MV.str) := rfl
  walk_at "m"
  refine ⟨by rw [l60]; exact Nat.le_of_ble_eq_true rfl, SyInv1 st, ⟨_, .unb, Y0, Nat.le_refl 0, rfl, s0, rfl⟩, ?_⟩
  clear Y0 s0 hi1
  rintro k _ s ⟨y, v, Y, hX, hF0, sm, rfl⟩
  refine ⟨rfl, ?_⟩
  have hj : ∀ j ∈ [(newJ st.length).tx, (newJ st.length).an, (newJ st.length).fl, (newJ st.length).fn], st.length ≤ j := by
    intro j hj
    simp only [List.mem_cons, List.not_mem_nil, or_false] at hj
    unfold newJ at hj
    simp only at hj
    lia
  by_cases hk : k < (atomsL.map MV.str).length
  · have hg : (atomsL.map MV.str)[k]? = some (.str (atomsL[k]'(by rw [List.length_map] at hk; exact hk))) := by rw [List.getElem?_map, List.getElem?_eq_getElem]; rfl
    rw [l60] at hk
    generalize atomsL[k] = t at hg
    refine f_some hg ?_
    walk_at "m"
    refine hA _ _ _ ⟨_, _, y, t, rfl, Y, by lia, fun s2 y2 i Y2 x2 f2 _ sm2 _ => ?_⟩
    walk_at "m"
    exact ⟨y2, _, Y2, Nat.le_trans x2.lx (Nat.succ_le_succ hX), f2.trans hF0, sm.tail sm2 (fun j hj' => hj j (by
      rcases List.mem_cons.mp hj' with rfl | hj'
      · exact .head _
      · exact .tail _ (List.mem_cons.mpr (.inl (List.mem_singleton.mp hj'))))), rfl⟩
  · refine f_none hk fun hk29 => ?_
    rw [l60] at hk29
    walk_at "m"
    refine h67 _ _ _ ⟨rfl, ?_⟩
    have hi2 : itemsM s (.tup (functorsL.map rowM)) = some (functorsL.map rowM) := rfl
    walk_at "m"
    refine ⟨by rw [l67]; exact Nat.le_of_ble_eq_true rfl, SyInv2 st v, ⟨y, .unb, Y, by lia, by rw [hF0]; exact Nat.zero_le _, fun h => (Nat.not_lt_zero _ h).elim, by rw [hF0]; intro p hp; (cases hp), sm, rfl⟩, ?_⟩
    clear Y hX hF0 sm hk hi2
    rintro j _ s ⟨y, u, Y, hX, hF0, h0, hpos, sm, rfl⟩
    refine ⟨rfl, ?_⟩
    by_cases hjl : j < (functorsL.map rowM).length
    · have hjl' : j < functorsL.length := by rw [List.length_map] at hjl; exact hjl
      have hg : (functorsL.map rowM)[j]? = some (rowM (functorsL[j]'hjl')) := by rw [List.getElem?_map, List.getElem?_eq_getElem hjl']; rfl
      have hp0 := fun_pos _ (List.getElem_mem hjl')
      have hz : j = 0 → (functorsL[j]'hjl').2 = 2 := by rintro rfl; rfl
      rw [l67] at hjl
      generalize functorsL[j] = r at hg hz hp0
      obtain ⟨t, n⟩ := r
      have r0 : subM s (rowM (t, n)) (.int 0) = some (.str t) := sub_two0 _ _ _
      have r1 : subM s (rowM (t, n)) (.int 1) = some (.int n) := sub_two1 _ _ _
      refine f_some hg ?_
      walk_at "m"
      refine hF _ _ _ ⟨_, _, y, t, n, rfl, Y, by lia, by lia, hp0, fun s2 y2 i a Y2 x2 _ f2 sm2 _ => ?_⟩
      walk_at "m"
      refine ⟨y2, _, Y2, by have := x2.lx; lia, Nat.le_trans x2.lf (Nat.succ_le_succ hF0), fun _ => ?_, x2.pos hpos, sm.tail sm2 hj, rfl⟩
      by_cases h : 0 < j
      · obtain ⟨p, hp⟩ := h0 h; exact ⟨p, x2.F _ _ hp⟩
      · have hj0 : j = 0 := by lia
        subst hj0
        have := x2.lf
        have hi := (List.getElem?_eq_some_iff.mp f2).1
        have : i = 0 := by lia
        subst this
        rw [f2, show n = 2 from hz rfl]
        exact ⟨_, rfl⟩
    · refine f_none hjl fun hj32 => ?_
      rw [l67] at hj32
      subst hj32
      walk_at "m"
      exact ⟨rfl, q s y Y (by lia) (by lia) (h0 (by decide)) hpos sm⟩
end

set_option tactic.hygienic true

set_option tactic.hygienic false

theorem WT.mono {F F' : Fun} {V : Nat → Prop} (h : ∀ (i : Nat) p, F[i]? = some p → F'[i]? = some p) {t : Tm} (w : WT F V t) : WT F' V t := by
  induction w with
  | var h => exact .var h
  | con a => exact .con a
  | num i => exact .num i
  | app p hF hn h0 _ ih => exact .app p (h _ _ hF) hn h0 ih

structure WellAt (st : Objs) (wl L : Nat) (xs : List Int) (p : Nat) : Prop where
  w : st[wl]? = some (.list [.obj L, .int p])
  l : st[L]? = some (.list (xs.map .int))
  len : xs.length ≤ 90
  ne : wl ≠ L

theorem WellAt.same {st st' : Objs} {wl L p : Nat} {xs : List Int} {X : List Nat} (h : WellAt st wl L xs p) (s : Same X st st') (h1 : wl ∉ X) (h2 : L ∉ X) : WellAt st' wl L xs p := ⟨s.at h.w h1, s.at h.l h2, h.len, h.ne⟩

section
variable {S : Sg} {st : Objs}

inductive C_ltake (vs : List MV) (st : Objs) (Q : EP) : Prop
  | mk (wl : _) (L : _) (xs : _) (p : _) (n : _) (h0 : vs = [.obj wl, .int n]) (h1 : WellAt st wl L xs p) (h2 : 0 < n) (h3 : ∀ st' p' (r : Nat), WellAt st' wl L xs p' → Same [wl] st st' → st'.length = st.length → (r : Int) < n → Q (.int r) st') : C_ltake vs st Q


theorem f_ltake {vs : List MV} {Q : EP} (h : C_ltake vs st Q) : vs.length = 2 ∧ wpF S b__law_take (frame ns__law_take vs) st Q := by
  obtain ⟨wl, L, xs, p, n, rfl, W, hn, q⟩ := h
  refine ⟨rfl, ?_⟩
  unfold b__law_take
  have lw := (List.getElem?_eq_some_iff.mp W.w).1
  have h1 : subM st (.obj wl) (.int 1) = some (.int p) := by rw [subL W.w, if_pos ⟨by decide, by unfold big; decide⟩]; rfl
  have hset : setSubM st (.obj wl) (.int 1) (.int ((p : Int) + 1)) = some (st.set wl (.list [.obj L, .int ((p + 1 : Nat) : Int)])) := by
    rw [setL W.w, if_pos ⟨by decide, by unfold big; decide, Int.ofNat_lt.mpr (Nat.le_of_ble_eq_true rfl)⟩]; rfl
  have W1 : WellAt (st.set wl (.list [.obj L, .int ((p + 1 : Nat) : Int)])) wl L xs (p + 1) := ⟨by rw [List.getElem?_set_self lw], by rw [List.getElem?_set_ne W.ne]; exact W.l, W.len, W.ne⟩
  have sm : Same [wl] st (st.set wl (.list [.obj L, .int ((p + 1 : Nat) : Int)])) := Same.set _ _ _
  have ll : (st.set wl (.list [.obj L, .int ((p + 1 : Nat) : Int)])).length = st.length := List.length_set
  generalize st.set wl (.list [.obj L, .int ((p + 1 : Nat) : Int)]) = s1 at *
  have g1 : subM s1 (.obj wl) (.int 1) = some (.int ((p + 1 : Nat) : Int)) := by rw [subL W1.w, if_pos ⟨by decide, by unfold big; decide⟩]; rfl
  have g0 : subM s1 (.obj wl) (.int 0) = some (.obj L) := by rw [subL W1.w, if_pos ⟨by decide, by unfold big; decide⟩]; rfl
  have hl := W.len
  have hlen : callB .len [.obj L] s1 = some (.int xs.length, s1) := by
    rw [len_list W1.l (by rw [List.length_map]; unfold lim; lia), List.length_map]
  refine s_F (s_cons (s_augS (fun _ q => e_loc rfl rfl q) (fun _ q => e_cst q) h1 hset (s_KS ?_)))
  walk_at "m"
  by_cases hp : xs.length < p + 1
  · refine s_KI1 (ilt hp) ?_
    walk_at "m"
    exact q s1 (p + 1) 0 W1 sm ll hn
  · refine s_KI0 (inlt hp) ?_
    have hx : p < xs.length := by lia
    have hbin : binM .Sub (.int ((p + 1 : Nat) : Int)) (.int 1) s1 = some (.int p, s1) := by
      have : (((p + 1 : Nat) : Int) - 1) = (p : Int) := by lia
      unfold binM; simp only [this]
    have hsub : subM s1 (.obj L) (.int p) = some (.int xs[p]) := by
      rw [subL W1.l, if_pos ⟨Int.natCast_nonneg p, by unfold big; lia⟩, Int.toNat_natCast, List.getElem?_map, List.getElem?_eq_getElem hx]; rfl
    have key : ∀ z : Int, Q (.int (z % n)) s1 := fun z => by
      have h0 := Int.emod_nonneg z (show n ≠ 0 by lia)
      have h1 := Int.emod_lt_of_pos z hn
      have := q s1 (p + 1) (z % n).toNat W1 sm ll (by lia)
      rwa [Int.toNat_of_nonneg h0] at this
    have mod : ∀ z : Int, binM .Mod (.int z) (.int n) s1 = some (.int (z % n), s1) := fun z => by unfold binM; simp only; rw [if_pos hn]
    generalize xs[p] = z at hsub
    walk_at "m"
    by_cases hz : 0 < z
    · refine if_t (dt hz) ?_
      have md := mod z
      walk_at "m"
      exact key _
    · refine if_f (df hz) (e_negG (fun _ q => e_loc rfl rfl q) ?_)
      have md := mod (-z)
      walk_at "m"
      exact key _

noncomputable def nA : Nat → Nat
  | 0 => 0
  | k + 1 => 2 * nA k + 1
noncomputable def nN : Nat → Nat
  | 0 => 1
  | k + 1 => 2 * nN k + 1

noncomputable def lt5 (k : Nat) : Prop := k < 5

inductive C_side (k : Nat) (vs : List MV) (st : Objs) (Q : EP) : Prop
  | mk (wl : _) (L : _) (xs : _) (p : _) (sy : _) (J : _) (y : _) (h0 : vs = [.obj wl, .obj sy, .int k]) (h1 : WellAt st wl L xs p) (h2 : SymAt st sy J y) (h3 : y.X.length + nN k < 1000) (h4 : y.F.length + nN k < 1000) (h5 : (∃ p, y.F[0]? = some (p, 2))) (h6 : wl ∉ [sy, J.tx, J.an, J.fl, J.fn]) (h7 : L ∉ [sy, J.tx, J.an, J.fl, J.fn]) (h8 : ∀ st' y' t p', WellAt st' wl L xs p' → SymAt st' sy J y' → SyExt (nN k) y y' → WT y'.F lt5 t → nApp t ≤ nA k → hsz t ≤ 3 * nA k → Same [wl, J.tx, J.an, J.fl, J.fn] st st' → Q (tmM t) st') : C_side k vs st Q


theorem f_side (hM : S.M = mt) (hT : Has S 466 C_ltake) (hA : Has S 88 C_atom) (hF : Has S 109 C_func) (k : Nat) (hS : ∀ j, k = j + 1 → Has S 473 (C_side j)) {vs : List MV} {Q : EP} (h : C_side k vs st Q) : vs.length = 3 ∧ wpF S b__law_side (frame ns__law_side vs) st Q := by
  obtain ⟨wl, L, xs, p, sy, J, y, rfl, W, Y, hX, hFl, hF0, n1, n2, q⟩ := h
  refine ⟨rfl, ?_⟩
  have toJ : ∀ j ∈ [J.tx, J.an], j ∈ [J.tx, J.an, J.fl, J.fn] := fun j hj => List.mem_append.mpr (.inl hj : j ∈ [J.tx, J.an] ∨ j ∈ [J.fl, J.fn])
  have nwl : ∀ j ∈ [sy, J.tx, J.an, J.fl, J.fn], j ∉ [wl] := fun j hj => by
    rw [List.mem_singleton]; rintro rfl; exact n1 hj
  have symS : ∀ {s s' : Objs} {y'}, SymAt s sy J y' → Same [wl] s s' → SymAt s' sy J y' := fun Y s => Y.same s ⟨nwl _ (.head _), nwl _ (.tail _ (.head _)), nwl _ (.tail _ (.tail _ (.head _))), nwl _ (.tail _ (.tail _ (.tail _ (.head _)))), nwl _ (.tail _ (.tail _ (.tail _ (.tail _ (.head _)))))⟩
  have lwl : ∀ {s p'}, WellAt s wl L xs p' → wl < s.length := fun W => (List.getElem?_eq_some_iff.mp W.w).1
  have welS : ∀ {s s' : Objs} {p'}, WellAt s wl L xs p' → Same [J.tx, J.an, J.fl, J.fn] s s' → WellAt s' wl L xs p' := fun W s => W.same s (fun h => n1 (List.mem_cons_of_mem _ h)) (fun h => n2 (List.mem_cons_of_mem _ h))
  have hN : 1 ≤ nN k := by cases k <;> exact Nat.le_add_left 1 _
  -- after the first number
  have rest : ∀ s1 p1 (r : Nat), WellAt s1 wl L xs p1 → Same [wl] st s1 → (r < 5 ∨ (r < 7 ∧ k ≠ 0)) → wpSs S b__law_side.tail [.obj wl, .obj sy, .int k, .int r, .unb, .unb] s1 (fun _ st1 => Q .none st1) (fun _ _ => False) Q := by
    intro s1 p1 r W1 sm hr
    have Y1 := symS Y sm
    simp only [b__law_side, List.tail_cons]
    have fin : ∀ st' y' t p', WellAt st' wl L xs p' → SymAt st' sy J y' → SyExt (nN k) y y' → WT y'.F lt5 t → nApp t ≤ nA k → hsz t ≤ 3 * nA k → Same [wl, J.tx, J.an, J.fl, J.fn] s1 st' → Q (tmM t) st' := fun st' y' t p' a b c d e f g => q st' y' t p' a b c d e f (sm.l.trans g)
    walk_at "m"
    by_cases r3 : r < 3
    · refine s_KI1 (dt (by lia)) ?_
      walk_at "m"
      refine hT _ _ _ ⟨wl, L, xs, p1, 5, rfl, W1, by decide, fun s2 p2 m W2 sm2 l2 hm => ?_⟩
      walk_at "m"
      exact fin s2 y (.var m) p2 W2 (symS Y1 sm2) ((SyExt.refl y).more (Nat.zero_le _)) (.var (by unfold lt5; lia)) (Nat.zero_le _) (Nat.zero_le _) sm2.l
    refine s_KI0 (df (by lia)) ?_
    walk_at "m"
    by_cases r3 : r = 3
    · subst r3
      have W1' : WellAt (s1 ++ [.list [.str (Str.ofString "b"), .str (Str.ofString "c")]]) wl L xs p1 := W1.same (Same.app _ _) (fun h => by cases h) (fun h => by cases h)
      refine s_KI1 rfl ?_
      walk_at "m"
      refine hT _ _ _ ⟨wl, L, xs, p1, 2, rfl, W1', by decide, fun s2 p2 m W2 sm2 l2 hm => ?_⟩
      have Y2 := symS (Y1.same (Same.app s1 [.list [.str (Str.ofString "b"), .str (Str.ofString "c")]]) ⟨fun h => (by cases h), fun h => (by cases h), fun h => (by cases h), fun h => (by cases h), fun h => (by cases h)⟩) sm2
      have hl2 : s2[s1.length]? = some (.list [.str (Str.ofString "b"), .str (Str.ofString "c")]) := sm2.at (get_last _ _) (fun h => by have := lwl W1; rw [List.mem_singleton] at h; lia)
      obtain ⟨t, ht⟩ : ∃ t, subM s2 (.obj s1.length) (.int m) = some (.str t) := by
        rw [subL hl2, if_pos ⟨Int.natCast_nonneg m, by unfold big; lia⟩, Int.toNat_natCast]
        have : m = 0 ∨ m = 1 := by lia
        rcases this with rfl | rfl <;> exact ⟨_, rfl⟩
      walk_at "m"
      refine hA _ _ _ ⟨sy, J, y, t, rfl, Y2, by lia, fun s3 y3 i Y3 x3 _ _ sm3 l3 => ?_⟩
      walk_at "m"
      refine fin s3 y3 (.con i) p2 (welS W2 (sm3.weak toJ)) Y3 (x3.more hN) (.con _) (Nat.zero_le _) (Nat.zero_le _) ?_
      exact ((Same.app s1 _).weak (fun j hj => by cases hj)).trans (sm2.l.trans (sm3.weak fun j hj => .tail _ (toJ j hj)))
    refine s_KI0 (df (by lia)) ?_
    walk_at "m"
    by_cases r4 : r = 4
    · subst r4
      refine s_KI1 rfl ?_
      walk_at "m"
      exact fin s1 y (.num 6) p1 W1 Y1 ((SyExt.refl y).more (Nat.zero_le _)) (.num _) (Nat.zero_le _) (Nat.zero_le _) (Same.refl _ _)
    refine s_KI0 (df (by lia)) ?_
    obtain ⟨j, rfl⟩ : ∃ j, k = j + 1 := ⟨k - 1, by lia⟩
    have hbin : ∀ s, binM .Sub (.int ((j + 1 : Nat) : Int)) (.int 1) s = some (.int j, s) := fun s => by
      have : (((j + 1 : Nat) : Int) - 1) = (j : Int) := by lia
      unfold binM; simp only [this]
    have hSj := hS j rfl
    have n3 := hN
    simp only [nN] at hX hFl fin n3
    simp only [nA] at fin
    have hb1 := hbin s1
    walk_at "m"
    refine hSj _ _ _ ⟨wl, L, xs, p1, sy, J, y, rfl, W1, Y1, by lia, by lia, hF0, n1, n2, fun s2 y2 t2 p2 W2 Y2 x2 wt2 a2 z2 sm2 => ?_⟩
    have F2 : ∃ p, y2.F[0]? = some (p, 2) := let ⟨p, e⟩ := hF0; ⟨p, x2.F _ _ e⟩
    have lx2 := x2.lx
    have lf2 := x2.lf
    -- the second argument
    have mk : ∀ s3 p3, WellAt s3 wl L xs p3 → Same [wl] s2 s3 → ∀ s4 y4 t4 p4, WellAt s4 wl L xs p4 → SymAt s4 sy J y4 → SyExt (nN j) y2 y4 → WT y4.F lt5 t4 → nApp t4 ≤ nA j → hsz t4 ≤ 3 * nA j → Same [wl, J.tx, J.an, J.fl, J.fn] s3 s4 →
        ∀ s5 y5 f p, SymAt s5 sy J y5 → Same [J.tx, J.an, J.fl, J.fn] s4 s5 → SyExt 1 y4 y5 → y5.F[f]? = some (p, 2) → Q (tmM (.app f [t2, t4])) s5 := by
      intro s3 p3 W3 sm3 s4 y4 t4 p4 W4 Y4 x4 wt4 a4 z4 sm4 s5 y5 f p Y5 sm5 x5 hf
      have smA : Same [wl, J.tx, J.an, J.fl, J.fn] s1 s4 := sm2.trans (sm3.l.trans sm4)
      refine fin s5 y5 (.app f [t2, t4]) p4 (welS W4 sm5) Y5 (((x2.trans x4).trans x5).more (by lia)) ?_ (by simp only [nApp, nApps]; lia) (by simp only [hsz, hszs, List.length_cons, List.length_nil]; split <;> lia) (smA.trans (sm5.weak fun j hj => .tail _ hj))
      refine .app p hf (Nat.le_of_ble_eq_true rfl) (fun _ => rfl) (fun u hu => ?_)
      rcases List.mem_cons.mp hu with rfl | hu
      · exact wt2.mono (fun i p h => x5.F i p (x4.F i p h))
      · rw [List.mem_singleton] at hu; subst hu; exact wt4.mono x5.F
    walk_at "m"
    by_cases r5 : r = 5
    · subst r5
      refine if_t rfl ?_
      walk_at "m"
      refine hT _ _ _ ⟨wl, L, xs, p2, 2, rfl, W2, by decide, fun s3 p3 m W3 sm3 l3 hm => ?_⟩
      have Y3 := symS Y2 sm3
      walk_at "m"
      by_cases hm0 : m = 0
      · subst hm0
        refine s_KI1 rfl ?_
        walk_at "m"
        refine hF _ _ _ ⟨sy, J, y2, _, 1, rfl, Y3, by lia, by lia, by decide, fun s4 y4 i a Y4 x4 _ f4 sm4 l4 => ?_⟩
        walk_at "m"
        refine fin s4 y4 (.app i [t2]) p3 (welS W3 sm4) Y4 ((x2.trans x4).more (by lia)) (.app _ f4 (Nat.le_of_ble_eq_true rfl) (fun h0 => ?_) (fun u hu => by rw [List.mem_singleton] at hu; subst hu; exact wt2.mono x4.F)) (by simp only [nApp, nApps]; lia) (by simp only [hsz, hszs, List.length_cons, List.length_nil]; split <;> lia) (sm2.trans (sm3.l.trans (sm4.weak fun j hj => .tail _ hj)))
        subst h0
        obtain ⟨p, hp⟩ := F2
        have := x4.F _ _ hp
        rw [f4] at this; cases this
      · refine s_KI0 (df (by lia)) ?_
        have hb3 := hbin s3
        walk_at "m"
        refine hSj _ _ _ ⟨wl, L, xs, p3, sy, J, y2, rfl, W3, Y3, by lia, by lia, F2, n1, n2, fun s4 y4 t4 p4 W4 Y4 x4 wt4 a4 z4 sm4 => ?_⟩
        obtain ⟨p, hp⟩ := F2
        walk_at "m"
        exact mk s3 p3 W3 sm3 s4 y4 t4 p4 W4 Y4 x4 wt4 a4 z4 sm4 s4 y4 0 p Y4 (Same.refl _ _) ((SyExt.refl y4).more (Nat.zero_le _)) (x4.F _ _ hp)
    · have hr5 : decide ((r : Int) = 5) = false := df (by lia)
      have hb2 := hbin s2
      refine if_f hr5 ?_
      walk_at "m"
      refine hSj _ _ _ ⟨wl, L, xs, p2, sy, J, y2, rfl, W2, Y2, by lia, by lia, F2, n1, n2, fun s4 y4 t4 p4 W4 Y4 x4 wt4 a4 z4 sm4 => ?_⟩
      have lx4 := x4.lx
      have lf4 := x4.lf
      walk_at "m"
      refine hF _ _ _ ⟨sy, J, y4, _, 2, rfl, Y4, by lia, by lia, by decide, fun s5 y5 i a Y5 x5 _ f5 sm5 l5 => ?_⟩
      walk_at "m"
      exact mk s2 p2 W2 (Same.refl _ _) s4 y4 t4 p4 W4 Y4 x4 wt4 a4 z4 sm4 s5 y5 i _ Y5 sm5 x5 f5
  unfold b__law_side
  walk_at "f"
  by_cases hk : k = 0
  · subst hk
    refine if_f rfl ?_
    walk_at "m"
    refine hT _ _ _ ⟨wl, L, xs, p, 5, rfl, W, by decide, fun s1 p1 r W1 sm l1 hr => ?_⟩
    exact g_loc (Nat.le_of_ble_eq_true rfl) (rest s1 p1 r W1 sm (.inl (by lia)))
  · refine if_t (dt (by lia)) ?_
    walk_at "m"
    refine hT _ _ _ ⟨wl, L, xs, p, 7, rfl, W, by decide, fun s1 p1 r W1 sm l1 hr => ?_⟩
    exact g_loc (Nat.le_of_ble_eq_true rfl) (rest s1 p1 r W1 sm (.inr ⟨by lia, hk⟩))
end

set_option tactic.hygienic true

set_option tactic.hygienic false

noncomputable def vars5 : List Tm := [.var 0, .var 1, .var 2, .var 3, .var 4]

section
variable {S : Sg} {st : Objs}

inductive C_every (vs : List MV) (st : Objs) (Q : EP) : Prop
  | mk (h0 : vs = []) (h1 : ∀ g, Q (.tup (tmsM vars5)) (st ++ g)) : C_every vs st Q

theorem f_every {vs : List MV} {Q : EP} (h : C_every vs st Q) : vs.length = 0 ∧ wpF S b__law_every (frame ns__law_every vs) st Q := by
  obtain ⟨rfl, q⟩ := h
  refine ⟨rfl, ?_⟩
  unfold b__law_every
  have hr : callB .range [.int 5] st = some (.rng 0 5 1, st) := range_up 5 (by decide)
  have hi : itemsM st (.rng 0 5 1) = some ((List.range 5).map fun (i : Nat) => MV.int i) := items_up 5 (by decide)
  have hl : ((List.range 5).map fun (i : Nat) => MV.int i).length ≤ lim := Nat.le_of_ble_eq_true rfl
  have hc : compL true (.tup [.cst (.str (Str.ofString "v")), .loc 0]) ((List.range 5).map fun (i : Nat) => MV.int i) = some (tmsM vars5) := rfl
  have ht : callB .tuple [.obj st.length] (st ++ [.list (tmsM vars5)]) = some (.tup (tmsM vars5), st ++ [.list (tmsM vars5)]) := by
    exact tupL ((listU (get_last _ _)).trans (if_pos (Nat.le_of_ble_eq_true rfl)))
  walk_at "f"
  exact q _

inductive C_lstore (vs : List MV) (st : Objs) (Q : EP) : Prop
  | mk (sy : _) (J : _) (y : _) (h0 : vs = [.obj sy]) (h1 : SymAt st sy J y) (h2 : y.X.length < 1000) (h3 : y.F.length < 1000) (h4 : (∃ p, y.F[0]? = some (p, 2))) (h5 : ∀ st' I mh (y' : Sym) (f a tb : Nat), Wd st' I J ⟨H5 f, [], 0, mh⟩ y' → I.sy = sy → SyExt 1 y y' → y'.X[a]? = some (Str.ofString "all") → y'.F[f]? = some ((a : Int), 5) → f ≠ 0 → st'[tb]? = some (.dictI (tabD 5)) → Free st' I J tb →     (∀ j ∈ [I.s, I.hp, I.sk, I.tr, tb], st.length ≤ j) → Same [J.tx, J.an, J.fl, J.fn] st st' → Q (.tup [.obj I.s, .obj tb, cM (.str 0)]) st') : C_lstore vs st Q


theorem SymAt.lt {sy : Nat} {J : SyIds} {y : Sym} (Y : SymAt st sy J y) : ∀ j ∈ [sy, J.tx, J.an, J.fl, J.fn], j < st.length := by
  obtain ⟨D, hD, _⟩ := Y.an
  obtain ⟨E, hE, _⟩ := Y.fn
  simp only [List.mem_cons, List.not_mem_nil, or_false]
  rintro j (rfl | rfl | rfl | rfl | rfl)
  · exact (List.getElem?_eq_some_iff.mp Y.s).1
  · exact (List.getElem?_eq_some_iff.mp Y.tx).1
  · exact (List.getElem?_eq_some_iff.mp hD).1
  · exact (List.getElem?_eq_some_iff.mp Y.fl).1
  · exact (List.getElem?_eq_some_iff.mp hE).1

theorem f_lstore (hM : S.M = mt) (hS : Has S 373 C_Store) (hF : Has S 109 C_func) (hE : Has S 478 C_every) (hP : Has S 363 C_put0) {vs : List MV} {Q : EP} (h : C_lstore vs st Q) : vs.length = 1 ∧ wpF S b__law_store (frame ns__law_store vs) st Q := by
  obtain ⟨sy, J, y, rfl, Y, hX, hFl, hF0, q⟩ := h
  refine ⟨rfl, ?_⟩
  unfold b__law_store
  have sl := Y.lt
  walk_at "f"
  refine hS _ _ _ ⟨sy, rfl, ?_⟩
  generalize hI : (⟨st.length, sy, st.length + 1, st.length + 2, st.length + 3⟩ : Ids) = I
  have es : st.length = I.s := by rw [← hI]
  have ey : I.sy = sy := by rw [← hI]
  have eh : I.hp = st.length + 1 := by rw [← hI]
  have ek : I.sk = st.length + 2 := by rw [← hI]
  have et : I.tr = st.length + 3 := by rw [← hI]
  walk_at "m"
  refine e_dictI ?_
  have ll : (st ++ [MO.inst 373 (stoAttrs I ⟨[], [], 0, 100000⟩), MO.list [], MO.list [], MO.list []]).length = st.length + 4 := List.length_append
  have at_ : ∀ i : Nat, (st ++ [MO.inst 373 (stoAttrs I ⟨[], [], 0, 100000⟩), MO.list [], MO.list [], MO.list []])[st.length + i]? = ([MO.inst 373 (stoAttrs I ⟨[], [], 0, 100000⟩), MO.list [], MO.list [], MO.list []] : Objs)[i]? := fun i => by
    rw [List.getElem?_append_right (Nat.le_add_right _ _), Nat.add_sub_cancel_left]
  have sm0 : Same [] st (st ++ [MO.inst 373 (stoAttrs I ⟨[], [], 0, 100000⟩), MO.list [], MO.list [], MO.list []]) := Same.app _ _
  have sm1 := sm0.trans (Same.app (st ++ [MO.inst 373 (stoAttrs I ⟨[], [], 0, 100000⟩), MO.list [], MO.list [], MO.list []]) [MO.dictI []])
  have w0 : Wd (st ++ [MO.inst 373 (stoAttrs I ⟨[], [], 0, 100000⟩), MO.list [], MO.list [], MO.list []]) I J ⟨[], [], 0, 100000⟩ y := by
    refine ⟨⟨by rw [← es]; exact at_ 0, by rw [eh]; exact at_ 1, by rw [ek]; exact at_ 2, by rw [et]; exact at_ 3, Nat.zero_le _, Nat.zero_le _, by decide, by lia, by lia, by lia, by lia, by lia, by lia⟩,
      by rw [ey]; exact Y.same sm0 ⟨fun h => (by cases h), fun h => (by cases h), fun h => (by cases h), fun h => (by cases h), fun h => (by cases h)⟩, ?_⟩
    intro j hj
    rw [ey] at hj
    have := sl j hj
    lia
  have w1 := w0.app [MO.dictI []]
  have free : ∀ s, Free s I J (I.s + 4) := fun s => ⟨(w0.free (by rw [ll, es]; exact Nat.le_refl _) []).ne⟩
  have htb1 : (st ++ [MO.inst 373 (stoAttrs I ⟨[], [], 0, 100000⟩), MO.list [], MO.list [], MO.list []] ++ [MO.dictI []])[st.length + 4]? = some (.dictI []) := by rw [← ll]; exact get_last _ _
  rw [ll, es]
  rw [es] at htb1
  generalize st ++ [MO.inst 373 (stoAttrs I ⟨[], [], 0, 100000⟩), MO.list [], MO.list [], MO.list []] ++ [MO.dictI []] = s1 at *
  have Y1 : SymAt s1 sy J y := by have := w1.Y; rwa [ey] at this
  walk_at "m"
  refine hF _ _ _ ⟨sy, J, y, _, 5, rfl, Y1, hX, hFl, by decide, fun s2 y2 f a Y2 x2 t2 f2 sm2 l2 => ?_⟩
  walk_at "m"
  refine hE _ _ _ ⟨rfl, fun g => ?_⟩
  have hne : ∀ j ∈ [J.tx, J.an, J.fl, J.fn], j < st.length := fun j hj => sl j (List.mem_cons_of_mem _ hj)
  have w2 : Wd s2 I J ⟨[], [], 0, 100000⟩ y2 := by
    refine ⟨w1.W.same sm2 ?_, by rw [ey]; exact Y2, w1.dj⟩
    refine ⟨fun h => ?_, fun h => ?_, fun h => ?_, fun h => ?_⟩ <;> have := hne _ h <;> lia
  have w3 := w2.app g
  have htb3 : (s2 ++ g)[I.s + 4]? = some (.dictI []) :=
    (Same.app s2 g).at (sm2.at htb1 (fun h => by have := hne _ h; lia)) (fun h => by cases h)
  have f0 : f ≠ 0 := by
    rintro rfl
    obtain ⟨p, hp⟩ := hF0
    have := x2.F _ _ hp
    rw [f2] at this; cases this
  walk_at "m"
  refine hP _ _ _ ⟨I, J, _, y2, I.s + 4, f, a, rfl, w3, rfl, htb3, free _, f2, f0, fun s4 w4 htb4 sm4 => ?_⟩
  walk_at "m"
  refine q s4 I _ y2 f a _ w4 ey x2 t2 f2 f0 htb4 (free _) ?_ ?_
  · intro j hj
    simp only [List.mem_cons, List.not_mem_nil, or_false] at hj
    lia
  · have l1 := sm1.len
    have l2 := sm2.len
    have l3 := (Same.app s2 g).len
    refine ⟨by have := sm4.len; lia, fun j hj hx => ?_⟩
    rw [sm4.get j (by lia) (by simp only [List.mem_cons, List.not_mem_nil, or_false, not_or]; lia), (Same.app s2 g).get j (by lia) (fun h => by cases h), sm2.get j (by lia) hx, sm1.get j hj (fun h => by cases h)]
end

set_option tactic.hygienic true

set_option tactic.hygienic false

/- how deep a term is -/
mutual
noncomputable def ht : Tm → Nat
  | .app _ ts => hts ts + 1
  | _ => 0
noncomputable def hts : List Tm → Nat
  | [] => 0
  | t :: r => max (ht t) (hts r)
end
theorem hts_le {ts : List Tm} {n : Nat} (h : ∀ t ∈ ts, ht t ≤ n) : hts ts ≤ n := by
  induction ts with
  | nil => simp [hts]
  | cons t r ih =>
    have h1 := h t (by simp)
    have h2 := ih fun u hu => h u (by simp [hu])
    simp only [hts]; lia
mutual
theorem ht_ren (l : List Nat) : ∀ t : Tm, ht (ren l t) = ht t
  | .var k => rfl
  | .con a => rfl
  | .num a => rfl
  | .app f ts => by
    have := hts_ren l ts
    unfold ren at this ⊢
    simp only [Tm.sub, Tm.subs_map, ht, this]
theorem hts_ren (l : List Nat) : ∀ ts : List Tm, hts (ts.map (Tm.sub fun a => .var (l.idxOf a))) = hts ts
  | [] => rfl
  | t :: r => by
    have h1 := ht_ren l t
    have h2 := hts_ren l r
    unfold ren at h1
    simp only [List.map_cons, hts, h1, h2]
end

/- a term as data -/
mutual
noncomputable def pd : Tm → PyData
  | .var k => .tuple [.str (Str.ofString "v"), .int k]
  | .con a => .tuple [.str (Str.ofString "a"), .int a]
  | .num i => .tuple [.str (Str.ofString "i"), .int i]
  | .app f ts => .tuple [.str (Str.ofString "s"), .int f, .tuple (pds ts)]
noncomputable def pds : List Tm → List PyData
  | [] => []
  | t :: r => pd t :: pds r
end
mutual
theorem pyOf_tm : ∀ t : Tm, pyOf (tmM t) = some (pd t)
  | .var k => by simp only [tmM, pyOf, pyOfs, okv, if_true, pd, Option.map]
  | .con k => by simp only [tmM, pyOf, pyOfs, oka, if_true, pd, Option.map]
  | .num k => by simp only [tmM, pyOf, pyOfs, oki, if_true, pd, Option.map]
  | .app f ts => by simp only [tmM, pyOf, pyOfs, oks, if_true, pd, Option.map, pyOfs_tm ts]
theorem pyOfs_tm : ∀ ts : List Tm, pyOfs (tmsM ts) = some (pds ts)
  | [] => rfl
  | t :: r => by simp only [tmsM, pyOfs, pds, pyOf_tm t, pyOfs_tm r]
end
theorem pyV_tm (st : Objs) (t : Tm) : pyV st (tmM t) = some (pd t) := by
  cases t with
  | var k => simp only [tmM, pyV, pyEs, pyE, pyOf, okv, if_true, pd, Option.map]
  | con k => simp only [tmM, pyV, pyEs, pyE, pyOf, oka, if_true, pd, Option.map]
  | num k => simp only [tmM, pyV, pyEs, pyE, pyOf, oki, if_true, pd, Option.map]
  | app f ts => simp only [tmM, pyV, pyEs, pyE, pyOf, oks, if_true, pd, Option.map, pyOfs_tm ts]
mutual
theorem depth_pd : ∀ t : Tm, (pd t).depth ≤ 2 * ht t + 1
  | .var k => by simp [pd, PyData.depth, PyData.depthAll]
  | .con k => by simp [pd, PyData.depth, PyData.depthAll]
  | .num k => by simp [pd, PyData.depth, PyData.depthAll]
  | .app f ts => by
    have := depths_pd ts
    simp only [pd, PyData.depth, PyData.depthAll, ht]; lia
theorem depths_pd : ∀ ts : List Tm, PyData.depthAll (pds ts) ≤ 2 * hts ts + 1
  | [] => by simp [pds, PyData.depthAll]
  | t :: r => by
    have h1 := depth_pd t
    have h2 := depths_pd r
    simp only [pds, PyData.depthAll, hts]; lia
end
set_option tactic.hygienic true in
mutual
theorem eqv_refl : ∀ v : MV, ∀ d, pyOf v = some d → PyData.eqv d d = true
  | .none, d, h => by simp only [pyOf, Option.some.injEq] at h; subst h; rfl
  | .bool b, d, h => by simp only [pyOf, Option.some.injEq] at h; subst h; simp [PyData.eqv]
  | .int b, d, h => by simp only [pyOf, Option.some.injEq] at h; subst h; simp [PyData.eqv]
  | .str b, d, h => by
    simp only [pyOf] at h
    split at h
    · cases h; simp [PyData.eqv]
    · cases h
  | .tup xs, d, h => by
    simp only [pyOf, Option.map_eq_some_iff] at h
    obtain ⟨ds, h1, rfl⟩ := h
    simp only [PyData.eqv]
    exact eqvs_refl xs ds h1
  | .obj _, d, h => by simp [pyOf] at h
  | .val _, d, h => by simp [pyOf] at h
  | .bi _, d, h => by simp [pyOf] at h
  | .unb, d, h => by simp [pyOf] at h
  | .rng .., d, h => by simp [pyOf] at h
theorem eqvs_refl : ∀ vs : List MV, ∀ ds, pyOfs vs = some ds → PyData.eqvAll ds ds = true
  | [], ds, h => by simp only [pyOfs, Option.some.injEq] at h; subst h; rfl
  | v :: r, ds, h => by
    simp only [pyOfs] at h
    split at h
    · rename_i a b h1 h2
      cases h
      simp only [PyData.eqvAll, eqv_refl v a h1, eqvs_refl r b h2, Bool.and_self]
    · cases h
end

theorem eqM_tm (st : Objs) {t : Tm} (h : ht t ≤ 400) : eqM st (tmM t) (tmM t) = some true := by
  have hd := depth_pd t
  unfold eqM
  simp only [pyV_tm]
  rw [if_pos (by lia), eqv_refl (tmM t) _ (pyOf_tm t)]

section
variable {H : List Cell} {F : Fun} {B : List Nat} {δ : Nat → Tm}

theorem ht_val (wf : WF H F B) (g : Gen H F δ) : ∀ (n : Nat) (U : List Nat), U.length ≤ n → ∀ c, okC H F B c → (∀ d, Blk H F B d → (valC H F δ d).size ≤ (valC H F δ c).size → d.addr ∈ U) → ht (valC H F δ c) ≤ n := by
  intro n
  induction n with
  | zero =>
    intro U hU c ok h
    have E := D_end wf c ok
    by_cases hc : (D H c).isComp = true
    · have b := blk_of E.1 hc
      have := h _ b (by rw [g.sol.D wf c ok]; exact Nat.le_refl _)
      have : U = [] := List.length_eq_zero_iff.mp (by lia)
      subst this
      simp at *
    · rw [← g.sol.D wf c ok]
      rcases E.2.1 with ⟨a, ha, ra⟩ | hn
      · rw [ha]; simp only [valC]; rw [g.root a ra]; simp [ht]
      · cases hd : D H c with
        | ref a => exact (hn a hd).elim
        | con a => simp [valC, ht]
        | int a => simp [valC, ht]
        | fn a => simp [valC, ht]
        | str a => rw [hd] at hc; exact (hc rfl).elim
        | lis a => rw [hd] at hc; exact (hc rfl).elim
  | succ n ih =>
    intro U hU c ok h
    have E := D_end wf c ok
    by_cases hc : (D H c).isComp = true
    · have b := blk_of E.1 hc
      have ev := g.sol.D wf c ok
      have hin := h _ b (by rw [ev]; exact Nat.le_refl _)
      rw [← ev] at h ⊢
      generalize D H c = d at *
      obtain ⟨m, hm, hm5, pl⟩ := b.wid
      obtain ⟨f, hf⟩ : ∃ f, fnAt H d = some f := by
        cases d with
        | str a => obtain ⟨f, hf, _⟩ := b.str a rfl; exact ⟨f, by simp [fnAt, hf]⟩
        | lis a => exact ⟨0, rfl⟩
        | _ => simp [Cell.isComp] at hc
      rw [valC_blk b hf hm]
      simp only [ht]
      refine Nat.succ_le_succ (hts_le fun t ht' => ?_)
      obtain ⟨i, hi, rfl⟩ := List.mem_map.mp ht'
      have hi := List.mem_range.mp hi
      have hlt := size_arg (δ := δ) b hm hi
      refine ih (U.erase d.addr) ?_ (.ref (d.base + i)) (pl i hi) (fun e be hs => ?_)
      · rw [List.length_erase_of_mem hin]; lia
      · have hs : (valC H F δ e).size ≤ (δ (d.base + i)).size := hs
        have hne : e.addr ≠ d.addr := fun q => by
          have := same_blk be b q
          subst this; lia
        exact (List.mem_erase_of_ne hne).mpr (h e be (by lia))
    · rw [← g.sol.D wf c ok]
      rcases E.2.1 with ⟨a, ha, ra⟩ | hn
      · rw [ha]; simp only [valC]; rw [g.root a ra]; simp [ht]
      · cases hd : D H c with
        | ref a => exact (hn a hd).elim
        | con a => simp [valC, ht]
        | int a => simp [valC, ht]
        | fn a => simp [valC, ht]
        | str a => rw [hd] at hc; exact (hc rfl).elim
        | lis a => rw [hd] at hc; exact (hc rfl).elim

theorem ht_le (wf : WF H F B) (g : Gen H F δ) {c : Cell} (ok : okC H F B c) : ht (valC H F δ c) ≤ B.length :=
  ht_val wf g _ B (Nat.le_refl _) c ok fun d b _ => b.mem

theorem Sol.sub {ρ : Nat → Tm} (s : Sol H F ρ) (σ : Nat → Tm) : Sol H F fun a => (ρ a).sub σ := by
  intro a c e hf
  show (ρ a).sub σ = _
  rw [s a c e hf, valC_comp]

theorem Sol.pre {H' : List Cell} (wf : WF H F B) (p : Pre H H') {ρ : Nat → Tm} (s : Sol H' F ρ) : Sol H F ρ := by
  intro a c e hf
  rw [s a c (p.some e) hf, p.val (wf.ok a c e hf)]

theorem Sol.grow {H' : List Cell} {δ' : Nat → Tm} (g : Gen H F δ) (g' : Gen H' F δ') (h : ∀ a, Pl H a → δ' a = δ a) {ρ : Nat → Tm} (s : Sol H F ρ) : ∃ ρ', Sol H' F ρ' ∧ ∀ a, Pl H a → ρ' a = ρ a :=
  ⟨_, g'.sol.sub ρ, fun a ha => by show (δ' a).sub ρ = _; rw [h a ha]; exact (g.gen ρ s a ha).symm⟩
end

set_option tactic.hygienic true

set_option tactic.hygienic false

noncomputable def canon (t : Tm) : Tm := ren (occ [] t) t

theorem idxOf_map {s : Nat → Nat} {l : List Nat} {a : Nat} (ha : a ∈ l) (inj : ∀ b ∈ l, s a = s b → a = b) : (l.map s).idxOf (s a) = l.idxOf a := by
  induction l with
  | nil => simp at ha
  | cons b r ih =>
    rw [List.map_cons, List.idxOf_cons, List.idxOf_cons]
    by_cases e : b = a
    · subst e; simp
    · have e1 : (b == a) = false := by simp [e]
      have e2 : (s b == s a) = false := by
        simp
        intro q
        exact e (inj b (by simp) q.symm).symm
      have hr : a ∈ r := by
        rcases List.mem_cons.mp ha with rfl | h
        · exact (e rfl).elim
        · exact h
      rw [e1, e2]
      simp only [cond_false]
      rw [ih hr fun b hb => inj b (by simp [hb])]

mutual
theorem occ_map (s : Nat → Nat) : ∀ (t : Tm) (l : List Nat), (∀ a b, (a ∈ l ∨ t.has a) → (b ∈ l ∨ t.has b) → s a = s b → a = b) → occ (l.map s) (t.sub fun a => .var (s a)) = (occ l t).map s
  | .var a, l, inj => by
    simp only [Tm.sub, occ]
    have : s a ∈ l.map s ↔ a ∈ l := by
      constructor
      · intro h
        obtain ⟨b, hb, e⟩ := List.mem_map.mp h
        rw [← inj b a (.inl hb) (.inr (by simp [Tm.has])) e]; exact hb
      · exact fun h => List.mem_map.mpr ⟨a, h, rfl⟩
    by_cases h : a ∈ l
    · rw [if_pos h, if_pos (this.mpr h)]
    · rw [if_neg h, if_neg (fun q => h (this.mp q))]; simp
  | .con a, l, inj => rfl
  | .num a, l, inj => rfl
  | .app f ts, l, inj => by
    simp only [Tm.sub, occ, Tm.subs_map]
    exact occs_map s ts l fun a b ha hb => inj a b (by simpa [Tm.has] using ha) (by simpa [Tm.has] using hb)
theorem occs_map (s : Nat → Nat) : ∀ (ts : List Tm) (l : List Nat), (∀ a b, (a ∈ l ∨ Tm.hass a ts) → (b ∈ l ∨ Tm.hass b ts) → s a = s b → a = b) → occs (l.map s) (ts.map (Tm.sub fun a => .var (s a))) = (occs l ts).map s
  | [], l, inj => rfl
  | t :: r, l, inj => by
    simp only [List.map_cons, occs]
    rw [occ_map s t l (fun a b ha hb => inj a b (by simp only [Tm.hass]; rcases ha with h | h <;> simp [h]) (by simp only [Tm.hass]; rcases hb with h | h <;> simp [h]))]
    refine occs_map s r (occ l t) fun a b ha hb => inj a b ?_ ?_
    · rw [occ_has, or_assoc] at ha; simpa only [Tm.hass] using ha
    · rw [occ_has, or_assoc] at hb; simpa only [Tm.hass] using hb
end

mutual
theorem var_back {σ τ : Nat → Tm} : ∀ {t : Tm}, t.sub (fun a => (σ a).sub τ) = t → ∀ a, t.has a → ∃ b, σ a = .var b ∧ τ b = .var a
  | .var k, h, a, ha => by
    simp only [Tm.has] at ha
    subst ha
    simp only [Tm.sub] at h
    cases e : σ k with
    | var b => rw [e] at h; exact ⟨b, rfl, h⟩
    | con b => rw [e] at h; simp [Tm.sub] at h
    | num b => rw [e] at h; simp [Tm.sub] at h
    | app f ts => rw [e] at h; simp [Tm.sub] at h
  | .con k, h, a, ha => by simp [Tm.has] at ha
  | .num k, h, a, ha => by simp [Tm.has] at ha
  | .app f ts, h, a, ha => by
    simp only [Tm.sub, Tm.app.injEq, true_and] at h
    exact vars_back h a (by simpa [Tm.has] using ha)
theorem vars_back {σ τ : Nat → Tm} : ∀ {ts : List Tm}, Tm.subs (fun a => (σ a).sub τ) ts = ts → ∀ a, Tm.hass a ts → ∃ b, σ a = .var b ∧ τ b = .var a
  | [], h, a, ha => by simp [Tm.hass] at ha
  | t :: r, h, a, ha => by
    simp only [Tm.subs, List.cons.injEq] at h
    rcases (by simpa [Tm.hass] using ha : t.has a ∨ Tm.hass a r) with q | q
    · exact var_back h.1 a q
    · exact vars_back h.2 a q
end

theorem canon_eq {t u : Tm} {σ τ : Nat → Tm} (h : t = u.sub σ) (k : u = t.sub τ) : canon t = canon u := by
  have back := var_back (σ := σ) (τ := τ) (t := u) (by rw [← Tm.sub_sub, ← h]; exact k.symm)
  let s : Nat → Nat := fun a => match σ a with | .var b => b | _ => 0
  have hs : ∀ a, u.has a → σ a = .var (s a) := fun a ha => by
    obtain ⟨b, e, _⟩ := back a ha
    show σ a = .var (match σ a with | .var b => b | _ => 0)
    rw [e]
  have inj : ∀ a b, u.has a → u.has b → s a = s b → a = b := fun a b ha hb e => by
    obtain ⟨c, e1, e2⟩ := back a ha
    obtain ⟨d, e3, e4⟩ := back b hb
    have h1 := hs a ha
    have h2 := hs b hb
    rw [e1] at h1; rw [e3] at h2
    cases h1; cases h2
    rw [e] at e2
    rw [e2] at e4; cases e4; rfl
  have ht : t = u.sub fun a => .var (s a) := by rw [h]; exact Tm.sub_ext hs
  unfold canon
  rw [ht]
  have ho := occ_map s u [] fun a b ha hb e => inj a b (by simpa using ha) (by simpa using hb) e
  simp only [List.map_nil] at ho
  rw [ho]
  unfold ren
  rw [Tm.sub_sub]
  apply Tm.sub_ext
  intro a ha
  simp only [Tm.sub]
  congr 1
  exact idxOf_map ((occ_has u [] a).mpr (.inr ha)) fun b hb e => inj a b ha (by simpa using (occ_has u [] b).mp hb) e

theorem ht_canon (t : Tm) : ht (canon t) = ht t := ht_ren _ t

/- the equations -/
noncomputable def Solves (ν : Nat → Tm) (ps : List (Tm × Tm)) : Prop := ∀ p ∈ ps, p.1.sub ν = p.2.sub ν

noncomputable def SolvedR (y : Sym) (ps : List (Tm × Tm)) : Option Tm → Prop
  | none => ∀ ν, ¬ Solves ν ps
  | some t => ∃ (f a : Nat) (ds : Nat → Tm), y.X[a]? = some (Str.ofString "all") ∧ y.F[f]? = some ((a : Int), 5) ∧ t = canon (.app f ((List.range 5).map ds)) ∧ ht t ≤ 100 ∧ Solves ds ps ∧ ∀ ν, Solves ν ps → ∃ σ, ∀ k, k < 5 → ν k = (ds k).sub σ

theorem nodup_idx {α : Type} {l : List α} (h : l.Nodup) {i j : Nat} {a : α} (hi : l[i]? = some a) (hj : l[j]? = some a) : i = j :=
  (List.getElem?_inj (List.getElem?_eq_some_iff.mp hi).1 h).mp (hi.trans hj.symm)

theorem SolvedR.same {y y' : Sym} {ps qs : List (Tm × Tm)} {r r' : Option Tm} (h : SolvedR y ps r) (h' : SolvedR y' qs r') (e : ∀ ν, Solves ν ps ↔ Solves ν qs) (x : ∃ k, SyExt k y y') (nX : y'.X.Nodup) (nF : y'.F.Nodup) : r' = r := by
  cases r with
  | none =>
    cases r' with
    | none => rfl
    | some t =>
      obtain ⟨f, a, ds, _, _, _, _, s, _⟩ := h'
      exact (h ds ((e ds).mpr s)).elim
  | some t =>
    obtain ⟨f, a, ds, h1, h2, h3, _, h4, h5⟩ := h
    cases r' with
    | none => exact (h' ds ((e ds).mp h4)).elim
    | some t' =>
      obtain ⟨f', a', ds', g1, g2, g3, _, g4, g5⟩ := h'
      obtain ⟨k, x⟩ := x
      have ea : a = a' := nodup_idx nX (x.X _ _ h1) g1
      subst ea
      have ef : f = f' := nodup_idx nF (x.F _ _ h2) g2
      subst ef
      obtain ⟨σ, hσ⟩ := h5 ds' ((e ds').mpr g4)
      obtain ⟨τ, hτ⟩ := g5 ds ((e ds).mp h4)
      rw [h3, g3]
      congr 1
      refine canon_eq (σ := σ) (τ := τ) ?_ ?_
      · simp only [Tm.sub, Tm.subs_map, List.map_map]
        congr 1
        exact List.map_congr_left fun i hi => hσ i (List.mem_range.mp hi)
      · simp only [Tm.sub, Tm.subs_map, List.map_map]
        congr 1
        exact List.map_congr_left fun i hi => hτ i (List.mem_range.mp hi)

set_option tactic.hygienic true

set_option tactic.hygienic false

theorem WT.has {F : Fun} {V : Nat → Prop} {t : Tm} (w : WT F V t) : ∀ {k : Nat}, t.has k → V k := by
  induction w with
  | var h => intro k hk; simp only [Tm.has] at hk; subst hk; exact h
  | con a => intro k hk; simp [Tm.has] at hk
  | num i => intro k hk; simp [Tm.has] at hk
  | app p hF hn h0 _ ih =>
    intro k hk
    simp only [Tm.has, Tm.hass_iff] at hk
    obtain ⟨t, ht, hk⟩ := hk
    exact ih t ht hk

theorem H5_get (f : Nat) {k : Nat} (h : k < 5) : (H5 f)[k + 1]? = some (.ref (k + 1)) := by
  rcases (show k = 0 ∨ k = 1 ∨ k = 2 ∨ k = 3 ∨ k = 4 by lia) with rfl | rfl | rfl | rfl | rfl <;> rfl

structure Stage (F : Fun) (f : Nat) (H : List Cell) (B : List Nat) (ps : List (Tm × Tm)) : Prop where
  wf : WF H F B
  gen : ∃ δ, Gen H F δ
  top : okC H F B (.str 0)
  fn : H[0]? = some (.fn f)
  pl : ∀ k, lt5 k → Pl H (k + 1)
  snd : ∀ ρ, Sol H F ρ → Solves (fun k => ρ (k + 1)) ps
  cmp : ∀ ν, Solves ν ps → ∃ ρ, Sol H F ρ ∧ ∀ k, lt5 k → ρ (k + 1) = ν k

theorem H5_cells {f a : Nat} {c : Cell} (h : (H5 f)[a]? = some c) (hf : c.isFn = false) : c = .ref a ∧ a ≠ 0 := by
  have hl := (List.getElem?_eq_some_iff.mp h).1
  cases a with
  | zero => have h : some (Cell.fn f) = some c := h; cases h; cases hf
  | succ k =>
    have : k < 5 := by simp [H5] at hl; lia
    rw [H5_get f this] at h; cases h
    exact ⟨rfl, by lia⟩

theorem Stage.start {F : Fun} {f : Nat} {p : Int} (hF : F[f]? = some (p, 5)) (hf : f ≠ 0) : Stage F f (H5 f) [0] [] := by
  have pl : ∀ k, lt5 k → Pl (H5 f) (k + 1) := fun k hk => ⟨_, H5_get f hk, rfl⟩
  have wd : width (H5 f) F (.str 0) = some 5 := by
    have : (H5 f)[0]? = some (.fn f) := rfl
    simp only [width, this, hF]; rfl
  have sol : ∀ ρ : Nat → Tm, Sol (H5 f) F ρ := fun ρ a c e hc => by
    rw [(H5_cells e hc).1]; rfl
  refine ⟨⟨fun a b e => ?_, fun a c e hc => ?_⟩, ⟨Tm.var, sol _, fun a _ => rfl, fun ρ s a _ => rfl⟩, ⟨rfl, by simp [Cell.addr], ⟨5, wd, by lia, fun i hi => ?_⟩, fun a ha => by cases ha; exact ⟨f, rfl, hf⟩⟩, rfl, pl, fun ρ _ p hp => by simp at hp, fun ν _ => ⟨fun a => ν (a - 1), sol _, fun k _ => rfl⟩⟩
  · have := (H5_cells e rfl).1
    cases this; exact Nat.le_refl _
  · obtain ⟨rfl, h0⟩ := H5_cells e hc
    exact ⟨_, e, rfl⟩
  · simp only [Cell.base]
    rw [show 0 + 1 + i = i + 1 by lia]
    exact pl i hi

section
variable {F : Fun} {f : Nat} {H H' : List Cell} {B B' : List Nat} {ps : List (Tm × Tm)} {δ δ' : Nat → Tm}

theorem Stage.put (s : Stage F f H B ps) (g : Gen H F δ) (pre : Pre H H') (wf' : WF H' F B') (g' : Gen H' F δ') (old : ∀ a, Pl H a → δ' a = δ a) (bs : ∀ m ∈ B, m ∈ B') : Stage F f H' B' ps := by
  have pl : ∀ a, Pl H a → Pl H' a := fun a ⟨d, e, k⟩ => ⟨d, pre.some e, k⟩
  refine ⟨wf', ⟨δ', g'⟩, pre.okC s.top B' bs, pre.some s.fn, fun k hk => pl _ (s.pl k hk), fun ρ hs => s.snd ρ (hs.pre s.wf pre), fun ν hν => ?_⟩
  obtain ⟨ρ, h1, h2⟩ := s.cmp ν hν
  obtain ⟨ρ', h3, h4⟩ := h1.grow g g' old
  exact ⟨ρ', h3, fun k hk => by rw [h4 _ (s.pl k hk)]; exact h2 k hk⟩

noncomputable def Reps (F : Fun) (H : List Cell) (B : List Nat) (c : Cell) (t : Tm) : Prop := okC H F B c ∧ ∀ ρ, Sol H F ρ → valC H F ρ c = t.sub fun k => ρ (k + 1)

theorem Reps.put (s : Stage F f H B ps) {c : Cell} {t : Tm} (r : Reps F H B c t) (pre : Pre H H') (bs : ∀ m ∈ B, m ∈ B') : Reps F H' B' c t :=
  ⟨pre.okC r.1 B' bs, fun ρ hs => by rw [pre.val r.1]; exact r.2 ρ (hs.pre s.wf pre)⟩

section uni
variable {x x' : Sto} {c1 c2 : Cell} {l r : Tm}

theorem Stage.uni (s : Stage F f x.H B ps) (h1 : Reps F x.H B c1 l) (h2 : Reps F x.H B c2 r) (wl : WT F lt5 l) (wr : WT F lt5 r) (u : UPost F B x c1 c2 x' true) : Stage F f x'.H B (ps ++ [(l, r)]) := by
  obtain ⟨wf', g', e⟩ := u.ok rfl
  have sf := u.ext.sf
  refine ⟨wf', g', sf.okC s.top, ?_, fun k hk => sf.pl (s.pl k hk), fun ρ hs p hp => ?_, fun ν hν => ?_⟩
  · exact (sf.fn 0 f).mpr s.fn
  · obtain ⟨h3, h4⟩ := (e ρ).mpr hs
    rcases List.mem_append.mp hp with hp | hp
    · exact s.snd ρ h3 p hp
    · simp at hp; subst hp
      rw [h1.2 ρ h3, h2.2 ρ h3] at h4; exact h4
  · obtain ⟨ρ, h3, h4⟩ := s.cmp ν fun p hp => hν p (by simp [hp])
    have e1 : ∀ t, WT F lt5 t → (t.sub fun k => ρ (k + 1)) = t.sub ν := fun t w => Tm.sub_ext fun k hk => h4 k (w.has hk)
    refine ⟨ρ, (e ρ).mp ⟨h3, ?_⟩, h4⟩
    rw [h1.2 ρ h3, h2.2 ρ h3, e1 l wl, e1 r wr]
    exact hν (l, r) (by simp)

theorem Stage.no (s : Stage F f x.H B ps) (h1 : Reps F x.H B c1 l) (h2 : Reps F x.H B c2 r) (wl : WT F lt5 l) (wr : WT F lt5 r) (u : UPost F B x c1 c2 x' false) (ν : Nat → Tm) : ¬ Solves ν (ps ++ [(l, r)]) := by
  intro hν
  obtain ⟨ρ, h3, h4⟩ := s.cmp ν fun p hp => hν p (by simp [hp])
  have e1 : ∀ t, WT F lt5 t → (t.sub fun k => ρ (k + 1)) = t.sub ν := fun t w => Tm.sub_ext fun k hk => h4 k (w.has hk)
  refine u.no rfl ρ h3 ?_
  rw [h1.2 ρ h3, h2.2 ρ h3, e1 l wl, e1 r wr]
  exact hν (l, r) (by simp)

theorem Reps.uni {c : Cell} {t : Tm} (h : Reps F x.H B c t) {b : Bool} (u : UPost F B x c1 c2 x' b) (hb : b = true) : Reps F x'.H B c t := by
  refine ⟨u.ext.sf.okC h.1, fun ρ hs => ?_⟩
  rw [u.ext.sf.val]
  exact h.2 ρ (((u.ok hb).2.2 ρ).mpr hs).1
end uni

theorem Stage.done (s : Stage F f H B ps) {y : Sym} (hy : y.F = F) {p : Int} (hF : F[f]? = some (p, 5)) {a : Nat} (hX : y.X[a]? = some (Str.ofString "all")) (hp : p = (a : Int)) (g : Gen H F δ) (hB : B.length ≤ 100) : SolvedR y ps (some (canon (valC H F δ (.str 0)))) := by
  have fa : fnAt H (.str 0) = some f := by simp only [fnAt, s.fn]
  have wd : width H F (.str 0) = some 5 := by simp only [width, s.fn, hF]; rfl
  have b : Blk H F B (.str 0) := s.top
  refine ⟨f, a, fun k => δ (k + 1), hX, by rw [hy, hF, hp], ?_, ?_, s.snd δ g.sol, fun ν hν => ?_⟩
  · rw [valC_blk b fa wd]
    have : ((List.range 5).map fun i => δ ((Cell.str 0).base + i)) = (List.range 5).map fun k => δ (k + 1) := by
      apply List.map_congr_left
      intro i _
      simp only [Cell.base]
      rw [show 0 + 1 + i = i + 1 by lia]
    rw [this]
  · rw [ht_canon]
    have := ht_le s.wf g s.top
    lia
  · obtain ⟨ρ, h1, h2⟩ := s.cmp ν hν
    exact ⟨ρ, fun k hk => by rw [← h2 k hk]; exact g.gen ρ h1 _ (s.pl k hk)⟩
end

set_option tactic.hygienic true

set_option tactic.hygienic false

theorem Same.tail' {X Y : List Nat} {st a b : Objs} (h : Same X st a) (h2 : Same Y a b) (hy : ∀ j ∈ Y, st.length ≤ j ∨ j ∈ X) : Same X st b := by
  refine ⟨Nat.le_trans h.len h2.len, fun j hj hx => ?_⟩
  rw [h2.get j (Nat.lt_of_lt_of_le hj h.len) (fun q => by rcases hy j q with q | q; · lia
                                                          · exact hx q)]
  exact h.get j hj hx

structure StoreAt (s st : Objs) (I : Ids) (J : SyIds) (tb : Nat) (y : Sym) (f : Nat) (x : Sto) (B : List Nat) (ps : List (Tm × Tm)) : Prop where
  w : Wd s I J x y
  stg : Stage y.F f x.H B ps
  tb_ : s[tb]? = some (.dictI (tabD 5))
  free : Free s I J tb
  fresh : ∀ j ∈ [I.s, I.hp, I.sk, I.tr, tb], st.length ≤ j
  same : Same [J.tx, J.an, J.fl, J.fn] st s
  pos : ∀ p ∈ y.F, 0 ≤ p.2

section
variable {S : Sg} {s st : Objs} {I : Ids} {J : SyIds} {tb : Nat} {y : Sym} {f : Nat} {x : Sto} {B : List Nat} {ps : List (Tm × Tm)}

theorem tab5 {s : Objs} {tb : Nat} (h : s[tb]? = some (.dictI (tabD 5))) : TblAt s tb (tabD 5) (fun k => k + 1) lt5 := by
  refine ⟨h, by simp [tabD], fun k hk => tabD_look hk, fun e he => ?_⟩
  unfold tabD at he
  obtain ⟨k, hk, rfl⟩ := List.mem_map.mp he
  exact ⟨k + 1, tabD_look (List.mem_range.mp hk)⟩

theorem putStep (hP : Has S 363 C_put) (a : StoreAt s st I J tb y f x B ps) {t : Tm} (wt : WT y.F lt5 t) (h1 : x.H.length + hsz t ≤ 900) (h2 : nApp t ≤ 900) {K : EP}
    (h : ∀ s' x' B' c, StoreAt s' st I J tb y f x' B' ps → Reps y.F x'.H B' c t → (∀ c0 t0, Reps y.F x.H B c0 t0 → Reps y.F x'.H B' c0 t0) → B'.length = B.length + nApp t → x'.H.length = x.H.length + hsz t → x'.T = x.T → x'.hb = x.hb → Same [I.hp] s s' → K (cM c) s') :
    S.C 363 [.obj I.s, tmM t, .obj tb] s K := by
  obtain ⟨δ, g⟩ := a.stg.gen
  refine hP _ _ _ ⟨I, J, x, y, B, δ, tb, _, _, _, t, rfl, a.w, a.stg.wf, g, tab5 a.tb_, a.free, a.stg.pl, wt, h1, h2, a.pos, fun s' H' B' δ' c pre wf' g' old val ok bs bl hl w' sm => ?_⟩
  have htb : tb ≠ I.hp := fun e => a.free.ne (by rw [e]; simp)
  refine h s' { x with H := H' } B' c ⟨w', a.stg.put g pre wf' g' old bs, sm.at a.tb_ (by simpa using htb), ⟨a.free.ne⟩, a.fresh, a.same.tail' sm (fun j hj => .inl ?_), a.pos⟩ ⟨ok, val⟩ (fun c0 t0 r => r.put a.stg pre bs) bl hl rfl rfl sm
  simp at hj; subst hj
  exact a.fresh _ (by simp)

theorem uniStep (hU : Has S 438 C_unify) (a : StoreAt s st I J tb y f x B ps) {c1 c2 : Cell} {l r : Tm} (r1 : Reps y.F x.H B c1 l) (r2 : Reps y.F x.H B c2 r) (wl : WT y.F lt5 l) (wr : WT y.F lt5 r) (hB : B.length ≤ 60) (hr : x.T.length + x.H.length < 1000) {K : EP}
    (hno : ∀ s', (∀ ν, ¬ Solves ν (ps ++ [(l, r)])) → SymAt s' I.sy J y → Same [J.tx, J.an, J.fl, J.fn] st s' → Same [I.hp, I.tr] s s' → K (.bool false) s')
    (hyes : ∀ s' x', StoreAt s' st I J tb y f x' B (ps ++ [(l, r)]) → UPost y.F B x c1 c2 x' true → x'.T.length ≤ x.T.length + x.H.length → x'.H.length = x.H.length → Same [I.hp, I.tr] s s' → K (.bool true) s') :
    S.C 438 [.obj I.s, cM c1, cM c2, .bool true] s K := by
  refine hU _ _ _ ⟨I, J, x, y, B, c1, c2, rfl, a.w, a.stg.wf, a.stg.gen, r1.1, r2.1, hB, a.pos, hr, fun b x' s' u w' sm => ?_⟩
  have hs : Same [J.tx, J.an, J.fl, J.fn] st s' := a.same.tail' sm (fun j hj => .inl (by
    simp at hj
    rcases hj with rfl | rfl
    · exact a.fresh _ (by simp)
    · exact a.fresh _ (by simp)))
  have htb : tb ∉ [I.hp, I.tr] := fun e => a.free.ne (by simp at e ⊢; rcases e with e | e <;> simp [e])
  have room := u.ext.room
  cases b with
  | true => exact hyes s' x' ⟨w', a.stg.uni r1 r2 wl wr u, sm.at a.tb_ htb, ⟨a.free.ne⟩, a.fresh, hs, a.pos⟩ u room.1 room.2 sm
  | false => exact hno s' (a.stg.no r1 r2 wl wr u) w'.Y hs sm

noncomputable def ppM (p : Tm × Tm) : MV := .tup [tmM p.1, tmM p.2]
noncomputable def optM : Option Tm → MV
  | none => .none
  | some t => tmM t

noncomputable def TOK (F : Fun) (t : Tm) : Prop := WT F lt5 t ∧ nApp t ≤ 3 ∧ hsz t ≤ 9
noncomputable def PsOK (F : Fun) (ps : List (Tm × Tm)) : Prop := ∀ p ∈ ps, TOK F p.1 ∧ TOK F p.2
theorem PsOK.mono {F F' : Fun} (h : ∀ (i : Nat) p, F[i]? = some p → F'[i]? = some p) {ps : List (Tm × Tm)} (k : PsOK F ps) : PsOK F' ps := fun p hp => ⟨⟨(k p hp).1.1.mono h, (k p hp).1.2⟩, ⟨(k p hp).2.1.mono h, (k p hp).2.2⟩⟩

noncomputable def symX (J : SyIds) : List Nat := [J.tx, J.an, J.fl, J.fn]

structure LawPre (st : Objs) (sy : Nat) (J : SyIds) (y : Sym) (ps : List (Tm × Tm)) (pl : Nat) : Prop where
  Y : SymAt st sy J y
  lx : y.X.length < 900
  lf : y.F.length < 900
  f0 : ∃ p, y.F[0]? = some (p, 2)
  pos : ∀ p ∈ y.F, 0 ≤ p.2
  pl_ : st[pl]? = some (.list (ps.map ppM))
  plx : pl ∉ symX J
  ok : PsOK y.F ps

inductive C_lsolved (vs : List MV) (st : Objs) (Q : EP) : Prop
  | mk (sy : _) (J : _) (y : _) (ps : _) (pl : _) (h0 : vs = [.obj sy, .obj pl]) (h1 : LawPre st sy J y ps pl) (h2 : ps.length ≤ 6) (h3 : ∀ st' y' r, SymAt st' sy J y' → SyExt 1 y y' → SolvedR y' ps r → Same (symX J) st st' → Q (optM r) st') : C_lsolved vs st Q


inductive LInv (st : Objs) (I : Ids) (J : SyIds) (tb : Nat) (y : Sym) (f pl : Nat) (ps : List (Tm × Tm)) (k : Nat) (loc : List MV) (s : Objs) : Prop
  | mk (x : Sto) (B : List Nat) (v5 v6 : MV) (sa : StoreAt s st I J tb y f x B (ps.take k)) (hB : B.length ≤ 1 + 6 * k) (hH : x.H.length ≤ 6 + 18 * k) (hT : x.T.length ≤ 120 * k) (hk : k ≤ ps.length)
      (hl : loc = [.obj I.sy, .obj pl, .obj I.s, .obj tb, cM (.str 0), v5, v6]) : LInv st I J tb y f pl ps k loc s

theorem itemsL {st : Objs} {k : Nat} {xs : List MV} (h : st[k]? = some (.list xs)) : itemsM st (.obj k) = some xs := itemsU h
theorem nz_ppM (p : Tm × Tm) : nz (some (ppM p)) = some (ppM p) := rfl

theorem Same.nil {X : List Nat} {a b : Objs} (h : Same [] a b) : Same X a b := h.weak fun j hj => by cases hj
theorem ps_items {ps : List (Tm × Tm)} {k : Nat} (h : k < ps.length) : (ps.map ppM)[k]? = some (ppM ps[k]) := by rw [List.getElem?_map, List.getElem?_eq_getElem h]; rfl
theorem solves_snoc {ν : Nat → Tm} {ps : List (Tm × Tm)} {p : Tm × Tm} {k : Nat} (hν : Solves ν ps) (h : p ∈ ps) : Solves ν (ps.take k ++ [p]) := fun q hq => by
  rcases List.mem_append.mp hq with hq | hq
  · exact hν q (List.mem_of_mem_take hq)
  · rw [List.mem_singleton] at hq; subst hq; exact hν _ h

theorem f_lsolved (hM : S.M = mt) (hS : Has S 485 C_lstore) (hP : Has S 363 C_put) (hU : Has S 438 C_unify) (hT : Has S 370 C_take) {vs : List MV} {Q : EP} (h : C_lsolved vs st Q) : vs.length = 2 ∧ wpF S b__law_solved (frame ns__law_solved vs) st Q := by
  obtain ⟨sy, J, y0, ps, pl, rfl, pre, hlen, q⟩ := h
  refine ⟨rfl, ?_⟩
  unfold b__law_solved
  walk_at "f"
  refine hS _ _ _ ⟨sy, J, y0, rfl, pre.Y, Nat.lt_of_lt_of_le pre.lx (by decide), Nat.lt_of_lt_of_le pre.lf (by decide), pre.f0, fun s1 I mh y f a tb w1 ey x1 ha hf f0 htb free fresh sm1 => ?_⟩
  subst ey
  have ok := pre.ok.mono x1.F
  have plitems : ∀ {s}, Same [J.tx, J.an, J.fl, J.fn] st s → itemsM s (.obj pl) = some (ps.map ppM) := fun h => itemsL (h.at pre.pl_ pre.plx)
  have hit := plitems sm1
  walk_at "m"
  have S1 : StoreAt s1 st I J tb y f ⟨H5 f, [], 0, mh⟩ [0] [] := ⟨w1, Stage.start hf f0, htb, free, fresh, sm1, x1.pos pre.pos⟩
  refine ⟨by rw [List.length_map]; unfold lim; lia, LInv st I J tb y f pl ps, ⟨_, _, .unb, .unb, S1, Nat.le_refl 1, Nat.le_refl 6, Nat.le_refl 0, Nat.zero_le _, rfl⟩, ?_⟩
  clear hit S1
  rintro k _ s ⟨x, B, v5, v6, sa, hB, hH, hTl, hk, rfl⟩
  refine ⟨plitems sa.same, ?_⟩
  by_cases hkl : k < ps.length
  · refine f_some (ps_items hkl) ?_
    have hin : ps[k] ∈ ps := List.getElem_mem hkl
    have htk : ps.take (k + 1) = ps.take k ++ [ps[k]] := by rw [List.take_succ_eq_append_getElem hkl]
    generalize ps[k] = p at hin htk ⊢
    obtain ⟨l, r⟩ := p
    obtain ⟨⟨wl, al, zl⟩, ⟨wr, ar, zr⟩⟩ := ok _ hin
    have w0 := sa.w
    walk_at "m"
    refine putStep hP sa wl (by lia) (by lia) fun s2 x2 B2 c1 sa2 r1 _ bl2 hl2 ht2 hb2 sm2 => ?_
    have w2 := sa2.w
    walk_at "m"
    refine putStep hP sa2 wr (by lia) (by lia) fun s3 x3 B3 c2 sa3 r2 tr bl3 hl3 ht3 hb3 sm3 => ?_
    have r1' := tr _ _ r1
    walk_at "m"
    refine uniStep hU sa3 r1' r2 wl wr (by lia) (by rw [ht3, ht2]; lia) (fun s4 no Y4 sm4 _ => ?_) (fun s4 x4 sa4 u hT4 hH4 _ => ?_)
    · walk_at "m"
      exact q s4 y none Y4 x1 (fun ν hν => no ν (solves_snoc hν hin)) sm4
    · walk_at "m"
      rw [ht3, ht2] at hT4
      exact ⟨x4, B3, _, _, by rw [htk]; exact sa4, by lia, by lia, by lia, hkl, rfl⟩
  · refine f_none (by rw [List.length_map]; exact hkl) fun _ => ?_
    have hke : k = ps.length := by lia
    subst hke
    rw [List.take_length] at sa
    walk_at "m"
    have w0 := sa.w
    have w5 := sa.w.app [.dictI []]
    obtain ⟨δ, g⟩ := sa.stg.gen
    walk_at "m"
    refine e_dictI ?_
    walk_at "m"
    refine hT _ _ _ ⟨I, J, x, y, B, δ, s.length, .str 0, [], rfl, w5, sa.stg.wf, g, sa.stg.top, get_last _ _, sa.w.free (Nat.le_refl _) _, ⟨.nil, fun a h => by cases h⟩, by lia, sa.pos, fun s6 l' hl' _ w6 sm6 _ => ?_⟩
    subst hl'
    refine q s6 y (some _) w6.Y x1 (sa.stg.done rfl hf ha rfl g (by lia)) ?_
    exact (sa.same.trans (Same.app s [.dictI []]).nil).tail' sm6 (fun j hj => .inl (by rw [List.mem_singleton] at hj; subst hj; exact sa.same.len))
end

set_option tactic.hygienic true

set_option tactic.hygienic false

theorem no_bind {F : Fun} {B : List Nat} {x x' : Sto} {c1 c2 : Cell} {δ : Nat → Tm} (g : Gen x.H F δ) (e : valC x.H F δ c1 = valC x.H F δ c2) (u : UPost F B x c1 c2 x' true) : x' = x := by
  obtain ⟨_, _, h⟩ := u.ok rfl
  have s' := (h δ).mp ⟨g.sol, e⟩
  have hH : x'.H = x.H := by
    apply List.ext_getElem?
    intro a
    rcases u.ext.cells a with q | ⟨ra, v, hv, hne, hb⟩
    · exact q
    · exfalso
      have nf : v.isFn = false := by
        cases hf : v.isFn with
        | false => rfl
        | true =>
          obtain ⟨f, rfl⟩ := isFn_iff.mp hf
          have := (u.ext.sf.fn a f).mp hv
          rw [ra] at this; cases this
      have q := s' a v hv nf
      rw [g.root a ra] at q
      cases v with
      | ref b =>
        simp only [valC] at q
        rw [g.root b (hb b rfl)] at q
        cases q; exact hne rfl
      | con n => simp [valC] at q
      | int n => simp [valC] at q
      | str n => simp [valC] at q
      | lis n => simp [valC] at q
      | fn n => cases nf
  obtain ⟨l, h1, _, h3, _⟩ := u.ext.trail
  have hl : l = [] := by
    cases l with
    | nil => rfl
    | cons a r =>
      have := h3 a (by simp)
      unfold Root at this
      rw [hH] at this
      exact (this.2 this.1).elim
  have h4 := u.ext.hb
  have h5 := u.ext.mh
  rw [hl, List.append_nil] at h1
  cases x; cases x'
  simp only at hH h1 h4 h5
  subst hH; subst h1; subst h4; subst h5
  rfl

section
variable {S : Sg} {s st : Objs} {I : Ids} {J : SyIds} {tb : Nat} {y : Sym} {f : Nat} {x : Sto} {B : List Nat} {ps : List (Tm × Tm)}

theorem StoreAt.other {s' : Objs} {x' : Sto} {X : List Nat} (a : StoreAt s st I J tb y f x B ps) (hx : x'.H = x.H) (w : Wd s' I J x' y) (sm : Same X s s') (h : ∀ j ∈ X, st.length ≤ j) (h2 : tb ∉ X) : StoreAt s' st I J tb y f x' B ps :=
  ⟨w, by rw [hx]; exact a.stg, sm.at a.tb_ h2, ⟨a.free.ne⟩, a.fresh, a.same.tail' sm (fun j hj => .inl (h j hj)), a.pos⟩

noncomputable abbrev CellsR (F : Fun) (H : List Cell) (B : List Nat) : List (Cell × Cell) → List (Tm × Tm) → Prop := All2 fun c p => Reps F H B c.1 p.1 ∧ Reps F H B c.2 p.2

structure SidesAt (s st : Objs) (I : Ids) (J : SyIds) (tb : Nat) (y : Sym) (f : Nat) (x : Sto) (B : List Nat) (ps qs : List (Tm × Tm)) (cl : Nat) (cs : List (Cell × Cell)) : Prop where
  a : StoreAt s st I J tb y f x B ps
  r : CellsR y.F x.H B cs qs
  cl_ : s[cl]? = some (.list (cs.map pM))
  fr : Free s I J cl
  ntb : cl ≠ tb
  ge : st.length ≤ cl

inductive C_sides (vs : List MV) (st : Objs) (Q : EP) : Prop
  | mk (sy : _) (J : _) (y : _) (ps : _) (pl : _) (h0 : vs = [.obj sy, .obj pl]) (h1 : LawPre st sy J y ps pl) (h2 : ps.length ≤ 5) (h3 : (∃ ν, Solves ν ps)) (h4 : ∀ st' y', SymAt st' sy J y' → SyExt 1 y y' → Same (symX J) st st' → Q (.bool true) st') : C_sides vs st Q


inductive S1Inv (st : Objs) (I : Ids) (J : SyIds) (tb : Nat) (y : Sym) (f pl cl : Nat) (ps : List (Tm × Tm)) (k : Nat) (loc : List MV) (s : Objs) : Prop
  | mk (x : Sto) (B : List Nat) (cs : List (Cell × Cell)) (v6 v7 : MV) (sa : SidesAt s st I J tb y f x B [] (ps.take k) cl cs) (hB : B.length ≤ 1 + 6 * k) (hH : x.H.length ≤ 6 + 18 * k) (hT : x.T = []) (hk : k ≤ ps.length)
      (hl : loc = [.obj I.sy, .obj pl, .obj I.s, .obj tb, cM (.str 0), .obj cl, v6, v7, .unb, .unb, .unb, .unb]) : S1Inv st I J tb y f pl cl ps k loc s
inductive S2Inv (st : Objs) (I : Ids) (J : SyIds) (tb : Nat) (y : Sym) (f pl cl : Nat) (ps : List (Tm × Tm)) (B : List Nat) (hl : Nat) (cs : List (Cell × Cell)) (v6 v7 : MV) (k : Nat) (loc : List MV) (s : Objs) : Prop
  | mk (x : Sto) (v8 v9 : MV) (sa : SidesAt s st I J tb y f x B (ps.take k) ps cl cs) (hH : x.H.length = hl) (hT : x.T.length ≤ 120 * k) (hk : k ≤ ps.length)
      (hloc : loc = [.obj I.sy, .obj pl, .obj I.s, .obj tb, cM (.str 0), .obj cl, v6, v7, v8, v9, .unb, .unb]) : S2Inv st I J tb y f pl cl ps B hl cs v6 v7 k loc s
inductive S3Inv (st : Objs) (I : Ids) (J : SyIds) (tb : Nat) (y : Sym) (f pl cl : Nat) (ps : List (Tm × Tm)) (B : List Nat) (x : Sto) (cs : List (Cell × Cell)) (v6 v7 : MV) (k : Nat) (loc : List MV) (s : Objs) : Prop
  | mk (v8 v9 v10 v11 : MV) (sa : SidesAt s st I J tb y f x B ps ps cl cs) (hloc : loc = [.obj I.sy, .obj pl, .obj I.s, .obj tb, cM (.str 0), .obj cl, v6, v7, v8, v9, v10, v11]) : S3Inv st I J tb y f pl cl ps B x cs v6 v7 k loc s

theorem SidesAt.out {s st : Objs} {I : Ids} {J : SyIds} {tb : Nat} {y : Sym} {f : Nat} {x : Sto} {B : List Nat} {ps qs : List (Tm × Tm)} {cl : Nat} {cs : List (Cell × Cell)} (sa : SidesAt s st I J tb y f x B ps qs cl cs) : cl ∉ [I.hp, I.tr] ∧ cl ∉ [I.s] ∧ tb ∉ [I.hp, I.tr] ∧ tb ∉ [I.s] := by
  have h := sa.fr.ne
  have h2 := sa.a.free.ne
  simp only [List.mem_cons, List.not_mem_nil, or_false, not_or] at h h2 ⊢
  exact ⟨⟨h.2.2.1, h.2.2.2.2.1⟩, h.1, ⟨h2.2.2.1, h2.2.2.2.2.1⟩, h2.1⟩

theorem cs_get {cs : List (Cell × Cell)} {k : Nat} {c1 c2 : Cell} (h : cs[k]? = some (c1, c2)) : (cs.map pM)[k]? = some (.tup [cM c1, cM c2]) := by rw [List.getElem?_map, h]; rfl

theorem f_sides (hM : S.M = mt) (hS : Has S 485 C_lstore) (hP : Has S 363 C_put) (hU : Has S 438 C_unify) (hT : Has S 370 C_take) (hK : Has S 264 C_mark) {vs : List MV} {Q : EP} (h : C_sides vs st Q) : vs.length = 2 ∧ wpF S b__law_sides_one (frame ns__law_sides_one vs) st Q := by
  obtain ⟨sy, J, y0, ps, pl, rfl, pre, hlen, hsol, q⟩ := h
  refine ⟨rfl, ?_⟩
  unfold b__law_sides_one
  walk_at "f"
  refine hS _ _ _ ⟨sy, J, y0, rfl, pre.Y, Nat.lt_of_lt_of_le pre.lx (by decide), Nat.lt_of_lt_of_le pre.lf (by decide), pre.f0, fun s1 I mh y f a tb w1 ey x1 ha hf f0 htb free fresh sm1 => ?_⟩
  subst ey
  have ok := pre.ok.mono x1.F
  have plitems : ∀ {s}, Same [J.tx, J.an, J.fl, J.fn] st s → itemsM s (.obj pl) = some (ps.map ppM) := fun h => itemsL (h.at pre.pl_ pre.plx)
  have S1 : StoreAt s1 st I J tb y f ⟨H5 f, [], 0, mh⟩ [0] [] := ⟨w1, Stage.start hf f0, htb, free, fresh, sm1, x1.pos pre.pos⟩
  have tbl := (List.getElem?_eq_some_iff.mp htb).1
  have A1 : SidesAt (s1 ++ [.list []]) st I J tb y f ⟨H5 f, [], 0, mh⟩ [0] [] (ps.take 0) s1.length [] :=
    ⟨S1.other rfl (w1.app _) (Same.app _ _) (fun j hj => by cases hj) (fun h => by cases h), .nil, get_last _ _, ⟨(w1.free (Nat.le_refl _) []).ne⟩, by lia, sm1.len⟩
  have hit := plitems A1.a.same
  walk_at "m"
  refine ⟨by rw [List.length_map]; unfold lim; lia, S1Inv st I J tb y f pl s1.length ps, ⟨_, _, [], .unb, .unb, A1, Nat.le_refl 1, Nat.le_refl 6, rfl, Nat.zero_le _, rfl⟩, ?_⟩
  clear hit A1 S1 tbl sm1
  generalize s1.length = cl
  rintro k _ s ⟨x, B, cs, v6, v7, sa, hB, hH, hTl, hk, rfl⟩
  refine ⟨plitems sa.a.same, ?_⟩
  have csl := sa.r.length
  by_cases hkl : k < ps.length
  · refine f_some (ps_items hkl) ?_
    have hin : ps[k] ∈ ps := List.getElem_mem hkl
    have htk : ps.take (k + 1) = ps.take k ++ [ps[k]] := by rw [List.take_succ_eq_append_getElem hkl]
    generalize ps[k] = p at hin htk ⊢
    obtain ⟨l, r⟩ := p
    obtain ⟨⟨wl, al, zl⟩, ⟨wr, ar, zr⟩⟩ := ok _ hin
    have mva : mval S (.obj cl) 13 s = some (.builtin "list.append") := mval_app sa.cl_
    have w0 := sa.a.w
    walk_at "m"
    refine putStep hP sa.a wl (by lia) (by lia) fun s2 x2 B2 c1 sa2 r1 tr1 bl2 hl2 ht2 hb2 sm2 => ?_
    have w2 := sa2.w
    walk_at "m"
    refine putStep hP sa2 wr (by lia) (by lia) fun s3 x3 B3 c2 sa3 r2 tr2 bl3 hl3 ht3 hb3 sm3 => ?_
    have cl3 : s3[cl]? = some (.list (cs.map pM)) := (sm2.trans sm3).at sa.cl_ (fun h => sa.out.1 (by rw [List.mem_singleton] at h; rw [h]; exact .head _))
    rw [List.length_take] at csl
    have cll : (cs.map pM).length ≤ lim := by rw [List.length_map, csl]; unfold lim; lia
    have clt := (List.getElem?_eq_some_iff.mp cl3).1
    walk_at "m"
    refine ⟨x3, B3, cs ++ [(c1, c2)], _, _, ⟨sa3.other rfl (sa3.w.other ⟨sa.fr.ne⟩) (Same.set _ _ _) (by intro j hj; rw [List.mem_singleton] at hj; subst hj; exact sa.ge) (fun h => sa.ntb (List.mem_singleton.mp h).symm), ?_, ?_, ⟨sa.fr.ne⟩, sa.ntb, sa.ge⟩, by lia, by lia, by rw [ht3, ht2]; exact hTl, hkl, rfl⟩
    · rw [htk]
      exact All2.append (sa.r.mono fun c p hh => ⟨tr2 _ _ (tr1 _ _ hh.1), tr2 _ _ (tr1 _ _ hh.2)⟩) (.cons ⟨tr2 _ _ r1, r2⟩ .nil)
    · rw [List.getElem?_set_self clt, List.map_append]; rfl
  refine f_none (by rw [List.length_map]; exact hkl) fun _ => ?_
  have hke : k = ps.length := by lia
  subst hke
  rw [List.take_length] at sa csl
  obtain ⟨ν, hν⟩ := hsol
  have clitems : ∀ {s}, s[cl]? = some (.list (cs.map pM)) → itemsM s (.obj cl) = some (cs.map pM) := fun h => itemsL h
  have hcl : (cs.map pM).length = ps.length := by rw [List.length_map, csl]
  have hit := clitems sa.cl_
  walk_at "m"
  refine ⟨by rw [hcl]; unfold lim; lia, S2Inv st I J tb y f pl cl ps B x.H.length cs v6 v7, ⟨x, .unb, .unb, sa, rfl, by rw [hTl]; exact Nat.zero_le _, Nat.zero_le _, rfl⟩, ?_⟩
  have hhl : x.H.length = x.H.length := rfl
  generalize x.H.length = hl at hH ⊢
  clear sa hTl hhl hit x
  rintro k _ s ⟨x, v8, v9, sa, hhl, hTl, hk, rfl⟩
  refine ⟨clitems sa.cl_, ?_⟩
  by_cases hkl : k < ps.length
  · obtain ⟨c, hc⟩ : ∃ c, cs[k]? = some c := ⟨_, List.getElem?_eq_getElem (by lia)⟩
    obtain ⟨p, hp, hr⟩ := sa.r.get hc
    have hin : p ∈ ps := List.mem_of_getElem? hp
    have hpk : ps[k] = p := by rw [List.getElem?_eq_getElem hkl] at hp; exact Option.some.inj hp
    have htk : ps.take (k + 1) = ps.take k ++ [p] := by rw [List.take_succ_eq_append_getElem hkl, hpk]
    have nk : Solves ν (ps.take k ++ [p]) := solves_snoc hν hin
    obtain ⟨l, r⟩ := p
    obtain ⟨c1, c2⟩ := c
    obtain ⟨⟨wl, al, zl⟩, ⟨wr, ar, zr⟩⟩ := ok _ hin
    refine f_some (cs_get hc) ?_
    walk_at "m"
    refine uniStep hU sa.a hr.1 hr.2 wl wr (by lia) (by lia) (fun s4 no Y4 sm4 _ => (no ν nk).elim) (fun s4 x4 sa4 u hT4 hH4 smu => ?_)
    walk_at "m"
    exact ⟨x4, _, _, ⟨by rw [htk]; exact sa4, sa.r.mono fun c p hh => ⟨hh.1.uni u rfl, hh.2.uni u rfl⟩, smu.at sa.cl_ sa.out.1, ⟨sa.fr.ne⟩, sa.ntb, sa.ge⟩, by lia, by lia, hkl, rfl⟩
  refine f_none (by rw [hcl]; exact hkl) fun _ => ?_
  have hke : k = ps.length := by lia
  subst hke
  rw [List.take_length] at sa
  obtain ⟨s2, e2, w2, sm2, l2⟩ := sa.a.w.setHb x.H.length
  have A2 : SidesAt s2 st I J tb y f { x with hb := x.H.length } B ps ps cl cs :=
    ⟨sa.a.other rfl w2 sm2 (by intro j hj; rw [List.mem_singleton] at hj; subst hj; exact sa.a.fresh _ (.head _)) sa.out.2.2.2, sa.r, sm2.at sa.cl_ sa.out.2.1, ⟨sa.fr.ne⟩, sa.ntb, sa.ge⟩
  have a2 := sa.a.w.W.a2
  have lh := sa.a.w.W.lenHp
  have hit := clitems A2.cl_
  walk_at "m"
  refine ⟨by rw [hcl]; unfold lim; lia, S3Inv st I J tb y f pl cl ps B { x with hb := x.H.length } cs v6 v7, ⟨_, _, .unb, .unb, A2, rfl⟩, ?_⟩
  have hTx : ({ x with hb := x.H.length } : Sto).T.length + ({ x with hb := x.H.length } : Sto).H.length < 1000 := by simp only; lia
  generalize ({ x with hb := x.H.length } : Sto) = x3 at hTx ⊢
  clear sa e2 w2 sm2 l2 A2 hTl hhl a2 lh hit
  rintro k _ s ⟨v8, v9, v10, v11, sa, rfl⟩
  refine ⟨clitems sa.cl_, ?_⟩
  by_cases hkl : k < ps.length
  case neg =>
    refine f_none (by rw [hcl]; exact hkl) fun _ => ?_
    walk_at "m"
    exact q s y sa.a.w.Y x1 sa.a.same
  obtain ⟨c, hc⟩ : ∃ c, cs[k]? = some c := ⟨_, List.getElem?_eq_getElem (by lia)⟩
  obtain ⟨p, hp, hr⟩ := sa.r.get hc
  have hin : p ∈ ps := List.mem_of_getElem? hp
  obtain ⟨l, r⟩ := p
  obtain ⟨c1, c2⟩ := c
  obtain ⟨δ, g⟩ := sa.a.stg.gen
  have heq : valC x3.H y.F δ c1 = valC x3.H y.F δ c2 := by
    rw [hr.1.2 δ g.sol, hr.2.2 δ g.sol]
    exact sa.a.stg.snd δ g.sol (l, r) hin
  refine f_some (cs_get hc) ?_
  have w3 := sa.a.w
  walk_at "m"
  refine hK _ _ _ ⟨I, J, x3, y, rfl, sa.a.w, ?_⟩
  walk_at "m"
  refine hU _ _ _ ⟨I, J, x3, y, B, c1, c2, rfl, sa.a.w, sa.a.stg.wf, sa.a.stg.gen, hr.1.1, hr.2.1, by lia, sa.a.pos, hTx, fun b x' s4 u w4 sm4 => ?_⟩
  cases b with
  | false => exact (u.no rfl δ g.sol heq).elim
  | true =>
  have hxx := no_bind g heq u
  subst hxx
  have A4 : SidesAt s4 st I J tb y f x' B ps ps cl cs :=
    ⟨sa.a.other rfl w4 sm4 (by intro j hj; rcases List.mem_cons.mp hj with rfl | hj
                               · exact sa.a.fresh _ (.tail _ (.head _))
                               · rw [List.mem_singleton] at hj; subst hj; exact sa.a.fresh _ (.tail _ (.tail _ (.tail _ (.head _))))) sa.out.2.2.1, sa.r, sm4.at sa.cl_ sa.out.1, ⟨sa.fr.ne⟩, sa.ntb, sa.ge⟩
  walk_at "m"
  refine hK _ _ _ ⟨I, J, x', y, rfl, w4, ?_⟩
  walk_at "m"
  refine s_KI0 (by rw [dt rfl]; rfl) ?_
  walk_at "m"
  refine e_dictI ?_
  have w5 := w4.app [.dictI []]
  have smA := Same.app s4 [MO.dictI []]
  have fr5 : ∀ s, Free s I J s4.length := fun s => ⟨(w4.free (Nat.le_refl _) []).ne⟩
  walk_at "m"
  refine hT _ _ _ ⟨I, J, x', y, B, δ, s4.length, c1, [], rfl, w5, A4.a.stg.wf, g, hr.1.1, get_last _ _, fr5 _, ⟨.nil, fun a h => by cases h⟩, by lia, sa.a.pos, fun s6 l6 hl6 hr6 w6 sm6 ht6 => ?_⟩
  walk_at "m"
  refine hT _ _ _ ⟨I, J, x', y, B, δ, s4.length, c2, l6, rfl, w6, A4.a.stg.wf, g, hr.2.1, ht6, fr5 _, hr6, by lia, sa.a.pos, fun s7 l7 hl7 hr7 w7 sm7 ht7 => ?_⟩
  have hll : l7 = l6 := by
    rw [hl7, ← heq]
    apply occ_id
    intro a ha
    rw [hl6]
    exact (occ_has _ _ _).mpr (.inr ha)
  have hcmp : cmpM s7 .NotEq (tmM (ren l6 (valC x'.H y.F δ c1))) (tmM (ren l7 (valC x'.H y.F δ c2))) = some false := by
    unfold cmpM
    rw [hll, ← heq, eqM_tm s7 (by
      rw [ht_ren]
      have : ht (valC x'.H y.F δ c1) ≤ B.length := ht_le A4.a.stg.wf g hr.1.1
      lia)]
    rfl
  have l4 := A4.a.same.len
  have smX : Same [s4.length] s4 s7 := smA.nil.trans (sm6.trans sm7)
  have tlt := (List.getElem?_eq_some_iff.mp A4.a.tb_).1
  have clt := (List.getElem?_eq_some_iff.mp A4.cl_).1
  walk_at "m"
  exact ⟨_, _, _, _, ⟨A4.a.other rfl w7 smX (by intro j hj; rw [List.mem_singleton] at hj; subst hj; exact l4) (fun h => by rw [List.mem_singleton] at h; lia), A4.r, smX.at A4.cl_ (fun h => by rw [List.mem_singleton] at h; lia), ⟨sa.fr.ne⟩, sa.ntb, sa.ge⟩, rfl⟩
end

set_option tactic.hygienic true

set_option tactic.hygienic false

noncomputable def padL (g : Tm × Tm → Tm) (ps : List (Tm × Tm)) : List Tm := (ps.map g ++ List.replicate 5 (Tm.num 1)).take 5

theorem padL_eq (g : Tm × Tm → Tm) {ps : List (Tm × Tm)} (h : ps.length ≤ 5) : padL g ps = ps.map g ++ List.replicate (5 - ps.length) (Tm.num 1) := by
  unfold padL
  rw [List.take_append, List.take_of_length_le (by rw [List.length_map]; exact h), List.length_map, List.take_replicate, Nat.min_eq_left (Nat.sub_le 5 ps.length)]
theorem padL_len (g : Tm × Tm → Tm) {ps : List (Tm × Tm)} (h : ps.length ≤ 5) : (padL g ps).length = 5 := by
  rw [padL_eq g h]; simp; lia
theorem padL_all {g : Tm × Tm → Tm} {ps : List (Tm × Tm)} {P : Tm → Prop} (h1 : P (.num 1)) (h : ∀ p ∈ ps, P (g p)) : ∀ t ∈ padL g ps, P t := by
  intro t ht
  have := List.mem_of_mem_take ht
  simp at this
  rcases this with ⟨a, b, hp, rfl⟩ | rfl
  · exact h _ hp
  · exact h1
theorem nApps_le {n : Nat} : ∀ {ts : List Tm}, (∀ t ∈ ts, nApp t ≤ n) → nApps ts ≤ ts.length * n
  | [], _ => by simp [nApps]
  | t :: r, h => by
    have h1 := h t (by simp)
    have h2 := nApps_le (ts := r) fun u hu => h u (by simp [hu])
    simp only [nApps, List.length_cons, Nat.add_mul]; lia
theorem hszs_le {n : Nat} : ∀ {ts : List Tm}, (∀ t ∈ ts, hsz t ≤ n) → hszs ts ≤ ts.length * n
  | [], _ => by simp [hszs]
  | t :: r, h => by
    have h1 := h t (by simp)
    have h2 := hszs_le (ts := r) fun u hu => h u (by simp [hu])
    simp only [hszs, List.length_cons, Nat.add_mul]; lia

theorem compL_cons' {one : Bool} {elt : ME} {x y : MV} {xs ys l : List MV} (h1 : bindC one x = some l) (h2 : pev l elt = some y) (h3 : compL one elt xs = some ys) : compL one elt (x :: xs) = some (y :: ys) := by
  show (match bindC one x with
    | some l => (match pev l elt, compL one elt xs with
      | some y, some ys => some (y :: ys)
      | _, _ => none)
    | none => none) = _
  rw [h1]
  show (match pev l elt, compL one elt xs with
      | some y, some ys => some (y :: ys)
      | _, _ => none) = _
  rw [h2, h3]
theorem compL_side {F : List (Tm × Tm)} {g : Tm × Tm → Tm} {n : Int} (h : ∀ p : Tm × Tm, pev [ppM p] (.sub (.loc 0) (.cst (.int n))) = some (tmM (g p))) : ∀ ps : List (Tm × Tm), compL true (.sub (.loc 0) (.cst (.int n))) (ps.map ppM) = some (tmsM (ps.map g))
  | [] => rfl
  | p :: r => compL_cons' rfl (h p) (compL_side (F := F) h r)
theorem pev_fst (p : Tm × Tm) : pev [ppM p] (.sub (.loc 0) (.cst (.int 0))) = some (tmM p.1) := by
  show tupAt (ppM p) 0 = _
  exact if_pos big0
theorem pev_snd (p : Tm × Tm) : pev [ppM p] (.sub (.loc 0) (.cst (.int 1))) = some (tmM p.2) := by
  show tupAt (ppM p) 1 = _
  exact if_pos big1

theorem listM_last (st : Objs) {xs : List MV} (h : xs.length ≤ lim) : listM (st ++ [.list xs]) (.obj st.length) = some xs := by
  rw [listU (get_last _ _), if_pos h]
theorem listM_app {st : Objs} {k : Nat} {xs : List MV} (h : st[k]? = some (.list xs)) (hl : xs.length ≤ lim) (g : Objs) : listM (st ++ g) (.obj k) = some xs := by
  exact (listU ((Same.app st g).at h (by simp))).trans (if_pos hl)

noncomputable def rowE (n : Int) : ME := .call (.cst (.bi .tuple)) [.slc (.bin .Add (.comp (.sub (.loc 0) (.cst (.int n))) [0] true (.loc 1)) (.bin .Mult (.lst [.tup [.cst (.str (Str.ofString "i")), .cst (.int 1)]]) (.cst (.int 5)))) (.cst .none) (.cst (.int 5)) (.cst .none)]

theorem row_expr {S : Sg} {loc : List MV} {st : Objs} {pl : Nat} {ps : List (Tm × Tm)} {g : Tm × Tm → Tm} {n : Int} (h1 : loc[1]? = some (.obj pl)) (hpl : st[pl]? = some (.list (ps.map ppM))) (hl : ps.length ≤ 5)
    (hg : compL true (.sub (.loc 0) (.cst (.int n))) (ps.map ppM) = some (tmsM (ps.map g))) {Q : EP} (q : ∀ s, Q (.tup (tmsM (padL g ps))) (st ++ s)) : wpE S loc (rowE n) st Q := by
  have la : (tmsM (ps.map g)).length ≤ lim := by rw [tms_len, List.length_map]; unfold lim; lia
  have li : (ps.map ppM).length ≤ lim := by rw [List.length_map]; unfold lim; lia
  have hit := itemsL hpl
  refine e_callB (es_cons (e_slc (e_bin (e_comp (e_loc h1 rfl (opt_of hit (k_comp li hg ?_)))))))
  have m2 : listM (st ++ [MO.list (tmsM (ps.map g))] ++ [MO.list [tmM (.num 1)]]) (.obj (st ++ [MO.list (tmsM (ps.map g))]).length) = some [tmM (.num 1)] := listM_last _ (Nat.le_of_ble_eq_true rfl)
  have r5 : (List.replicate (5 : Int).toNat (tmM (.num 1))) = tmsM (List.replicate 5 (Tm.num 1)) := rfl
  have b2 : binM .Mult (.obj (st ++ [MO.list (tmsM (ps.map g))]).length) (.int 5) (st ++ [MO.list (tmsM (ps.map g))] ++ [MO.list [tmM (.num 1)]]) = some (.obj (st ++ [MO.list (tmsM (ps.map g))] ++ [MO.list [tmM (.num 1)]]).length, st ++ [MO.list (tmsM (ps.map g))] ++ [MO.list [tmM (.num 1)]] ++ [MO.list (tmsM (List.replicate 5 (Tm.num 1)))]) := by
    unfold binM; simp only [m2]; rw [if_pos trivial, r5]
  refine e_bin (e_lst (es_cons (e_tup (es_cons (e_cst (es_cons (e_cst (es_nil (es_nil (e_cst (optP_of b2 ?_)))))))))))
  have m3 := listM_last (st ++ [MO.list (tmsM (ps.map g))] ++ [MO.list [tmM (.num 1)]]) (xs := tmsM (List.replicate 5 (Tm.num 1))) (by rw [tms_len]; exact Nat.le_of_ble_eq_true rfl)
  have m1 : listM (st ++ [MO.list (tmsM (ps.map g))] ++ [MO.list [tmM (.num 1)]] ++ [MO.list (tmsM (List.replicate 5 (Tm.num 1)))]) (.obj st.length) = some (tmsM (ps.map g)) := by
    rw [List.append_assoc]; exact listM_app (get_last _ _) la _
  have b3 : binM .Add (.obj st.length) (.obj (st ++ [MO.list (tmsM (ps.map g))] ++ [MO.list [tmM (.num 1)]]).length) (st ++ [MO.list (tmsM (ps.map g))] ++ [MO.list [tmM (.num 1)]] ++ [MO.list (tmsM (List.replicate 5 (Tm.num 1)))]) =
      some (.obj (st ++ [MO.list (tmsM (ps.map g))] ++ [MO.list [tmM (.num 1)]] ++ [MO.list (tmsM (List.replicate 5 (Tm.num 1)))]).length, st ++ [MO.list (tmsM (ps.map g))] ++ [MO.list [tmM (.num 1)]] ++ [MO.list (tmsM (List.replicate 5 (Tm.num 1)))] ++ [MO.list (tmsM (ps.map g) ++ tmsM (List.replicate 5 (Tm.num 1)))]) := by
    unfold binM; simp only [m1, m3]
  refine optP_of b3 (e_cst (e_cst (e_cst ?_)))
  have e2 : tmsM (ps.map g) ++ tmsM (List.replicate 5 (Tm.num 1)) = tmsM (ps.map g ++ List.replicate 5 (Tm.num 1)) := by rw [tmsM_map, tmsM_map, tmsM_map, List.map_append]
  rw [e2]
  have m4 : listS S (st ++ [MO.list (tmsM (ps.map g))] ++ [MO.list [tmM (.num 1)]] ++ [MO.list (tmsM (List.replicate 5 (Tm.num 1)))] ++ [MO.list (tmsM (ps.map g ++ List.replicate 5 (Tm.num 1)))]) (.obj (st ++ [MO.list (tmsM (ps.map g))] ++ [MO.list [tmM (.num 1)]] ++ [MO.list (tmsM (List.replicate 5 (Tm.num 1)))]).length) = some (tmsM (ps.map g ++ List.replicate 5 (Tm.num 1))) :=
    listM_last _ (by rw [tms_len, List.length_append, List.length_map, List.length_replicate]; unfold lim; lia)
  have sl : slcL (tmsM (ps.map g ++ List.replicate 5 (Tm.num 1))) .none (.int 5) .none = some (tmsM (padL g ps)) := by
    unfold slcL padL; simp only; rw [if_pos ⟨by decide, by unfold big; decide⟩, tmsM_map, tmsM_map, List.map_take]; rfl
  have ct : callB .tuple [.obj (st ++ [MO.list (tmsM (ps.map g))] ++ [MO.list [tmM (.num 1)]] ++ [MO.list (tmsM (List.replicate 5 (Tm.num 1)))] ++ [MO.list (tmsM (ps.map g ++ List.replicate 5 (Tm.num 1)))]).length] (st ++ [MO.list (tmsM (ps.map g))] ++ [MO.list [tmM (.num 1)]] ++ [MO.list (tmsM (List.replicate 5 (Tm.num 1)))] ++ [MO.list (tmsM (ps.map g ++ List.replicate 5 (Tm.num 1)))] ++ [MO.list (tmsM (padL g ps))]) = some (.tup (tmsM (padL g ps)), st ++ [MO.list (tmsM (ps.map g))] ++ [MO.list [tmM (.num 1)]] ++ [MO.list (tmsM (List.replicate 5 (Tm.num 1)))] ++ [MO.list (tmsM (ps.map g ++ List.replicate 5 (Tm.num 1)))] ++ [MO.list (tmsM (padL g ps))]) := by
    exact tupL (listM_last _ (show (tmsM (padL g ps)).length ≤ lim by rw [tms_len, padL_len g hl]; exact Nat.le_of_ble_eq_true rfl))
  refine opt_of m4 (opt_of sl (es_nil (optP_of ct ?_)))
  simp only [List.append_assoc]
  exact q _

theorem rows_iff {F : Fun} {f : Nat} {H : List Cell} {B : List Nat} (s : Stage F f H B []) {c1 c2 : Cell} {r : Nat} {ps : List (Tm × Tm)} (hl : ps.length ≤ 5) (h1 : Reps F H B c1 (.app r (padL Prod.fst ps))) (h2 : Reps F H B c2 (.app r (padL Prod.snd ps)))
    (ok : ∀ p ∈ ps, WT F lt5 p.1 ∧ WT F lt5 p.2) : (∃ ρ, Sol H F ρ ∧ valC H F ρ c1 = valC H F ρ c2) ↔ ∃ ν, Solves ν ps := by
  have key : ∀ ν : Nat → Tm, (Tm.app r (padL Prod.fst ps)).sub ν = (Tm.app r (padL Prod.snd ps)).sub ν ↔ Solves ν ps := by
    intro ν
    simp only [Tm.sub, Tm.app.injEq, true_and, Tm.subs_map]
    rw [padL_eq _ hl, padL_eq _ hl, List.map_append, List.map_append, List.append_cancel_right_eq, List.map_map, List.map_map, List.map_inj_left]
    exact Iff.rfl
  constructor
  · rintro ⟨ρ, hs, e⟩
    rw [h1.2 ρ hs, h2.2 ρ hs] at e
    exact ⟨_, (key _).mp e⟩
  · rintro ⟨ν, hν⟩
    obtain ⟨ρ, hs, e⟩ := s.cmp ν fun p hp => by simp at hp
    refine ⟨ρ, hs, ?_⟩
    rw [h1.2 ρ hs, h2.2 ρ hs, key]
    intro p hp
    have e1 : ∀ t, WT F lt5 t → (t.sub fun k => ρ (k + 1)) = t.sub ν := fun t w => Tm.sub_ext fun k hk => e k (w.has hk)
    rw [e1 _ (ok p hp).1, e1 _ (ok p hp).2]
    exact hν p hp

theorem WT.row {F : Fun} {g : Tm × Tm → Tm} {ps : List (Tm × Tm)} {r : Nat} {p : Int} (hF : F[r]? = some (p, 5)) (h0 : r ≠ 0) (hl : ps.length ≤ 5) (ok : ∀ p ∈ ps, TOK F (g p)) :
    WT F lt5 (.app r (padL g ps)) ∧ nApp (.app r (padL g ps)) ≤ 16 ∧ hsz (.app r (padL g ps)) ≤ 51 := by
  have ln := padL_len g hl
  refine ⟨.app p (by rw [ln]; exact hF) (by lia) (fun h => (h0 h).elim) (padL_all (.num 1) fun p hp => (ok p hp).1), ?_, ?_⟩
  · have := nApps_le (n := 3) (padL_all (g := g) (ps := ps) (P := fun t => nApp t ≤ 3) (by simp [nApp]) fun p hp => (ok p hp).2.1)
    simp only [nApp]; lia
  · have := hszs_le (n := 9) (padL_all (g := g) (ps := ps) (P := fun t => hsz t ≤ 9) (by simp [hsz]) fun p hp => (ok p hp).2.2)
    simp only [hsz, if_neg h0]; lia

/- the store as it was, told by == -/
noncomputable def cD (c : Cell) : PyData := .tuple [.int c.tag, .int c.num]
theorem pyOfs_cells : ∀ H : List Cell, pyOfs (H.map cM) = some (H.map cD)
  | [] => rfl
  | c :: r => by simp only [List.map_cons, pyOfs, cM, pyOf, Option.map, pyOfs_cells r, cD]
theorem pyOfs_ints : ∀ T : List Nat, pyOfs (T.map fun (a : Nat) => MV.int a) = some (T.map fun (a : Nat) => PyData.int a)
  | [] => rfl
  | c :: r => by simp only [List.map_cons, pyOfs, pyOf, pyOfs_ints r]
theorem depthAll_le {n : Nat} : ∀ {ds : List PyData}, (∀ d ∈ ds, d.depth ≤ n) → PyData.depthAll ds ≤ n
  | [], _ => by simp [PyData.depthAll]
  | d :: r, h => by
    have h1 := h d (by simp)
    have h2 := depthAll_le (ds := r) fun e he => h e (by simp [he])
    simp only [PyData.depthAll]; lia

theorem eqM_before {st : Objs} {I : Ids} {x : Sto} {k1 k2 : Nat} {a b : Int} (W : StoAt st I x) (h1 : st[k1]? = some (.list (x.H.map cM))) (h2 : st[k2]? = some (.list (x.T.map fun (a : Nat) => MV.int a))) :
    eqM st (.tup [.obj I.hp, .obj I.tr, .int a, .int b]) (.tup [.obj k1, .obj k2, .int a, .int b]) = some true := by
  have e : ∀ i j, st[i]? = some (.list (x.H.map cM)) → st[j]? = some (.list (x.T.map fun (a : Nat) => MV.int a)) → pyV st (.tup [.obj i, .obj j, .int a, .int b]) = some (.tuple [.list (x.H.map cD), .list (x.T.map fun (a : Nat) => PyData.int a), .int a, .int b]) := by
    intro i j hi hj
    simp only [pyV, pyEs, pyE, hi, hj, pyOfs_cells, pyOfs_ints, pyOf, Option.map]
  unfold eqM
  rw [e _ _ W.hp W.tr, e _ _ h1 h2]
  simp only
  have d1 : PyData.depthAll (x.H.map cD) ≤ 5 := depthAll_le fun d hd => by
    obtain ⟨c, _, rfl⟩ := List.mem_map.mp hd
    simp [cD, PyData.depth, PyData.depthAll]
  have d2 : PyData.depthAll (x.T.map fun (a : Nat) => PyData.int a) ≤ 5 := depthAll_le fun d hd => by
    obtain ⟨c, _, rfl⟩ := List.mem_map.mp hd
    simp [PyData.depth]
  rw [if_pos (by simp only [PyData.depth, PyData.depthAll]; lia)]
  simp only [PyData.eqv, PyData.eqvAll, eqvs_refl _ _ (pyOfs_cells x.H), eqvs_refl _ _ (pyOfs_ints x.T)]
  simp

section
variable {S : Sg} {st : Objs}

inductive C_trials (vs : List MV) (st : Objs) (Q : EP) : Prop
  | mk (sy : _) (J : _) (y : _) (ps : _) (pl : _) (d : _) (h0 : vs = [.obj sy, .obj pl, .bool d]) (h1 : LawPre st sy J y ps pl) (h2 : ps.length ≤ 5) (h3 : (d = true ↔ ∃ ν, Solves ν ps)) (h4 : ∀ st', Q (.bool true) st') : C_trials vs st Q


theorem eqM_bool (st : Objs) (a b : Bool) : eqM st (.bool a) (.bool b) = some (decide (a = b)) := by
  simp only [eqM, pyV, pyE, pyOf, PyData.depth, PyData.eqv]
  cases a <;> cases b <;> rfl

theorem list_copy {k : Nat} {xs : List MV} (h : st[k]? = some (.list xs)) (hl : xs.length ≤ lim) : callB .list [.obj k] st = some (.obj st.length, st ++ [.list xs]) := by
  rw [copyL h, if_pos hl]

theorem n_bool (st : Objs) (a b : Bool) : cmpM st .NotEq (.bool a) (.bool b) = some (!decide (a = b)) := by unfold cmpM; rw [eqM_bool]; rfl
theorem c_bool (st : Objs) (a b : Bool) : cmpM st .Eq (.bool a) (.bool b) = some (decide (a = b)) := eqM_bool st a b

set_option maxHeartbeats 2000000 in
theorem f_trials (hM : S.M = mt) (hS : Has S 485 C_lstore) (hF : Has S 109 C_func) (hP : Has S 363 C_put) (hTr : Has S 452 C_trial) (hU : Has S 438 C_unify) {vs : List MV} {Q : EP} (h : C_trials vs st Q) : vs.length = 3 ∧ wpF S b__law_trials_right (frame ns__law_trials_right vs) st Q := by
  obtain ⟨sy, J, y0, ps, pl, d, rfl, pre, hlen, hd, q⟩ := h
  refine ⟨rfl, ?_⟩
  unfold b__law_trials_right
  walk_at "f"
  refine hS _ _ _ ⟨sy, J, y0, rfl, pre.Y, Nat.lt_of_lt_of_le pre.lx (by decide), Nat.lt_of_lt_of_le pre.lf (by decide), pre.f0, fun s1 I mh y1 f a tb w1 ey x1 ha hf f0 htb free fresh sm1 => ?_⟩
  have Y1 : SymAt s1 sy J y1 := by have := w1.Y; rwa [ey] at this
  have lx1 := x1.lx
  have lf1 := x1.lf
  have hx0 := pre.lx
  have hf0 := pre.lf
  have plat : ∀ {s}, Same [J.tx, J.an, J.fl, J.fn] st s → s[pl]? = some (.list (ps.map ppM)) := fun h => h.at pre.pl_ pre.plx
  walk_at "m"
  -- the left row
  refine hF _ _ _ ⟨sy, J, y1, _, 5, rfl, Y1, by lia, by lia, by decide, fun s2 y2 r a2 Y2 x2 t2 f2 sm2 l2 => es_cons ?_⟩
  have sm12 := sm1.trans sm2
  refine row_expr (n := 0) (g := Prod.fst) rfl (plat sm12) hlen (compL_side (F := ps) pev_fst ps) fun g2 => ?_
  have sm2' := sm12.trans (Same.app s2 g2).nil
  have no : ∀ {j : Nat}, j ∉ ([] : List Nat) := fun h => by cases h
  have Y2' : SymAt (s2 ++ g2) sy J y2 := Y2.same (Same.app s2 g2) ⟨no, no, no, no, no⟩
  have lx2 := x2.lx
  have lf2 := x2.lf
  walk_at "m"
  -- the right row
  refine hF _ _ _ ⟨sy, J, y2, _, 5, rfl, Y2', by lia, by lia, by decide, fun s3 y3 r' a3 Y3 x3 t3 f3 sm3 l3 => es_cons ?_⟩
  have ea : a2 = a3 := nodup_idx Y3.ndX (x3.X _ _ t2) t3
  subst ea
  have er : r = r' := nodup_idx Y3.ndF (x3.F _ _ f2) f3
  subst er
  have sm23 := sm2'.trans sm3
  refine row_expr (n := 1) (g := Prod.snd) rfl (plat sm23) hlen (compL_side (F := ps) pev_snd ps) fun g3 => ?_
  have Y4 : SymAt (s3 ++ g3) sy J y3 := Y3.same (Same.app s3 g3) ⟨no, no, no, no, no⟩
  have sm4 := sm23.trans (Same.app s3 g3).nil
  have sl := pre.Y.lt
  have s14 : Same [J.tx, J.an, J.fl, J.fn] s1 (s3 ++ g3) := ((sm2.trans (Same.app s2 g2).nil).trans sm3).trans (Same.app s3 g3).nil
  generalize s3 ++ g3 = s4 at Y4 sm4 s14 ⊢
  have nJ : ∀ j ∈ [I.s, I.hp, I.sk, I.tr, tb], j ∉ [J.tx, J.an, J.fl, J.fn] := fun j hj h => by
    have h1 := fresh j hj
    have h2 := sl j (List.mem_cons_of_mem _ h)
    lia
  have ff : y3.F[f]? = some ((a : Int), 5) := x3.F _ _ (x2.F _ _ hf)
  have w4 : Wd s4 I J ⟨H5 f, [], 0, mh⟩ y3 := ⟨w1.W.same s14 ⟨nJ _ (.head _), nJ _ (.tail _ (.head _)), nJ _ (.tail _ (.tail _ (.head _))), nJ _ (.tail _ (.tail _ (.tail _ (.head _))))⟩, by rw [ey]; exact Y4, w1.dj⟩
  have A4 : StoreAt s4 st I J tb y3 f ⟨H5 f, [], 0, mh⟩ [0] [] := ⟨w4, Stage.start ff f0, s14.at htb (nJ _ (.tail _ (.tail _ (.tail _ (.tail _ (.head _)))))), ⟨free.ne⟩, fresh, sm4, x3.pos (x2.pos (x1.pos pre.pos))⟩
  have r0 : r ≠ 0 := by
    rintro rfl
    obtain ⟨p, hp⟩ := pre.f0
    have := x3.F _ _ (x2.F _ _ (x1.F _ _ hp))
    rw [f3] at this; cases this
  have ok : PsOK y3.F ps := pre.ok.mono fun i p h => x3.F _ _ (x2.F _ _ (x1.F _ _ h))
  obtain ⟨wl, al, zl⟩ := WT.row (g := Prod.fst) f3 r0 hlen fun p hp => (ok p hp).1
  obtain ⟨wr, ar, zr⟩ := WT.row (g := Prod.snd) f3 r0 hlen fun p hp => (ok p hp).2
  clear Y1 Y2 Y3 Y2' Y4 x1 x2 x3 t2 t3 f2 f3 ha hf ff w1 s14 sm12 sm23 sm2' sm2 sm3 sm1 plat htb
  walk_at "m"
  refine putStep hP A4 wl (Nat.le_trans (Nat.add_le_add_left zl _) (by show 6 + 51 ≤ 900; decide)) (by lia) fun s5 x5 B5 c1 A5 R1 _ bl5 hl5 ht5 hb5 sm5 => ?_
  have w5 := A5.w
  walk_at "m"
  have hl5 : x5.H.length = 6 + hsz (.app r (padL Prod.fst ps)) := hl5
  have bl5 : B5.length = 1 + nApp (.app r (padL Prod.fst ps)) := bl5
  refine putStep hP A5 wr (by lia) (by lia) fun s6 x6 B6 c2 A6 R2 tr bl6 hl6 ht6 hb6 sm6 => ?_
  have R1 := tr _ _ R1
  have hT6 : x6.T = [] := by rw [ht6, ht5]
  have hlim : (x6.H.map cM).length ≤ lim := by rw [List.length_map]; unfold lim; lia
  have htl : (x6.T.map fun (a : Nat) => MV.int a).length ≤ lim := by rw [hT6]; exact Nat.zero_le _
  have w7 := A6.w.app [.list (x6.H.map cM)]
  have w8 := w7.app [.list (x6.T.map fun (a : Nat) => MV.int a)]
  have f1 := A6.w.W.a2
  have f2 := list_copy A6.w.W.hp hlim
  have f3 := w7.W.a4
  have f4 := list_copy w7.W.tr htl
  have f5 := w8.W.a5
  have f6 := w8.W.a6
  refine g_locE [.obj sy, .obj pl, .bool d, .obj I.s, .obj tb, cM (.str 0), _, _, cM c1, cM c2, .unb] (Nat.le_of_ble_eq_true rfl) rfl ?_
  walk_at "m"
  have k1 := (Same.app (s6 ++ [MO.list (x6.H.map cM)]) [MO.list (x6.T.map fun (a : Nat) => MV.int a)]).at (get_last s6 (MO.list (x6.H.map cM))) (fun h => by cases h)
  have k2 := get_last (s6 ++ [MO.list (x6.H.map cM)]) (MO.list (x6.T.map fun (a : Nat) => MV.int a))
  have il := ids_lt A6.w
  have hl1 : (s6 ++ [MO.list (x6.H.map cM)]).length = s6.length + 1 := List.length_append
  have n1 : s6.length ∉ [I.s, I.hp, I.tr] := by simp only [List.mem_cons, List.not_mem_nil, or_false, not_or]; lia
  have n2 : (s6 ++ [MO.list (x6.H.map cM)]).length ∉ [I.s, I.hp, I.tr] := by simp only [List.mem_cons, List.not_mem_nil, or_false, not_or]; lia
  clear f1 f2 f3 f4 f5 f6 w7 hl1 il
  generalize (s6 ++ [MO.list (x6.H.map cM)]) ++ [MO.list (x6.T.map fun (a : Nat) => MV.int a)] = s8 at k1 k2 w8 ⊢
  generalize (s6 ++ [MO.list (x6.H.map cM)]).length = j2 at k2 n2 ⊢
  generalize s6.length = j1 at k1 n1 ⊢
  have iff := rows_iff A6.stg hlen R1 R2 fun p hp => ⟨(ok p hp).1.1, (ok p hp).2.1⟩
  have room : x6.T.length + x6.H.length < 1000 := by rw [hT6]; show 0 + _ < _; lia
  refine hTr _ _ _ ⟨I, J, x6, y3, B6, c1, c2, rfl, w8, A6.stg.wf, A6.stg.gen, R1.1, R2.1, by lia, A6.pos, room, by rw [hT6]; intro a h; (cases h), fun b s9 hb9 w9 sm9 => ?_⟩
  have ebd : b = d := by
    rw [Bool.eq_iff_iff, hb9, iff, hd]
  subst ebd
  have c1' := n_bool s9 b b
  have f1 := w9.W.a2
  have f2 := w9.W.a4
  have f3 := w9.W.a5
  have f4 := w9.W.a6
  have f5 : cmpM s9 .NotEq (.tup [.obj I.hp, .obj I.tr, .int x6.hb, .int 0]) (.tup [.obj j1, .obj j2, .int x6.hb, .int 0]) = some false := by
    unfold cmpM; rw [eqM_before w9.W (sm9.at k1 n1) (sm9.at k2 n2)]; rfl
  walk_at "m"
  refine s_KI0 (by rw [dt rfl]; rfl) ?_
  walk_at "m"
  refine hU _ _ _ ⟨I, J, x6, y3, B6, c1, c2, rfl, w9, A6.stg.wf, A6.stg.gen, R1.1, R2.1, by lia, A6.pos, room, fun b' x10 s10 u w10 sm10 => ?_⟩
  have eb : b' = b := by
    rw [Bool.eq_iff_iff, u.iff, iff, hd]
  subst eb
  have c2' := c_bool s10 b' b'
  rw [dt rfl] at c2'
  walk_at "m"
  exact q _
end

set_option tactic.hygienic true

set_option tactic.hygienic false

noncomputable def swapP (p : Tm × Tm) : Tm × Tm := (p.2, p.1)

theorem pevs_two {loc : List MV} {a b : ME} {x y : MV} (h1 : pev loc a = some x) (h2 : pev loc b = some y) : pevs loc [a, b] = some [x, y] := by
  show ((pev loc a).bind fun x => ((pev loc b).bind fun y => ((some [] : Option (List MV)).bind fun r => some (y :: r))).bind fun r => some (x :: r)) = _
  rw [h1, h2]; rfl
theorem compL_swap : ∀ ps : List (Tm × Tm), compL false (.tup [.loc 1, .loc 0]) (ps.map ppM) = some ((ps.map swapP).map ppM)
  | [] => rfl
  | p :: r => compL_cons' (l := [tmM p.1, tmM p.2]) rfl (congrArg (Option.map MV.tup) (pevs_two (loc := [tmM p.1, tmM p.2]) (a := .loc 1) (b := .loc 0) (x := tmM p.2) (y := tmM p.1) (l_of (loc := [tmM p.1, tmM p.2]) (i := 1) rfl (isB_tm _)) (l_of (loc := [tmM p.1, tmM p.2]) (i := 0) rfl (isB_tm _)))) (compL_swap r)

theorem solves_reverse {ν : Nat → Tm} {ps : List (Tm × Tm)} : Solves ν ps.reverse ↔ Solves ν ps := by simp [Solves]
theorem solves_swap {ν : Nat → Tm} {ps : List (Tm × Tm)} : Solves ν (ps.map swapP) ↔ Solves ν ps := by
  unfold Solves
  constructor
  · intro h p hp
    exact (h (swapP p) (List.mem_map.mpr ⟨p, hp, rfl⟩)).symm
  · intro h p hp
    obtain ⟨q, hq, rfl⟩ := List.mem_map.mp hp
    exact (h q hq).symm
theorem solves_twice {ν : Nat → Tm} {ps : List (Tm × Tm)} : Solves ν (ps.take 1 ++ ps) ↔ Solves ν ps := by
  unfold Solves
  constructor
  · intro h p hp
    exact h p (List.mem_append.mpr (.inr hp))
  · intro h p hp
    rcases List.mem_append.mp hp with hp | hp
    · exact h p (List.mem_of_mem_take hp)
    · exact h p hp

theorem eqM_opt (st : Objs) {y : Sym} {ps : List (Tm × Tm)} {r : Option Tm} (h : SolvedR y ps r) : eqM st (optM r) (optM r) = some true := by
  cases r with
  | none => rfl
  | some t =>
    obtain ⟨f, a, ds, _, _, _, ht, _⟩ := h
    exact eqM_tm st (by lia)

theorem none_opt (r : Option Tm) : isNoneM (optM r) = some r.isNone := by
  cases r with
  | none => rfl
  | some t => cases t <;> simp [optM, tmM, isNoneM]
theorem isB_opt (r : Option Tm) : isB (optM r) = true := by
  cases r with
  | none => rfl
  | some t => exact isB_tm t
theorem not_opt (st : Objs) (r : Option Tm) : cmpM st .IsNot (optM r) .none = some (!r.isNone) := by unfold cmpM; simp only [none_opt]; rfl
theorem same_opt (st : Objs) {y : Sym} {ps : List (Tm × Tm)} {r : Option Tm} (h : SolvedR y ps r) : cmpM st .NotEq (optM r) (optM r) = some false := by unfold cmpM; rw [eqM_opt st h]; rfl

theorem SolvedR.iff {y : Sym} {ps : List (Tm × Tm)} {r : Option Tm} (h : SolvedR y ps r) : (!r.isNone) = true ↔ ∃ ν, Solves ν ps := by
  cases r with
  | none => simp; exact h
  | some t =>
    obtain ⟨f, a, ds, _, _, _, _, s, _⟩ := h
    simp; exact ⟨ds, s⟩

section
variable {S : Sg} {st : Objs}

structure Drawn (s : Objs) (sy : Nat) (J : SyIds) (y : Sym) (b : Nat) : Prop where
  Y : SymAt s sy J y
  lx : y.X.length ≤ b
  lf : y.F.length ≤ b
  f0 : ∃ p, y.F[0]? = some (p, 2)
  pos : ∀ p ∈ y.F, 0 ≤ p.2

theorem Drawn.pre {s : Objs} {sy : Nat} {J : SyIds} {y : Sym} {b : Nat} (d : Drawn s sy J y b) (hb : b < 900) {ps : List (Tm × Tm)} {pl : Nat} (h : s[pl]? = some (.list (ps.map ppM))) (hx : pl ∉ symX J) (ok : PsOK y.F ps) : LawPre s sy J y ps pl :=
  ⟨d.Y, by have := d.lx; lia, by have := d.lf; lia, d.f0, d.pos, h, hx, ok⟩
theorem Drawn.next {s s' : Objs} {sy : Nat} {J : SyIds} {y y' : Sym} {b k : Nat} (d : Drawn s sy J y b) (Y : SymAt s' sy J y') (x : SyExt k y y') : Drawn s' sy J y' (b + k) :=
  ⟨Y, by have := d.lx; have := x.lx; lia, by have := d.lf; have := x.lf; lia, let ⟨p, h⟩ := d.f0; ⟨p, x.F _ _ h⟩, x.pos d.pos⟩

inductive DInv (a : Value) (xs : List Int) (sy : Nat) (J : SyIds) (wl L pl : Nat) (k : Nat) (loc : List MV) (s : Objs) : Prop
  | mk (ps : List (Tm × Tm)) (y : Sym) (p : Nat) (v4 v5 : MV) (W : WellAt s wl L xs p) (dr : Drawn s sy J y (100 + 14 * k)) (hps : s[pl]? = some (.list (ps.map ppM))) (ok : PsOK y.F ps) (hk : ps.length = k)
      (hl : loc = [.val a, .obj wl, .obj sy, .obj pl, v4, v5, .unb, .unb, .unb]) : DInv a xs sy J wl L pl k loc s

structure RowsAt (s : Objs) (pl rows k1 k2 k4 : Nat) (ps : List (Tm × Tm)) : Prop where
  p : s[pl]? = some (.list (ps.map ppM))
  r : s[rows]? = some (.list [.obj k1, .obj k2, .obj k4])
  a : s[k1]? = some (.list (ps.reverse.map ppM))
  b : s[k2]? = some (.list ((ps.map swapP).map ppM))
  c : s[k4]? = some (.list ((ps.take 1 ++ ps).map ppM))

inductive RInv (a : Value) (sy : Nat) (J : SyIds) (wl pl : Nat) (y0 : Sym) (r : Option Tm) (rows : Nat) (k1 k2 k4 : Nat) (ps : List (Tm × Tm)) (v4 v5 : MV) (k : Nat) (loc : List MV) (s : Objs) : Prop
  | mk (y : Sym) (v8 : MV) (dr : Drawn s sy J y (200 + k)) (x : SyExt k y0 y) (ra : RowsAt s pl rows k1 k2 k4 ps)
      (hl : loc = [.val a, .obj wl, .obj sy, .obj pl, v4, v5, optM r, .obj rows, v8]) : RInv a sy J wl pl y0 r rows k1 k2 k4 ps v4 v5 k loc s

theorem rows_expr {S : Sg} {loc : List MV} {s : Objs} {pl : Nat} {ps : List (Tm × Tm)} (h1 : loc[3]? = some (.obj pl)) (hp : s[pl]? = some (.list (ps.map ppM))) (hl : ps.length ≤ 6) {Q : EP}
    (q : ∀ s9 rows k1 k2 k4, Same [] s s9 → RowsAt s9 pl rows k1 k2 k4 ps → (∀ j ∈ [rows, k1, k2, k4], s.length ≤ j) → Q (.obj rows) s9) :
    wpE S loc (.lst [.slc (.loc 3) (.cst .none) (.cst .none) (.neg (.cst (.int 1))), .comp (.tup [.loc 1, .loc 0]) [0, 1] false (.loc 3), .bin .Add (.slc (.loc 3) (.cst .none) (.cst (.int 1)) (.cst .none)) (.loc 3)]) s Q := by
  have hpl : (ps.map ppM).length ≤ lim := by rw [List.length_map]; unfold lim; lia
  have ll3 : ((ps.take 1).map ppM).length ≤ lim := by rw [List.length_map, List.length_take]; unfold lim; lia
  have e1 : slcL (ps.map ppM) .none .none (.int (-1)) = some (ps.reverse.map ppM) := by rw [List.map_reverse]; rfl
  have e3 : slcL (ps.map ppM) .none (.int 1) .none = some ((ps.take 1).map ppM) := by unfold slcL; simp only; rw [if_pos ⟨by decide, by unfold big; decide⟩, List.map_take]; rfl
  have l1 : listS S s (.obj pl) = some (ps.map ppM) := by show listM s (.obj pl) = _; rw [listU hp, if_pos hpl]
  have l2 : ∀ g, listM (s ++ g) (.obj pl) = some (ps.map ppM) := fun g => listM_app hp hpl g
  have l2' : listS S (s ++ [MO.list (ps.reverse.map ppM)] ++ [MO.list ((ps.map swapP).map ppM)]) (.obj pl) = some (ps.map ppM) := by rw [List.append_assoc]; exact l2 _
  have i1 : itemsM (s ++ [MO.list (ps.reverse.map ppM)]) (.obj pl) = some (ps.map ppM) := itemsL ((Same.app s _).at hp (fun h => by cases h))
  have sw := compL_swap ps
  have b3 : binM .Add (.obj (s ++ [MO.list (ps.reverse.map ppM)] ++ [MO.list ((ps.map swapP).map ppM)]).length) (.obj pl) (s ++ [MO.list (ps.reverse.map ppM)] ++ [MO.list ((ps.map swapP).map ppM)] ++ [MO.list ((ps.take 1).map ppM)]) =
      some (.obj (s ++ [MO.list (ps.reverse.map ppM)] ++ [MO.list ((ps.map swapP).map ppM)] ++ [MO.list ((ps.take 1).map ppM)]).length, s ++ [MO.list (ps.reverse.map ppM)] ++ [MO.list ((ps.map swapP).map ppM)] ++ [MO.list ((ps.take 1).map ppM)] ++ [MO.list ((ps.take 1).map ppM ++ ps.map ppM)]) := by
    have l4 : listM (s ++ [MO.list (ps.reverse.map ppM)] ++ [MO.list ((ps.map swapP).map ppM)] ++ [MO.list ((ps.take 1).map ppM)]) (.obj pl) = some (ps.map ppM) := by rw [List.append_assoc s, List.append_assoc s]; exact l2 _
    unfold binM; simp only [listM_last _ ll3, l4]
  refine e_lst (es_cons (e_slc (e_loc h1 rfl (e_cst (e_cst (e_neg (opt_of l1 (opt_of e1 (es_cons (e_comp (e_loc h1 rfl (opt_of i1 (k_comp hpl sw (es_cons (e_bin (e_slc (e_loc h1 rfl (e_cst (e_cst (e_cst (opt_of l2' (opt_of e3 (e_loc h1 rfl (optP_of b3 (es_nil ?_)))))))))))))))))))))))))
  rw [← List.map_append]
  have n1 : (s ++ [MO.list (ps.reverse.map ppM)]).length = s.length + 1 := List.length_append
  have n3 : (s ++ [MO.list (ps.reverse.map ppM)] ++ [MO.list ((ps.map swapP).map ppM)] ++ [MO.list ((ps.take 1).map ppM)]).length = s.length + 3 := by simp only [List.length_append]; rfl
  have n4 : (s ++ [MO.list (ps.reverse.map ppM)] ++ [MO.list ((ps.map swapP).map ppM)] ++ [MO.list ((ps.take 1).map ppM)] ++ [MO.list ((ps.take 1 ++ ps).map ppM)]).length = s.length + 4 := by simp only [List.length_append]; rfl
  rw [n4, n1, n3]
  have ea : s ++ [MO.list (ps.reverse.map ppM)] ++ [MO.list ((ps.map swapP).map ppM)] ++ [MO.list ((ps.take 1).map ppM)] ++ [MO.list ((ps.take 1 ++ ps).map ppM)] ++ [MO.list [.obj s.length, .obj (s.length + 1), .obj (s.length + 3)]] = s ++ [MO.list (ps.reverse.map ppM), MO.list ((ps.map swapP).map ppM), MO.list ((ps.take 1).map ppM), MO.list ((ps.take 1 ++ ps).map ppM), MO.list [.obj s.length, .obj (s.length + 1), .obj (s.length + 3)]] := by simp only [List.append_assoc]; rfl
  rw [ea]
  have gt : ∀ (g : Objs) (i : Nat), (s ++ g)[s.length + i]? = g[i]? := fun g i => by rw [List.getElem?_append_right (Nat.le_add_right _ _), Nat.add_sub_cancel_left]
  refine q _ _ _ _ _ (Same.app _ _) ⟨(Same.app s _).at hp (fun h => by cases h), gt _ 4, gt _ 0, gt _ 1, gt _ 3⟩ ?_
  intro j hj
  simp only [List.mem_cons, List.not_mem_nil, or_false] at hj
  lia

theorem RowsAt.keep {s s' : Objs} {pl rows k1 k2 k4 : Nat} {ps : List (Tm × Tm)} {X : List Nat} (h : RowsAt s pl rows k1 k2 k4 ps) (sm : Same X s s') (n : ∀ j ∈ [pl, rows, k1, k2, k4], j ∉ X) : RowsAt s' pl rows k1 k2 k4 ps :=
  ⟨sm.at h.p (n _ (.head _)), sm.at h.r (n _ (.tail _ (.head _))), sm.at h.a (n _ (.tail _ (.tail _ (.head _)))), sm.at h.b (n _ (.tail _ (.tail _ (.tail _ (.head _))))), sm.at h.c (n _ (.tail _ (.tail _ (.tail _ (.tail _ (.head _))))))⟩

theorem rows_get {k1 k2 k4 j kq : Nat} (h : ([MV.obj k1, MV.obj k2, MV.obj k4] : List MV)[j]? = some (.obj kq)) : j < 3 := by
  obtain ⟨h, _⟩ := List.getElem?_eq_some_iff.mp h; exact h

theorem rows_of {s : Objs} {pl rows k1 k2 k4 : Nat} {ps : List (Tm × Tm)} {F : Fun} (h : RowsAt s pl rows k1 k2 k4 ps) (ok : PsOK F ps) (hl : ps.length ≤ 5) {j : Nat} (hj : j < 3) :
    ∃ kq qs, ([MV.obj k1, MV.obj k2, MV.obj k4] : List MV)[j]? = some (.obj kq) ∧ kq ∈ [pl, rows, k1, k2, k4] ∧ s[kq]? = some (.list (qs.map ppM)) ∧ PsOK F qs ∧ qs.length ≤ 6 ∧ ∀ ν, Solves ν ps ↔ Solves ν qs := by
  rcases (show j = 0 ∨ j = 1 ∨ j = 2 by lia) with rfl | rfl | rfl
  · exact ⟨k1, _, rfl, .tail _ (.tail _ (.head _)), h.a, fun p hp => ok p (List.mem_reverse.mp hp), by rw [List.length_reverse]; lia, fun ν => solves_reverse.symm⟩
  · exact ⟨k2, _, rfl, .tail _ (.tail _ (.tail _ (.head _))), h.b, fun p hp => by obtain ⟨q, hq, rfl⟩ := List.mem_map.mp hp; exact ⟨(ok q hq).2, (ok q hq).1⟩, by rw [List.length_map]; lia, fun ν => solves_swap.symm⟩
  · exact ⟨k4, _, rfl, .tail _ (.tail _ (.tail _ (.tail _ (.head _)))), h.c, fun p hp => by
        rcases List.mem_append.mp hp with hp | hp
        · exact ok p (List.mem_of_mem_take hp)
        · exact ok p hp, by rw [List.length_append, List.length_take]; lia, fun ν => solves_twice.symm⟩

theorem f_law (hM : S.M = mt) (hSy : Has S 154 C_Symbols) (hT : Has S 466 C_ltake) (hSd : Has S 473 (C_side 2)) (hSv : Has S 492 C_lsolved) (hS1 : Has S 499 C_sides) (hTr : Has S 504 C_trials) {a : Value} {xs : List Int} (hL : S.L a = some (xs.map .int)) (hlen : xs.length ≤ 63) {Q : EP} (q : ∀ st', Q (.bool true) st') :
    wpF S b_law (frame ns_law [.val a]) st Q := by
  unfold b_law
  have hsl : slcL (xs.map MV.int) .none (.int 90) .none = some ((xs.take 90).map MV.int) := by
    unfold slcL; simp only; rw [if_pos ⟨by decide, by unfold big; decide⟩, List.map_take]; rfl
  have fL : listS S st (.val a) = some (xs.map .int) := hL
  walk_at "f"
  have sA : Same [] st (st ++ [MO.list ((xs.take 90).map MV.int)] ++ [MO.list [.obj st.length, .int 0]]) := by rw [List.append_assoc]; exact Same.app _ _
  have hll : (st ++ [MO.list ((xs.take 90).map MV.int)]).length = st.length + 1 := List.length_append
  have W1 : WellAt (st ++ [MO.list ((xs.take 90).map MV.int)] ++ [MO.list [.obj st.length, .int 0]]) (st ++ [MO.list ((xs.take 90).map MV.int)]).length st.length (xs.take 90) 0 :=
    ⟨get_last _ _, by simp, by rw [List.length_take]; lia, by lia⟩
  clear fL hsl sA hll hL hlen
  generalize (st ++ [MO.list ((xs.take 90).map MV.int)]).length = wl at W1 ⊢
  generalize st ++ [MO.list ((xs.take 90).map MV.int)] ++ [MO.list [.obj st.length, .int 0]] = s1 at W1 ⊢
  generalize xs.take 90 = zs at W1 ⊢
  generalize st.length = L at W1 ⊢
  have hwl := (List.getElem?_eq_some_iff.mp W1.w).1
  have hLl := (List.getElem?_eq_some_iff.mp W1.l).1
  refine hSy _ _ _ ⟨rfl, fun s2 y2 Y2 lx2 lf2 f02 pos2 sm2 => ?_⟩
  have nJ : ∀ j ∈ [s1.length, (newJ s1.length).tx, (newJ s1.length).an, (newJ s1.length).fl, (newJ s1.length).fn], s1.length ≤ j ∧ j < s2.length := fun j hj => ⟨by simp [newJ] at hj; lia, Y2.lt j hj⟩
  generalize newJ s1.length = J at Y2 nJ ⊢
  generalize hsy : s1.length = sy at Y2 nJ hwl hLl ⊢
  have no : ∀ {j : Nat}, j ∉ ([] : List Nat) := fun h => by cases h
  have W2 := W1.same sm2 no no
  have W3 := W2.same (Same.app s2 [MO.list []]) no no
  have nwl : wl ∉ [sy, J.tx, J.an, J.fl, J.fn] := fun h => by have := nJ _ h; lia
  have nL : L ∉ [sy, J.tx, J.an, J.fl, J.fn] := fun h => by have := nJ _ h; lia
  have hpl : (s2 ++ [MO.list []])[s2.length]? = some (.list (([] : List (Tm × Tm)).map ppM)) := get_last _ _
  have D3 : Drawn (s2 ++ [MO.list []]) sy J y2 (100 + 14 * 0) := ⟨Y2.same (Same.app s2 _) ⟨no, no, no, no, no⟩, by lia, by lia, f02, pos2⟩
  have npl : s2.length ∉ wl :: symX J := fun h => by
    rcases List.mem_cons.mp h with h | h
    · have := sm2.len; lia
    · have := (nJ _ (List.mem_cons_of_mem _ h)).2; lia
  have nLpl : L ≠ s2.length := by have := sm2.len; lia
  walk_at "m"
  clear W1 W2 Y2 sm2 lx2 lf2 f02 pos2 nJ hwl hLl hsy
  generalize s2.length = pl at hpl npl nLpl ⊢
  generalize s2 ++ [MO.list []] = s3 at W3 hpl D3 ⊢
  refine hT _ _ _ ⟨wl, L, zs, 0, 6, rfl, W3, by lia, fun s4 p4 r W4 sm4 l4 hr => ?_⟩
  have hr6 : r < 6 := by lia
  have hr1 := range_up (st := s4) r (by lia)
  have hr2 := items_up (st := s4) r (by lia)
  have symW : ∀ {s s' : Objs} {y b}, Drawn s sy J y b → Same [wl] s s' → Drawn s' sy J y b := fun d s =>
    have n : ∀ j ∈ [sy, J.tx, J.an, J.fl, J.fn], j ∉ [wl] := fun j hj h => by rw [List.mem_singleton] at h; subst h; exact nwl hj
    ⟨d.Y.same s ⟨n _ (.head _), n _ (.tail _ (.head _)), n _ (.tail _ (.tail _ (.head _))), n _ (.tail _ (.tail _ (.tail _ (.head _)))), n _ (.tail _ (.tail _ (.tail _ (.tail _ (.head _)))))⟩, d.lx, d.lf, d.f0, d.pos⟩
  walk_at "m"
  refine ⟨by rw [List.length_map, List.length_range]; unfold lim; lia, DInv a zs sy J wl L pl, ⟨[], y2, p4, .unb, .unb, W4, symW D3 sm4, sm4.at hpl (fun h => npl (by rw [List.mem_singleton] at h; rw [h]; exact .head _)), by (intro p hp; cases hp), rfl, rfl⟩, ?_⟩
  clear hr1 hr2 W3 hpl D3 W4 sm4 l4
  rintro k _ s ⟨ps, y, p, v4, v5, W, dr, hps, ok, hk, rfl⟩
  refine ⟨items_up r (by lia), ?_⟩
  have dlx := dr.lx
  have dlf := dr.lf
  by_cases hkr : k < r
  · have e7 : nN 2 = 7 := rfl
    have e3 : nA 2 = 3 := rfl
    refine f_some (x := .int k) (by rw [List.getElem?_map, List.getElem?_range hkr]; rfl) ?_
    walk_at "m"
    refine hSd _ _ _ ⟨wl, L, zs, p, sy, J, y, rfl, W, dr.Y, by lia, by lia, dr.f0, nwl, nL, fun s5 y5 t p5 W5 Y5 x5 wt5 a5 z5 sm5 => ?_⟩
    have d5 := dr.next Y5 x5
    have dlx5 := d5.lx
    have dlf5 := d5.lf
    have hp5 : s5[pl]? = some (.list (ps.map ppM)) := sm5.at hps npl
    walk_at "m"
    refine hSd _ _ _ ⟨wl, L, zs, p5, sy, J, y5, rfl, W5, Y5, by lia, by lia, d5.f0, nwl, nL, fun s6 y6 u p6 W6 Y6 x6 wt6 a6 z6 sm6 => ?_⟩
    have d6 := d5.next Y6 x6
    have hp6 : s6[pl]? = some (.list (ps.map ppM)) := sm6.at hp5 npl
    have hpll : (ps.map ppM).length ≤ lim := by rw [List.length_map]; unfold lim; lia
    have plt := (List.getElem?_eq_some_iff.mp hp6).1
    walk_at "m"
    have sm7 := Same.set s6 pl (.list (ps.map ppM ++ [.tup [tmM t, tmM u]]))
    refine ⟨ps ++ [(t, u)], y6, p6, .int k, tmM t, W6.same sm7 ?_ ?_, ⟨d6.Y.same sm7 ?_, ?_, ?_, d6.f0, d6.pos⟩, ?_, ?_, by rw [List.length_append, hk]; rfl, rfl⟩
    · intro h; rw [List.mem_singleton] at h; exact npl (by rw [← h]; exact .head _)
    · intro h; rw [List.mem_singleton] at h; exact nLpl h
    · have hn : ∀ j ∈ [sy, J.tx, J.an, J.fl, J.fn], j ∉ [pl] := fun j hj h => by
        rw [List.mem_singleton] at h
        subst h
        rcases List.mem_cons.mp hj with h | h
        · subst h
          have h1 := hp6
          rw [Y6.s] at h1; cases h1
        · exact npl (List.mem_cons_of_mem _ h)
      exact ⟨hn _ (.head _), hn _ (.tail _ (.head _)), hn _ (.tail _ (.tail _ (.head _))), hn _ (.tail _ (.tail _ (.tail _ (.head _)))), hn _ (.tail _ (.tail _ (.tail _ (.tail _ (.head _)))))⟩
    · have := d6.lx; lia
    · have := d6.lf; lia
    · rw [List.getElem?_set_self plt, List.map_append]; rfl
    · intro p' hp'
      rcases List.mem_append.mp hp' with hp' | hp'
      · exact (ok.mono (fun i p h => x6.F _ _ (x5.F _ _ h))) p' hp'
      · rw [List.mem_singleton] at hp'; subst hp'
        exact ⟨⟨wt5.mono x6.F, (by show nApp t ≤ 3; lia), (by show hsz t ≤ 9; lia)⟩, ⟨wt6, (by show nApp u ≤ 3; lia), (by show hsz u ≤ 9; lia)⟩⟩
  refine f_none (by rw [List.length_map, List.length_range]; exact hkr) fun hkl => ?_
  rw [List.length_map, List.length_range] at hkl
  subst hkl
  have npl' : pl ∉ symX J := fun h => npl (List.mem_cons_of_mem _ h)
  walk_at "m"
  refine hSv _ _ _ ⟨sy, J, y, ps, pl, rfl, dr.pre (by lia) hps npl' ok, by lia, fun s8 y8 rt Y8 x8 R8 sm8 => ?_⟩
  have d8 := dr.next Y8 x8
  have hp8 := sm8.at hps npl'
  have d8l := d8.lx
  have d8f := d8.lf
  have iso := isB_opt rt
  refine g_loc (Nat.le_of_ble_eq_true rfl) (s_KS (s_cons (s_asg (rows_expr rfl hp8 (by lia) fun s9 rows k1 k2 k4 sA ra hge => ?_))))
  have hit := itemsL ra.r
  have nX : ∀ j ∈ [pl, rows, k1, k2, k4], j ∉ symX J := fun j hj h => by
    rcases List.mem_cons.mp hj with e | hj
    · subst e; exact npl' h
    · have h1 := Y8.lt j (List.mem_cons_of_mem _ h)
      have h2 := hge j hj
      lia
  have d9 : Drawn s9 sy J y8 (200 + 0) := ⟨d8.Y.same sA ⟨no, no, no, no, no⟩, by lia, by lia, d8.f0, d8.pos⟩
  have ok8 := ok.mono x8.F
  walk_at "m"
  refine ⟨Nat.le_of_ble_eq_true rfl, RInv a sy J wl pl y8 rt rows k1 k2 k4 ps v4 v5, ⟨y8, .unb, d9, SyExt.refl y8, ra, rfl⟩, ?_⟩
  clear hit hge sA ra d9 sm8 hp8 hps dr W ok
  rintro j _ s ⟨yj, v8, dj, xj, ra, rfl⟩
  refine ⟨itemsL ra.r, ?_⟩
  have okj := PsOK.mono xj.F ok8
  have djx := dj.lx
  have djf := dj.lf
  by_cases h3 : j < 3
  · obtain ⟨kq, qs, hg, hmem, hq, hok, hql, hsol⟩ := rows_of ra okj (by lia) h3
    refine f_some hg ?_
    walk_at "m"
    refine hSv _ _ _ ⟨sy, J, yj, qs, kq, rfl, dj.pre (by lia) hq (nX _ hmem) hok, hql, fun s10 y10 r' Y10 x10 R10 sm10 => ?_⟩
    have xx := xj.trans x10
    have er : r' = rt := R8.same R10 hsol ⟨_, xx⟩ Y10.ndX Y10.ndF
    subst er
    have c1 := same_opt s10 R10
    walk_at "m"
    exact ⟨y10, .obj kq, dj.next Y10 x10, xx, ra.keep sm10 nX, rfl⟩
  refine f_none h3 fun hj3 => ?_
  have hj3 : j = 3 := hj3
  subst hj3
  have c0 := not_opt s rt
  have fin : ∀ s' y', Drawn s' sy J y' 250 → s'[pl]? = some (.list (ps.map ppM)) → PsOK y'.F ps → S.C 504 [.obj sy, .obj pl, .bool (!rt.isNone)] s' Q := fun s' y' d' h' ok' =>
    hTr _ _ _ ⟨sy, J, y', ps, pl, !rt.isNone, rfl, d'.pre (by lia) h' npl' ok', by lia, R8.iff, q⟩
  have up : ∀ {s' y' b}, Drawn s' sy J y' b → b ≤ 250 → Drawn s' sy J y' 250 := fun d h => ⟨d.Y, Nat.le_trans d.lx h, Nat.le_trans d.lf h, d.f0, d.pos⟩
  walk_at "m"
  cases hn : !rt.isNone with
  | false =>
    refine if_f rfl ?_
    walk_at "m"
    exact fin s yj (up dj (by lia)) ra.p okj
  | true =>
    refine if_t rfl ?_
    walk_at "m"
    refine hS1 _ _ _ ⟨sy, J, yj, ps, pl, rfl, dj.pre (by lia) ra.p npl' okj, by lia, R8.iff.mp hn, fun s11 y11 Y11 x11 sm11 => ?_⟩
    have c1 := not_opt s11 rt
    walk_at "m"
    exact fin s11 y11 (up (dj.next Y11 x11) (by lia)) (sm11.at ra.p npl') (okj.mono x11.F)
end

set_option tactic.hygienic true

end Mine.Lake

set_option tactic.hygienic false
namespace Mine.Lake
theorem lk {ns : List Str} : ∀ {cvs : List Value}, cvs.length = ns.length → ∀ n ∈ ns, ((ns.zip cvs).lookup n).isNone = false := by
  induction ns with
  | nil => intro cvs _ n h; (first | exact no h | cases h)
  | cons a r ih =>
    intro cvs hl n hn
    cases cvs with
    | nil => (first | exact no hl | cases hl)
    | cons v vs =>
      rw [List.zip_cons_cons, List.lookup_cons]
      by_cases e : n = a
      · subst e; simp
      · rw [beq_eq_false_iff_ne.mpr e]
        exact ih (by simpa using hl) n (by rcases List.mem_cons.mp hn with h | h; exact absurd h e; exact h)
theorem fm {ns : List Str} (nd : ns.Nodup) : ∀ {cvs : List Value}, cvs.length = ns.length → ns.filterMap (fun n => ((ns.zip cvs).lookup n).map (n, ·)) = ns.zip cvs := by
  induction ns with
  | nil => intro cvs _; rfl
  | cons a r ih =>
    intro cvs hl
    cases cvs with
    | nil => (first | exact no hl | cases hl)
    | cons v vs =>
      rw [List.nodup_cons] at nd
      rw [List.zip_cons_cons, List.filterMap_cons, List.lookup_cons, beq_self_eq_true]
      show (a, v) :: _ = _
      congr 1
      refine Eq.trans ?_ (ih nd.2 (by simpa using hl))
      have : ∀ l : List Str, a ∉ l → l.filterMap (fun n => ((match n == a with | true => some v | false => (r.zip vs).lookup n) : Option Value).map (n, ·)) = l.filterMap fun n => ((r.zip vs).lookup n).map (n, ·) := by
        intro l
        induction l with
        | nil => intro _; rfl
        | cons b l ih =>
          intro h
          rw [List.mem_cons, not_or] at h
          rw [List.filterMap_cons, List.filterMap_cons, beq_eq_false_iff_ne.mpr (fun e => h.1 e.symm), ih h.2]
      exact this r nd.1
theorem loop_all {ns : List Str} {cvs : List Value} (hl : cvs.length = ns.length) : ∀ (l : List (Str × Value)), (∀ x ∈ l, x.1 ∈ ns) →
    (forIn l (ns.zip cvs) fun (x : Str × Value) (s : List (Str × Value)) => if (List.lookup x.1 s).isNone = true then (pure (ForInStep.yield (s ++ [(x.1, x.2)])) : Sem _) else pure (ForInStep.yield s)) = pure (ns.zip cvs)
  | [], _ => by rw [List.forIn_nil]
  | x :: r, h => by
    rw [List.forIn_cons, lk hl x.1 (h x (.head _)), if_neg (by decide), pure_bind]
    exact loop_all hl r fun y hy => h y (.tail _ hy)
theorem par_eq {p : Arguments} (h1 : p.posonlyargs = []) (h2 : p.vararg = none) (h3 : p.kwonlyargs = []) (h4 : p.kwarg = none) : ∃ args kd df, p = ⟨[], args, none, [], kd, none, df⟩ := by
  cases p; cases h1; cases h2; cases h3; cases h4; exact ⟨_, _, _, rfl⟩
theorem bind_all (fd : FuncData) (cvs : List Value) (h1 : fd.params.posonlyargs = []) (h2 : fd.params.vararg = none) (h3 : fd.params.kwonlyargs = []) (h4 : fd.params.kwarg = none) {ns : List Str} (ha : fd.params.args.map (·.arg) = ns) (hl : cvs.length = ns.length) (nd : ns.Nodup) :
    bindArgs fd ⟨cvs, []⟩ = seqItems? fd.defaults >>= fun _ => pure (ns.zip cvs) := by
  obtain ⟨args, kd, df, hp⟩ := par_eq h1 h2 h3 h4
  clear h1 h2 h3 h4
  rw [hp] at ha
  subst ha
  refine congrArg (Sem.bind (seqItems? fd.defaults)) (funext fun ds => ?_)
  rw [hp]
  have e1 : ¬ (decide (cvs.length > (args.map (·.arg)).length) && true) = true := by rw [hl]; simp
  refine (if_neg e1).trans ?_
  refine (if_neg ?_).trans ?_
  · rw [Bool.not_eq_true, Bool.not_eq_false', List.isEmpty_iff, List.filter_eq_nil_iff]
    exact fun n hn e => Bool.false_ne_true ((lk hl n (List.mem_of_mem_take hn)).symm.trans e)
  refine (congrArg (· >>= _) (loop_all hl _ fun x hx => List.mem_of_mem_drop (List.of_mem_zip (a := x.1) (b := x.2) hx).1)).trans ?_
  have e : (List.map (fun x : Arg => x.arg) args ++ []).filterMap (fun n => (((List.map (fun x : Arg => x.arg) args).zip cvs).lookup n).map (n, ·)) = (List.map (fun x : Arg => x.arg) args).zip cvs := by rw [List.append_nil]; exact fm nd hl
  exact congrArg (fun x : List (Str × Value) => (pure x : Sem (List (Str × Value)))) e

theorem binds_all {s : Shared} {K : Frag} (X : K.In s.heap) {fd : FuncData} {cvs : List Value} (h1 : fd.params.posonlyargs = []) (h2 : fd.params.vararg = none) (h3 : fd.params.kwonlyargs = []) (h4 : fd.params.kwarg = none) {ns : List Str} (ha : fd.params.args.map (·.arg) = ns) (hl : cvs.length = ns.length) (nd : ns.Nodup)
    (hd : fd.defaults = .none ∨ ∃ T o items n, fd.defaults = .ref T ∧ K.lookup T = some o ∧ o.data = .seq items n) : BindsTo s fd ⟨cvs, []⟩ (ns.zip cvs) := by
  rcases hd with hd | ⟨T, o, items, n, hd, ho, hs⟩
  · refine BindsTo.of_eq ?_
    rw [bind_all fd cvs h1 h2 h3 h4 ha hl nd, hd]; rfl
  · exact BindsTo.of_defaults hd (X _ _ ho) hs (bind_all fd cvs h1 h2 h3 h4 ha hl nd) rfl
end Mine.Lake

set_option tactic.hygienic true

set_option tactic.hygienic false
namespace Mine.Lake

noncomputable def dfltIn (K : Frag) (v : Value) : Bool := match v with
  | .none => true
  | .ref T => match K.lookup T with
    | some o => match o.data with
      | .seq _ _ => true
      | _ => false
    | none => false
  | _ => false
theorem nof {P : Prop} (h : false = true) : P := nomatch h
theorem dfltIn_inv {K : Frag} {v : Value} (h : dfltIn K v = true) : v = .none ∨ ∃ T o items n, v = .ref T ∧ K.lookup T = some o ∧ o.data = .seq items n := by
  cases v with
  | none => exact .inl rfl
  | ref T =>
    unfold dfltIn at h
    dsimp only at h
    generalize ho : K.lookup T = q at h
    cases q with
    | none => exact nof h
    | some o =>
      dsimp only at h
      generalize hd : o.data = d at h
      cases d with
      | seq items n => exact .inr ⟨_, _, _, _, rfl, ho, hd⟩
      | _ => exact nof h
  | _ => exact nof h

theorem and_inv {a b : Bool} (h : (a && b) = true) : a = true ∧ b = true := Bool.and_eq_true_iff.mp h
noncomputable def paramsOK (p : Arguments) (ns : List Str) (np : Nat) : Bool := p.posonlyargs.isEmpty && (p.vararg.isNone && (p.kwonlyargs.isEmpty && (p.kwarg.isNone && decide (p.args.map (·.arg) = ns.take np))))
theorem paramsOK_inv {p : Arguments} {ns : List Str} {np : Nat} (h : paramsOK p ns np = true) : p.posonlyargs = [] ∧ p.vararg = none ∧ p.kwonlyargs = [] ∧ p.kwarg = none ∧ p.args.map (·.arg) = ns.take np := by
  obtain ⟨h1, h⟩ := and_inv h
  obtain ⟨h2, h⟩ := and_inv h
  obtain ⟨h3, h⟩ := and_inv h
  obtain ⟨h4, h⟩ := and_inv h
  exact ⟨List.isEmpty_iff.mp h1, Option.isNone_iff_eq_none.mp h2, List.isEmpty_iff.mp h3, Option.isNone_iff_eq_none.mp h4, of_decide_eq_true h⟩

noncomputable def bodyAt (K : Frag) (a : Addr) (ns : List Str) (np : Nat) : Option (List MS) := match K.lookup a with
  | some o => match o.data with
    | .func fd => match fd.body with
      | .stmts body => if (fd.globals == mainGlobals && (fd.builtins == builtinsNs && (fd.closure.isEmpty && (codeIn K fd.code fd.qualname && (scopeOK fd.scope ns && (paramsOK fd.params ns np && dfltIn K fd.defaults)))))) = true then trSs (tenv fd.scope ns gl) body else none
      | _ => none
    | _ => none
  | none => none

structure BodyAt (K : Frag) (a : Addr) (ns : List Str) (np : Nat) (ms : List MS) (o : Obj) (name qual : Str) (params : Arguments) (body : List Stmt) (scope : Scope) (dV kV doc pm : Value) (an : Option Addr) (cdv ct : Value) : Prop where
  ho : K.lookup a = some o
  hd : o.data = .func (fnOf name qual params body scope dV kV doc pm an cdv ct)
  hcd : codeIn K cdv qual = true
  hsc : scopeOK scope ns = true
  ht : trSs (tenv scope ns gl) body = some ms
  p1 : params.posonlyargs = []
  p2 : params.vararg = none
  p3 : params.kwonlyargs = []
  p4 : params.kwarg = none
  p5 : params.args.map (·.arg) = ns.take np
  dv : dV = .none ∨ ∃ T o items n, dV = .ref T ∧ K.lookup T = some o ∧ o.data = .seq items n

theorem fn_eq {fd : FuncData} {body : List Stmt} (h1 : fd.globals = mainGlobals) (h2 : fd.builtins = builtinsNs) (h3 : fd.closure = []) (h4 : fd.body = .stmts body) : fd = fnOf fd.name fd.qualname fd.params body fd.scope fd.defaults fd.kwdefaults fd.doc fd.pyModule fd.annotations fd.code fd.closureTuple := by
  cases fd; cases h1; cases h2; cases h3; cases h4; rfl
inductive BodyI (K : Frag) (a : Addr) (ns : List Str) (np : Nat) (ms : List MS) : Prop
  | mk {o : Obj} {name qual : Str} {params : Arguments} {body : List Stmt} {scope : Scope} {dV kV doc pm : Value} {an : Option Addr} {cdv ct : Value} (F : BodyAt K a ns np ms o name qual params body scope dV kV doc pm an cdv ct) : BodyI K a ns np ms
theorem bodyAt_inv {K : Frag} {a : Addr} {ns : List Str} {np : Nat} {ms : List MS} (h : bodyAt K a ns np = some ms) : BodyI K a ns np ms := by
  unfold bodyAt at h
  generalize ho : K.lookup a = q at h
  cases q with
  | none => exact no h
  | some o =>
    dsimp only at h
    generalize hd : o.data = d at h
    cases d with
    | func fd =>
      dsimp only at h
      generalize hb : fd.body = bd at h
      cases bd with
      | stmts body =>
        obtain ⟨c, h⟩ := ite_some h
        obtain ⟨c1, c⟩ := and_inv c
        obtain ⟨c2, c⟩ := and_inv c
        obtain ⟨c3, c⟩ := and_inv c
        obtain ⟨c4, c⟩ := and_inv c
        obtain ⟨c5, c⟩ := and_inv c
        obtain ⟨c6, c7⟩ := and_inv c
        obtain ⟨p1, p2, p3, p4, p5⟩ := paramsOK_inv c6
        exact .mk ⟨ho, hd.trans (congrArg Data.func (fn_eq (beq_iff_eq.mp c1) (beq_iff_eq.mp c2) (List.isEmpty_iff.mp c3) hb)), c4, c5, h, p1, p2, p3, p4, p5, dfltIn_inv c7⟩
      | _ => exact no h
    | _ => exact no h

section
variable {c : Cx} {S : Sg} {n : Nat} {mg mb : Str → Option Value}

theorem zip_take {ns : List Str} : ∀ {cvs : List Value}, ns.zip cvs = (ns.take cvs.length).zip cvs := by
  induction ns with
  | nil => intro cvs; simp
  | cons a r ih =>
    intro cvs
    cases cvs with
    | nil => rfl
    | cons v vs => rw [List.length_cons, List.take_succ_cons, List.zip_cons_cons, List.zip_cons_cons, ← ih]

theorem con_bodyAt (W : Ground c mg mb) (hg : GlOK mg mb gl) (G : SgOK c S n) {a : Addr} {ns : List Str} {np : Nat} {ms : List MS} (e : bodyAt c.K a ns np = some ms) (hk : np ≤ ns.length) {C : Con} (hC : ∀ vs st Q, C vs st Q → vs.length = np ∧ wpF S ms (frame ns vs) st Q) : ConOK c (n + 1) a C := by
  cases bodyAt_inv e with | mk F => ?_
  have nd := (scopeOK_of F.hsc).nodup
  refine con_fn W hg G F.ho F.hd F.hcd F.hsc F.ht hk (fun cvs hl s X => ?_) hC
  rw [zip_take, hl]
  exact binds_all X F.p1 F.p2 F.p3 F.p4 F.p5 (by rw [hl, List.length_take, Nat.min_eq_left hk]) (nd.sublist (List.take_sublist _ _)) F.dv

noncomputable def clsAt (K : Frag) (C : Addr) (ns : List Str) (np : Nat) : Option (List MS) := match findIn K (.ref C) "__init__" with
  | some (some (.ref a)) => if (makesIn K C && (typeIn K (.ref a) == some (.type "function") && clsOK K C)) = true then bodyAt K a ns np else none
  | _ => none

noncomputable def dfl1 (K : Frag) (C : Addr) (i : Int) : Bool := match findIn K (.ref C) "__init__" with
  | some (some (.ref a)) => match K.lookup a with
    | some o => match o.data with
      | .func fd => match fd.defaults with
        | .ref T => match K.lookup T with
          | some o' => match o'.data with
            | .seq items _ => match items.toList with
              | [.int j _] => i == j
              | _ => false
            | _ => false
          | none => false
        | _ => false
      | _ => false
    | none => false
  | _ => false

inductive ClsI (K : Frag) (C : Addr) (ns : List Str) (np : Nat) (ms : List MS) : Prop
  | mk {a : Addr} (h1 : findIn K (.ref C) "__init__" = some (some (.ref a))) (h2 : makesIn K C = true) (h3 : typeIn K (.ref a) = some (.type "function")) (h4 : clsOK K C = true) (h5 : bodyAt K a ns np = some ms) : ClsI K C ns np ms
theorem clsAt_inv {K : Frag} {C : Addr} {ns : List Str} {np : Nat} {ms : List MS} (h : clsAt K C ns np = some ms) : ClsI K C ns np ms := by
  unfold clsAt at h
  generalize ha : findIn K (.ref C) "__init__" = q at h
  cases q with
  | none => exact no h
  | some q => cases q with
    | none => exact no h
    | some q => cases q with
      | ref a =>
        obtain ⟨c, h⟩ := ite_some h
        obtain ⟨c1, c⟩ := and_inv c
        obtain ⟨c2, c3⟩ := and_inv c
        exact .mk ha c1 (beq_iff_eq.mp c2) c3 h
      | _ => exact no h

theorem con_clsAt (W : Ground c mg mb) (hg : GlOK mg mb gl) (G : SgOK c S n) {C : Addr} {ns : List Str} {k : Nat} {ms : List MS} (e : clsAt c.K C ns (k + 1) = some ms) (hk : k + 1 ≤ ns.length) {CC : Con}
    (hC : ∀ vs st Q, CC vs st Q → vs.length = k ∧ wpF S ms (frame ns (.obj st.length :: vs ++ [])) (st ++ [.inst C []]) fun v st' => v = .none ∧ Q (.obj st.length) st') : ConOK c (n + 1) C CC := by
  cases clsAt_inv e with | mk h1 h2 h3 h4 e => ?_
  cases bodyAt_inv e with | mk F => ?_
  have nd := (scopeOK_of F.hsc).nodup
  refine con_cls W hg G h2 h1 h3 h4 F.ho F.hd F.hcd F.hsc F.ht (ext := []) (cext := []) (fun _ _ => .nil) hk (fun cvs hl s X => ?_) hC
  rw [List.append_nil, zip_take, hl]
  exact binds_all X F.p1 F.p2 F.p3 F.p4 F.p5 (by rw [hl, List.length_take, Nat.min_eq_left hk]) (nd.sublist (List.take_sublist _ _)) F.dv

inductive DflI (K : Frag) (i : Int) : Value → Prop
  | mk {T : Addr} {o' : Obj} {items : Array Value} {m : Nat} {t : Nat} (h1 : K.lookup T = some o') (h2 : o'.data = .seq items m) (h3 : items.toList = [.int i t]) : DflI K i (.ref T)
theorem dfl1_inv {K : Frag} {C a : Addr} {i : Int} (h : dfl1 K C i = true) (ha : findIn K (.ref C) "__init__" = some (some (.ref a))) {o : Obj} {fd : FuncData} (ho : K.lookup a = some o) (hd : o.data = .func fd) : DflI K i fd.defaults := by
  unfold dfl1 at h
  rw [ha] at h
  dsimp only at h
  rw [ho] at h
  dsimp only at h
  rw [hd] at h
  dsimp only at h
  generalize hT : fd.defaults = q at h
  cases q with
  | ref T =>
    dsimp only at h
    generalize ho' : K.lookup T = q at h
    cases q with
    | none => exact nof h
    | some o' =>
      dsimp only at h
      generalize hd' : o'.data = q at h
      cases q with
      | seq items m =>
        obtain ⟨l⟩ := items
        cases l with
        | nil => exact nof h
        | cons x l => cases x with
          | int j t => cases l with
            | nil => cases (beq_iff_eq.mp h : i = j); exact .mk ho' hd' rfl
            | cons => exact nof h
          | _ => exact nof h
      | _ => exact nof h
  | _ => exact nof h

theorem len2 {α : Type} {l : List α} (h : l.length = 2) : ∃ a b, l = [a, b] := by
  cases l with
  | nil => exact nomatch h
  | cons a r => cases r with
    | nil => exact nomatch h
    | cons b r => cases r with
      | nil => exact ⟨a, b, rfl⟩
      | cons => exact nomatch h
theorem len3 {α β : Type} {f : α → β} {l : List α} (h : (l.map f).length = 3) : ∃ a b c, l = [a, b, c] := by
  cases l with
  | nil => exact nomatch h
  | cons a r =>
    obtain ⟨b, c, rfl⟩ := len2 (Nat.succ.inj ((List.length_map (f := f) (as := a :: r)).symm.trans h))
    exact ⟨a, b, c, rfl⟩
theorem loop_one {slots : List (Str × Value)} {z : Str} {d : Value} (h : (List.lookup z slots).isNone = true) :
    (forIn [(z, d)] slots fun (x : Str × Value) (s : List (Str × Value)) => if (List.lookup x.1 s).isNone = true then (pure (ForInStep.yield (s ++ [(x.1, x.2)])) : Sem _) else pure (ForInStep.yield s)) = pure (slots ++ [(z, d)]) := by
  rw [List.forIn_cons, if_pos h, pure_bind]; rfl
theorem bind_one {s : Shared} {fd : FuncData} {x y z : Str} {u v d : Value} {T : Addr} {o : Obj} {items : Array Value} {n : Nat} (h1 : fd.params.posonlyargs = []) (h2 : fd.params.vararg = none) (h3 : fd.params.kwonlyargs = []) (h4 : fd.params.kwarg = none) (ha : fd.params.args.map (·.arg) = [x, y, z])
    (hxy : (y == x) = false) (hxz : (z == x) = false) (hyz : (z == y) = false) (hd : fd.defaults = .ref T) (ho : s.heap.get? T = some o) (hs : o.data = .seq items n) (hi : items.toList = [d]) : BindsTo s fd ⟨[u, v], []⟩ [(x, u), (y, v), (z, d)] := by
  intro M A E Q hq
  have l1 : List.lookup x [(x, u), (y, v)] = some u := by rw [List.lookup_cons, beq_self_eq_true]
  have l2 : List.lookup y [(x, u), (y, v)] = some v := by rw [List.lookup_cons, hxy, List.lookup_cons, beq_self_eq_true]
  have l3 : List.lookup z [(x, u), (y, v)] = none := by rw [List.lookup_cons, hxz, List.lookup_cons, hyz]; rfl
  have m1 : List.lookup x [(x, u), (y, v), (z, d)] = some u := by rw [List.lookup_cons, beq_self_eq_true]
  have m2 : List.lookup y [(x, u), (y, v), (z, d)] = some v := by rw [List.lookup_cons, hxy, List.lookup_cons, beq_self_eq_true]
  have m3 : List.lookup z [(x, u), (y, v), (z, d)] = some d := by rw [List.lookup_cons, hxz, List.lookup_cons, hyz, List.lookup_cons, beq_self_eq_true]
  have f1 : List.filter (fun n => (List.lookup n [(x, u), (y, v)]).isNone) [x, y] = [] := by
    rw [List.filter_cons_of_neg (by show ¬ (List.lookup x _).isNone = true; rw [l1]; exact Bool.false_ne_true), List.filter_cons_of_neg (by show ¬ (List.lookup y _).isNone = true; rw [l2]; exact Bool.false_ne_true)]; rfl
  have g1 : List.filterMap (fun n => Option.map (fun w => (n, w)) (List.lookup n [(x, u), (y, v), (z, d)])) [x, y, z] = [(x, u), (y, v), (z, d)] := by rw [List.filterMap_cons, m1, List.filterMap_cons, m2, List.filterMap_cons, m3]; rfl
  obtain ⟨args, kd, df, hp⟩ := par_eq h1 h2 h3 h4
  clear h1 h2 h3 h4
  rw [hp] at ha
  obtain ⟨l⟩ := items
  cases hi
  obtain ⟨a1, a2, a3, rfl⟩ := len3 (congrArg List.length ha)
  cases ha
  show wpAny M A (Sem.bind (seqItems? fd.defaults) _) Q E s
  rw [hd]
  refine wpAny_bind (wpAny_seqItems ho hs ?_)
  rw [hp]
  refine Eq.mpr (congrArg (fun t : Sem (List (Str × Value)) => wpAny M A t Q E s) (?_ : _ = pure [(a1.arg, u), (a2.arg, v), (a3.arg, d)])) (wpAny_pure hq)
  refine (if_neg Bool.false_ne_true).trans ?_
  refine (if_neg fun e => Bool.false_ne_true ((congrArg (fun l => !List.isEmpty l) f1).symm.trans e)).trans ?_
  refine (congrArg (· >>= _) (loop_one (slots := [(a1.arg, u), (a2.arg, v)]) (congrArg Option.isNone l3))).trans ?_
  exact congrArg (fun x : List (Str × Value) => (pure x : Sem (List (Str × Value)))) g1

theorem con_cls1 (W : Ground c mg mb) (hg : GlOK mg mb gl) (G : SgOK c S n) {C : Addr} {x y z : Str} {r : List Str} {ms : List MS} {i : Int} (e : clsAt c.K C (x :: y :: z :: r) 3 = some ms) (e2 : dfl1 c.K C i = true) {CC : Con}
    (hC : ∀ vs st Q, CC vs st Q → vs.length = 1 ∧ wpF S ms (frame (x :: y :: z :: r) (.obj st.length :: vs ++ [.int i])) (st ++ [.inst C []]) fun v st' => v = .none ∧ Q (.obj st.length) st') : ConOK c (n + 1) C CC := by
  cases clsAt_inv e with | mk h1 h2 h3 h4 e => ?_
  cases bodyAt_inv e with | mk F => ?_
  have di := dfl1_inv e2 h1 F.ho F.hd
  generalize hT : (fnOf _ _ _ _ _ _ _ _ _ _ _ _).defaults = dv at di
  cases di with | @mk T o' items m t ho' hd' hi => ?_
  have nd := (scopeOK_of F.hsc).nodup
  refine con_cls W hg G h2 h1 h3 h4 F.ho F.hd F.hcd F.hsc F.ht (k := 1) (ext := [.int i]) (cext := [.int i t]) (fun _ _ => .cons ⟨t, rfl⟩ .nil) (by simp) (fun cvs hl s X => ?_) hC
  obtain ⟨u, v, rfl⟩ := len2 hl
  have ez : (x :: y :: z :: r).zip ([u, v] ++ [.int i t]) = [(x, u), (y, v), (z, .int i t)] := by simp
  rw [ez]
  have hxy : (y == x) = false := beq_eq_false_iff_ne.mpr fun q => by subst q; simp at nd
  have hxz : (z == x) = false := beq_eq_false_iff_ne.mpr fun q => by subst q; simp at nd
  have hyz : (z == y) = false := beq_eq_false_iff_ne.mpr fun q => by subst q; simp at nd
  exact bind_one F.p1 F.p2 F.p3 F.p4 F.p5 hxy hxz hyz hT (X _ _ ho') hd' hi
end
end Mine.Lake

set_option tactic.hygienic true

set_option tactic.hygienic false
namespace Mine.Lake

noncomputable def Kof (as : List Addr) (h : Heap) : Frag := as.filterMap fun a => (h.get? a).map fun o => (a, o)
theorem lookup_mem {α : Type} : ∀ {l : List (Nat × α)} {a : Nat} {o : α}, l.lookup a = some o → (a, o) ∈ l
  | [], a, o, h => by (first | exact no h | cases h)
  | (b, x) :: r, a, o, h => by
    rw [List.lookup_cons] at h
    by_cases e : a = b
    · subst e; rw [beq_self_eq_true] at h; (first | exact no h | cases h); exact .head _
    · rw [beq_eq_false_iff_ne.mpr e] at h; exact .tail _ (lookup_mem h)
theorem Kof_in {as : List Addr} {h : Heap} : (Kof as h).In h := by
  intro a o e
  obtain ⟨b, _, hb⟩ := List.mem_filterMap.mp (lookup_mem e)
  obtain ⟨x, hx, e⟩ := Option.map_eq_some_iff.mp hb
  (first | exact no e | cases e); exact hx

noncomputable def mtL : List (Addr × Nat × Addr) := [(373, 25, 201), (373, 26, 208), (373, 27, 215), (373, 28, 229), (373, 29, 243), (373, 30, 250), (373, 31, 257), (373, 32, 264), (373, 33, 271), (373, 34, 285), (373, 35, 292), (373, 36, 299), (373, 37, 306), (373, 38, 320), (373, 39, 363), (373, 40, 370),
  (154, 17, 88), (154, 19, 102), (154, 20, 109), (154, 22, 123), (399, 16, 396)]
theorem mt_mem {C : Addr} {m : Nat} {f : Addr} (h : mt C m = some f) : (C, m, f) ∈ mtL := by
  unfold mt at h
  have z : ∀ {l : List (Nat × Addr)} {C' : Addr}, (∀ p ∈ l, (C', p.1, p.2) ∈ mtL) → l.lookup m = some f → (C', m, f) ∈ mtL := fun hl e => hl _ (lookup_mem e)
  split at h
  · rename_i e; subst e; exact z (by decide) h
  · split at h
    · rename_i e; subst e; exact z (by decide) h
    · split at h
      · rename_i e; subst e; exact z (by decide) h
      · (first | exact no h | cases h)
noncomputable def mtOK (K : Frag) : Bool := mtL.all fun x => Nat.ble 13 x.2.1 && (Nat.blt x.2.1 41 && (findIn K (.ref x.1) (anm x.2.1) == some (some (.ref x.2.2)) && (typeIn K (.ref x.2.2) == some (.type "function") && keepIn K (.ref x.2.2))))

noncomputable def vOK (v : MV) (cv : Value) : Bool := match v with
  | .int i => match cv with
    | .int j _ => i == j
    | _ => false
  | .val w => cv == w
  | .bi b => cv == b.value
  | _ => false
theorem vOK_inv {v : MV} {cv : Value} (h : vOK v cv = true) (μ : Mu) (hp : Heap) : VR μ hp v cv := by
  cases v with
  | int i => cases cv with
    | int j t => cases (beq_iff_eq.mp h : i = j); exact ⟨_, rfl⟩
    | _ => cases h
  | val w => exact (beq_iff_eq.mp h : cv = w)
  | bi b => exact (beq_iff_eq.mp h : cv = b.value)
  | _ => cases h
noncomputable def glOKb (mg mb : Str → Option Value) : Bool := glL.all fun p => (!(p.1 == ("__debug__" : Str))) && match mg p.1 with
  | some cv => vOK p.2 cv
  | none => match mb p.1 with
    | some cv => vOK p.2 cv
    | none => false
theorem lookup_memS {α : Type} : ∀ {l : List (Str × α)} {a : Str} {o : α}, l.lookup a = some o → (a, o) ∈ l
  | [], a, o, h => by (first | exact no h | cases h)
  | (b, x) :: r, a, o, h => by
    rw [List.lookup_cons] at h
    by_cases e : a = b
    · subst e; rw [beq_self_eq_true] at h; (first | exact no h | cases h); exact .head _
    · rw [beq_eq_false_iff_ne.mpr e] at h; exact .tail _ (lookup_memS h)
theorem glOK_of {mg mb : Str → Option Value} (h : glOKb mg mb = true) : GlOK mg mb gl := by
  intro x v hx
  have := List.all_eq_true.mp h _ (lookup_memS hx)
  rw [Bool.and_eq_true, Bool.not_eq_true'] at this
  obtain ⟨h1, h2⟩ := this
  refine ⟨h1, ?_⟩
  simp only at h2
  cases e : mg x with
  | some cv => rw [e] at h2; exact ⟨cv, .inl rfl, fun μ hp => vOK_inv h2 μ hp⟩
  | none =>
    rw [e] at h2
    simp only at h2
    cases e2 : mb x with
    | some cv => rw [e2] at h2; exact ⟨cv, .inr ⟨rfl, rfl⟩, fun μ hp => vOK_inv h2 μ hp⟩
    | none => rw [e2] at h2; (first | exact no h2 | cases h2)
end Mine.Lake

set_option tactic.hygienic true

set_option maxRecDepth 100000
namespace Mine.Lake
noncomputable def obsL (K : Frag) (law : Addr) : List (Option (List MS)) := [bodyAt K 60 ns_fixed_atoms 0, bodyAt K 67 ns_fixed_functors 0, bodyAt K 88 ns_Symbols_atom 2, bodyAt K 102 ns_Symbols_functor 3, bodyAt K 109 ns_Symbols_func 3, bodyAt K 123 ns_Symbols_arity 2, bodyAt K 201 ns_Cells_push 2, bodyAt K 208 ns_Cells_new_var 1, bodyAt K 215 ns_Cells_reserve 2, bodyAt K 229 ns_Cells_deref 2, bodyAt K 243 ns_Cells_bind 3, bodyAt K 250 ns_Cells_bind_pair 3, bodyAt K 257 ns_Cells_globalise 2, bodyAt K 264 ns_Cells_mark 1, bodyAt K 271 ns_Cells_undo_to 2, bodyAt K 285 ns_Cells_is_compound 2, bodyAt K 292 ns_Cells_functor_of 2, bodyAt K 299 ns_Cells_width 2, bodyAt K 306 ns_Cells_base 2, bodyAt K 320 ns_Cells_new_block 2, bodyAt K 363 ns_Store_put_term 3, bodyAt K 370 ns_Store_take_term 3, bodyAt K 396 ns_PairSet_add 3, bodyAt K 410 ns_push_arguments 3, bodyAt K 417 ns_push_pairs 4, bodyAt K 424 ns_same_shape 3, bodyAt K 431 ns_is_variable 1, bodyAt K 438 ns_unify 4, bodyAt K 445 ns_bind_checked 4, bodyAt K 452 ns_trial 4, bodyAt K 459 ns_occurs_in 3, bodyAt K 466 ns__law_take 2, bodyAt K 473 ns__law_side 3, bodyAt K 478 ns__law_every 0, bodyAt K 485 ns__law_store 1, bodyAt K 492 ns__law_solved 2, bodyAt K 499 ns__law_sides_one 2, bodyAt K 504 ns__law_trials_right 3, clsAt K 154 ns_Symbols_init 1, clsAt K 373 ns_Cells_init 3, clsAt K 399 ns_PairSet_init 2, bodyAt K law ns_law 1]
noncomputable def expL : List (Option (List MS)) := [some b_fixed_atoms, some b_fixed_functors, some b_Symbols_atom, some b_Symbols_functor, some b_Symbols_func, some b_Symbols_arity, some b_Cells_push, some b_Cells_new_var, some b_Cells_reserve, some b_Cells_deref, some b_Cells_bind, some b_Cells_bind_pair, some b_Cells_globalise, some b_Cells_mark, some b_Cells_undo_to, some b_Cells_is_compound, some b_Cells_functor_of, some b_Cells_width, some b_Cells_base, some b_Cells_new_block, some b_Store_put_term, some b_Store_take_term, some b_PairSet_add, some b_push_arguments, some b_push_pairs, some b_same_shape, some b_is_variable, some b_unify, some b_bind_checked, some b_trial, some b_occurs_in, some b__law_take, some b__law_side, some b__law_every, some b__law_store, some b__law_solved, some b__law_sides_one, some b__law_trials_right, some b_Symbols_init, some b_Cells_init, some b_PairSet_init, some b_law]

theorem left_of {p q : Program} {loose : List Str} {Xt : Shared → Bool} {α : Type} {Yf : Shared → α} {Ya : World → α} {N : Nat} (e : opening p = plainProg p.main.scope.names) (hN : Nat.ble 600 N = true) (f : ∀ s, fenceModules? p s = some s)
    (key : ∀ (w : World) (os : OsState), (topFrom treeTable p w N ⟨boot_heap w.params, Array.mk [], boot_drawn, boot_toks, os⟩).map (fun s => (openSeen q loose (importedModules p.main.body) Xt true s, Yf s)) = some (openGood q loose, Ya w)) : LeftO p q loose Xt Yf Ya N := fun w => by
  obtain ⟨⟨h, gs, d, k, os⟩, e1, e2⟩ := Option.map_eq_some_iff.mp (boot_open e hN f w)
  obtain ⟨rfl, rfl, rfl, rfl⟩ : h = boot_heap w.params ∧ gs = Array.mk [] ∧ d = boot_drawn ∧ k = boot_toks := by simpa using e2
  unfold openEnds
  rw [e1]
  exact key w os

noncomputable def runT (ok : Thread → Bool) (stp : SharedT → Thread → Option (SharedT × Thread)) : Nat → SharedT → Thread → Option SharedT
  | 0, _, _ => none
  | n + 1, s, t => match through t with
    | true => some s
    | false => match ok t with
      | false => none
      | true => match stp s t with
        | some (s', t') => runT ok stp n s' t'
        | none => none
theorem runT_of {tb : String → Option Builtin} {p : Program} {w : World} {n₀ : Nat} {ann : Option Value} : ∀ {n : Nat} {s s' : SharedT} {t : Thread}, runT (stepOk n₀ ann) (stepT (denote tb) p w) n s t = some s' → topRun tb p w n₀ ann n s.abs t = some s'.abs
  | 0, _, _, _, h => by cases h
  | n + 1, s, s', t, h => by
    unfold runT at h
    unfold topRun
    cases he : through t with
    | true => rw [he] at h; cases h; rfl
    | false =>
      rw [he] at h
      cases hk : stepOk n₀ ann t with
      | false => rw [hk] at h; cases h
      | true =>
        rw [hk] at h
        cases hs : stepT (denote tb) p w s t with
        | none => rw [hs] at h; cases h
        | some r => obtain ⟨s₂, t₂⟩ := r; rw [hs] at h; rw [stepT_spec hs]; exact runT_of h
noncomputable def treeOf (l : List Obj) : Nat → BT → BT := l.rec (fun _ T => T) fun o _ ih n T => ih (n + 1) (T.ins n o)
theorem top_run {p q : Program} {loose : List Str} {Xt : Shared → Bool} {α : Type} {Yf : Shared → α} {a : α} {N : Nat} {w : World} {s₀ : Shared} {sT : SharedT} (h0 : (s₀.heap.isNs mainGlobals && s₀.gens.size == 0) = true) (hT : sT.abs = s₀)
    (h : (runT (stepOk s₀.heap.objs.size (s₀.heap.nsMap mainGlobals "__annotations__")) (stepT (denote treeTable) p w) N sT (topStub p)).map (fun s => (fun s => ((staticsOk (importedModules p.main.body) s₀.heap s.heap && namesBound p s.heap && gensDone s && laidKept s₀.heap s.heap), openSeen q loose (importedModules p.main.body) Xt true s, Yf s)) s.abs) = some (true, openGood q loose, a)) :
    (topFrom treeTable p w N s₀).map (fun s => (openSeen q loose (importedModules p.main.body) Xt true s, Yf s)) = some (openGood q loose, a) := by
  obtain ⟨sT', h1, h2⟩ := Option.map_eq_some_iff.mp h
  have h1 := runT_of h1
  rw [hT] at h1
  generalize sT'.abs = s at h1 h2
  obtain ⟨h2, h3⟩ := Prod.mk.inj h2
  unfold topFrom
  rw [h0]
  show Option.map _ (Option.bind _ _) = _
  rw [h1]
  show Option.map _ (match (staticsOk (importedModules p.main.body) s₀.heap s.heap && namesBound p s.heap && gensDone s && laidKept s₀.heap s.heap) with | true => some s | false => none) = _
  rw [h2]
  exact congrArg some h3

noncomputable abbrev pw : Program := PySem.Challenge.pw_ok0023_01
noncomputable def q : Program := view pw [44]
noncomputable def loose : List Str := pw.boundNames.filter fun x => !(x == Str.ofString "law")
noncomputable def addrs : List Addr := [59, 60, 66, 67, 80, 81, 87, 88, 101, 102, 108, 109, 122, 123, 153, 154, 187, 193, 194, 200, 201, 207, 208, 214, 215, 228, 229, 242, 243, 249, 250, 256, 257, 263, 264, 270, 271, 284, 285, 291, 292, 298, 299, 305, 306, 319, 320, 322, 323, 362, 363, 369, 370, 372, 373, 388, 389, 395, 396, 398, 399, 409, 410, 416, 417, 423, 424, 430, 431, 437, 438, 444, 445, 451, 452, 458, 459, 465, 466, 472, 473, 477, 478, 484, 485, 491, 492, 498, 499, 503, 504, 508, 509]
noncomputable def ini (w : World) (os : OsState) : SharedT := ⟨treeOf (boot_heap w.params).objs.toList 0 .nil, (boot_heap w.params).objs.size, (boot_heap w.params).life, Array.mk [], boot_drawn, boot_toks, os⟩
noncomputable def obs (s : Shared) : List (Option (List MS)) × Bool :=
  (obsL (Kof addrs s.heap) 509, mtOK (Kof addrs s.heap) && (glOKb (s.heap.nsMap mainGlobals) (s.heap.nsMap builtinsNs) && (dfl1 (Kof addrs s.heap) 373 100000 && ((s.heap.get? sysModules).isSome && (s.heap.isNs mainGlobals && (s.heap.isNs builtinsNs && (s.heap.nsMap mainGlobals "law" == some (.ref 509))))))))
theorem ini_abs (w : World) (os : OsState) : (ini w os).abs = ⟨boot_heap w.params, Array.mk [], boot_drawn, boot_toks, os⟩ := by kernel_rfl
theorem left : LeftO pw q loose (fun _ => true) obs (fun _ => (expL, true)) 7000 := left_of (by kernel_rfl) (by kernel_rfl) (fun _ => rfl) fun w os => top_run (sT := ini w os) (by kernel_rfl) (ini_abs w os) (by
  show (runT (stepOk (boot_heap w.params).objs.size ((boot_heap w.params).nsMap mainGlobals "__annotations__")) (stepT (denote treeTable) pw w) 7000 (ini w os) (topStub pw)).map (fun s => (fun s => ((staticsOk (importedModules pw.main.body) (boot_heap w.params) s.heap && namesBound pw s.heap && gensDone s && laidKept (boot_heap w.params) s.heap), openSeen q loose (importedModules pw.main.body) (fun _ => true) true s, obs s)) s.abs) = some (true, openGood q loose, expL, true)
  unfold staticsOk namesBound laidKept obs glOKb loose
  rw [PySem.W.Fast.te14364793385576792824, PySem.W.Fast.te10156331382660048174, PySem.W.Fast.te6613529449190102663, PySem.W.Fast.te11892475500146522536, PySem.W.Fast.te4187177175401517315, PySem.W.Fast.te5923862056798008813, PySem.W.Fast.te8920871248978507458, PySem.W.Fast.te18344453789297297638]
  kernel_rfl)
end Mine.Lake

set_option maxRecDepth 100000
namespace Mine.Lake
theorem said : PySem.Challenge.rw_ok0023_01.wellSaid = true := by
  rw [PySem.W.Fast.te9446332074065402090]
  kernel_rfl
end Mine.Lake

namespace Mine.Lake
theorem keep_bodyAt {K : Frag} {a : Addr} {ns : List Str} {np : Nat} {ms : List MS} (e : bodyAt K a ns np = some ms) : keepIn K (.ref a) = true := by
  cases bodyAt_inv e with | @mk o _ _ _ _ _ _ _ _ _ _ _ _ F => ?_
  obtain ⟨oc, od, da, sl⟩ := o
  have h1 := F.ho
  have h2 : da = _ := F.hd
  subst h2
  unfold keepIn
  simp only [h1]
theorem keep_clsAt {K : Frag} {C : Addr} {ns : List Str} {np : Nat} {ms : List MS} (e : clsAt K C ns np = some ms) : keepIn K (.ref C) = true := by
  cases clsAt_inv e with | mk _ h _ _ _ => ?_
  unfold makesIn at h
  unfold keepIn
  split at h
  · rename_i oc od cd sl ho
    simp only [ho]
    simp only [Bool.and_eq_true] at h
    exact h.1.2
  · cases h

noncomputable def C_law (a : Value) : Con := fun vs st Q => vs = [.val a] ∧ ∀ st', Q (.bool true) st'
noncomputable def cons_ : List (Addr × Con) := [(60, C_fixed_atoms), (67, C_fixed_functors), (88, C_atom), (102, C_functor), (109, C_func), (123, C_arity), (154, C_Symbols), (201, C_push), (208, C_new_var), (215, C_reserve), (229, C_deref), (243, C_bind), (250, C_bind_pair), (257, C_globalise), (264, C_mark), (271, C_undo_to), (285, C_is_compound), (292, C_functor_of), (299, C_width), (306, C_base), (320, C_new_block), (363, C_put), (363, C_put0), (370, C_take), (373, C_Store), (396, C_add), (399, C_PairSet), (410, C_push_arguments), (417, C_push_pairs), (424, C_same_shape), (431, C_is_variable), (459, C_occurs_in), (445, C_bind_checked), (438, C_unify), (452, C_trial), (466, C_ltake), (473, (C_side 0)), (473, (C_side 1)), (473, (C_side 2)), (478, C_every), (485, C_lstore), (492, C_lsolved), (499, C_sides), (504, C_trials)]
noncomputable def sig (a : Value) (xs : List Int) (k : Nat) : Sg := ⟨fun b vs st Q => ∃ (j : Nat) (C : Con), j < k ∧ cons_[j]? = some (b, C) ∧ C vs st Q, mt, fun v => if v = a then some (xs.map .int) else none⟩
theorem Has.at_ {a : Value} {xs : List Int} {k j : Nat} {b : Addr} {C : Con} (h : j < k) (e : cons_[j]? = some (b, C)) : Has (sig a xs k) b C := fun _ _ _ z => ⟨j, C, h, e, z⟩
theorem SgOK.step {c : Cx} {a : Value} {xs : List Int} {k : Nat} {b : Addr} {C : Con} (G : SgOK c (sig a xs k) k) (e : cons_[k]? = some (b, C)) (hk : keepIn c.K (.ref b) = true) (hC : ConOK c (k + 1) b C) : SgOK c (sig a xs (k + 1)) (k + 1) where
  meth := G.meth
  lst := G.lst
  keep f vs st Q h := by
    obtain ⟨j, D, hj, hD, z⟩ := h
    by_cases q : j = k
    · subst q; cases e.symm.trans hD; exact hk
    · exact G.keep f vs st Q ⟨j, D, Nat.lt_of_le_of_ne (Nat.le_of_lt_succ hj) q, hD, z⟩
  call f vs st Q h A E μ s cvs Q' hr := by
    obtain ⟨j, D, hj, hD, z⟩ := h
    by_cases q : j = k
    · subst q; cases e.symm.trans hD; exact hC vs st Q z A E μ s cvs Q' hr
    · exact G.call f vs st Q ⟨j, D, Nat.lt_of_le_of_ne (Nat.le_of_lt_succ hj) q, hD, z⟩ A E μ s cvs Q' hr.less

theorem chain {c : Cx} {mg mb : Str → Option Value} (W : Ground c mg mb) (hg : GlOK mg mb gl) (hy : obsL c.K 509 = expL) (hm : mtOK c.K = true) (hd : dfl1 c.K 373 100000 = true) {a : Value} {p : Addr} {items : Array Value} {xs : List Int} (ha : a = .ref p) (hl : c.h0.IsList p items) (hlen : xs.length ≤ 63) (hi : ∀ μ h, All2 (VR μ h) (xs.map .int) items.toList) : ConOK c 45 509 (C_law a) := by
  have e : ∀ i : Nat, (obsL c.K 509)[i]?.join = expL[i]?.join := fun i => by rw [hy]
  have G0 : SgOK c (sig a xs 0) 0 := by
    refine ⟨fun C m f h => ?_, fun x ys h => ?_, fun _ _ _ _ h => let ⟨_, _, h, _⟩ := h; absurd h (Nat.not_lt_zero _), fun _ _ _ _ h => let ⟨_, _, h, _⟩ := h; absurd h (Nat.not_lt_zero _)⟩
    · have := List.all_eq_true.mp hm _ (mt_mem h)
      simp only [Bool.and_eq_true, beq_iff_eq, Nat.ble_eq, Nat.blt_eq] at this
      exact ⟨this.1, this.2.1, this.2.2.1, this.2.2.2.1, this.2.2.2.2⟩
    · by_cases q : x = a
      · have h : (if x = a then some (xs.map MV.int) else none) = some ys := h
        rw [if_pos q] at h; cases h
        exact ⟨p, items, q.trans ha, hl, by rw [List.length_map]; unfold lim; lia, hi⟩
      · have h : (if x = a then some (xs.map MV.int) else none) = some ys := h
        rw [if_neg q] at h; cases h
  have G1 := G0.step (C := C_fixed_atoms) rfl (keep_bodyAt (e := ((e 0) : bodyAt c.K 60 ns_fixed_atoms 0 = some b_fixed_atoms))) (con_bodyAt W hg G0 (e := ((e 0) : bodyAt c.K 60 ns_fixed_atoms 0 = some b_fixed_atoms)) (by decide) fun vs st Q h => f_fixed_atoms  h)
  have G2 := G1.step (C := C_fixed_functors) rfl (keep_bodyAt (e := ((e 1) : bodyAt c.K 67 ns_fixed_functors 0 = some b_fixed_functors))) (con_bodyAt W hg G1 (e := ((e 1) : bodyAt c.K 67 ns_fixed_functors 0 = some b_fixed_functors)) (by decide) fun vs st Q h => f_fixed_functors  h)
  have G3 := G2.step (C := C_atom) rfl (keep_bodyAt (e := ((e 2) : bodyAt c.K 88 ns_Symbols_atom 2 = some b_Symbols_atom))) (con_bodyAt W hg G2 (e := ((e 2) : bodyAt c.K 88 ns_Symbols_atom 2 = some b_Symbols_atom)) (by decide) fun vs st Q h => f_atom  h)
  have G4 := G3.step (C := C_functor) rfl (keep_bodyAt (e := ((e 3) : bodyAt c.K 102 ns_Symbols_functor 3 = some b_Symbols_functor))) (con_bodyAt W hg G3 (e := ((e 3) : bodyAt c.K 102 ns_Symbols_functor 3 = some b_Symbols_functor)) (by decide) fun vs st Q h => f_functor  h)
  have G5 := G4.step (C := C_func) rfl (keep_bodyAt (e := ((e 4) : bodyAt c.K 109 ns_Symbols_func 3 = some b_Symbols_func))) (con_bodyAt W hg G4 (e := ((e 4) : bodyAt c.K 109 ns_Symbols_func 3 = some b_Symbols_func)) (by decide) fun vs st Q h => f_func rfl (.at_ (k := 4) (j := 2) (Nat.le_of_ble_eq_true rfl) rfl) (.at_ (k := 4) (j := 3) (Nat.le_of_ble_eq_true rfl) rfl) h)
  have G6 := G5.step (C := C_arity) rfl (keep_bodyAt (e := ((e 5) : bodyAt c.K 123 ns_Symbols_arity 2 = some b_Symbols_arity))) (con_bodyAt W hg G5 (e := ((e 5) : bodyAt c.K 123 ns_Symbols_arity 2 = some b_Symbols_arity)) (by decide) fun vs st Q h => f_arity  h)
  have G7 := G6.step (C := C_Symbols) rfl (keep_clsAt (e := ((e 38) : clsAt c.K 154 ns_Symbols_init 1 = some b_Symbols_init))) (con_clsAt W hg G6 (k := 0) (e := ((e 38) : clsAt c.K 154 ns_Symbols_init 1 = some b_Symbols_init)) (by decide) fun vs st Q h => f_Symbols rfl (.at_ (k := 6) (j := 0) (Nat.le_of_ble_eq_true rfl) rfl) (.at_ (k := 6) (j := 1) (Nat.le_of_ble_eq_true rfl) rfl) (.at_ (k := 6) (j := 2) (Nat.le_of_ble_eq_true rfl) rfl) (.at_ (k := 6) (j := 4) (Nat.le_of_ble_eq_true rfl) rfl) h)
  have G8 := G7.step (C := C_push) rfl (keep_bodyAt (e := ((e 6) : bodyAt c.K 201 ns_Cells_push 2 = some b_Cells_push))) (con_bodyAt W hg G7 (e := ((e 6) : bodyAt c.K 201 ns_Cells_push 2 = some b_Cells_push)) (by decide) fun vs st Q h => f_push  h)
  have G9 := G8.step (C := C_new_var) rfl (keep_bodyAt (e := ((e 7) : bodyAt c.K 208 ns_Cells_new_var 1 = some b_Cells_new_var))) (con_bodyAt W hg G8 (e := ((e 7) : bodyAt c.K 208 ns_Cells_new_var 1 = some b_Cells_new_var)) (by decide) fun vs st Q h => f_new_var rfl (.at_ (k := 8) (j := 7) (Nat.le_of_ble_eq_true rfl) rfl) h)
  have G10 := G9.step (C := C_reserve) rfl (keep_bodyAt (e := ((e 8) : bodyAt c.K 215 ns_Cells_reserve 2 = some b_Cells_reserve))) (con_bodyAt W hg G9 (e := ((e 8) : bodyAt c.K 215 ns_Cells_reserve 2 = some b_Cells_reserve)) (by decide) fun vs st Q h => f_reserve  h)
  have G11 := G10.step (C := C_deref) rfl (keep_bodyAt (e := ((e 9) : bodyAt c.K 229 ns_Cells_deref 2 = some b_Cells_deref))) (con_bodyAt W hg G10 (e := ((e 9) : bodyAt c.K 229 ns_Cells_deref 2 = some b_Cells_deref)) (by decide) fun vs st Q h => g_deref  h)
  have G12 := G11.step (C := C_bind) rfl (keep_bodyAt (e := ((e 10) : bodyAt c.K 243 ns_Cells_bind 3 = some b_Cells_bind))) (con_bodyAt W hg G11 (e := ((e 10) : bodyAt c.K 243 ns_Cells_bind 3 = some b_Cells_bind)) (by decide) fun vs st Q h => f_bind  h)
  have G13 := G12.step (C := C_bind_pair) rfl (keep_bodyAt (e := ((e 11) : bodyAt c.K 250 ns_Cells_bind_pair 3 = some b_Cells_bind_pair))) (con_bodyAt W hg G12 (e := ((e 11) : bodyAt c.K 250 ns_Cells_bind_pair 3 = some b_Cells_bind_pair)) (by decide) fun vs st Q h => f_bind_pair rfl (.at_ (k := 12) (j := 11) (Nat.le_of_ble_eq_true rfl) rfl) h)
  have G14 := G13.step (C := C_globalise) rfl (keep_bodyAt (e := ((e 12) : bodyAt c.K 257 ns_Cells_globalise 2 = some b_Cells_globalise))) (con_bodyAt W hg G13 (e := ((e 12) : bodyAt c.K 257 ns_Cells_globalise 2 = some b_Cells_globalise)) (by decide) fun vs st Q h => f_globalise rfl (.at_ (k := 13) (j := 10) (Nat.le_of_ble_eq_true rfl) rfl) h)
  have G15 := G14.step (C := C_mark) rfl (keep_bodyAt (e := ((e 13) : bodyAt c.K 264 ns_Cells_mark 1 = some b_Cells_mark))) (con_bodyAt W hg G14 (e := ((e 13) : bodyAt c.K 264 ns_Cells_mark 1 = some b_Cells_mark)) (by decide) fun vs st Q h => f_mark  h)
  have G16 := G15.step (C := C_undo_to) rfl (keep_bodyAt (e := ((e 14) : bodyAt c.K 271 ns_Cells_undo_to 2 = some b_Cells_undo_to))) (con_bodyAt W hg G15 (e := ((e 14) : bodyAt c.K 271 ns_Cells_undo_to 2 = some b_Cells_undo_to)) (by decide) fun vs st Q h => f_undo_to  h)
  have G17 := G16.step (C := C_is_compound) rfl (keep_bodyAt (e := ((e 15) : bodyAt c.K 285 ns_Cells_is_compound 2 = some b_Cells_is_compound))) (con_bodyAt W hg G16 (e := ((e 15) : bodyAt c.K 285 ns_Cells_is_compound 2 = some b_Cells_is_compound)) (by decide) fun vs st Q h => f_is_compound  h)
  have G18 := G17.step (C := C_functor_of) rfl (keep_bodyAt (e := ((e 16) : bodyAt c.K 292 ns_Cells_functor_of 2 = some b_Cells_functor_of))) (con_bodyAt W hg G17 (e := ((e 16) : bodyAt c.K 292 ns_Cells_functor_of 2 = some b_Cells_functor_of)) (by decide) fun vs st Q h => f_functor_of  h)
  have G19 := G18.step (C := C_width) rfl (keep_bodyAt (e := ((e 17) : bodyAt c.K 299 ns_Cells_width 2 = some b_Cells_width))) (con_bodyAt W hg G18 (e := ((e 17) : bodyAt c.K 299 ns_Cells_width 2 = some b_Cells_width)) (by decide) fun vs st Q h => f_width rfl (.at_ (k := 18) (j := 5) (Nat.le_of_ble_eq_true rfl) rfl) h)
  have G20 := G19.step (C := C_base) rfl (keep_bodyAt (e := ((e 18) : bodyAt c.K 306 ns_Cells_base 2 = some b_Cells_base))) (con_bodyAt W hg G19 (e := ((e 18) : bodyAt c.K 306 ns_Cells_base 2 = some b_Cells_base)) (by decide) fun vs st Q h => f_base  h)
  have G21 := G20.step (C := C_new_block) rfl (keep_bodyAt (e := ((e 19) : bodyAt c.K 320 ns_Cells_new_block 2 = some b_Cells_new_block))) (con_bodyAt W hg G20 (e := ((e 19) : bodyAt c.K 320 ns_Cells_new_block 2 = some b_Cells_new_block)) (by decide) fun vs st Q h => f_new_block rfl (.at_ (k := 20) (j := 9) (Nat.le_of_ble_eq_true rfl) rfl) (.at_ (k := 20) (j := 5) (Nat.le_of_ble_eq_true rfl) rfl) h)
  have G22 := G21.step (C := C_put) rfl (keep_bodyAt (e := ((e 20) : bodyAt c.K 363 ns_Store_put_term 3 = some b_Store_put_term))) (con_bodyAt W hg G21 (e := ((e 20) : bodyAt c.K 363 ns_Store_put_term 3 = some b_Store_put_term)) (by decide) fun vs st Q h => f_put rfl (.at_ (k := 21) (j := 13) (Nat.le_of_ble_eq_true rfl) rfl) (.at_ (k := 21) (j := 8) (Nat.le_of_ble_eq_true rfl) rfl) (.at_ (k := 21) (j := 20) (Nat.le_of_ble_eq_true rfl) rfl) (.at_ (k := 21) (j := 19) (Nat.le_of_ble_eq_true rfl) rfl) h)
  have G23 := G22.step (C := C_put0) rfl (keep_bodyAt (e := ((e 20) : bodyAt c.K 363 ns_Store_put_term 3 = some b_Store_put_term))) (con_bodyAt W hg G22 (e := ((e 20) : bodyAt c.K 363 ns_Store_put_term 3 = some b_Store_put_term)) (by decide) fun vs st Q h => f_put0 rfl (.at_ (k := 22) (j := 20) (Nat.le_of_ble_eq_true rfl) rfl) (.at_ (k := 22) (j := 19) (Nat.le_of_ble_eq_true rfl) rfl) h)
  have G24 := G23.step (C := C_take) rfl (keep_bodyAt (e := ((e 21) : bodyAt c.K 370 ns_Store_take_term 3 = some b_Store_take_term))) (con_bodyAt W hg G23 (e := ((e 21) : bodyAt c.K 370 ns_Store_take_term 3 = some b_Store_take_term)) (by decide) fun vs st Q h => f_take rfl (.at_ (k := 23) (j := 13) (Nat.le_of_ble_eq_true rfl) rfl) (.at_ (k := 23) (j := 10) (Nat.le_of_ble_eq_true rfl) rfl) (.at_ (k := 23) (j := 17) (Nat.le_of_ble_eq_true rfl) rfl) (.at_ (k := 23) (j := 18) (Nat.le_of_ble_eq_true rfl) rfl) (.at_ (k := 23) (j := 19) (Nat.le_of_ble_eq_true rfl) rfl) h)
  have G25 := G24.step (C := C_Store) rfl (keep_clsAt (e := ((e 39) : clsAt c.K 373 ns_Cells_init 3 = some b_Cells_init))) (con_cls1 W hg G24 (e := ((e 39) : clsAt c.K 373 ns_Cells_init 3 = some b_Cells_init)) hd fun vs st Q h => f_Store  h)
  have G26 := G25.step (C := C_add) rfl (keep_bodyAt (e := ((e 22) : bodyAt c.K 396 ns_PairSet_add 3 = some b_PairSet_add))) (con_bodyAt W hg G25 (e := ((e 22) : bodyAt c.K 396 ns_PairSet_add 3 = some b_PairSet_add)) (by decide) fun vs st Q h => f_add  h)
  have G27 := G26.step (C := C_PairSet) rfl (keep_clsAt (e := ((e 40) : clsAt c.K 399 ns_PairSet_init 2 = some b_PairSet_init))) (con_clsAt W hg G26 (k := 1) (e := ((e 40) : clsAt c.K 399 ns_PairSet_init 2 = some b_PairSet_init)) (by decide) fun vs st Q h => f_PairSet  h)
  have G28 := G27.step (C := C_push_arguments) rfl (keep_bodyAt (e := ((e 23) : bodyAt c.K 410 ns_push_arguments 3 = some b_push_arguments))) (con_bodyAt W hg G27 (e := ((e 23) : bodyAt c.K 410 ns_push_arguments 3 = some b_push_arguments)) (by decide) fun vs st Q h => f_push_arguments rfl (.at_ (k := 27) (j := 19) (Nat.le_of_ble_eq_true rfl) rfl) (.at_ (k := 27) (j := 18) (Nat.le_of_ble_eq_true rfl) rfl) h)
  have G29 := G28.step (C := C_push_pairs) rfl (keep_bodyAt (e := ((e 24) : bodyAt c.K 417 ns_push_pairs 4 = some b_push_pairs))) (con_bodyAt W hg G28 (e := ((e 24) : bodyAt c.K 417 ns_push_pairs 4 = some b_push_pairs)) (by decide) fun vs st Q h => f_push_pairs rfl (.at_ (k := 28) (j := 19) (Nat.le_of_ble_eq_true rfl) rfl) (.at_ (k := 28) (j := 18) (Nat.le_of_ble_eq_true rfl) rfl) h)
  have G30 := G29.step (C := C_same_shape) rfl (keep_bodyAt (e := ((e 25) : bodyAt c.K 424 ns_same_shape 3 = some b_same_shape))) (con_bodyAt W hg G29 (e := ((e 25) : bodyAt c.K 424 ns_same_shape 3 = some b_same_shape)) (by decide) fun vs st Q h => f_same_shape  h)
  have G31 := G30.step (C := C_is_variable) rfl (keep_bodyAt (e := ((e 26) : bodyAt c.K 431 ns_is_variable 1 = some b_is_variable))) (con_bodyAt W hg G30 (e := ((e 26) : bodyAt c.K 431 ns_is_variable 1 = some b_is_variable)) (by decide) fun vs st Q h => f_is_variable  h)
  have G32 := G31.step (C := C_occurs_in) rfl (keep_bodyAt (e := ((e 30) : bodyAt c.K 459 ns_occurs_in 3 = some b_occurs_in))) (con_bodyAt W hg G31 (e := ((e 30) : bodyAt c.K 459 ns_occurs_in 3 = some b_occurs_in)) (by decide) fun vs st Q h => f_occurs_in rfl (.at_ (k := 31) (j := 10) (Nat.le_of_ble_eq_true rfl) rfl) (.at_ (k := 31) (j := 16) (Nat.le_of_ble_eq_true rfl) rfl) (.at_ (k := 31) (j := 27) (Nat.le_of_ble_eq_true rfl) rfl) h)
  have G33 := G32.step (C := C_bind_checked) rfl (keep_bodyAt (e := ((e 28) : bodyAt c.K 445 ns_bind_checked 4 = some b_bind_checked))) (con_bodyAt W hg G32 (e := ((e 28) : bodyAt c.K 445 ns_bind_checked 4 = some b_bind_checked)) (by decide) fun vs st Q h => f_bind_checked rfl (.at_ (k := 32) (j := 31) (Nat.le_of_ble_eq_true rfl) rfl) (.at_ (k := 32) (j := 11) (Nat.le_of_ble_eq_true rfl) rfl) h)
  have G34 := G33.step (C := C_unify) rfl (keep_bodyAt (e := ((e 27) : bodyAt c.K 438 ns_unify 4 = some b_unify))) (con_bodyAt W hg G33 (e := ((e 27) : bodyAt c.K 438 ns_unify 4 = some b_unify)) (by decide) fun vs st Q h => f_unify rfl (.at_ (k := 33) (j := 26) (Nat.le_of_ble_eq_true rfl) rfl) (.at_ (k := 33) (j := 10) (Nat.le_of_ble_eq_true rfl) rfl) (.at_ (k := 33) (j := 30) (Nat.le_of_ble_eq_true rfl) rfl) (.at_ (k := 33) (j := 12) (Nat.le_of_ble_eq_true rfl) rfl) (.at_ (k := 33) (j := 32) (Nat.le_of_ble_eq_true rfl) rfl) (.at_ (k := 33) (j := 16) (Nat.le_of_ble_eq_true rfl) rfl) (.at_ (k := 33) (j := 29) (Nat.le_of_ble_eq_true rfl) rfl) (.at_ (k := 33) (j := 25) (Nat.le_of_ble_eq_true rfl) rfl) (.at_ (k := 33) (j := 28) (Nat.le_of_ble_eq_true rfl) rfl) h)
  have G35 := G34.step (C := C_trial) rfl (keep_bodyAt (e := ((e 29) : bodyAt c.K 452 ns_trial 4 = some b_trial))) (con_bodyAt W hg G34 (e := ((e 29) : bodyAt c.K 452 ns_trial 4 = some b_trial)) (by decide) fun vs st Q h => f_trial rfl (.at_ (k := 34) (j := 14) (Nat.le_of_ble_eq_true rfl) rfl) (.at_ (k := 34) (j := 33) (Nat.le_of_ble_eq_true rfl) rfl) (.at_ (k := 34) (j := 15) (Nat.le_of_ble_eq_true rfl) rfl) h)
  have G36 := G35.step (C := C_ltake) rfl (keep_bodyAt (e := ((e 31) : bodyAt c.K 466 ns__law_take 2 = some b__law_take))) (con_bodyAt W hg G35 (e := ((e 31) : bodyAt c.K 466 ns__law_take 2 = some b__law_take)) (by decide) fun vs st Q h => f_ltake  h)
  have G37 := G36.step (C := (C_side 0)) rfl (keep_bodyAt (e := ((e 32) : bodyAt c.K 473 ns__law_side 3 = some b__law_side))) (con_bodyAt W hg G36 (e := ((e 32) : bodyAt c.K 473 ns__law_side 3 = some b__law_side)) (by decide) fun vs st Q h => f_side rfl (.at_ (k := 36) (j := 35) (Nat.le_of_ble_eq_true rfl) rfl) (.at_ (k := 36) (j := 2) (Nat.le_of_ble_eq_true rfl) rfl) (.at_ (k := 36) (j := 4) (Nat.le_of_ble_eq_true rfl) rfl) 0 (fun j e => by cases e) h)
  have G38 := G37.step (C := (C_side 1)) rfl (keep_bodyAt (e := ((e 32) : bodyAt c.K 473 ns__law_side 3 = some b__law_side))) (con_bodyAt W hg G37 (e := ((e 32) : bodyAt c.K 473 ns__law_side 3 = some b__law_side)) (by decide) fun vs st Q h => f_side rfl (.at_ (k := 37) (j := 35) (Nat.le_of_ble_eq_true rfl) rfl) (.at_ (k := 37) (j := 2) (Nat.le_of_ble_eq_true rfl) rfl) (.at_ (k := 37) (j := 4) (Nat.le_of_ble_eq_true rfl) rfl) 1 (fun j e => by cases e; exact (.at_ (k := 37) (j := 36) (Nat.le_of_ble_eq_true rfl) rfl)) h)
  have G39 := G38.step (C := (C_side 2)) rfl (keep_bodyAt (e := ((e 32) : bodyAt c.K 473 ns__law_side 3 = some b__law_side))) (con_bodyAt W hg G38 (e := ((e 32) : bodyAt c.K 473 ns__law_side 3 = some b__law_side)) (by decide) fun vs st Q h => f_side rfl (.at_ (k := 38) (j := 35) (Nat.le_of_ble_eq_true rfl) rfl) (.at_ (k := 38) (j := 2) (Nat.le_of_ble_eq_true rfl) rfl) (.at_ (k := 38) (j := 4) (Nat.le_of_ble_eq_true rfl) rfl) 2 (fun j e => by cases e; exact (.at_ (k := 38) (j := 37) (Nat.le_of_ble_eq_true rfl) rfl)) h)
  have G40 := G39.step (C := C_every) rfl (keep_bodyAt (e := ((e 33) : bodyAt c.K 478 ns__law_every 0 = some b__law_every))) (con_bodyAt W hg G39 (e := ((e 33) : bodyAt c.K 478 ns__law_every 0 = some b__law_every)) (by decide) fun vs st Q h => f_every  h)
  have G41 := G40.step (C := C_lstore) rfl (keep_bodyAt (e := ((e 34) : bodyAt c.K 485 ns__law_store 1 = some b__law_store))) (con_bodyAt W hg G40 (e := ((e 34) : bodyAt c.K 485 ns__law_store 1 = some b__law_store)) (by decide) fun vs st Q h => f_lstore rfl (.at_ (k := 40) (j := 24) (Nat.le_of_ble_eq_true rfl) rfl) (.at_ (k := 40) (j := 4) (Nat.le_of_ble_eq_true rfl) rfl) (.at_ (k := 40) (j := 39) (Nat.le_of_ble_eq_true rfl) rfl) (.at_ (k := 40) (j := 22) (Nat.le_of_ble_eq_true rfl) rfl) h)
  have G42 := G41.step (C := C_lsolved) rfl (keep_bodyAt (e := ((e 35) : bodyAt c.K 492 ns__law_solved 2 = some b__law_solved))) (con_bodyAt W hg G41 (e := ((e 35) : bodyAt c.K 492 ns__law_solved 2 = some b__law_solved)) (by decide) fun vs st Q h => f_lsolved rfl (.at_ (k := 41) (j := 40) (Nat.le_of_ble_eq_true rfl) rfl) (.at_ (k := 41) (j := 21) (Nat.le_of_ble_eq_true rfl) rfl) (.at_ (k := 41) (j := 33) (Nat.le_of_ble_eq_true rfl) rfl) (.at_ (k := 41) (j := 23) (Nat.le_of_ble_eq_true rfl) rfl) h)
  have G43 := G42.step (C := C_sides) rfl (keep_bodyAt (e := ((e 36) : bodyAt c.K 499 ns__law_sides_one 2 = some b__law_sides_one))) (con_bodyAt W hg G42 (e := ((e 36) : bodyAt c.K 499 ns__law_sides_one 2 = some b__law_sides_one)) (by decide) fun vs st Q h => f_sides rfl (.at_ (k := 42) (j := 40) (Nat.le_of_ble_eq_true rfl) rfl) (.at_ (k := 42) (j := 21) (Nat.le_of_ble_eq_true rfl) rfl) (.at_ (k := 42) (j := 33) (Nat.le_of_ble_eq_true rfl) rfl) (.at_ (k := 42) (j := 23) (Nat.le_of_ble_eq_true rfl) rfl) (.at_ (k := 42) (j := 14) (Nat.le_of_ble_eq_true rfl) rfl) h)
  have G44 := G43.step (C := C_trials) rfl (keep_bodyAt (e := ((e 37) : bodyAt c.K 504 ns__law_trials_right 3 = some b__law_trials_right))) (con_bodyAt W hg G43 (e := ((e 37) : bodyAt c.K 504 ns__law_trials_right 3 = some b__law_trials_right)) (by decide) fun vs st Q h => f_trials rfl (.at_ (k := 43) (j := 40) (Nat.le_of_ble_eq_true rfl) rfl) (.at_ (k := 43) (j := 4) (Nat.le_of_ble_eq_true rfl) rfl) (.at_ (k := 43) (j := 21) (Nat.le_of_ble_eq_true rfl) rfl) (.at_ (k := 43) (j := 34) (Nat.le_of_ble_eq_true rfl) rfl) (.at_ (k := 43) (j := 33) (Nat.le_of_ble_eq_true rfl) rfl) h)
  refine con_bodyAt W hg G44 (e := (e 41 : bodyAt c.K 509 ns_law 1 = some b_law)) (by decide) fun vs st Q h => ?_
  obtain ⟨rfl, q⟩ := h
  refine ⟨rfl, ?_⟩
  refine f_law rfl (.at_ (k := 44) (j := 6) (Nat.le_of_ble_eq_true rfl) rfl) (.at_ (k := 44) (j := 35) (Nat.le_of_ble_eq_true rfl) rfl) (.at_ (k := 44) (j := 38) (Nat.le_of_ble_eq_true rfl) rfl) (.at_ (k := 44) (j := 41) (Nat.le_of_ble_eq_true rfl) rfl) (.at_ (k := 44) (j := 42) (Nat.le_of_ble_eq_true rfl) rfl) (.at_ (k := 44) (j := 43) (Nat.le_of_ble_eq_true rfl) rfl) (xs := xs) ?_ hlen q
  show (if a = a then some (xs.map MV.int) else none) = some (xs.map MV.int)
  exact if_pos rfl
end Mine.Lake

set_option maxRecDepth 100000
namespace Mine.Lake

theorem ints_all : ∀ {vs : List Value} {xs : List Int}, IntsAre vs xs → ∀ (μ : Mu) (h : Heap), All2 (VR μ h) (xs.map .int) vs
  | _, _, .nil, _, _ => .nil
  | _, _, .cons n t r, μ, h => .cons ⟨t, rfl⟩ (ints_all r μ h)

theorem law_true {w : World} {s₀ s₁ : Shared} {mg : Str → Option Value} {a p : Addr} {vs : List Value} {xs : List Int} {Q E : Value → Shared → Prop} (keeps : ∀ b o, s₀.heap.get? b = some o → s₁.heap.get? b = some o) (hlim : s₁.heap.NoLimit) (hN : s₁.heap.Ns mainGlobals mg) (y : obs s₀ = (expL, true)) (hmg : mg (Str.ofString "law") = some (.ref a))
    (hL : s₁.heap.IsList p vs.toArray) (hI : IntsAre vs xs) (hlen : xs.length ≤ 63) (q : ∀ s', (∀ b o, s₁.heap.get? b = some o → s'.heap.get? b = some o) → s'.os = s₁.os → s'.gens = s₁.gens → Q (.bool true) s') :
    wpAny (model pw w) callerA (call (.ref a) [.ref p]) Q E s₁ := by
  have y1 : obsL (Kof addrs s₀.heap) 509 = expL := congrArg Prod.fst y
  have y2 : (mtOK (Kof addrs s₀.heap) && (glOKb (s₀.heap.nsMap mainGlobals) (s₀.heap.nsMap builtinsNs) && (dfl1 (Kof addrs s₀.heap) 373 100000 && ((s₀.heap.get? sysModules).isSome && (s₀.heap.isNs mainGlobals && (s₀.heap.isNs builtinsNs && (s₀.heap.nsMap mainGlobals "law" == some (.ref 509)))))))) = true := congrArg Prod.snd y
  simp only [Bool.and_eq_true, beq_iff_eq] at y2
  obtain ⟨z1, z2, z3, z4, z5, z6, z7⟩ := y2
  have n1 : s₁.heap.Ns mainGlobals (s₀.heap.nsMap mainGlobals) := (Heap.Ns.of_isNs z5).keeps keeps
  have n2 : s₁.heap.Ns builtinsNs (s₀.heap.nsMap builtinsNs) := (Heap.Ns.of_isNs z6).keeps keeps
  have ea : a = 509 := by
    have := hN.agree n1 (Str.ofString "law")
    rw [hmg] at this
    have this : some (Value.ref a) = some (.ref 509) := this.trans z7
    cases this; rfl
  subst ea
  let c : Cx := ⟨pw, w, Kof addrs s₀.heap, s₁.heap, s₁.os, s₁.gens⟩
  have W : Ground c (s₀.heap.nsMap mainGlobals) (s₀.heap.nsMap builtinsNs) := ⟨fun b o e => keeps b o (Kof_in b o e), by
    obtain ⟨o, ho⟩ := Option.isSome_iff_exists.mp z4
    exact ⟨o, keeps _ _ ho⟩, n1, n2, hlim⟩
  have H := chain W (glOK_of z2) y1 z1 z3 (a := .ref p) rfl hL hlen (fun μ h => ints_all hI μ h)
  have R : Rel c [] [] s₁ := ⟨⟨fun _ _ e => e, rfl, fun a m => by obtain ⟨i, p, hp, _⟩ := m; simp at hp, fun i j p q a h => by simp at h, fun i a d h => by simp at h, fun i p o h => by simp at h⟩, rfl, rfl⟩
  refine H [.val (.ref p)] [] (fun v _ => v = .bool true) ⟨rfl, fun _ => rfl⟩ callerA E [] s₁ [.ref p] Q ?_ R (.cons rfl .nil) ?_
  · exact ⟨rfl, by decide +kernel, by decide +kernel⟩
  · rintro v st' rfl μ' cv s' R' G' hv
    have e : cv = .bool true := hv
    subst e
    exact q s' (fun b o e => R'.sr.keep b o e) R'.os R'.gens

theorem row : PySem.Challenge.rw_ok0023_01.Holds := by
  refine holds_law said fun sd => holds_openX (q := q) (loose := loose) (Xt := fun _ => true) (XP := fun _ _ => True) (Yf := obs) (Ya := fun _ => (expL, true)) (N := 7000) left (fun _ _ => trivial) (fun _ _ _ h _ => h) (by rfl) (by rfl) (by rfl) (fun s _ => recFacts_nil rfl) rfl sd (by decide +kernel) ⟨rfl, rfl, rfl, rfl, rfl, by decide +kernel⟩ ?hw ?hc
  case hw => w_witness2
  case hc =>
    intro w s₀ s₁ mg mb G y a o pm cd doc dV kV ho hd hcd hD hmg hgens args vals as L hpre hlay hrd hwl hlo
    clear hd hcd hD
    replace hmg : mg (Str.ofString "law") = some (.ref a) := hmg
    wrow_args hpre hlay hrd hwl hlo
    rename_i xs _ _ _ _ _ _ _ p vs _ hL _ _ _ hI _ hlen _
    refine law_true L.keeps G.T.nolimit G.T.g y hmg hL hI (by omega) fun s' keep hos hg => ?_
    exact ⟨.inl ⟨.bool true, .bool true, [], rfl, fun _ => rfl, .bool true, by kernel_rfl, fun _ => ⟨.nil, fun a h => by cases h⟩⟩, .of_keep keep, hos, .of_eq (hg.trans hgens)⟩
end Mine.Lake

theorem PySem.Challenge.cw_ok0023_01_holds : PySem.Challenge.rw_ok0023_01.Holds :=
  Mine.Lake.row
