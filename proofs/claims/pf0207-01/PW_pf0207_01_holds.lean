import PyProof.Rows.All
import Wide.All
import OpenK.AllK
import Wide.FinOn
import PyProof.P3In
import PyProof.StrBlockI
import PyProof.P3Eq
import PyProof.Rows.KernelRfl
import Lean
import PySem.Challenge.RW_pf0207_01
set_option Elab.async false
set_option maxRecDepth 100000
section
namespace Mine
set_option tactic.hygienic false
open PySem

/-! ## The abstract interpreter -/

/-- data: frozen values -/
inductive D where
  | none
  | bool (b : Bool)
  | int (i : Int)
  | str (s : Str)
  | tup (ds : List D)
  | lst (ds : List D)
  | set (ks : List Int)
  | code (r n t y l : D)
  deriving Inhabited

/-- a value: data, or an entry of the hot store -/
inductive VV where
  | d (x : D)
  | h (n : Nat)
  deriving Inhabited

/-- an object of the hot store: a list, a dict of bothI (all True), the world, or one that is frozen -/
inductive HO where
  | hl (ds : List D)
  | hs (ks : List Int)
  | hw (l t : Nat) (tape : List D)
  | fz (x : D)
  deriving Inhabited

noncomputable abbrev Rho := List (Str × VV)
noncomputable abbrev Eta := List HO
noncomputable abbrev Sc := List (Str × NameKind)

inductive Fl where
  | next
  | ret (v : VV)

/-- trees of decisions: so that what comes behind a decision is pushed into its ways by computation -/
inductive B (α : Type) : Type 1 where
  | pure (a : α)
  | fail
  | br (b : Bool) (x y : B α)
  | opt {γ : Type} (o : Option γ) (k : γ → B α)

namespace B
noncomputable def bind {α β : Type} : B α → (α → B β) → B β
  | .pure a, f => f a
  | .fail, _ => .fail
  | .br b x y, f => .br b (x.bind f) (y.bind f)
  | .opt o k, f => .opt o fun r => (k r).bind f
noncomputable def run {α : Type} : B α → Option α
  | .pure a => some a
  | .fail => none
  | .br b x y => match b with
    | true => x.run
    | false => y.run
  | .opt o k => match o with
    | none => none
    | some r => (k r).run
noncomputable def lift {α : Type} (o : Option α) : B α := .opt o .pure
theorem run_bind {α β : Type} (m : B α) (f : α → B β) : (m.bind f).run = m.run.bind fun a => (f a).run := by
  induction m with
  | pure a => rfl
  | fail => rfl
  | br b x y hx hy => cases b <;> simp [bind, run, hx, hy]
  | opt o k h => cases o <;> simp [bind, run, h]
theorem run_pure {α : Type} (a : α) : (B.pure a).run = some a := rfl
theorem run_fail {α : Type} : (B.fail : B α).run = none := rfl
theorem run_br {α : Type} (b : Bool) (x y : B α) : (B.br b x y).run = if b then x.run else y.run := by cases b <;> rfl
theorem run_opt {α γ : Type} (o : Option γ) (k : γ → B α) : (B.opt o k).run = o.bind fun r => (k r).run := by cases o <;> rfl
theorem run_lift {α : Type} (o : Option α) : (lift o).run = o := by cases o <;> rfl
end B
theorem bind_elim {α β : Type} {m : B α} {f : α → B β} {r : β} {P : Prop} (q : (m.bind f).run = some r) (h : ∀ a, m.run = some a → (f a).run = some r → P) : P := by
  rw [B.run_bind] at q
  obtain ⟨a, h1, h2⟩ := Option.bind_eq_some_iff.mp q
  exact h a h1 h2
theorem bind_elim2 {α β γ : Type} {m : B (α × γ)} {f : α × γ → B β} {r : β} {P : Prop} (q : (m.bind f).run = some r) (h : ∀ a c, m.run = some (a, c) → (f (a, c)).run = some r → P) : P :=
  bind_elim q fun a h1 h2 => h a.1 a.2 h1 h2
theorem bind_elim3 {α β γ δ : Type} {m : B (α × γ × δ)} {f : α × γ × δ → B β} {r : β} {P : Prop} (q : (m.bind f).run = some r) (h : ∀ a c d, m.run = some (a, c, d) → (f (a, c, d)).run = some r → P) : P :=
  bind_elim q fun a h1 h2 => h a.1 a.2.1 a.2.2 h1 h2
theorem lift_elim {α β : Type} {o : Option α} {f : α → B β} {r : β} {P : Prop} (q : ((B.lift o).bind f).run = some r) (h : ∀ a, o = some a → (f a).run = some r → P) : P :=
  bind_elim q fun a h1 h2 => h a (by rw [B.run_lift] at h1; exact h1) h2

theorem nn {α : Type} {a : α} {P : Prop} (h : (none : Option α) = some a) : P := by cases h
theorem ft {P : Prop} (h : false = true) : P := by cases h
theorem p1 {α : Type} {a b : α} (h : (B.pure a).run = some b) : a = b := Option.some.inj h
theorem p2 {α β : Type} {a c : α} {b d : β} (h : (B.pure (a, b)).run = some (c, d)) : a = c ∧ b = d := Prod.mk.inj (Option.some.inj h)
theorem p3 {α β γ : Type} {a d : α} {b e : β} {c f : γ} (h : (B.pure (a, b, c)).run = some (d, e, f)) : a = d ∧ b = e ∧ c = f := ⟨(Prod.mk.inj (Option.some.inj h)).1, Prod.mk.inj (Prod.mk.inj (Option.some.inj h)).2⟩

structure Interp where
  ev : Sc → Rho → Eta → Expr → B (VV × Eta)
  tr : Sc → Rho → Eta → Expr → B (Bool × Eta)
  ex : Sc → Rho → Eta → Stmt → B (Fl × Rho × Eta)
  exs : Sc → Rho → Eta → List Stmt → B (Fl × Rho × Eta)
  cp : Str → List D → Option D
  ch : Str → List VV → Eta → Option (D × Eta)

mutual
noncomputable def toPy : D → PyData
  | .none => .none
  | .bool b => .bool b
  | .int i => .int i
  | .str s => .str s
  | .tup ds => .tuple (toPys ds)
  | .lst ds => .list (toPys ds)
  | .set _ => .dict []
  | .code .. => .dict []
noncomputable def toPys : List D → List PyData
  | [] => []
  | d :: ds => toPy d :: toPys ds
end

noncomputable def okPy (p : PyData) : Bool := p.canLay0 && decide (p.depth ≤ 60)

noncomputable def pyEq (x y : D) : Option Bool :=
  match okPy (toPy x), okPy (toPy y) with
  | true, true => some (PyData.eqv (toPy x) (toPy y))
  | _, _ => none

noncomputable def inList (x : D) (ds : List D) : Option Bool :=
  match okPy (toPy x), okPy (.list (toPys ds)) with
  | true, true => some ((toPys ds).any fun y => PyData.eqv y (toPy x))
  | _, _ => none

/-- freeze -/
noncomputable def frz (v : VV) (η : Eta) : Option (D × Eta) :=
  match v with
  | .d x => some (x, η)
  | .h n => match η[n]? with
    | some (.hl ds) => some (.lst ds, η.set n (.fz (.lst ds)))
    | some (.hs ks) => some (.set ks, η.set n (.fz (.set ks)))
    | some (.fz x) => some (x, η)
    | _ => none

noncomputable def lookVV (ρ : Rho) (x : Str) : Option VV := ρ.lookup x

noncomputable def rset (ρ : Rho) (x : Str) (v : VV) : Rho :=
  match ρ with
  | [] => [(x, v)]
  | (y, w) :: r => if y = x then (y, v) :: r else (y, w) :: rset r x v

noncomputable def truD : D → Option Bool
  | .bool b => some b
  | _ => none

noncomputable def constD : Const → Option D
  | .none => some .none
  | .bool b => some (.bool b)
  | .int i => some (.int i)
  | .str s => some (.str s)
  | _ => none

/-! items -/
noncomputable def evD (I : Interp) (sc : Sc) (ρ : Rho) (η : Eta) (e : Expr) : B (D × Eta) :=
  (I.ev sc ρ η e).bind fun r => B.lift (frz r.1 r.2)

noncomputable def evDs (I : Interp) (sc : Sc) (ρ : Rho) (η : Eta) : List Expr → B (List D × Eta)
  | [] => .pure ([], η)
  | e :: es => (evD I sc ρ η e).bind fun r => (evDs I sc ρ r.2 es).bind fun q => .pure (r.1 :: q.1, q.2)

noncomputable def evVs (I : Interp) (sc : Sc) (ρ : Rho) (η : Eta) : List Expr → B (List VV × Eta)
  | [] => .pure ([], η)
  | e :: es => (I.ev sc ρ η e).bind fun r => (evVs I sc ρ r.2 es).bind fun q => .pure (r.1 :: q.1, q.2)

noncomputable def mulD (i j : Int) : Option D := if i.natAbs ≤ 1000 ∧ j.natAbs ≤ 1000 then some (.int (i * j)) else none
noncomputable def modD (i j : Int) : Option D := if 0 < j then some (.int (i % j)) else none
noncomputable def powD (i j : Int) : Option D := if i = 3 ∧ 0 ≤ j ∧ j ≤ 200 then some (.int (3 ^ j.toNat)) else none
noncomputable def catD (xs ys : List D) : Option D := match xs, ys with
  | x :: xs, y :: ys => if xs.length ≤ 1000 ∧ ys.length ≤ 1000 then some (.tup ((x :: xs) ++ (y :: ys))) else none
  | _, _ => none

noncomputable def bothI (a b : D) : Option (Int × Int) := match a with
  | .int i => match b with
    | .int j => some (i, j)
    | _ => none
  | _ => none
noncomputable def addD (a b : D) : Option D := match a with
  | .int i => match b with
    | .int j => some (.int (i + j))
    | _ => none
  | .tup xs => match b with
    | .tup ys => catD xs ys
    | _ => none
  | _ => none
noncomputable def binop (op : Operator) (a b : D) : Option D :=
  match op with
  | .Add => addD a b
  | .Sub => (bothI a b).bind fun p => some (.int (p.1 - p.2))
  | .Mult => (bothI a b).bind fun p => mulD p.1 p.2
  | .Mod => (bothI a b).bind fun p => modD p.1 p.2
  | .Pow => (bothI a b).bind fun p => powD p.1 p.2
  | _ => none

noncomputable def negIf (neg b : Bool) : Bool := match neg with
  | true => !b
  | false => b

noncomputable def inWhat (r : VV) (η : Eta) (x : D) : Option Bool :=
  match r with
  | .d (.tup ds) => inList x ds
  | .d (.lst ds) => inList x ds
  | .d (.set ks) => match x with
    | .int i => some (ks.contains i)
    | _ => none
  | .h n => match η[n]? with
    | some (.hl ds) => inList x ds
    | some (.hs ks) => match x with
      | .int i => some (ks.contains i)
      | _ => none
    | _ => none
  | _ => none

noncomputable def isWhat (x y : D) : Option Bool :=
  match y with
  | .none => match x with
    | .none => some true
    | _ => some false
  | .bool false => match x with
    | .bool false => some true
    | _ => some false
  | _ => none

noncomputable def ltD (x y : D) : Option Bool := match x, y with
  | .int i, .int j => some (decide (i < j))
  | _, _ => none
noncomputable def leD (x y : D) : Option Bool := match x, y with
  | .int i, .int j => some (decide (i ≤ j))
  | _, _ => none

/-- comparisons -/
noncomputable def cmpD (op : CmpOp) (x y : D) : Option Bool :=
  match op with
  | .Eq => pyEq x y
  | .NotEq => (pyEq x y).map fun b => !b
  | .Lt => ltD x y
  | .LtE => leD x y
  | .Gt => ltD y x
  | .GtE => leD y x
  | .Is => isWhat x y
  | .IsNot => (isWhat x y).map fun b => !b
  | _ => none

noncomputable def cmp1 (op : CmpOp) (l r : VV) (η : Eta) : B (Bool × Eta) :=
  match op with
  | .In => (B.lift (frz l η)).bind fun q => (B.lift (inWhat r q.2 q.1)).bind fun b => .pure (b, q.2)
  | .NotIn => (B.lift (frz l η)).bind fun q => (B.lift (inWhat r q.2 q.1)).bind fun b => .pure (!b, q.2)
  | op => (B.lift (frz l η)).bind fun q => (B.lift (frz r q.2)).bind fun p => (B.lift (cmpD op q.1 p.1)).bind fun b => .pure (b, p.2)

noncomputable def isSetE : Expr → Bool
  | .Set .. => true
  | _ => false

noncomputable def cmpChain (I : Interp) (sc : Sc) (ρ : Rho) (l : VV) (η : Eta) (ops : List CmpOp) (es : List Expr) : B (Bool × Eta) :=
  match ops, es with
  | [op], [e] => match isSetE e with
    | false => (I.ev sc ρ η e).bind fun r => cmp1 op l r.1 r.2
    | true => .fail
  | [op, op'], [e, e'] => match isSetE e' with
    | false => (I.ev sc ρ η e).bind fun r => (cmp1 op l r.1 r.2).bind fun b =>
      .br b.1 ((I.ev sc ρ b.2 e').bind fun r' => cmp1 op' r.1 r'.1 r'.2) (.pure (false, b.2))
    | true => .fail
  | _, _ => .fail

/-- built-ins -/
inductive Bi where | len | tuple | list | min | sum | repr | code
  deriving DecidableEq

noncomputable def biOf (x : Str) : Option Bi :=
  if x = "len" then some .len else if x = "tuple" then some .tuple else if x = "list" then some .list else if x = "min" then some .min
  else if x = "sum" then some .sum else if x = "repr" then some .repr else if x = "Code" then some .code else none

noncomputable def sumI : List D → Option Int
  | [] => some 0
  | .int 0 :: r => sumI r
  | .int 1 :: r => (sumI r).map fun s => 1 + s
  | _ :: _ => none

noncomputable def reprD : D → Option Str
  | .none => some "None"
  | .bool true => some "True"
  | .bool false => some "False"
  | .int i => if i = 0 then some "0" else if i = 7 then some "7" else none
  | .str s => if s = "x" then some "'x'" else if s = "t" then some "'t'" else if s = "" then some "''" else none
  | _ => none

noncomputable def lenOf (v : VV) (η : Eta) : Option Nat :=
  match v with
  | .d (.lst ds) => some ds.length
  | .d (.tup ds) => some ds.length
  | .h n => match η[n]? with
    | some (.hl ds) => some ds.length
    | _ => none
  | _ => none

noncomputable def frzs (η : Eta) : List VV → Option (List D × Eta)
  | [] => some ([], η)
  | v :: vs => (frz v η).bind fun r => (frzs r.2 vs).bind fun q => some (r.1 :: q.1, q.2)

noncomputable def short (ds : List D) (x : D) : Option D := if ds.length ≤ 1000 then some x else none

noncomputable def oneL (ds : List D) : Option (List D) := match ds with
  | [d] => match d with
    | .lst l => some l
    | _ => none
  | _ => none
noncomputable def twoI (ds : List D) : Option (Int × Int) := match ds with
  | [a, b] => match a with
    | .int i => match b with
      | .int j => some (i, j)
      | _ => none
    | _ => none
  | _ => none
noncomputable def oneD (ds : List D) : Option D := match ds with
  | [d] => some d
  | _ => none
noncomputable def biD (b : Bi) (ds : List D) : Option D :=
  match b with
  | .len => none
  | .tuple => (oneL ds).bind fun l => short l (.tup l)
  | .list => (oneL ds).bind fun l => short l (.lst l)
  | .min => (twoI ds).bind fun p => some (.int (if p.2 < p.1 then p.2 else p.1))
  | .sum => (oneL ds).bind fun l => (sumI l).map fun s => .int s
  | .repr => (oneD ds).bind fun d => (reprD d).map fun s => .str s
  | .code => match ds with
    | [r, n, t, y, l] => some (.code r n t y l)
    | _ => none

noncomputable def biCall (b : Bi) (vs : List VV) (η : Eta) : B (D × Eta) :=
  match b with
  | .len => match vs with
    | [v] => (B.lift (lenOf v η)).bind fun n => .pure (.int n, η)
    | _ => .fail
  | b => (B.lift (frzs η vs)).bind fun q => (B.lift (biD b q.1)).bind fun d => .pure (d, q.2)

noncomputable def attrOf (x : D) (a : Str) : Option D :=
  match x with
  | .code r n t y l => if a = "rows" then some r else if a = "names" then some n else if a = "temps" then some t else if a = "trys" then some y else if a = "lives" then some l else none
  | _ => none

noncomputable def nth (ds : List D) (i : Int) : Option D :=
  match i with
  | .ofNat k => ds[k]?
  | .negSucc _ => none

/-- an item -/
noncomputable def itemOf (o : VV) (i : D) (η : Eta) : Option VV :=
  match o, i with
  | .d (.tup ds), .int k => (nth ds k).map .d
  | .d (.lst ds), .int k => (nth ds k).map .d
  | .h n, .int k => match η[n]? with
    | some (.hl ds) => (nth ds k).map .d
    | _ => none
  | .h n, .str s => match η[n]? with
    | some (.hw l t tape) => if s = "log" then some (.h l) else if s = "temps" then some (.h t) else if s = "tape" then some (.d (.lst tape)) else none
    | _ => none
  | _, _ => none

noncomputable def natOf (i : D) : Option Nat := match i with
  | .int k => match k with
    | .ofNat k => some k
    | _ => none
  | _ => none
noncomputable def isFour (i : D) : Bool := match i with
  | .int k => decide (k = 4)
  | _ => false
noncomputable def cutOf (o : D) (i : D) : Option D :=
  match o with
  | .lst ds => (natOf i).bind fun k => some (.lst (ds.take k))
  | .tup ds => match ds with
    | [a, b, c, d, _] => match isFour i with
      | true => some (.tup [a, b, c, d])
      | false => none
    | _ => none
  | .str s => (natOf i).bind fun k => if s.length ≤ 1000 then some (.str (Txt.slice s none (some (k : Int)))) else none
  | _ => none

noncomputable def revOf (o : D) : Option D :=
  match o with
  | .lst ds => some (.lst ds.reverse)
  | _ => none

noncomputable def isOneE : Expr → Bool
  | .Constant c _ _ => match c with
    | .int i => decide (i = 1)
    | _ => false
  | _ => false
noncomputable def isMinusOne : Expr → Bool
  | .UnaryOp op x _ => match op with
    | .USub => isOneE x
    | _ => false
  | _ => false

noncomputable def noKeywords : List Keyword → Bool
  | [] => true
  | _ => false

noncomputable def pureArgs : List VV → Option (List D)
  | [] => some []
  | .d x :: r => (pureArgs r).map fun ds => x :: ds
  | .h _ :: _ => none

noncomputable def allPure : List VV → Bool
  | [] => true
  | .d _ :: r => allPure r
  | .h _ :: _ => false

noncomputable def isName : Expr → Bool
  | .Name _ _ => true
  | _ => false
noncomputable def isNameOrItem : Expr → Bool
  | .Name _ _ => true
  | .Subscript _ _ _ => true
  | _ => false

noncomputable def evCall (I : Interp) (sc : Sc) (ρ : Rho) (η : Eta) (f : Expr) (args : List Expr) : B (VV × Eta) :=
  match f with
  | .Name x _ =>
    if sc.lookup x = some .globalImplicit then
      (evVs I sc ρ η args).bind fun q => match biOf x with
        | some b => (biCall b q.1 q.2).bind fun r => .pure (.d r.1, r.2)
        | none => .br (allPure q.1) ((B.lift (pureArgs q.1)).bind fun ds => (B.lift (I.cp x ds)).bind fun d => .pure (.d d, q.2))
            ((B.lift (I.ch x q.1 q.2)).bind fun r => .pure (.d r.1, r.2))
    else .fail
  | _ => .fail

noncomputable def evSub (I : Interp) (sc : Sc) (ρ : Rho) (η : Eta) (o s : Expr) : B (VV × Eta) :=
  (I.ev sc ρ η o).bind fun q =>
  match s with
  | .Slice none (some e) none _ => (B.lift (frz q.1 q.2)).bind fun q => (evD I sc ρ q.2 e).bind fun r => (B.lift (cutOf q.1 r.1)).bind fun d => .pure (.d d, r.2)
  | .Slice none none (some e) _ => match isMinusOne e with
    | true => (B.lift (frz q.1 q.2)).bind fun q => (B.lift (revOf q.1)).bind fun d => .pure (.d d, q.2)
    | false => .fail
  | .Slice .. => .fail
  | s => (evD I sc ρ q.2 s).bind fun r => (B.lift (itemOf q.1 r.1 r.2)).bind fun v => .pure (v, r.2)

noncomputable def evBools (I : Interp) (op : BoolOp) (sc : Sc) (ρ : Rho) (η : Eta) : List Expr → B (Bool × Eta)
  | [] => .fail
  | [e] => (evD I sc ρ η e).bind fun r => (B.lift (truD r.1)).bind fun b => .pure (b, r.2)
  | e :: es => (evD I sc ρ η e).bind fun r => (B.lift (truD r.1)).bind fun b => match op with
    | .And => .br b (evBools I op sc ρ r.2 es) (.pure (false, r.2))
    | .Or => .br b (.pure (true, r.2)) (evBools I op sc ρ r.2 es)

noncomputable def rangeD (x : D) : Option (List D) :=
  match x with
  | .int n => if 0 ≤ n ∧ n ≤ 1000 then some ((List.range n.toNat).map fun (k : Nat) => D.int (k : Int)) else none
  | _ => none

noncomputable def itemsD (x : D) : Option (List D) :=
  match x with
  | .lst ds => some ds
  | .tup ds => some ds
  | _ => none

/-- what a loop goes over -/
noncomputable def itr (I : Interp) (sc : Sc) (ρ : Rho) (η : Eta) (e : Expr) : B (List D × Eta) :=
  match e with
  | .Call (.Name x _) [a] [] _ =>
    if x = "range" then
      if sc.lookup x = some .globalImplicit then
        (evD I sc ρ η a).bind fun r => (B.lift (rangeD r.1)).bind fun ds => .pure (ds, r.2)
      else .fail
    else .fail
  | .Call .. => .fail
  | e => (evD I sc ρ η e).bind fun r => (B.lift (itemsD r.1)).bind fun ds => .pure (ds, r.2)

noncomputable def freeOf (names : Sc) (ρ : Rho) : Rho := ρ.filter fun p => names.lookup p.1 == some .free

noncomputable def testAll (I : Interp) (sc : Sc) (ρ : Rho) (η : Eta) : List Expr → B (Bool × Eta)
  | [] => .pure (true, η)
  | e :: es => (I.tr sc ρ η e).bind fun r => .br r.1 (testAll I sc ρ r.2 es) (.pure (false, r.2))

noncomputable def compGo (I : Interp) (sc : Sc) (ρ : Rho) (x : Str) (ifs : List Expr) (elt : Expr) (η : Eta) : List D → B (List D × Eta)
  | [] => .pure ([], η)
  | d :: ds => (testAll I sc ((x, .d d) :: ρ) η ifs).bind fun t =>
      .br t.1 ((evD I sc ((x, .d d) :: ρ) t.2 elt).bind fun r => (compGo I sc ρ x ifs elt r.2 ds).bind fun q => .pure (r.1 :: q.1, q.2))
        (compGo I sc ρ x ifs elt t.2 ds)

/-- a name of a comprehension's scope: a free one is a cell's or a free one's outside -/
noncomputable def nameOk (sc : Sc) (ρ : Rho) (names : Sc) (p : Str × NameKind) : Bool :=
  match p.2 with
  | .local => match names.lookup p.1 with
    | some .local => true
    | _ => false
  | .free => match names.lookup p.1, lookVV ρ p.1, sc.lookup p.1 with
    | some .free, some _, some .cell => true
    | some .free, some _, some .free => true
    | _, _, _ => false
  | .cell => false
  | _ => true

noncomputable def evComp (I : Interp) (sc : Sc) (ρ : Rho) (η : Eta) (elt : Expr) (gens : List Comprehension) (scope : Scope) : B (List D × Eta) :=
  match gens with
  | [⟨.Name x _, it, ifs, 0⟩] =>
    (itr I sc ρ η it).bind fun q =>
      if scope.kind = .function ∧ scope.names.lookup x = some .local ∧ scope.names.lookup (Str.ofString "__debug__") = none ∧ scope.names.lookup (Str.ofString "__classdict__") = none ∧ scope.names.all (nameOk sc ρ scope.names) = true then
        .br (decide (q.1.length ≤ 1000)) (compGo I scope.names (freeOf scope.names ρ) x ifs elt q.2 q.1) .fail
      else .fail
  | _ => .fail

noncomputable def evStep (I : Interp) (sc : Sc) (ρ : Rho) (η : Eta) (e : Expr) : B (VV × Eta) :=
  match e with
  | .Constant c _ _ => (B.lift (constD c)).bind fun d => .pure (.d d, η)
  | .Name x _ => (B.lift (lookVV ρ x)).bind fun v => .pure (v, η)
  | .BoolOp op es _ => (evBools I op sc ρ η es).bind fun r => .pure (.d (.bool r.1), r.2)
  | .BinOp l op r _ => (evD I sc ρ η l).bind fun a => (evD I sc ρ a.2 r).bind fun b => (B.lift (binop op a.1 b.1)).bind fun d => .pure (.d d, b.2)
  | .UnaryOp .Not x _ => (evD I sc ρ η x).bind fun r => (B.lift (truD r.1)).bind fun b => .pure (.d (.bool (!b)), r.2)
  | .IfExp t a b _ => (I.tr sc ρ η t).bind fun r => .br r.1 (I.ev sc ρ r.2 a) (I.ev sc ρ r.2 b)
  | .List es _ => (evDs I sc ρ η es).bind fun q => (B.lift (short q.1 (.lst q.1))).bind fun d => .pure (.d d, q.2)
  | .Tuple es _ _ => (evDs I sc ρ η es).bind fun q => (B.lift (short q.1 (.tup q.1))).bind fun d => .pure (.d d, q.2)
  | .ListComp elt gens scope _ => (evComp I sc ρ η elt gens scope).bind fun q => .pure (.d (.lst q.1), q.2)
  | .Compare l ops es _ => (I.ev sc ρ η l).bind fun q => (cmpChain I sc ρ q.1 q.2 ops es).bind fun r => .pure (.d (.bool r.1), r.2)
  | .Call f args kws _ => match noKeywords kws with
    | true => evCall I sc ρ η f args
    | false => .fail
  | .Attribute o a _ => match isName o with
    | true => (evD I sc ρ η o).bind fun q => (B.lift (attrOf q.1 a)).bind fun d => .pure (.d d, q.2)
    | false => .fail
  | .Subscript o s _ => evSub I sc ρ η o s
  | _ => .fail

noncomputable def trAll (I : Interp) (op : BoolOp) (sc : Sc) (ρ : Rho) (η : Eta) : List Expr → B (Bool × Eta)
  | [] => .pure (op == .And, η)
  | e :: es => (I.tr sc ρ η e).bind fun r => match op with
    | .And => .br r.1 (trAll I op sc ρ r.2 es) (.pure (false, r.2))
    | .Or => .br r.1 (.pure (true, r.2)) (trAll I op sc ρ r.2 es)

noncomputable def trStep (I : Interp) (sc : Sc) (ρ : Rho) (η : Eta) (e : Expr) : B (Bool × Eta) :=
  match e with
  | .UnaryOp .Not x _ => (I.tr sc ρ η x).bind fun r => .pure (!r.1, r.2)
  | .BoolOp op es _ => trAll I op sc ρ η es
  | .Compare l ops es _ => (I.ev sc ρ η l).bind fun q => cmpChain I sc ρ q.1 q.2 ops es
  | .Name x p => (evD I sc ρ η (.Name x p)).bind fun r => (B.lift (truD r.1)).bind fun b => .pure (b, r.2)
  | .Call f args kws p => (evD I sc ρ η (.Call f args kws p)).bind fun r => (B.lift (truD r.1)).bind fun b => .pure (b, r.2)
  | .Subscript o s p => (evD I sc ρ η (.Subscript o s p)).bind fun r => (B.lift (truD r.1)).bind fun b => .pure (b, r.2)
  | _ => .fail

noncomputable def storable (sc : Sc) (x : Str) : Bool := match sc.lookup x with
  | some .local => true
  | some .cell => true
  | _ => false

noncomputable def bindAll (sc : Sc) (ρ : Rho) : List Expr → List D → Option Rho
  | [], [] => some ρ
  | .Name x _ :: es, d :: ds => match storable sc x with
    | true => bindAll sc (rset ρ x (.d d)) es ds
    | false => none
  | _, _ => none

noncomputable def namesOf : List Expr → Option (List Str)
  | [] => some []
  | .Name x _ :: es => (namesOf es).map fun r => x :: r
  | _ => none
noncomputable def distinct : List Str → Bool
  | [] => true
  | x :: r => !r.contains x && distinct r
noncomputable def distinctNames (es : List Expr) : Bool := match namesOf es with
  | some xs => distinct xs
  | none => false

noncomputable def bindT (sc : Sc) (ρ : Rho) (t : Expr) (v : VV) : Option Rho :=
  match t with
  | .Name x _ => match storable sc x with
    | true => some (rset ρ x v)
    | false => none
  | .Tuple es _ _ => match v with
    | .d (.tup ds) => match distinctNames es with
      | true => bindAll sc ρ es ds
      | false => none
    | _ => none
  | _ => none

noncomputable def isStrE (x : Str) : Expr → Bool
  | .Constant c _ _ => match c with
    | .str a => decide (a = x)
    | _ => false
  | _ => false
noncomputable def isKey (x : Str) : Option Expr → Bool
  | some e => isStrE x e
  | none => false
noncomputable def isWorldKeys : List (Option Expr) → Bool
  | [a, b, c] => isKey "log" a && isKey "temps" b && isKey "tape" c
  | _ => false

noncomputable def tapeOf : D → Option (List D)
  | .lst ds => some ds
  | _ => none

noncomputable def elems : Expr → Option (List Expr)
  | .List es _ => some es
  | _ => none
noncomputable def lists3 (vs : List Expr) : Option (List Expr × List Expr × Expr) := match vs with
  | [a, b, c] => match elems a with
    | some ls => match elems b with
      | some ts => some (ls, ts, c)
      | none => none
    | none => none
  | _ => none
noncomputable def evWorld (I : Interp) (sc : Sc) (ρ : Rho) (η : Eta) (e : Expr) (ks : List (Option Expr)) (vs : List Expr) : B (VV × Eta) :=
  match lists3 vs with
  | some (ls, ts, tp) => match isWorldKeys ks with
    | true =>
      (evDs I sc ρ η ls).bind fun a => (evDs I sc ρ a.2 ts).bind fun b => (evD I sc ρ b.2 tp).bind fun c => (B.lift (tapeOf c.1)).bind fun tape =>
        .br (decide (a.1.length ≤ 1000) && decide (b.1.length ≤ 1000)) (.pure (.h (c.2.length + 2), c.2 ++ [.hl a.1, .hl b.1, .hw c.2.length (c.2.length + 1) tape])) .fail
    | false => .fail
  | none => I.ev sc ρ η e
/-- the value of an assignment: a list display, an empty dict, the world, the comprehension of «led» are hot -/
noncomputable def evHot (I : Interp) (sc : Sc) (ρ : Rho) (η : Eta) (t e : Expr) : B (VV × Eta) :=
  match t with
  | .Name x _ => match e with
    | .List es _ => (evDs I sc ρ η es).bind fun q => .br (decide (q.1.length ≤ 1000)) (.pure (.h q.2.length, q.2 ++ [.hl q.1])) .fail
    | .Dict ks vs p => match vs with
      | [] => match ks with
        | [] => .pure (.h η.length, η ++ [.hs []])
        | _ => I.ev sc ρ η e
      | v :: vs => evWorld I sc ρ η e ks (v :: vs)
    | .ListComp elt gens scope _ => (evComp I sc ρ η elt gens scope).bind fun q =>
      if x = "led" then .pure (.h q.2.length, q.2 ++ [.hl q.1]) else .pure (.d (.lst q.1), q.2)
    | e => I.ev sc ρ η e
  | _ => I.ev sc ρ η e

/-- two displays, item by item: in which order the stores are done is known -/
noncomputable def tupGuard (t e : Expr) : Bool :=
  match t with
  | .Tuple .. => match e with
    | .Tuple vs _ _ => vs.all (foldedForSure 8) || !vs.all (constantsAlone 8)
    | _ => true
  | _ => true

noncomputable def insKey (ks : List Int) (k : Int) : List Int := if ks.contains k then ks else ks ++ [k]

noncomputable def setItem (o : VV) (i v : D) (η : Eta) : Option Eta :=
  match o with
  | .h n => match η[n]?, i with
    | some (.hl ds), .int (.ofNat k) => if k < ds.length then some (η.set n (.hl (ds.set k v))) else none
    | some (.hs ks), .int k => match v with
      | .bool true => if ks.length ≤ 1000 then some (η.set n (.hs (insKey ks k))) else none
      | _ => none
    | _, _ => none
  | _ => none

noncomputable def methD (name : Str) (o : VV) (a : D) (η : Eta) : Option Eta :=
  match o with
  | .h n => match η[n]? with
    | some (.hl ds) =>
      if ds.length ≤ 1000 then
        if name = "append" then some (η.set n (.hl (ds ++ [a])))
        else if name = "extend" then match a with
          | .lst es => if es.length ≤ 1000 then some (η.set n (.hl (ds ++ es))) else none
          | _ => none
        else none
      else none
    | _ => none
  | _ => none

noncomputable def isHl (v : VV) (η : Eta) : Option Unit :=
  match v with
  | .h n => match η[n]? with
    | some (.hl _) => some ()
    | _ => none
  | _ => none

noncomputable def meth (I : Interp) (sc : Sc) (ρ : Rho) (η : Eta) (o : Expr) (name : Str) (a : Expr) : B Eta :=
  (I.ev sc ρ η o).bind fun q => (B.lift (isHl q.1 q.2)).bind fun _ => (evD I sc ρ q.2 a).bind fun r => B.lift (methD name q.1 r.1 r.2)

noncomputable def flGo (r : Fl × Rho × Eta) (k : Rho → Eta → B (Fl × Rho × Eta)) : B (Fl × Rho × Eta) :=
  match r.1 with
  | .next => k r.2.1 r.2.2
  | .ret v => .pure (.ret v, r.2.1, r.2.2)

noncomputable def forGo (I : Interp) (sc : Sc) (t : Expr) (body : List Stmt) (ρ : Rho) (η : Eta) : List D → B (Fl × Rho × Eta)
  | [] => .pure (.next, ρ, η)
  | d :: ds => (B.lift (bindT sc ρ t (.d d))).bind fun ρ => (I.exs sc ρ η body).bind fun r => flGo r fun ρ η => forGo I sc t body ρ η ds

noncomputable def whileGo (I : Interp) (sc : Sc) (t : Expr) (body : List Stmt) (ρ : Rho) (η : Eta) : Nat → B (Fl × Rho × Eta)
  | 0 => .fail
  | k + 1 => (I.tr sc ρ η t).bind fun b => .br b.1 ((I.exs sc ρ b.2 body).bind fun r => flGo r fun ρ η => whileGo I sc t body ρ η k) (.pure (.next, ρ, b.2))

noncomputable def exStep (I : Interp) (sc : Sc) (ρ : Rho) (η : Eta) (s : Stmt) : B (Fl × Rho × Eta) :=
  match s with
  | .Return (some e) _ => (I.ev sc ρ η e).bind fun r => .pure (.ret r.1, ρ, r.2)
  | .Assign [t] e _ => match t with
    | .Subscript o i _ => (evD I sc ρ η e).bind fun v => (I.ev sc ρ v.2 o).bind fun q => (evD I sc ρ q.2 i).bind fun r => (B.lift (setItem q.1 r.1 v.1 r.2)).bind fun η => .pure (.next, ρ, η)
    | t => match tupGuard t e with
      | true => (evHot I sc ρ η t e).bind fun r => (B.lift (bindT sc ρ t r.1)).bind fun ρ => .pure (.next, ρ, r.2)
      | false => .fail
  | .Expr (.Call (.Attribute o m apos) [a] [] cpos) _ => match isNameOrItem o, apos.endLine == cpos.line with
    | true, true => (meth I sc ρ η o m a).bind fun η => .pure (.next, ρ, η)
    | _, _ => .fail
  | .If t a b _ => (I.tr sc ρ η t).bind fun r => .br r.1 (I.exs sc ρ r.2 a) (I.exs sc ρ r.2 b)
  | .For t it body [] _ => (itr I sc ρ η it).bind fun q => forGo I sc t body ρ q.2 q.1
  | .While t body [] _ => whileGo I sc t body ρ η 1000
  | _ => .fail

noncomputable def exsStep (I : Interp) (sc : Sc) (ρ : Rho) (η : Eta) (ss : List Stmt) : B (Fl × Rho × Eta) :=
  match ss with
  | [] => .pure (.next, ρ, η)
  | s :: ss => (I.ex sc ρ η s).bind fun r => flGo r fun ρ η => I.exs sc ρ η ss

/-- the defs of the text -/
structure FDef where
  params : List Str
  body : List Stmt
  names : Sc
  deriving Inhabited

noncomputable def argNames : Arguments → Option (List Str)
  | ⟨[], as, none, [], [], none, []⟩ => some (as.map (·.arg))
  | _ => none

noncomputable def findDef (x : Str) : List Stmt → Option FDef
  | [] => none
  | .FunctionDef n as b [] _ [] sc _ _ _ :: r => if n = x then (argNames as).map fun ps => ⟨ps, b, sc.names⟩ else findDef x r
  | _ :: r => findDef x r

/-- what a def gives back; called with data alone it has a hot store of its own -/
noncomputable def backD (r : Fl × Rho × Eta) : Option D :=
  match r.1 with
  | .ret v => (frz v r.2.2).map fun q => q.1
  | .next => none

/-- a world's lists lie in the part that is handed back -/
noncomputable def hwOk (n : Nat) : HO → Bool
  | .hw l t _ => Nat.blt l n && Nat.blt t n
  | _ => true

noncomputable def backH (n : Nat) (r : Fl × Rho × Eta) : Option (D × Eta) :=
  match r.1 with
  | .ret v => (frz v r.2.2).bind fun q => match (q.2.take n).all (hwOk n) with
    | true => some (q.1, q.2.take n)
    | false => none
  | .next => none

noncomputable def runP (I : Interp) (f : FDef) (ds : List D) : Option D :=
  match decide (f.params.length = ds.length) with
  | true => ((I.exs f.names (f.params.zip (ds.map .d)) [] f.body).bind fun r => B.lift (backD r)).run
  | false => none

noncomputable def runH (I : Interp) (f : FDef) (vs : List VV) (η : Eta) : Option (D × Eta) :=
  match decide (f.params.length = vs.length) with
  | true => ((I.exs f.names (f.params.zip vs) η f.body).bind fun r => B.lift (backH η.length r)).run
  | false => none

/-- the text's expressions and statements, nested at most so deep; P, H: its calls -/
noncomputable def ast (P : Str → List D → Option D) (H : Str → List VV → Eta → Option (D × Eta)) : Nat → Interp
  | 0 => ⟨fun _ _ _ _ => .fail, fun _ _ _ _ => .fail, fun _ _ _ _ => .fail, fun _ _ _ _ => .fail, P, H⟩
  | k + 1 => ⟨evStep (ast P H k), trStep (ast P H k), exStep (ast P H k), exsStep (ast P H k), P, H⟩

mutual
noncomputable def pcl (F : Str → Option FDef) : Nat → Str → List D → Option D
  | 0 => fun _ _ => none
  | n + 1 => fun x ds => match F x with
    | some f => runP (ast (pcl F n) (hcl F n) 60) f ds
    | none => none
noncomputable def hcl (F : Str → Option FDef) : Nat → Str → List VV → Eta → Option (D × Eta)
  | 0 => fun _ _ _ => none
  | n + 1 => fun x vs η => match F x with
    | some f => runH (ast (pcl F n) (hcl F n) 60) f vs η
    | none => none
end

/-- the program's own defs -/
noncomputable def FT : Str → Option FDef := fun x => findDef x PySem.Challenge.pw_pf0207_01.main.body

/-! ## Ways through the interpreter -/
theorem isMinusOne_is {e : Expr} (q : isMinusOne e = true) : ∃ k p1 p2, e = .UnaryOp .USub (.Constant (.int 1) k p1) p2 := by
  have one : ∀ {x : Expr}, isOneE x = true → ∃ k p, x = .Constant (.int 1) k p := by
    intro x h
    cases x with
    | Constant c k p => induction c with
      | int i => exact ⟨k, p, by rw [of_decide_eq_true h]⟩
      | _ => exact ft h
    | _ => exact ft h
  cases e with
  | UnaryOp op x p => induction op with
    | USub =>
      obtain ⟨k, p1, rfl⟩ := one q
      exact ⟨k, p1, p, rfl⟩
    | _ => exact ft q
  | _ => exact ft q
theorem isKey_is {x : Str} {e : Option Expr} (q : isKey x e = true) : ∃ k p, e = some (.Constant (.str x) k p) := by
  induction e with
  | none => exact ft q
  | some e => cases e with
    | Constant c k p => induction c with
      | str a => exact ⟨k, p, by rw [of_decide_eq_true q]⟩
      | _ => exact ft q
    | _ => exact ft q
theorem isWorldKeys_is {ks : List (Option Expr)} (q : isWorldKeys ks = true) : ∃ k1 p1 k2 p2 k3 p3, ks = [some (.Constant (.str "log") k1 p1), some (.Constant (.str "temps") k2 p2), some (.Constant (.str "tape") k3 p3)] := by
  match ks, q with
  | [a, b, c], q =>
    have q : (isKey "log" a && isKey "temps" b && isKey "tape" c) = true := q
    rw [Bool.and_eq_true, Bool.and_eq_true] at q
    obtain ⟨k1, p1, rfl⟩ := isKey_is q.1.1
    obtain ⟨k2, p2, rfl⟩ := isKey_is q.1.2
    obtain ⟨k3, p3, rfl⟩ := isKey_is q.2
    exact ⟨k1, p1, k2, p2, k3, p3, rfl⟩
theorem elems_is {e : Expr} {es : List Expr} (q : elems e = some es) : ∃ p, e = .List es p := by
  cases e with
  | List xs p => cases q; exact ⟨p, rfl⟩
  | _ => exact nn q
theorem lists3_is {vs ls ts : List Expr} {tp : Expr} (q : lists3 vs = some (ls, ts, tp)) : ∃ p1 p2, vs = [.List ls p1, .List ts p2, tp] := by
  match vs, q with
  | [a, b, c], q =>
    have q : (match elems a with | some ls => (match elems b with | some ts => some (ls, ts, c) | none => none) | none => none) = some (ls, ts, tp) := q
    induction ha : elems a with
    | none => rw [ha] at q; exact nn q
    | some x =>
      induction hb : elems b with
      | none => rw [ha, hb] at q; exact nn q
      | some y =>
        rw [ha, hb] at q
        cases q
        obtain ⟨p1, rfl⟩ := elems_is ha
        obtain ⟨p2, rfl⟩ := elems_is hb
        exact ⟨p1, p2, rfl⟩
theorem oneL_is {ds l : List D} (q : oneL ds = some l) : ds = [.lst l] := by
  match ds, q with
  | [d], q => cases d with
    | lst x => cases q; rfl
    | _ => exact nn q
theorem twoI_is {ds : List D} {p : Int × Int} (q : twoI ds = some p) : ds = [.int p.1, .int p.2] := by
  match ds, q with
  | [a, b], q => cases a with
    | int i => cases b with
      | int j => cases q; rfl
      | _ => exact nn q
    | _ => exact nn q
theorem oneD_is {ds : List D} {d : D} (q : oneD ds = some d) : ds = [d] := by
  match ds, q with
  | [d], q => cases q; rfl
theorem natOf_is {i : D} {k : Nat} (q : natOf i = some k) : i = .int (.ofNat k) := by
  cases i with
  | int i => induction i with
    | ofNat k => cases q; rfl
    | negSucc k => exact nn q
  | _ => exact nn q
theorem isFour_is {i : D} (q : isFour i = true) : i = .int 4 := by
  cases i with
  | int i => rw [of_decide_eq_true q]
  | _ => exact ft q
theorem bothI_is {a b : D} {p : Int × Int} (q : bothI a b = some p) : a = .int p.1 ∧ b = .int p.2 := by
  cases a with
  | int i => cases b with
    | int j => cases q; exact ⟨rfl, rfl⟩
    | _ => exact nn q
  | _ => exact nn q
theorem addD_is {a b d : D} (q : addD a b = some d) : (∃ i j, a = .int i ∧ b = .int j ∧ d = .int (i + j)) ∨ ∃ xs ys, a = .tup xs ∧ b = .tup ys ∧ catD xs ys = some d := by
  cases a with
  | int i => cases b with
    | int j => cases q; exact .inl ⟨i, j, rfl, rfl, rfl⟩
    | _ => exact nn q
  | tup xs => cases b with
    | tup ys => exact .inr ⟨xs, ys, rfl, rfl, q⟩
    | _ => exact nn q
  | _ => exact nn q
theorem hot_elim {P : Expr → Expr → Prop} (list : ∀ x px es lp, P (.Name x px) (.List es lp)) (none_ : ∀ x px dp, P (.Name x px) (.Dict [] [] dp)) (dict : ∀ x px ks v vs dp, P (.Name x px) (.Dict ks (v :: vs) dp))
    (comp : ∀ x px elt gens scope lp, P (.Name x px) (.ListComp elt gens scope lp)) (other : ∀ t e, (∀ I sc ρ η, evHot I sc ρ η t e = I.ev sc ρ η e) → P t e) (t e : Expr) : P t e := by
  cases t with
  | Name x px => cases e with
    | List es lp => exact list ..
    | Dict ks vs dp => induction vs with
      | nil => induction ks with
        | nil => exact none_ ..
        | cons k ks => exact other _ _ fun _ _ _ _ => rfl
      | cons v vs => exact dict ..
    | ListComp elt gens scope lp => exact comp ..
    | _ => exact other _ _ fun _ _ _ _ => rfl
  | _ => exact other _ _ fun _ _ _ _ => rfl
theorem exStep_elim {P : Stmt → Prop} (ret : ∀ e p, P (.Return (some e) p)) (asg : ∀ t e p, P (.Assign [t] e p)) (meth : ∀ o m apos a cpos ep, P (.Expr (.Call (.Attribute o m apos) [a] [] cpos) ep)) (iff_ : ∀ t a b p, P (.If t a b p))
    (for_ : ∀ t it body p, P (.For t it body [] p)) (while_ : ∀ t body p, P (.While t body [] p)) (other : ∀ s, (∀ I sc ρ η, exStep I sc ρ η s = .fail) → P s) (s : Stmt) : P s := by
  cases s with
  | Return v p => induction v with
    | some e => exact ret ..
    | none => exact other _ fun _ _ _ _ => rfl
  | Assign ts e p => match ts with
    | [t] => exact asg ..
    | [] => exact other _ fun _ _ _ _ => rfl
    | _ :: _ :: _ => exact other _ fun _ _ _ _ => rfl
  | Expr e ep => cases e with
    | Call f args kws cpos => cases f with
      | Attribute o m apos => match args, kws with
        | [a], [] => exact meth ..
        | [a], _ :: _ => exact other _ fun _ _ _ _ => rfl
        | [], _ => exact other _ fun _ _ _ _ => rfl
        | _ :: _ :: _, _ => exact other _ fun _ _ _ _ => rfl
      | _ => exact other _ fun _ _ _ _ => rfl
    | _ => exact other _ fun _ _ _ _ => rfl
  | If t a b p => exact iff_ ..
  | For t it body els p => induction els with
    | nil => exact for_ ..
    | cons _ _ => exact other _ fun _ _ _ _ => rfl
  | While t body els p => induction els with
    | nil => exact while_ ..
    | cons _ _ => exact other _ fun _ _ _ _ => rfl
  | _ => exact other _ fun _ _ _ _ => rfl
theorem evStep_elim {P : Expr → Prop} (const : ∀ c k p, P (.Constant c k p)) (name : ∀ x p, P (.Name x p)) (bool : ∀ op es p, P (.BoolOp op es p)) (bin : ∀ l op r p, P (.BinOp l op r p)) (not_ : ∀ x p, P (.UnaryOp .Not x p)) (ifexp : ∀ t a b p, P (.IfExp t a b p))
    (list : ∀ es p, P (.List es p)) (tup : ∀ es k p, P (.Tuple es k p)) (comp : ∀ elt gens scope p, P (.ListComp elt gens scope p)) (cmp : ∀ l ops es p, P (.Compare l ops es p)) (call : ∀ f args kws p, P (.Call f args kws p)) (attr : ∀ o a p, P (.Attribute o a p)) (sub : ∀ o s p, P (.Subscript o s p))
    (other : ∀ e, (∀ I sc ρ η, evStep I sc ρ η e = .fail) → P e) (e : Expr) : P e := by
  cases e with
  | Constant c k p => exact const ..
  | Name x p => exact name ..
  | BoolOp op es p => exact bool ..
  | BinOp l op r p => exact bin ..
  | UnaryOp op x p => induction op with
    | Not => exact not_ ..
    | _ => exact other _ fun _ _ _ _ => rfl
  | IfExp t a b p => exact ifexp ..
  | List es p => exact list ..
  | Tuple es k p => exact tup ..
  | ListComp elt gens scope p => exact comp ..
  | Compare l ops es p => exact cmp ..
  | Call f args kws p => exact call ..
  | Attribute o a p => exact attr ..
  | Subscript o s p => exact sub ..
  | _ => exact other _ fun _ _ _ _ => rfl
theorem trStep_elim {P : Expr → Prop} (not_ : ∀ x p, P (.UnaryOp .Not x p)) (bool : ∀ op es p, P (.BoolOp op es p)) (cmp : ∀ l ops es p, P (.Compare l ops es p)) (name : ∀ x p, P (.Name x p)) (call : ∀ f args kws p, P (.Call f args kws p)) (sub : ∀ o s p, P (.Subscript o s p))
    (other : ∀ e, (∀ I sc ρ η, trStep I sc ρ η e = .fail) → P e) (e : Expr) : P e := by
  cases e with
  | Name x p => exact name ..
  | BoolOp op es p => exact bool ..
  | UnaryOp op x p => induction op with
    | Not => exact not_ ..
    | _ => exact other _ fun _ _ _ _ => rfl
  | Compare l ops es p => exact cmp ..
  | Call f args kws p => exact call ..
  | Subscript o s p => exact sub ..
  | _ => exact other _ fun _ _ _ _ => rfl

end Mine
end
section
namespace Mine
set_option tactic.hygienic false
open PySem PySem.W PyProof.Rows PySem.Spec

/-! ## How the heap bears the abstract state -/

/-- what is known of objects that change no more -/
noncomputable abbrev Kn := Addr → Option Obj
noncomputable def Kle (K : Kn) (h : Heap) : Prop := ∀ a o, K a = some o → h.get? a = some o
noncomputable def KK (K K' : Kn) : Prop := ∀ a o, K a = some o → K' a = some o
theorem KK.refl (K : Kn) : KK K K := fun _ _ e => e
theorem KK.trans {K K' K'' : Kn} (x : KK K K') (y : KK K' K'') : KK K K'' := fun a o e => y a o (x a o e)

section
variable (prog : Program) (w : World) (C₀ : Addr)

noncomputable def setPairs (ks : List Int) : List (Int × Value) := ks.map fun k => (k, .bool true)

mutual
inductive V (K : Kn) : Value → D → Prop
  | none : V K .none .none
  | bool (b : Bool) : V K (.bool b) (.bool b)
  | int (i : Int) (t : Tok) : V K (.int i t) (.int i)
  | str (x : Str) (t : Tok) : V K (.str x t) (.str x)
  | tup {a : Addr} {o : Obj} {vs : Array Value} {n : Nat} {ds : List D} : K a = some o → o.cls = .type "tuple" → o.data = .seq vs n → VA K vs.toList ds → ds.length ≤ 4000 → V K (.ref a) (.tup ds)
  | lst {a : Addr} {vs : Array Value} {n : Nat} {ds : List D} : K a = some (listOf vs n) → VA K vs.toList ds → ds.length ≤ 4000 → V K (.ref a) (.lst ds)
  | set {a : Addr} {o : Obj} {ks : List Int} : K a = some o → (a == sysModules) = false → o.IsDictOf (intKind prog w) (setPairs ks) → V K (.ref a) (.set ks)
  | code {x dx : Addr} {es : List DictEntry} {k : Nat} {vr vn vt vy vl : Value} {r n t y l : D} : K x = some (instObj C₀ dx) → K dx = some (dictOf es k) →
      getL "rows" es = some (some vr) → getL "names" es = some (some vn) → getL "temps" es = some (some vt) → getL "trys" es = some (some vy) → getL "lives" es = some (some vl) →
      V K vr r → V K vn n → V K vt t → V K vy y → V K vl l → V K (.ref x) (.code r n t y l)
inductive VA (K : Kn) : List Value → List D → Prop
  | nil : VA K [] []
  | cons {v : Value} {d : D} {vs : List Value} {ds : List D} : V K v d → VA K vs ds → VA K (v :: vs) (d :: ds)
end
end

section
variable {prog : Program} {w : World} {C₀ : Addr} {K K' : Kn}
theorem V.mono (k : KK K K') {v : Value} {d : D} (x : V prog w C₀ K v d) : V prog w C₀ K' v d :=
  V.rec (motive_1 := fun v d _ => V prog w C₀ K' v d) (motive_2 := fun vs ds _ => VA prog w C₀ K' vs ds) .none .bool .int .str (fun e c d _ l r => .tup (k _ _ e) c d r l) (fun e _ l r => .lst (k _ _ e) r l) (fun e c d => .set (k _ _ e) c d)
    (fun e1 e2 g1 g2 g3 g4 g5 _ _ _ _ _ a b c d e => .code (k _ _ e1) (k _ _ e2) g1 g2 g3 g4 g5 a b c d e) .nil (fun _ _ a r => .cons a r) x
/-- rows of values, one by one -/
theorem VA.ind {M : List Value → List D → Prop} (h0 : M [] []) (h1 : ∀ v d vs ds, V prog w C₀ K v d → VA prog w C₀ K vs ds → M vs ds → M (v :: vs) (d :: ds)) {vs : List Value} {ds : List D} (x : VA prog w C₀ K vs ds) : M vs ds :=
  VA.rec (motive_1 := fun _ _ _ => True) (motive_2 := fun vs ds _ => M vs ds) trivial (fun _ => trivial) (fun _ _ => trivial) (fun _ _ => trivial) (fun _ _ _ _ _ _ => trivial) (fun _ _ _ _ => trivial) (fun _ _ _ => trivial)
    (fun _ _ _ _ _ _ _ _ _ _ _ _ _ _ _ _ _ => trivial) h0 (fun a r _ h => h1 _ _ _ _ a r h) x
theorem VA.mono (k : KK K K') {vs : List Value} {ds : List D} (x : VA prog w C₀ K vs ds) : VA prog w C₀ K' vs ds := VA.ind .nil (fun _ _ _ _ a _ h => .cons (V.mono k a) h) x
theorem VA.length {vs : List Value} {ds : List D} (x : VA prog w C₀ K vs ds) : vs.length = ds.length := VA.ind (M := fun vs ds => vs.length = ds.length) rfl (fun _ _ _ _ _ _ h => congrArg (· + 1) h) x
theorem VA.append {vs : List Value} {ds : List D} {us : List Value} {es : List D} (x : VA prog w C₀ K vs ds) (y : VA prog w C₀ K us es) : VA prog w C₀ K (vs ++ us) (ds ++ es) :=
  VA.ind (M := fun vs ds => VA prog w C₀ K (vs ++ us) (ds ++ es)) y (fun _ _ _ _ a _ h => .cons a h) x
theorem VA.get {vs : List Value} {ds : List D} (x : VA prog w C₀ K vs ds) : ∀ {i : Nat} {d : D}, ds[i]? = some d → ∃ v, vs[i]? = some v ∧ V prog w C₀ K v d :=
  VA.ind (M := fun vs ds => ∀ {i : Nat} {d : D}, ds[i]? = some d → ∃ v, vs[i]? = some v ∧ V prog w C₀ K v d) (fun e => nn e) (fun v _ _ _ a _ h i _ e => match i, e with
    | 0, e => ⟨v, rfl, Option.some.inj e ▸ a⟩
    | _ + 1, e => h e) x
theorem VA.get' {vs : List Value} {ds : List D} (x : VA prog w C₀ K vs ds) : ∀ {i : Nat} {v : Value}, vs[i]? = some v → ∃ d, ds[i]? = some d ∧ V prog w C₀ K v d :=
  VA.ind (M := fun vs ds => ∀ {i : Nat} {v : Value}, vs[i]? = some v → ∃ d, ds[i]? = some d ∧ V prog w C₀ K v d) (fun e => nn e) (fun _ d _ _ a _ h i _ e => match i, e with
    | 0, e => ⟨d, rfl, Option.some.inj e ▸ a⟩
    | _ + 1, e => h e) x
theorem VA.set {vs : List Value} {ds : List D} (x : VA prog w C₀ K vs ds) {v : Value} {d : D} (i : Nat) (z : V prog w C₀ K v d) : VA prog w C₀ K (vs.set i v) (ds.set i d) :=
  VA.ind (M := fun vs ds => ∀ i, VA prog w C₀ K (vs.set i v) (ds.set i d)) (fun _ => .nil) (fun _ _ _ _ a r h i => match i with
    | 0 => .cons z r
    | i + 1 => .cons a (h i)) x i
theorem VA.take {vs : List Value} {ds : List D} (x : VA prog w C₀ K vs ds) (i : Nat) : VA prog w C₀ K (vs.take i) (ds.take i) :=
  VA.ind (M := fun vs ds => ∀ i, VA prog w C₀ K (vs.take i) (ds.take i)) (fun i => match i with
    | 0 => .nil
    | _ + 1 => .nil) (fun _ _ _ _ a _ h i => match i with
    | 0 => .nil
    | i + 1 => .cons a (h i)) x i
theorem VA.reverse {vs : List Value} {ds : List D} (x : VA prog w C₀ K vs ds) : VA prog w C₀ K vs.reverse ds.reverse :=
  VA.ind (M := fun vs ds => VA prog w C₀ K vs.reverse ds.reverse) .nil (fun _ _ _ _ a _ h => by rw [List.reverse_cons, List.reverse_cons]; exact h.append (.cons a .nil)) x

/-- plain data as the library reads it -/
theorem noDict {ds : List (PyData × PyData)} (h : (PyData.dict ds).canLay0 = true) : False := by simp [PyData.canLay0] at h
theorem V.reads {h : Heap} (k : Kle K h) {v : Value} {d : D} (x : V prog w C₀ K v d) : (toPy d).canLay0 = true → ∃ as, Reads h v (toPy d) as :=
  V.rec (motive_1 := fun v d _ => (toPy d).canLay0 = true → ∃ as, Reads h v (toPy d) as) (motive_2 := fun vs ds _ => PyData.canLayAll0 (toPys ds) = true → ∃ as, ReadsAll h vs (toPys ds) as)
    (fun _ => ⟨_, .none⟩) (fun b _ => ⟨_, .bool b⟩) (fun i t _ => ⟨_, .int i t⟩) (fun x t _ => ⟨_, .str x t⟩)
    (fun e c d _ _ ih q => (ih q).elim fun _ z => ⟨_, .tuple (k _ _ e) c d z⟩)
    (fun e _ _ ih q => (ih q).elim fun _ z => ⟨_, .list (k _ _ e) rfl rfl z⟩)
    (fun _ _ _ q => (noDict q).elim) (fun _ _ _ _ _ _ _ _ _ _ _ _ _ _ _ _ _ q => (noDict q).elim)
    (fun _ => ⟨_, .nil⟩) (fun _ _ ih ihs q => (ih (Bool.and_eq_true_iff.mp q).1).elim fun _ x => (ihs (Bool.and_eq_true_iff.mp q).2).elim fun _ y => ⟨_, .cons x y⟩) x
theorem VA.reads {h : Heap} (k : Kle K h) {vs : List Value} {ds : List D} (x : VA prog w C₀ K vs ds) : PyData.canLayAll0 (toPys ds) = true → ∃ as, ReadsAll h vs (toPys ds) as :=
  VA.ind (M := fun vs ds => PyData.canLayAll0 (toPys ds) = true → ∃ as, ReadsAll h vs (toPys ds) as) (fun _ => ⟨_, .nil⟩)
    (fun _ _ _ _ a _ ihs q => (a.reads k (Bool.and_eq_true_iff.mp q).1).elim fun _ x => (ihs (Bool.and_eq_true_iff.mp q).2).elim fun _ y => ⟨_, .cons x y⟩) x
end

/-! ### the hot store -/
section
variable (prog : Program) (w : World) (C₀ : Addr)

inductive OR (K : Kn) (μ : List Addr) (h : Heap) (a : Addr) : HO → Prop
  | hl {vs : Array Value} {n : Nat} {ds : List D} : K a = none → h.get? a = some (listOf vs n) → VA prog w C₀ K vs.toList ds → ds.length ≤ 4000 → OR K μ h a (.hl ds)
  | hs {o : Obj} {ks : List Int} : K a = none → h.get? a = some o → (a == sysModules) = false → o.IsDictOf (intKind prog w) (setPairs ks) → OR K μ h a (.hs ks)
  | hw {l t : Nat} {al at' : Addr} {vt : Value} {o : Obj} {tape : List D} : K a = none → μ[l]? = some al → μ[t]? = some at' → h.get? a = some o → (a == sysModules) = false → V prog w C₀ K vt (.lst tape) →
      o.IsDictOf (strKind prog w) [("log", .ref al), ("temps", .ref at'), ("tape", vt)] → OR K μ h a (.hw l t tape)
  | fz {d : D} : V prog w C₀ K (.ref a) d → OR K μ h a (.fz d)

structure SR (K : Kn) (μ : List Addr) (η : Eta) (h : Heap) : Prop where
  kn : Kle K h
  len : μ.length = η.length
  nd : μ.Nodup
  hot : ∀ (n : Nat) (a : Addr) (o : HO), μ[n]? = some a → η[n]? = some o → OR prog w C₀ K μ h a o

inductive VR (K : Kn) (μ : List Addr) : Value → VV → Prop
  | d {v : Value} {x : D} : V prog w C₀ K v x → VR K μ v (.d x)
  | h {n : Nat} {a : Addr} : μ[n]? = some a → VR K μ (.ref a) (.h n)
end

/-- growth: what a step may do; X: the addresses beside the hot ones that it may change -/
structure Gr (X : List Addr) (K : Kn) (μ : List Addr) (h : Heap) (K' : Kn) (μ' : List Addr) (h' : Heap) : Prop where
  k : KK K K'
  knew : ∀ a o, K' a = some o → K a = some o ∨ h.get? a = none ∨ a ∈ μ
  pre : μ <+: μ'
  fresh : ∀ a ∈ μ', a ∈ μ ∨ h.get? a = none
  st : ∀ a o, h.get? a = some o → ∃ o', h'.get? a = some o'
  fr : ∀ b o, h.get? b = some o → b ∉ μ → b ∉ X → h'.get? b = some o

/-- what is left to show behind a step -/
noncomputable def HV (prog : Program) (w : World) (C₀ : Addr) (K : Kn) (μ : List Addr) (s : Shared) (η : Eta) (d : D) (Q : Value → Shared → Prop) : Prop := ∀ v K' h' tk, Gr [] K μ s.heap K' μ h' → SR prog w C₀ K' μ η h' → V prog w C₀ K' v d → Q v { s with heap := h', toks := tk }
noncomputable def HVM (prog : Program) (w : World) (C₀ : Addr) (K : Kn) (μ : List Addr) (s : Shared) (η : Eta) (d : D) (Q : Value → Shared → Prop) : Prop := ∀ v K' μ' h' tk, Gr [] K μ s.heap K' μ' h' → SR prog w C₀ K' μ' η h' → V prog w C₀ K' v d → Q v { s with heap := h', toks := tk }
noncomputable def HVR (prog : Program) (w : World) (C₀ : Addr) (K : Kn) (μ : List Addr) (s : Shared) (η : Eta) (d : VV) (Q : Value → Shared → Prop) : Prop := ∀ v K' μ' h' tk, Gr [] K μ s.heap K' μ' h' → SR prog w C₀ K' μ' η h' → VR prog w C₀ K' μ' v d → Q v { s with heap := h', toks := tk }
noncomputable def HN {α : Type} (prog : Program) (w : World) (C₀ : Addr) (K : Kn) (μ : List Addr) (s : Shared) (η : Eta) (b : α) (Q : α → Shared → Prop) : Prop := ∀ K' μ' h' tk, Gr [] K μ s.heap K' μ' h' → SR prog w C₀ K' μ' η h' → Q b { s with heap := h', toks := tk }

section
variable {X Y : List Addr} {K K' K'' : Kn} {μ μ' μ'' : List Addr} {h h' h'' : Heap}
theorem Gr.refl (X : List Addr) (K : Kn) (μ : List Addr) (h : Heap) : Gr X K μ h K μ h :=
  ⟨KK.refl K, fun _ _ e => .inl e, List.prefix_refl μ, fun _ e => .inl e, fun _ o e => ⟨o, e⟩, fun _ _ e _ _ => e⟩
theorem Gr.weaken (x : Gr X K μ h K' μ' h') (hs : ∀ a ∈ X, a ∈ Y) : Gr Y K μ h K' μ' h' :=
  ⟨x.k, x.knew, x.pre, x.fresh, x.st, fun b o e hb hY => x.fr b o e hb fun q => hY (hs b q)⟩
theorem Gr.mem (x : Gr X K μ h K' μ' h') {a : Addr} (e : a ∈ μ) : a ∈ μ' := x.pre.subset e
theorem Gr.back (x : Gr X K μ h K' μ' h') {a : Addr} (e : h'.get? a = none) : h.get? a = none := by
  induction q : h.get? a with
  | none => rfl
  | some o => obtain ⟨o', z⟩ := x.st a o q; rw [z] at e; cases e
theorem Gr.trans (x : Gr X K μ h K' μ' h') (y : Gr X K' μ' h' K'' μ'' h'') : Gr X K μ h K'' μ'' h'' := by
  refine ⟨x.k.trans y.k, fun a o e => ?_, x.pre.trans y.pre, fun a e => ?_, fun a o e => ?_, fun b o e hb hX' => ?_⟩
  · rcases y.knew a o e with z | z | z
    · exact x.knew a o z
    · exact .inr (.inl (x.back z))
    · exact .inr ((x.fresh a z).symm)
  · rcases y.fresh a e with z | z
    · exact x.fresh a z
    · exact .inr (x.back z)
  · obtain ⟨o', e'⟩ := x.st a o e
    exact y.st a o' e'
  · refine y.fr b o (x.fr b o e hb hX') (fun q => ?_) hX'
    rcases x.fresh b q with z | z
    · exact hb z
    · rw [e] at z; cases z
/-- an address that stands and is not hot stays not hot, unknown stays unknown -/
theorem Gr.notMem (x : Gr X K μ h K' μ' h') {a : Addr} {o : Obj} (e : h.get? a = some o) (ha : a ∉ μ) : a ∉ μ' := fun q => by
  rcases x.fresh a q with z | z
  · exact ha z
  · rw [e] at z; cases z
theorem Gr.unknown (x : Gr X K μ h K' μ' h') {a : Addr} {o : Obj} (e : h.get? a = some o) (ha : a ∉ μ) (hk : K a = .none) : K' a = .none := by
  induction q : K' a with
  | none => rfl
  | some o' =>
    rcases x.knew a o' q with z | z | z
    · rw [hk] at z; cases z
    · rw [e] at z; cases z
    · exact (ha z).elim
theorem Gr.at_ (x : Gr X K μ h K' μ' h') {n : Nat} {a : Addr} (e : μ[n]? = some a) : μ'[n]? = some a := by
  obtain ⟨t, rfl⟩ := x.pre
  have hn : n < μ.length := by
    rcases Nat.lt_or_ge n μ.length with q | q
    · exact q
    · rw [List.getElem?_eq_none q] at e; cases e
  rw [List.getElem?_append_left hn]; exact e
end

section
variable {prog : Program} {w : World} {C₀ : Addr} {X : List Addr} {K K' : Kn} {μ μ' : List Addr} {h h' : Heap}
theorem VR.grow (x : Gr X K μ h K' μ' h') {v : Value} {vv : VV} (y : VR prog w C₀ K μ v vv) : VR prog w C₀ K' μ' v vv := by
  induction y with
  | d z => exact .d (z.mono x.k)
  | h e => exact .h (x.at_ e)
end
end Mine
end
section
namespace Mine
set_option tactic.hygienic false
open PySem PySem.W PyProof.Rows PySem.Spec

section
variable {prog : Program} {w : World} {C₀ : Addr} {K K' : Kn} {μ μ' : List Addr} {η : Eta} {h h' : Heap}

theorem nd_get {μ : List Addr} (hn : μ.Nodup) {i j : Nat} {a : Addr} (hi : μ[i]? = some a) (hj : μ[j]? = some a) : i = j := by
  obtain ⟨h1, e1⟩ := List.getElem?_eq_some_iff.mp hi
  obtain ⟨h2, e2⟩ := List.getElem?_eq_some_iff.mp hj
  have P := List.pairwise_iff_getElem.mp hn
  rcases Nat.lt_trichotomy i j with q | q | q
  · exact (P i j h1 h2 q (e1.trans e2.symm)).elim
  · exact q
  · exact (P j i h2 h1 q (e2.trans e1.symm)).elim

theorem OR.grow {a : Addr} {o : HO} (x : OR prog w C₀ K μ h a o) (k : KK K K') (kn : K a = none → K' a = none) (hm : ∀ (n : Nat) (b : Addr), μ[n]? = some b → μ'[n]? = some b) (hh : ∀ o, h.get? a = some o → h'.get? a = some o) :
    OR prog w C₀ K' μ' h' a o := by
  induction x with
  | hl e g r l => exact .hl (kn e) (hh _ g) (r.mono k) l
  | hs e g s d => exact .hs (kn e) (hh _ g) s d
  | hw e m1 m2 g s v d => exact .hw (kn e) (hm _ _ m1) (hm _ _ m2) (hh _ g) s (v.mono k) d
  | fz v => exact .fz (v.mono k)

/-- the same hot store over a heap that has grown -/
theorem SR.grow (S : SR prog w C₀ K μ η h) (k : KK K K') (kl : Kle K' h') (kn : ∀ a ∈ μ, K a = none → K' a = none) (hh : ∀ a ∈ μ, ∀ o, h.get? a = some o → h'.get? a = some o) : SR prog w C₀ K' μ η h' :=
  ⟨kl, S.len, S.nd, fun n a o e1 e2 => (S.hot n a o e1 e2).grow k (kn a (List.mem_of_getElem? e1)) (fun _ _ e => e) (hh a (List.mem_of_getElem? e1))⟩

noncomputable def Kset (K : Kn) (a : Addr) (o : Obj) : Kn := fun b => if b = a then some o else K b
theorem Kset.kk {a : Addr} {o : Obj} (e : K a = none) : KK K (Kset K a o) := fun b o' q => by
  unfold Kset
  by_cases z : b = a
  · subst z; rw [e] at q; cases q
  · rw [if_neg z]; exact q
theorem Kset.same {a : Addr} {o : Obj} : Kset K a o a = some o := by unfold Kset; rw [if_pos rfl]
theorem Kset.other {a b : Addr} {o : Obj} (e : b ≠ a) : Kset K a o b = K b := by unfold Kset; rw [if_neg e]
theorem Kset.le {a : Addr} {o : Obj} (k : Kle K h) (e : h.get? a = some o) : Kle (Kset K a o) h := fun b o' q => by
  unfold Kset at q
  by_cases z : b = a
  · subst z; rw [if_pos rfl] at q; cases q; exact e
  · rw [if_neg z] at q; exact k b o' q

theorem SR.not (S : SR prog w C₀ K μ η h) {n : Nat} (e : μ[n]? = none) : η[n]? = none := by
  rw [List.getElem?_eq_none_iff] at e ⊢
  rw [← S.len]; exact e
theorem SR.at_ (S : SR prog w C₀ K μ η h) {n : Nat} {o : HO} (e : η[n]? = some o) : ∃ a, μ[n]? = some a := by
  induction q : μ[n]? with
  | some a => exact ⟨a, rfl⟩
  | none => rw [S.not q] at e; cases e

/-- one entry of the hot store is changed; K may learn the entry's address -/
theorem SR.put (S : SR prog w C₀ K μ η h) {n : Nat} {a : Addr} {o' : HO} (ha : μ[n]? = some a) (k : KK K K') (kl : Kle K' h') (kn : ∀ b ∈ μ, b ≠ a → K b = none → K' b = none) (hh : ∀ b ∈ μ, b ≠ a → ∀ o, h.get? b = some o → h'.get? b = some o)
    (x : OR prog w C₀ K' μ h' a o') : SR prog w C₀ K' μ (η.set n o') h' := by
  refine ⟨kl, by rw [List.length_set]; exact S.len, S.nd, fun j b o e1 e2 => ?_⟩
  by_cases q : n = j
  · subst q
    rw [ha] at e1; cases e1
    have hn : n < η.length := by
      rw [← S.len]
      exact (List.getElem?_eq_some_iff.mp ha).1
    rw [List.getElem?_set_self hn] at e2; cases e2
    exact x
  · rw [List.getElem?_set_ne q] at e2
    have hb : b ≠ a := fun z => q (nd_get S.nd ha (z ▸ e1))
    exact (S.hot j b o e1 e2).grow k (kn b (List.mem_of_getElem? e1) hb) (fun _ _ e => e) (hh b (List.mem_of_getElem? e1) hb)

theorem frz_ok {v : Value} {vv : VV} {d : D} {η' : Eta} (S : SR prog w C₀ K μ η h) (x : VR prog w C₀ K μ v vv) (e : frz vv η = some (d, η')) :
    ∃ K', SR prog w C₀ K' μ η' h ∧ V prog w C₀ K' v d ∧ Gr [] K μ h K' μ h := by
  induction x with
  | d z =>
    simp only [frz, Option.some.injEq, Prod.mk.injEq] at e
    obtain ⟨rfl, rfl⟩ := e
    exact ⟨K, S, z, Gr.refl ..⟩
  | @h n a ha =>
    unfold frz at e
    dsimp only at e
    induction q : η[n]? with
    | none => rw [q] at e; cases e
    | some o =>
      rw [q] at e
      have O := S.hot n a o ha q
      have am : a ∈ μ := List.mem_of_getElem? ha
      induction O with
      | @hl vs k ds kz g r l =>
        simp only [Option.some.injEq, Prod.mk.injEq] at e
        obtain ⟨rfl, rfl⟩ := e
        have kk : KK K (Kset K a (listOf vs k)) := Kset.kk kz
        refine ⟨_, S.put ha kk (Kset.le S.kn g) (fun b _ hb hn => by rw [Kset.other hb]; exact hn) (fun _ _ _ _ z => z) (.fz (.lst Kset.same (r.mono kk) l)), .lst Kset.same (r.mono kk) l, kk, fun b o' z => ?_, List.prefix_refl _, fun _ z => .inl z, fun _ o z => ⟨o, z⟩, fun _ _ z _ _ => z⟩
        by_cases hb : b = a
        · subst hb; exact .inr (.inr am)
        · rw [Kset.other hb] at z; exact .inl z
      | @hs o ks kz g s dd =>
        simp only [Option.some.injEq, Prod.mk.injEq] at e
        obtain ⟨rfl, rfl⟩ := e
        have kk : KK K (Kset K a o) := Kset.kk kz
        refine ⟨_, S.put ha kk (Kset.le S.kn g) (fun b _ hb hn => by rw [Kset.other hb]; exact hn) (fun _ _ _ _ z => z) (.fz (.set Kset.same s dd)), .set Kset.same s dd, kk, fun b o' z => ?_, List.prefix_refl _, fun _ z => .inl z, fun _ o z => ⟨o, z⟩, fun _ _ z _ _ => z⟩
        by_cases hb : b = a
        · subst hb; exact .inr (.inr am)
        · rw [Kset.other hb] at z; exact .inl z
      | hw => cases e
      | fz z =>
        simp only [Option.some.injEq, Prod.mk.injEq] at e
        obtain ⟨rfl, rfl⟩ := e
        exact ⟨K, S, z, Gr.refl ..⟩

/-- a fresh object that never changes -/
theorem alloc_ok (S : SR prog w C₀ K μ η h) (o : Obj) (hf : o.isFreed = false) : SR prog w C₀ (Kset K h.objs.size o) μ η (h.push o) ∧ Gr [] K μ h (Kset K h.objs.size o) μ (h.push o) := by
  have none_ : h.get? h.objs.size = none := by
    induction q : h.get? h.objs.size with
    | none => rfl
    | some o' => exact absurd (Heap.lt_size q) (Nat.lt_irrefl _)
  have kz : K h.objs.size = none := by
    induction q : K h.objs.size with
    | none => rfl
    | some o' => rw [S.kn _ _ q] at none_; cases none_
  have keep : ∀ b o', h.get? b = some o' → (h.push o).get? b = some o' := fun b o' z => Heap.get?_push_of_some _ z
  have there : ∀ a ∈ μ, ∃ o', h.get? a = some o' ∨ K a = some o' := by
    intro a ha
    obtain ⟨n, e⟩ := List.getElem?_of_mem ha
    have hn := (List.getElem?_eq_some_iff.mp e).1
    rw [S.len] at hn
    obtain ⟨oo, ho⟩ : ∃ oo, η[n]? = some oo := ⟨_, List.getElem?_eq_getElem hn⟩
    cases S.hot n a oo e ho with
    | hl _ g => exact ⟨_, .inl g⟩
    | hs _ g => exact ⟨_, .inl g⟩
    | hw _ _ _ g => exact ⟨_, .inl g⟩
    | fz v => cases v with
      | tup e => exact ⟨_, .inr e⟩
      | lst e => exact ⟨_, .inr e⟩
      | set e => exact ⟨_, .inr e⟩
      | code e => exact ⟨_, .inr e⟩
  have kl : Kle (Kset K h.objs.size o) (h.push o) := fun b o' q => by
    by_cases z : b = h.objs.size
    · subst z; rw [Kset.same] at q; cases q; exact Heap.get?_push_size _ hf
    · rw [Kset.other z] at q; exact keep _ _ (S.kn _ _ q)
  have ne : ∀ a ∈ μ, a ≠ h.objs.size := fun a ha z => by
    obtain ⟨o', q | q⟩ := there a ha
    · rw [z, none_] at q; cases q
    · rw [z, kz] at q; cases q
  refine ⟨S.grow (Kset.kk kz) kl (fun a ha q => by rw [Kset.other (ne a ha)]; exact q) (fun a _ o' z => keep a o' z), Kset.kk kz, fun b o' q => ?_, List.prefix_refl _, fun _ z => .inl z, fun b o' z => ⟨o', keep b o' z⟩, fun b o' z _ _ => keep b o' z⟩
  by_cases z : b = h.objs.size
  · subst z; exact .inr (.inl none_)
  · rw [Kset.other z] at q; exact .inl q

theorem SR.there (S : SR prog w C₀ K μ η h) {a : Addr} (ha : a ∈ μ) : ∃ o, h.get? a = some o := by
  obtain ⟨n, e⟩ := List.getElem?_of_mem ha
  have hn := (List.getElem?_eq_some_iff.mp e).1
  rw [S.len] at hn
  obtain ⟨oo, ho⟩ : ∃ oo, η[n]? = some oo := ⟨_, List.getElem?_eq_getElem hn⟩
  cases S.hot n a oo e ho with
  | hl _ g => exact ⟨_, g⟩
  | hs _ g => exact ⟨_, g⟩
  | hw _ _ _ g => exact ⟨_, g⟩
  | fz v => cases v with
    | tup e => exact ⟨_, S.kn _ _ e⟩
    | lst e => exact ⟨_, S.kn _ _ e⟩
    | set e => exact ⟨_, S.kn _ _ e⟩
    | code e => exact ⟨_, S.kn _ _ e⟩

theorem get_size (h : Heap) : h.get? h.objs.size = none := by
  induction q : h.get? h.objs.size with
  | none => rfl
  | some o' => exact absurd (Heap.lt_size q) (Nat.lt_irrefl _)
theorem SR.size_none (S : SR prog w C₀ K μ η h) : K h.objs.size = none := by
  induction q : K h.objs.size with
  | none => rfl
  | some o' => have := S.kn _ _ q; rw [get_size] at this; cases this
theorem SR.size_notin (S : SR prog w C₀ K μ η h) : h.objs.size ∉ μ := fun q => by
  obtain ⟨o, e⟩ := S.there q
  rw [get_size] at e; cases e

/-- a step that the abstract state does not see: it only adds or changes what is neither known nor hot -/
theorem skip_ok (S : SR prog w C₀ K μ η h) (hk : ∀ b o, (K b = some o ∨ b ∈ μ) → h.get? b = some o → h'.get? b = some o) : SR prog w C₀ K μ η h' :=
  S.grow (KK.refl K) (fun a o e => hk a o (.inl e) (S.kn a o e)) (fun _ _ e => e) fun a ha o e => hk a o (.inr ha) e

/-- a fresh object of the hot store -/
theorem allocHot_ok (S : SR prog w C₀ K μ η h) (o : Obj) (ho : HO) (hf : o.isFreed = false) (x : ∀ h' : Heap, h'.get? h.objs.size = some o → OR prog w C₀ K (μ ++ [h.objs.size]) h' h.objs.size ho) :
    SR prog w C₀ K (μ ++ [h.objs.size]) (η ++ [ho]) (h.push o) ∧ Gr [] K μ h K (μ ++ [h.objs.size]) (h.push o) := by
  have keep : ∀ b o', h.get? b = some o' → (h.push o).get? b = some o' := fun b o' z => Heap.get?_push_of_some _ z
  refine ⟨⟨fun a o' e => keep a o' (S.kn a o' e), by simp [S.len], ?_, fun n a o' e1 e2 => ?_⟩, KK.refl K, fun _ _ e => .inl e, List.prefix_append .., fun a ha => ?_, fun b o' z => ⟨o', keep b o' z⟩, fun b o' z _ _ => keep b o' z⟩
  · rw [List.nodup_append]
    exact ⟨S.nd, by simp, fun a ha b hb => by simp at hb; subst hb; exact fun z => S.size_notin (z ▸ ha)⟩
  · by_cases q : n < μ.length
    · rw [List.getElem?_append_left q] at e1
      rw [List.getElem?_append_left (S.len ▸ q)] at e2
      exact (S.hot n a o' e1 e2).grow (KK.refl K) id (fun i b e => by
        have hi := (List.getElem?_eq_some_iff.mp e).1
        rw [List.getElem?_append_left hi]; exact e) (fun o'' z => keep _ _ z)
    · have hn : n = μ.length := by
        have := (List.getElem?_eq_some_iff.mp e1).1
        simp at this; omega
      subst hn
      rw [List.getElem?_append_right (Nat.le_refl _)] at e1
      rw [S.len, List.getElem?_append_right (Nat.le_refl _)] at e2
      simp at e1 e2
      subst e1; subst e2
      exact x _ (Heap.get?_push_size _ hf)
  · rcases List.mem_append.mp ha with z | z
    · exact .inl z
    · simp at z; subst z; exact .inr (get_size h)
end

/-! ### environments -/
section
variable (prog : Program) (w : World) (C₀ : Addr)
structure ER (K : Kn) (μ : List Addr) (h : Heap) (ce : Env) (sc : Sc) (ρ : Rho) : Prop where
  kind : ce.scope.kind = .function
  gl : ce.globals = mainGlobals
  bi : ce.builtins = builtinsNs
  names : ∀ x, ce.kindOf x = sc.lookup x ∨ (sc.lookup x = some .free ∧ ce.kindOf x = some .cell)
  ns : ∃ m, h.Ns ce.locals m ∧ ∀ x vv, lookVV ρ x = some vv → ce.kindOf x = some .local → ∃ v, m x = some v ∧ VR prog w C₀ K μ v vv
  cl : ∀ x vv, lookVV ρ x = some vv → ce.kindOf x ≠ some .local → (ce.kindOf x = some .cell ∨ ce.kindOf x = some .free) ∧ ∃ c v o, ce.cells.lookup x = some c ∧ h.get? c = some o ∧ o.data = .cell (some v) ∧ VR prog w C₀ K μ v vv
  cells : ∀ x c, ce.cells.lookup x = some c → (∃ o v, h.get? c = some o ∧ o.data = .cell v) ∧ K c = none ∧ c ∉ μ ∧ c ≠ ce.locals
  inj : ∀ x y c, ce.cells.lookup x = some c → ce.cells.lookup y = some c → x = y
  have_ : ∀ x, sc.lookup x = some .cell → ∃ c, ce.cells.lookup x = some c
  dbg : sc.lookup (Str.ofString "__debug__") = none
  cdi : sc.lookup (Str.ofString "__classdict__") = none
  lk : K ce.locals = none
  lm : ce.locals ∉ μ
end

section
variable {prog : Program} {w : World} {C₀ : Addr} {K K' : Kn} {μ μ' : List Addr} {h h' : Heap} {ce : Env} {sc : Sc} {ρ : Rho} {X : List Addr}
theorem ER.there (R : ER prog w C₀ K μ h ce sc ρ) : ∃ o, h.get? ce.locals = some o := let ⟨_, ⟨o, _, _, e, _⟩, _⟩ := R.ns; ⟨o, e⟩
theorem ER.grow (R : ER prog w C₀ K μ h ce sc ρ) (x : Gr X K μ h K' μ' h') (hX : ce.locals ∉ X) (hC : ∀ y c, ce.cells.lookup y = some c → c ∉ X) : ER prog w C₀ K' μ' h' ce sc ρ := by
  obtain ⟨ol, hl⟩ := R.there
  refine ⟨R.kind, R.gl, R.bi, R.names, ?_, fun y vv e q => ?_, fun y c e => ?_, R.inj, R.have_, R.dbg, R.cdi, x.unknown hl R.lm R.lk, x.notMem hl R.lm⟩
  · obtain ⟨m, ⟨o, es, ep, e, r⟩, q⟩ := R.ns
    refine ⟨m, ⟨o, es, ep, x.fr _ _ e R.lm hX, r⟩, fun y vv e1 e2 => ?_⟩
    obtain ⟨v, hv, z⟩ := q y vv e1 e2
    exact ⟨v, hv, z.grow x⟩
  · obtain ⟨hk, c, v, o, e1, e2, e3, z⟩ := R.cl y vv e q
    obtain ⟨_, _, c3, _⟩ := R.cells y c e1
    exact ⟨hk, c, v, o, e1, x.fr _ _ e2 c3 (hC y c e1), e3, z.grow x⟩
  · obtain ⟨⟨o, v, e1, e2⟩, c2, c3, c4⟩ := R.cells y c e
    exact ⟨⟨o, v, x.fr _ _ e1 c3 (hC y c e), e2⟩, x.unknown e1 c3 c2, x.notMem e1 c3, c4⟩
theorem ER.grow0 (R : ER prog w C₀ K μ h ce sc ρ) (x : Gr [] K μ h K' μ' h') : ER prog w C₀ K' μ' h' ce sc ρ := R.grow x (by simp) (by simp)
end

/-- room for n more levels -/
structure Room (n : Nat) (A : Around) : Prop where
  hd : A.handled = none
  dp : A.depth + n ≤ 990
  un : A.units + 10 * n ≤ 9800
theorem Room.less {n m : Nat} {A : Around} (r : Room n A) (h : m ≤ n) : Room m A := ⟨r.hd, by have := r.dp; omega, by have := r.un; omega⟩
theorem Room.in1 {n : Nat} {A : Around} (r : Room (n + 1) A) : Room n A.in1 := ⟨r.hd, by have := r.dp; show A.depth + n ≤ 990; omega, by have := r.un; show A.units + 1 + 10 * n ≤ 9800; omega⟩

end Mine
end
section
namespace Mine
set_option tactic.hygienic false
open PySem PySem.W PyProof.Rows PySem.Spec

section
variable (prog : Program) (w : World) (C₀ : Addr) (K₀ : Kn)

noncomputable def EvOk (n : Nat) (I : Interp) : Prop := ∀ (sc : Sc) (ρ : Rho) (η : Eta) (e : Expr) (vv : VV) (η' : Eta), (I.ev sc ρ η e).run = some (vv, η') →
  ∀ (A : Around) (E : Value → Shared → Prop) (s : Shared) (ce : Env) (K : Kn) (μ : List Addr) (Q : Value → Shared → Prop), Room n A → ER prog w C₀ K μ s.heap ce sc ρ → SR prog w C₀ K μ η s.heap → KK K₀ K →
  (HVR prog w C₀ K μ s η' vv Q) → wpAny (model prog w) A (eval e ce) Q E s

noncomputable def TrOk (n : Nat) (I : Interp) : Prop := ∀ (sc : Sc) (ρ : Rho) (η : Eta) (e : Expr) (b : Bool) (η' : Eta), (I.tr sc ρ η e).run = some (b, η') →
  ∀ (A : Around) (E : Value → Shared → Prop) (s : Shared) (ce : Env) (K : Kn) (μ : List Addr) (Q : Bool → Shared → Prop), Room n A → ER prog w C₀ K μ s.heap ce sc ρ → SR prog w C₀ K μ η s.heap → KK K₀ K →
  (HN prog w C₀ K μ s η' b Q) → wpAny (model prog w) A (isTrue e ce (eval e ce)) Q E s

theorem lookup_mem {α β : Type} [BEq α] [LawfulBEq α] : ∀ {l : List (α × β)} {x : α} {c : β}, l.lookup x = some c → (x, c) ∈ l
  | (y, d) :: r, x, c, e => by
    rw [List.lookup_cons] at e
    induction q : x == y with
    | true => rw [q] at e; cases e; rw [beq_iff_eq.mp q]; exact .head _
    | false => rw [q] at e; exact .tail _ (lookup_mem e)
/-- the addresses that a statement may change -/
noncomputable def own (ce : Env) : List Addr := ce.locals :: (ce.cells.filter fun p => ce.cells.lookup p.1 == some p.2).map (·.2)
theorem own_locals (ce : Env) : ce.locals ∈ own ce := .head _
theorem own_cell {ce : Env} {y : Str} {c : Addr} (e : ce.cells.lookup y = some c) : c ∈ own ce :=
  List.mem_cons_of_mem _ (List.mem_map.mpr ⟨(y, c), List.mem_filter.mpr ⟨lookup_mem e, beq_iff_eq.mpr e⟩, rfl⟩)
theorem own_iff {ce : Env} {b : Addr} (h : b ∈ own ce) : b = ce.locals ∨ ∃ y, ce.cells.lookup y = some b := by
  rcases List.mem_cons.mp h with rfl | h
  · exact .inl rfl
  · obtain ⟨⟨y, c⟩, hm, rfl⟩ := List.mem_map.mp h
    exact .inr ⟨y, beq_iff_eq.mp (List.mem_filter.mp hm).2⟩


inductive FR (K : Kn) (μ : List Addr) : Flow → Fl → Prop
  | next : FR K μ .next .next
  | ret {v : Value} {vv : VV} : VR prog w C₀ K μ v vv → FR K μ (.ret v) (.ret vv)

noncomputable def ExOk (n : Nat) (I : Interp) : Prop := ∀ (sc : Sc) (ρ : Rho) (η : Eta) (e : Stmt) (fl : Fl) (ρ' : Rho) (η' : Eta), (I.ex sc ρ η e).run = some (fl, ρ', η') →
  ∀ (A : Around) (E : Value → Shared → Prop) (s : Shared) (ce : Env) (K : Kn) (μ : List Addr) (Q : Flow → Shared → Prop), Room n A → ER prog w C₀ K μ s.heap ce sc ρ → SR prog w C₀ K μ η s.heap → KK K₀ K →
  (∀ f K' μ' h' tk, Gr (own ce) K μ s.heap K' μ' h' → ER prog w C₀ K' μ' h' ce sc ρ' → SR prog w C₀ K' μ' η' h' → FR prog w C₀ K' μ' f fl → Q f { s with heap := h', toks := tk }) → wpAny (model prog w) A (exec e ce) Q E s

noncomputable def ExsOk (n : Nat) (I : Interp) : Prop := ∀ (sc : Sc) (ρ : Rho) (η : Eta) (e : List Stmt) (fl : Fl) (ρ' : Rho) (η' : Eta), (I.exs sc ρ η e).run = some (fl, ρ', η') →
  ∀ (A : Around) (E : Value → Shared → Prop) (s : Shared) (ce : Env) (K : Kn) (μ : List Addr) (Q : Flow → Shared → Prop), Room n A → ER prog w C₀ K μ s.heap ce sc ρ → SR prog w C₀ K μ η s.heap → KK K₀ K →
  (∀ f K' μ' h' tk, Gr (own ce) K μ s.heap K' μ' h' → ER prog w C₀ K' μ' h' ce sc ρ' → SR prog w C₀ K' μ' η' h' → FR prog w C₀ K' μ' f fl → Q f { s with heap := h', toks := tk }) → wpAny (model prog w) A (execs e ce) Q E s
end

section
variable {prog : Program} {w : World} {C₀ : Addr} {K₀ K : Kn} {n : Nat} {I : Interp} {sc : Sc} {ρ : Rho} {η η' : Eta} {e : Expr} {A : Around} {E : Value → Shared → Prop} {s : Shared} {ce : Env} {μ : List Addr}

theorem EvOk.less {m : Nat} (x : EvOk prog w C₀ K₀ m I) (h : m ≤ n) : EvOk prog w C₀ K₀ n I := fun sc ρ η e vv η' q A E s ce K μ Q r => x sc ρ η e vv η' q A E s ce K μ Q (r.less h)
theorem TrOk.less {m : Nat} (x : TrOk prog w C₀ K₀ m I) (h : m ≤ n) : TrOk prog w C₀ K₀ n I := fun sc ρ η e vv η' q A E s ce K μ Q r => x sc ρ η e vv η' q A E s ce K μ Q (r.less h)

theorem evD_ok (HI : EvOk prog w C₀ K₀ n I) {d : D} {Q : Value → Shared → Prop} (q : (evD I sc ρ η e).run = some (d, η')) (r : Room n A) (R : ER prog w C₀ K μ s.heap ce sc ρ) (S : SR prog w C₀ K μ η s.heap) (k : KK K₀ K)
    (h : HVM prog w C₀ K μ s η' d Q) : wpAny (model prog w) A (eval e ce) Q E s := by
  rw [evD, B.run_bind] at q
  obtain ⟨⟨vv, η1⟩, q1, q2⟩ := Option.bind_eq_some_iff.mp q
  rw [B.run_lift] at q2
  refine HI sc ρ η e vv η1 q1 A E s ce K μ Q r R S k fun v K' μ' h' tk g S' R' => ?_
  obtain ⟨K'', S'', z, g'⟩ := frz_ok S' R' q2
  exact h v K'' μ' h' tk (g.trans g') S'' z

theorem KK.of_gr {X : List Addr} {K' : Kn} {μ' : List Addr} {h h' : Heap} (k : KK K₀ K) (g : Gr X K μ h K' μ' h') : KK K₀ K' := k.trans g.k

/-- no starred item: what is evaluated is none -/
theorem starEach_cons {es : List Expr} (hs : ∀ x p, e ≠ .Starred x p) : starEach (e :: es) ce = (false, eval e ce) :: starEach es ce := by
  cases e <;> first | rfl | exact absurd rfl (hs _ _)
noncomputable def NoStar (I : Interp) : Prop := ∀ sc ρ η x p, I.ev sc ρ η (.Starred x p) = .fail
theorem NoStar.ne (N : NoStar I) {sc : Sc} {ρ : Rho} {η : Eta} {e : Expr} {r : VV × Eta} (q : (I.ev sc ρ η e).run = some r) : ∀ x p, e ≠ .Starred x p := by
  rintro x p rfl
  rw [N] at q; cases q

inductive VRs (prog : Program) (w : World) (C₀ : Addr) (K : Kn) (μ : List Addr) : List Value → List VV → Prop
  | nil : VRs prog w C₀ K μ [] []
  | cons {v : Value} {vv : VV} {vs : List Value} {vvs : List VV} : VR prog w C₀ K μ v vv → VRs prog w C₀ K μ vs vvs → VRs prog w C₀ K μ (v :: vs) (vv :: vvs)
theorem VRs.length {vs : List Value} {vvs : List VV} (x : VRs prog w C₀ K μ vs vvs) : vs.length = vvs.length := by
  induction x with
  | nil => rfl
  | cons _ _ ih => rw [List.length_cons, List.length_cons, ih]

theorem evVs_ok (HI : EvOk prog w C₀ K₀ n I) (N : NoStar I) {pos : Pos} : ∀ (es : List Expr) {η η' : Eta} {vvs : List VV} {K : Kn} {μ : List Addr} {s : Shared} {Q : List Value → Shared → Prop}, (evVs I sc ρ η es).run = some (vvs, η') →
    Room n A → ER prog w C₀ K μ s.heap ce sc ρ → SR prog w C₀ K μ η s.heap → KK K₀ K →
    (∀ vs K' μ' h' tk, Gr [] K μ s.heap K' μ' h' → SR prog w C₀ K' μ' η' h' → VRs prog w C₀ K' μ' vs vvs → Q vs { s with heap := h', toks := tk }) → wpAny (model prog w) A (spliced (backTo pos (starEach es ce))) Q E s
  | [], η, η', vvs, K, μ, s, Q, q, r, R, S, k, h => by
    first | exact nn q | (obtain ⟨rfl, rfl, rfl⟩ := p3 q) | (obtain ⟨rfl, rfl⟩ := p2 q) | (obtain rfl := p1 q) | cases q
    exact wpAny_items_nil (h [] K μ s.heap s.toks (Gr.refl ..) S .nil)
  | e :: es, η, η', vvs, K, μ, s, Q, q, r, R, S, k, h => by
    rw [evVs, B.run_bind] at q
    obtain ⟨⟨vv, η1⟩, q1, q2⟩ := Option.bind_eq_some_iff.mp q
    refine bind_elim2 q2 fun vvs' η2 qb qc => ?_
    first | exact nn qc | (obtain ⟨rfl, rfl, rfl⟩ := p3 qc) | (obtain ⟨rfl, rfl⟩ := p2 qc) | (obtain rfl := p1 qc) | cases qc
    refine wpAny_items_cons ?_ (starEach_cons (N.ne q1))
    refine HI sc ρ η e vv η1 q1 A _ s ce K μ _ r R S k fun v K1 μ1 h1 tk1 g1 S1 R1 => ?_
    refine evVs_ok HI N es (s := { s with heap := h1, toks := tk1 }) qb r (R.grow0 g1) S1 (k.trans g1.k) fun vs K2 μ2 h2 tk2 g2 S2 R2 => ?_
    exact h _ K2 μ2 h2 tk2 (g1.trans g2) S2 (.cons (R1.grow g2) R2)

theorem evDs_ok (HI : EvOk prog w C₀ K₀ n I) (N : NoStar I) {pos : Pos} : ∀ (es : List Expr) {η η' : Eta} {ds : List D} {K : Kn} {μ : List Addr} {s : Shared} {Q : List Value → Shared → Prop}, (evDs I sc ρ η es).run = some (ds, η') →
    Room n A → ER prog w C₀ K μ s.heap ce sc ρ → SR prog w C₀ K μ η s.heap → KK K₀ K →
    (∀ vs K' μ' h' tk, Gr [] K μ s.heap K' μ' h' → SR prog w C₀ K' μ' η' h' → VA prog w C₀ K' vs ds → Q vs { s with heap := h', toks := tk }) → wpAny (model prog w) A (spliced (backTo pos (starEach es ce))) Q E s
  | [], η, η', vvs, K, μ, s, Q, q, r, R, S, k, h => by
    first | exact nn q | (obtain ⟨rfl, rfl, rfl⟩ := p3 q) | (obtain ⟨rfl, rfl⟩ := p2 q) | (obtain rfl := p1 q) | cases q
    exact wpAny_items_nil (h [] K μ s.heap s.toks (Gr.refl ..) S .nil)
  | e :: es, η, η', vvs, K, μ, s, Q, q, r, R, S, k, h => by
    rw [evDs, B.run_bind] at q
    obtain ⟨⟨vv, η1⟩, q1, q2⟩ := Option.bind_eq_some_iff.mp q
    refine bind_elim2 q2 fun vvs' η2 qb qc => ?_
    first | exact nn qc | (obtain ⟨rfl, rfl, rfl⟩ := p3 qc) | (obtain ⟨rfl, rfl⟩ := p2 qc) | (obtain rfl := p1 qc) | cases qc
    have ns : ∀ x p, e ≠ .Starred x p := by
      have q1' := q1
      rw [evD, B.run_bind] at q1'
      obtain ⟨r', q1', _⟩ := Option.bind_eq_some_iff.mp q1'
      exact N.ne q1'
    refine wpAny_items_cons ?_ (starEach_cons ns)
    refine evD_ok HI q1 r R S k fun v K1 μ1 h1 tk1 g1 S1 R1 => ?_
    refine evDs_ok HI N es (s := { s with heap := h1, toks := tk1 }) qb r (R.grow0 g1) S1 (k.trans g1.k) fun vs K2 μ2 h2 tk2 g2 S2 R2 => ?_
    exact h _ K2 μ2 h2 tk2 (g1.trans g2) S2 (.cons (R1.mono g2.k) R2)

/-! ### names -/
theorem ER.nd (R : ER prog w C₀ K μ s.heap ce sc ρ) {x : Str} {kd : NameKind} (e : ce.kindOf x = some kd) : (x == ("__debug__" : Str)) = false ∧ (x == ("__classdict__" : Str)) = false := by
  have hs : sc.lookup x ≠ none := by
    rcases R.names x with q | ⟨q, _⟩
    · rw [← q, e]; exact fun z => by cases z
    · rw [q]; exact fun z => by cases z
  constructor
  · exact beq_eq_false_iff_ne.mpr fun z => hs (z ▸ R.dbg)
  · exact beq_eq_false_iff_ne.mpr fun z => hs (z ▸ R.cdi)

theorem name_ok {x : Str} {pos : Pos} {vv : VV} {Q : Value → Shared → Prop} (R : ER prog w C₀ K μ s.heap ce sc ρ) (q : lookVV ρ x = some vv) (h : ∀ v, VR prog w C₀ K μ v vv → Q v s) : wpAny (model prog w) A (eval (.Name x pos) ce) Q E s := by
  by_cases hl : ce.kindOf x = some .local
  · obtain ⟨m, hn, hm⟩ := R.ns
    obtain ⟨v, hv, z⟩ := hm x vv q hl
    exact wpAny_Name (wpAny_loadName_local R.kind hl hn hv (h v z)) (R.nd hl).1
  · obtain ⟨hk, c, v, o, e1, e2, e3, z⟩ := R.cl x vv q hl
    rcases hk with hk | hk
    · exact wpAny_Name (wpAny_loadName_cell R.kind hk e1 ⟨o, e2, e3⟩ (h v z)) (R.nd hk).1
    · exact wpAny_Name (wpAny_loadName_free R.kind hk e1 ⟨o, e2, e3⟩ (h v z) (R.nd hk).2) (R.nd hk).1

theorem look_rset (ρ : Rho) (x y : Str) (v : VV) : lookVV (rset ρ x v) y = if y = x then some v else lookVV ρ y := by
  unfold lookVV
  induction ρ with
  | nil =>
    unfold rset
    rw [List.lookup_cons]
    by_cases h : y = x
    · rw [if_pos h, beq_iff_eq.mpr h]
    · rw [if_neg h, beq_eq_false_iff_ne.mpr h]
  | cons p r ih =>
    obtain ⟨z, u⟩ := p
    unfold rset
    by_cases hz : z = x
    · rw [if_pos hz, List.lookup_cons, List.lookup_cons]
      by_cases h : y = x
      · rw [if_pos h]
        have : (y == z) = true := beq_iff_eq.mpr (h.trans hz.symm)
        rw [this]
      · rw [if_neg h]
        have : (y == z) = false := beq_eq_false_iff_ne.mpr fun q => h (q.trans hz)
        rw [this]
    · rw [if_neg hz, List.lookup_cons, List.lookup_cons, ih]
      induction hq : y == z with
      | true =>
        have : y = z := beq_iff_eq.mp hq
        have hne : ¬ y = x := fun q => hz (this.symm.trans q)
        simp only [if_neg hne]
      | false => rfl

set_option tactic.hygienic true in
theorem store_ok {x : Str} {v : Value} {vv : VV} {Q : Unit → Shared → Prop} (R : ER prog w C₀ K μ s.heap ce sc ρ) (S : SR prog w C₀ K μ η s.heap) (hx : storable sc x = true) (z : VR prog w C₀ K μ v vv)
    (h : ∀ h' tk, Gr (own ce) K μ s.heap K μ h' → ER prog w C₀ K μ h' ce sc (rset ρ x vv) → SR prog w C₀ K μ η h' → Q () { s with heap := h', toks := tk }) : wpAny (model prog w) A (storeName ce x v) Q E s := by
  have hp : (ce.scope.kind == .class || (ce.scope.kind == .module && ce.locals != ce.globals)) = false := by rw [R.kind]; rfl
  have grow (b : Addr) (hb : b ∈ own ce) (h' : Heap) (hs : Heap.SameBut b s.heap h') (hst : ∃ o, h'.get? b = some o) : Gr (own ce) K μ s.heap K μ h' := by
    refine ⟨KK.refl K, fun _ _ e => .inl e, List.prefix_refl μ, fun _ e => .inl e, fun c o e => ?_, fun c o e _ hX => ?_⟩
    · by_cases q : c = b
      · subst q; exact hst
      · exact ⟨o, (hs.2 c q).trans e⟩
    · exact (hs.2 c fun q => hX (q ▸ hb)).trans e
  unfold storable at hx
  split at hx
  · rename_i hk
    have hl : ce.kindOf x = some .local := by
      rcases R.names x with q | ⟨q, _⟩
      · rw [q, hk]
      · rw [hk] at q; cases q
    obtain ⟨m, hn, hm⟩ := R.ns
    refine wpAny_storeName_local hl hn (fun h' hn' hs => ?_) hp
    obtain ⟨ol, _, _, hol, _⟩ := id hn'
    have G := grow ce.locals (.head _) h' hs ⟨ol, hol⟩
    refine h h' _ G ⟨R.kind, R.gl, R.bi, R.names, ⟨_, hn', fun y vy e hy => ?_⟩, fun y vy e hy => ?_, fun y c e => ?_, R.inj, R.have_, R.dbg, R.cdi, R.lk, R.lm⟩
      (S.grow (KK.refl K) (fun a o e => (hs.2 a fun q => by rw [q, R.lk] at e; cases e).trans (S.kn a o e)) (fun _ _ e => e) fun a ha o e => (hs.2 a fun q => R.lm (q ▸ ha)).trans e)
    · rw [look_rset] at e
      by_cases q : y = x
      · rw [if_pos q] at e; cases e
        exact ⟨v, if_pos q, z⟩
      · rw [if_neg q] at e
        obtain ⟨u, hu, t⟩ := hm y vy e hy
        exact ⟨u, (if_neg q).trans hu, t⟩
    · rw [look_rset] at e
      by_cases q : y = x
      · exact (hy (q ▸ hl)).elim
      · rw [if_neg q] at e
        obtain ⟨hk', c, u, o, e1, e2, e3, t⟩ := R.cl y vy e hy
        exact ⟨hk', c, u, o, e1, (hs.2 c (R.cells y c e1).2.2.2).trans e2, e3, t⟩
    · obtain ⟨⟨o, u, e1, e2⟩, c2, c3, c4⟩ := R.cells y c e
      exact ⟨⟨o, u, (hs.2 c c4).trans e1, e2⟩, c2, c3, c4⟩
  · rename_i hk
    have hl : ce.kindOf x = some .cell := by
      rcases R.names x with q | ⟨q, _⟩
      · rw [q, hk]
      · rw [hk] at q; cases q
    obtain ⟨c, hc⟩ := R.have_ x hk
    obtain ⟨⟨o, u, e1, e2⟩, c2, c3, c4⟩ := R.cells x c hc
    refine wpAny_storeName_cell R.kind hl hc ⟨o, e1, e2⟩ fun h' hv hs => ?_
    obtain ⟨o', ho', hd'⟩ := hv
    have G := grow c (own_cell hc) h' hs ⟨o', ho'⟩
    obtain ⟨m, hn, hm⟩ := R.ns
    refine h h' _ G ⟨R.kind, R.gl, R.bi, R.names, ⟨m, hn.sameBut hs (Ne.symm c4), fun y vy e hy => ?_⟩, fun y vy e hy => ?_, fun y c' e => ?_, R.inj, R.have_, R.dbg, R.cdi, R.lk, R.lm⟩
      (S.grow (KK.refl K) (fun a o e => (hs.2 a fun q => by rw [q, c2] at e; cases e).trans (S.kn a o e)) (fun _ _ e => e) fun a ha o e => (hs.2 a fun q => c3 (q ▸ ha)).trans e)
    · rw [look_rset] at e
      by_cases q : y = x
      · rw [q, hl] at hy; cases hy
      · rw [if_neg q] at e; exact hm y vy e hy
    · rw [look_rset] at e
      by_cases q : y = x
      · rw [if_pos q] at e; cases e
        exact ⟨.inl (q ▸ hl), c, v, o', q ▸ hc, ho', hd', z⟩
      · rw [if_neg q] at e
        obtain ⟨hk', c', u', o'', e1', e2', e3', t⟩ := R.cl y vy e hy
        exact ⟨hk', c', u', o'', e1', (hs.2 c' fun z => q (R.inj y x c' e1' (z ▸ hc))).trans e2', e3', t⟩
    · by_cases q : c' = c
      · subst q
        exact ⟨⟨o', _, ho', hd'⟩, c2, c3, c4⟩
      · obtain ⟨⟨o'', u'', e1', e2'⟩, d2, d3, d4⟩ := R.cells y c' e
        exact ⟨⟨o'', u'', (hs.2 c' q).trans e1', e2'⟩, d2, d3, d4⟩
  · cases hx
end
end Mine
end
section
namespace Mine
set_option tactic.hygienic false
open PySem PySem.W PyProof.Rows PySem.Spec

section
variable {prog : Program} {w : World} {C₀ : Addr} {K₀ K : Kn} {n : Nat} {η η' : Eta} {A : Around} {E : Value → Shared → Prop} {s : Shared} {μ : List Addr}

theorem isSame_false {v : Value} (hb : ∀ id, v ≠ .builtin id) : isSame v (.bool false) = pure (v == .bool false) := by cases v <;> first | rfl | exact absurd rfl (hb _)
theorem V.no_builtin {v : Value} {d : D} (x : V prog w C₀ K v d) : ∀ id, v ≠ .builtin id := by cases x <;> (intro id e; cases e)

theorem V.int_of {v : Value} {i : Int} (x : V prog w C₀ K v (.int i)) : ∃ t, v = .int i t := by cases x; exact ⟨_, rfl⟩
theorem V.bool_of {v : Value} {b : Bool} (x : V prog w C₀ K v (.bool b)) : v = .bool b := by cases x; rfl
theorem V.str_of {v : Value} {b : Str} (x : V prog w C₀ K v (.str b)) : ∃ t, v = .str b t := by cases x; exact ⟨_, rfl⟩
theorem V.tup_of {v : Value} {ds : List D} (x : V prog w C₀ K v (.tup ds)) : ∃ a o vs n, v = .ref a ∧ K a = some o ∧ o.cls = .type "tuple" ∧ o.data = .seq vs n ∧ VA prog w C₀ K vs.toList ds ∧ ds.length ≤ 4000 := by
  cases x; exact ⟨_, _, _, _, rfl, by assumption, by assumption, by assumption, by assumption, by assumption⟩
theorem V.lst_of {v : Value} {ds : List D} (x : V prog w C₀ K v (.lst ds)) : ∃ a vs n, v = .ref a ∧ K a = some (listOf vs n) ∧ VA prog w C₀ K vs.toList ds ∧ ds.length ≤ 4000 := by
  cases x; exact ⟨_, _, _, rfl, by assumption, by assumption, by assumption⟩

/-- a fresh tuple -/
theorem newTuple_ok {vs : List Value} {ds : List D} {Q : Value → Shared → Prop} (S : SR prog w C₀ K μ η s.heap) (r : VA prog w C₀ K vs ds) (hl : ds.length ≤ 4000)
    (h : ∀ v K' h', Gr [] K μ s.heap K' μ h' → SR prog w C₀ K' μ η h' → V prog w C₀ K' v (.tup ds) → Q v { s with heap := h' }) : wpAny (model prog w) A (newTuple vs) Q E s := by
  have hv := r.length
  obtain ⟨S', G⟩ := alloc_ok S ({ cls := .type "tuple", data := .seq vs.toArray } : Obj) rfl
  refine wpAny_newObj_type (h _ _ _ G S' (.tup Kset.same rfl rfl (by simpa using r.mono G.k) hl)) ?_
  show vs.toArray.size ≤ sizeLine
  rw [List.size_toArray, hv]
  exact Nat.le_trans hl (by decide)
theorem newList_ok {vs : List Value} {ds : List D} {Q : Value → Shared → Prop} (S : SR prog w C₀ K μ η s.heap) (r : VA prog w C₀ K vs ds) (hl : ds.length ≤ 4000)
    (h : ∀ v K' h', Gr [] K μ s.heap K' μ h' → SR prog w C₀ K' μ η h' → V prog w C₀ K' v (.lst ds) → Q v { s with heap := h' }) : wpAny (model prog w) A (newList vs) Q E s := by
  have hv := r.length
  obtain ⟨S', G⟩ := alloc_ok S (listOf vs.toArray 0) rfl
  refine wpAny_newObj_type (h _ _ _ G S' (.lst Kset.same (by simpa using r.mono G.k) hl)) ?_
  show vs.toArray.size ≤ sizeLine
  rw [List.size_toArray, hv]
  exact Nat.le_trans hl (by decide)

theorem bothI_elim {a b d : D} {f : Int × Int → Option D} {va vb : Value} {P : Value → Value → Prop} (q : ((bothI a b).bind f) = some d) (x : V prog w C₀ K va a) (y : V prog w C₀ K vb b) (h : ∀ i j t u, f (i, j) = some d → P (.int i t) (.int j u)) : P va vb := by
  obtain ⟨p, q0, q1⟩ := Option.bind_eq_some_iff.mp q
  obtain ⟨e1, e2⟩ := bothI_is q0
  rw [e1] at x
  rw [e2] at y
  obtain ⟨t, e3⟩ := x.int_of
  obtain ⟨u, e4⟩ := y.int_of
  rw [e3, e4]
  exact h _ _ t u q1
theorem some_if {α : Type} {c : Prop} [Decidable c] {a b : α} (q : (if c then some a else none) = some b) : c ∧ b = a := by
  by_cases h : c
  · rw [if_pos h] at q
    exact ⟨h, (Option.some.inj q).symm⟩
  · rw [if_neg h] at q
    exact nn q
theorem ne_of_len {vs : Array Value} {x : D} {xs : List D} (n : vs.toList.length = (x :: xs).length) : ¬ vs.isEmpty = true := by
  intro z
  rw [Array.isEmpty_iff.mp z] at n
  cases n
theorem cat_size {vs us : Array Value} {x y : D} {xs ys : List D} (n1 : vs.toList.length = (x :: xs).length) (n2 : us.toList.length = (y :: ys).length) (hb : xs.length ≤ 1000 ∧ ys.length ≤ 1000) : vs.size + us.size ≤ sizeLine := by
  simp only [Array.length_toList, List.length_cons] at n1 n2
  have : sizeLine = 16777216 := by decide
  omega
theorem cat_len {x y : D} {xs ys : List D} (hb : xs.length ≤ 1000 ∧ ys.length ≤ 1000) : ((x :: xs) ++ (y :: ys)).length ≤ 4000 := by
  simp only [List.length_append, List.length_cons]
  omega
theorem cat_ok {xs ys : List D} {d : D} {va vb : Value} {Q : Value → Shared → Prop} (q : catD xs ys = some d) (x : V prog w C₀ K va (.tup xs)) (y : V prog w C₀ K vb (.tup ys)) (S : SR prog w C₀ K μ η s.heap)
    (h : HV prog w C₀ K μ s η d Q) : wpAny (model prog w) A (binaryOp .Add va vb) Q E s := by
  obtain ⟨a, o, vs, k, ea, e1, e2, e3, r1, l1⟩ := x.tup_of
  obtain ⟨b, o', us, k', eb, f1, f2, f3, r2, l2⟩ := y.tup_of
  rw [ea, eb]
  clear x y ea eb l1 l2
  cases xs with
  | nil => exact nn q
  | cons x0 xs =>
  cases ys with
  | nil => exact nn q
  | cons y0 ys =>
  obtain ⟨hb, rfl⟩ := some_if q
  clear q
  obtain ⟨c1, dd1, data1, sl1⟩ := o
  obtain ⟨c2, dd2, data2, sl2⟩ := o'
  simp only at e2 e3 f2 f3
  subst e2 e3 f2 f3
  have g1 := S.kn _ _ e1
  have g2 := S.kn _ _ f1
  obtain ⟨S', G⟩ := alloc_ok S ({ cls := .type "tuple", data := .seq (vs ++ us) } : Obj) rfl
  refine concat_meets ⟨_, g1, rfl⟩ ⟨_, g2, rfl⟩ noFill_tuple_add seq_tuple_add PySem.F.slot_tuple_add PySem.F.entry_tuple_add (PySem.F.args_tuple_add_2 _ _)
    (tuple_addW2 a b vs us k k' dd1 dd2 sl1 sl2 (ne_of_len r1.length) (ne_of_len r2.length) (cat_size r1.length r2.length hb)) ⟨g1, g2, ?_⟩
  exact h _ _ _ _ G S' (.tup Kset.same rfl rfl (by rw [Array.toList_append]; exact (r1.append r2).mono G.k) (cat_len hb))
theorem binop_ok {op : Operator} {a b d : D} {va vb : Value} {Q : Value → Shared → Prop} (q : binop op a b = some d) (x : V prog w C₀ K va a) (y : V prog w C₀ K vb b) (S : SR prog w C₀ K μ η s.heap)
    (h : HV prog w C₀ K μ s η d Q) : wpAny (model prog w) A (binaryOp op va vb) Q E s := by
  have fin : ∀ (i : Int) (tk : Nat), d = .int i → Q (.int i s.toks) { s with toks := tk } := fun i tk e => h _ K s.heap tk (Gr.refl ..) S (e ▸ .int i _)
  cases op with
  | Add =>
    rcases addD_is q with ⟨i, j, rfl, rfl, e⟩ | ⟨xs, ys, rfl, rfl, q⟩
    · obtain ⟨t, rfl⟩ := x.int_of
      obtain ⟨u, rfl⟩ := y.int_of
      exact add_int (fin _ _ e)
    · exact cat_ok q x y S h
  | Sub =>
    refine bothI_elim (P := fun va vb => wpAny (model prog w) A (binaryOp .Sub va vb) Q E s) q x y fun i j t u q => sub_int (fin _ _ (Option.some.inj q).symm)
  | Mult =>
    refine bothI_elim (P := fun va vb => wpAny (model prog w) A (binaryOp .Mult va vb) Q E s) q x y fun i j t u q => ?_
    have q := some_if q
    exact mul_int (fin _ _ q.2) (.of_left (intBits_le_64 (by omega) (by omega)))
  | Mod =>
    refine bothI_elim (P := fun va vb => wpAny (model prog w) A (binaryOp .Mod va vb) Q E s) q x y fun i j t u q => ?_
    have q := some_if q
    refine mod_int (by omega) ?_
    rw [Int.fmod_eq_emod_of_nonneg _ (by omega)]
    exact fin _ _ q.2
  | Pow =>
    refine bothI_elim (P := fun va vb => wpAny (model prog w) A (binaryOp .Pow va vb) Q E s) q x y fun i j t u q => ?_
    obtain ⟨⟨e, h1, h2⟩, q⟩ := some_if q
    rw [show i = 3 from e]
    refine pow_int h1 ?_ (fin _ _ q)
    have : Builtin.Int.intBits 3 = 2 := by decide
    rw [this]
    have : (2 : Int) ^ 27 = 134217728 := by decide
    omega
  | _ => exact nn q

/-! ### comparisons -/
theorem units64 (r : Room (n + 1) A) {da db : PyData} (h : da.depth ≤ 60) : A.units + min da.depth db.depth < cLine := by
  have h2 : min da.depth db.depth ≤ da.depth := Nat.min_le_left _ _
  have := r.un
  have : cLine = 9900 := rfl
  omega
theorem okPy_iff {p : PyData} : okPy p = true ↔ p.canLay0 = true ∧ p.depth ≤ 60 := by unfold okPy; rw [Bool.and_eq_true, decide_eq_true_eq]

set_option tactic.hygienic true in
theorem pyEq_ok {a b : D} {va vb : Value} {c : Bool} (q : pyEq a b = some c) (x : V prog w C₀ K va a) (y : V prog w C₀ K vb b) (kl : Kle K s.heap) :
    ∃ da db as bs, Reads s.heap va da as ∧ Reads s.heap vb db bs ∧ da.canLay0 = true ∧ db.canLay0 = true ∧ da.depth ≤ 60 ∧ c = PyData.eqv da db := by
  unfold pyEq at q
  split at q
  · rename_i h1 h2
    rw [okPy_iff] at h1 h2
    first | exact nn q | (obtain ⟨rfl, rfl, rfl⟩ := p3 q) | (obtain ⟨rfl, rfl⟩ := p2 q) | (obtain rfl := p1 q) | cases q
    obtain ⟨as, r1⟩ := x.reads kl h1.1
    obtain ⟨bs, r2⟩ := y.reads kl h2.1
    exact ⟨_, _, as, bs, r1, r2, h1.1, h2.1, h1.2, rfl⟩
  · first | exact nn q | (obtain ⟨rfl, rfl, rfl⟩ := p3 q) | (obtain ⟨rfl, rfl⟩ := p2 q) | (obtain rfl := p1 q) | cases q

set_option tactic.hygienic true in
theorem V.none_of {v : Value} (x : V prog w C₀ K v .none) : v = .none := by cases x; rfl
theorem is_none_ok {a : D} {va : Value} {c : Bool} (x : V prog w C₀ K va a) (q : isWhat a .none = some c) : (va == .none) = c := by cases x <;> exact Option.some.inj q
theorem is_false_ok {a : D} {va : Value} {c : Bool} (x : V prog w C₀ K va a) (q : isWhat a (.bool false) = some c) : (va == .bool false) = c := by
  cases x with
  | bool b => cases b <;> exact Option.some.inj q
  | _ => exact Option.some.inj q
theorem is_ok {a b : D} {va vb : Value} {c : Bool} (q : isWhat a b = some c) (x : V prog w C₀ K va a) (y : V prog w C₀ K vb b) : isSame va vb = pure c := by
  cases b with
  | none => rw [y.none_of, isSame_none, is_none_ok x q]
  | bool b =>
    cases b with
    | true => exact nn q
    | false => rw [y.bool_of, isSame_false x.no_builtin, is_false_ok x q]
  | _ => exact nn q

theorem lt_elim {a b : D} {c : Bool} {va vb : Value} {P : Value → Value → Prop} (q : ltD a b = some c) (x : V prog w C₀ K va a) (y : V prog w C₀ K vb b) (h : ∀ i j t u, decide (i < j) = c → P (.int i t) (.int j u)) : P va vb := by
  cases a with
  | int i =>
    cases b with
    | int j =>
      obtain ⟨t, e1⟩ := x.int_of
      obtain ⟨u, e2⟩ := y.int_of
      rw [e1, e2]
      exact h i j t u (Option.some.inj q)
    | _ => exact nn q
  | _ => exact nn q
theorem le_elim {a b : D} {c : Bool} {va vb : Value} {P : Value → Value → Prop} (q : leD a b = some c) (x : V prog w C₀ K va a) (y : V prog w C₀ K vb b) (h : ∀ i j t u, decide (i ≤ j) = c → P (.int i t) (.int j u)) : P va vb := by
  cases a with
  | int i =>
    cases b with
    | int j =>
      obtain ⟨t, e1⟩ := x.int_of
      obtain ⟨u, e2⟩ := y.int_of
      rw [e1, e2]
      exact h i j t u (Option.some.inj q)
    | _ => exact nn q
  | _ => exact nn q
theorem cmpD_ok {op : CmpOp} {a b : D} {va vb : Value} {c : Bool} {Q : Value → Shared → Prop} (q : cmpD op a b = some c) (r : Room (n + 1) A) (x : V prog w C₀ K va a) (y : V prog w C₀ K vb b) (S : SR prog w C₀ K μ η s.heap)
    (h : Q (.bool c) s) : wpAny (model prog w) A (compareOp op va vb) Q E s := by
  cases op with
  | Eq =>
    obtain ⟨da, db, as, bs, r1, r2, c1, c2, dd, e⟩ := pyEq_ok q x y S.kn
    exact SeqAt.compareEq_reads r1 r2 c1 c2 (units64 r dd) (e ▸ h)
  | NotEq =>
    obtain ⟨c', z, rfl⟩ := Option.map_eq_some_iff.mp q
    obtain ⟨da, db, as, bs, r1, r2, c1, c2, dd, e⟩ := pyEq_ok z x y S.kn
    exact SeqAt.compareNe_reads r1 r2 c1 c2 (units64 r dd) (e ▸ h)
  | Lt => exact lt_elim (P := fun va vb => wpAny (model prog w) A (compareOp .Lt va vb) Q E s) q x y fun i j t u e => lt_int (e ▸ h)
  | LtE => exact le_elim (P := fun va vb => wpAny (model prog w) A (compareOp .LtE va vb) Q E s) q x y fun i j t u e => le_int (e ▸ h)
  | Gt => exact lt_elim (P := fun vb va => wpAny (model prog w) A (compareOp .Gt va vb) Q E s) q y x fun i j t u e => gt_int (e ▸ h)
  | GtE => exact le_elim (P := fun vb va => wpAny (model prog w) A (compareOp .GtE va vb) Q E s) q y x fun i j t u e => ge_int (e ▸ h)
  | Is =>
    show wpAny _ A (do return .bool (← isSame va vb)) Q E s
    rw [is_ok q x y]
    exact wpAny_bind (wpAny_pure (wpAny_pure h))
  | IsNot =>
    obtain ⟨c', z, rfl⟩ := Option.map_eq_some_iff.mp q
    show wpAny _ A (do return .bool (!(← isSame va vb))) Q E s
    rw [is_ok z x y]
    exact wpAny_bind (wpAny_pure (wpAny_pure h))
  | _ => exact nn q

theorem valueAt_set (ks : List Int) (i : Int) : (valueAt (setPairs ks) i).isSome = ks.contains i := by
  induction ks with
  | nil => rfl
  | cons k ks ih =>
    unfold valueAt setPairs at *
    simp only [List.map_cons, List.find?_cons, List.contains_cons]
    by_cases q : k = i
    · subst q; simp
    · have : (k == i) = false := beq_eq_false_iff_ne.mpr q
      have h2 : (i == k) = false := beq_eq_false_iff_ne.mpr (Ne.symm q)
      simp only [decide_eq_false q, h2, Bool.false_or] at *
      simpa using ih

set_option tactic.hygienic true in
theorem inList_ok {a : D} {ds : List D} {c : Bool} {va : Value} {vs : List Value} (q : inList a ds = some c) (x : V prog w C₀ K va a) (y : VA prog w C₀ K vs ds) (kl : Kle K s.heap) :
    ∃ da as bs, Reads s.heap va da as ∧ ReadsAll s.heap vs (toPys ds) bs ∧ da.canLay0 = true ∧ PyData.canLayAll0 (toPys ds) = true ∧ da.depth ≤ 60 ∧ c = (toPys ds).any fun y => PyData.eqv y da := by
  unfold inList at q
  split at q
  · rename_i h1 h2
    rw [okPy_iff] at h1 h2
    first | exact nn q | (obtain ⟨rfl, rfl, rfl⟩ := p3 q) | (obtain ⟨rfl, rfl⟩ := p2 q) | (obtain rfl := p1 q) | cases q
    have h3 : PyData.canLayAll0 (toPys ds) = true := by simpa [PyData.canLay0] using h2.1
    obtain ⟨as, r1⟩ := x.reads kl h1.1
    obtain ⟨bs, r2⟩ := y.reads kl h3
    exact ⟨_, as, bs, r1, r2, h1.1, h3, h1.2, rfl⟩
  · first | exact nn q | (obtain ⟨rfl, rfl, rfl⟩ := p3 q) | (obtain ⟨rfl, rfl⟩ := p2 q) | (obtain rfl := p1 q) | cases q

theorem units65 (r : Room (n + 1) A) {a b : Nat} (h : b ≤ 60) : A.units + 1 + min a b < cLine := by
  have h2 : min a b ≤ b := Nat.min_le_right _ _
  have := r.un
  have : cLine = 9900 := rfl
  omega

theorem inTup_ok {a : D} {ds : List D} {c : Bool} {va vr : Value} {Q : Value → Shared → Prop} (q : inList a ds = some c) (r : Room (n + 1) A) (x : V prog w C₀ K va a) (y : V prog w C₀ K vr (.tup ds)) (S : SR prog w C₀ K μ η s.heap) (neg : Bool)
    (h : Q (.bool (if neg then !c else c)) s) : wpAny (model prog w) A (compareOp (if neg then .NotIn else .In) va vr) Q E s := by
  obtain ⟨a, o, vs, k, rfl, e1, e2, e3, r1, l1⟩ := y.tup_of
  obtain ⟨da, as, bs, h1, h2, c1, c2, dd, e⟩ := inList_ok q x r1 S.kn
  have rc : Reads s.heap (.ref a) (.tuple (toPys ds)) bs := .tuple (S.kn _ _ e1) e2 e3 h2
  subst e
  cases neg
  · exact SeqAt.in_tuple_reads rc h1 c2 c1 (units65 r dd) h
  · exact SeqAt.notIn_tuple_reads rc h1 c2 c1 (units65 r dd) h
theorem inLst_ok {a : D} {ds : List D} {c : Bool} {va : Value} {ar : Addr} {vs : Array Value} {k : Nat} {Q : Value → Shared → Prop} (q : inList a ds = some c) (r : Room (n + 1) A) (x : V prog w C₀ K va a) (hg : s.heap.get? ar = some (listOf vs k)) (r1 : VA prog w C₀ K vs.toList ds) (S : SR prog w C₀ K μ η s.heap) (neg : Bool)
    (h : Q (.bool (if neg then !c else c)) s) : wpAny (model prog w) A (compareOp (if neg then .NotIn else .In) va (.ref ar)) Q E s := by
  obtain ⟨da, as, bs, h1, h2, c1, c2, dd, e⟩ := inList_ok q x r1 S.kn
  have rc : Reads s.heap (.ref ar) (.list (toPys ds)) (ar :: bs) := .list hg rfl rfl h2
  subst e
  cases neg
  · exact SeqAt.in_list_reads rc h1 c2 c1 (units65 r dd) h
  · exact SeqAt.notIn_list_reads rc h1 c2 c1 (units65 r dd) h
theorem inSet_ok {i : Int} {ks : List Int} {va : Value} {ar : Addr} {o : Obj} {Q : Value → Shared → Prop} (x : V prog w C₀ K va (.int i)) (hg : s.heap.get? ar = some o) (hs : (ar == sysModules) = false) (hd : o.IsDictOf (intKind prog w) (setPairs ks)) (neg : Bool)
    (h : ∀ tk, Q (.bool (if neg then !(ks.contains i) else ks.contains i)) { s with toks := tk }) : wpAny (model prog w) A (compareOp (if neg then .NotIn else .In) va (.ref ar)) Q E s := by
  obtain ⟨t, rfl⟩ := x.int_of
  have hm : s.heap.DictOf (intKind prog w) ar (setPairs ks) := Heap.dictOf_iff.mpr ⟨o, hg, hd⟩
  have hv := valueAt_set ks i
  cases neg
  · exact wpAny_in_of (intKind_is prog w i t) hs hm.mapOf (by rw [hv]; exact h _)
  · exact wpAny_notIn_of (intKind_is prog w i t) hs hm.mapOf (by rw [hv]; exact h _)

set_option tactic.hygienic true in
theorem VR.d_of {v : Value} {x : D} (y : VR prog w C₀ K μ v (.d x)) : V prog w C₀ K v x := by cases y; assumption
theorem VR.h_of {v : Value} {m : Nat} (y : VR prog w C₀ K μ v (.h m)) : ∃ a, v = .ref a ∧ μ[m]? = some a := by cases y; exact ⟨_, rfl, by assumption⟩
theorem OR.hl_of {h : Heap} {a : Addr} {ds : List D} (y : OR prog w C₀ K μ h a (.hl ds)) : ∃ vs k, h.get? a = some (listOf vs k) ∧ VA prog w C₀ K vs.toList ds := by cases y; exact ⟨_, _, by assumption, by assumption⟩
theorem OR.hs_of {h : Heap} {a : Addr} {ks : List Int} (y : OR prog w C₀ K μ h a (.hs ks)) : ∃ o, h.get? a = some o ∧ (a == sysModules) = false ∧ o.IsDictOf (intKind prog w) (setPairs ks) := by cases y; exact ⟨_, by assumption, by assumption, by assumption⟩
theorem inWhat_ok {a : D} {rr : VV} {c : Bool} {va vr : Value} {Q : Value → Shared → Prop} (q : inWhat rr η a = some c) (r : Room (n + 1) A) (x : V prog w C₀ K va a) (y : VR prog w C₀ K μ vr rr) (S : SR prog w C₀ K μ η s.heap) (neg : Bool)
    (h : ∀ tk, Q (.bool (if neg then !c else c)) { s with toks := tk }) : wpAny (model prog w) A (compareOp (if neg then .NotIn else .In) va vr) Q E s := by
  cases rr with
  | d d =>
    have y := y.d_of
    cases d with
    | tup ds => exact inTup_ok q r x y S neg (h _)
    | lst ds =>
      obtain ⟨ar, vs, k, e, e1, r1, l1⟩ := y.lst_of
      rw [e]
      exact inLst_ok q r x (S.kn _ _ e1) r1 S neg (h _)
    | set ks =>
      cases a with
      | int i =>
        cases y with
        | set e1 e2 e3 => exact inSet_ok x (S.kn _ _ e1) e2 e3 neg (Option.some.inj q ▸ h)
      | _ => exact nn q
    | _ => exact nn q
  | h m =>
    obtain ⟨ar, e, ha⟩ := y.h_of
    rw [e]
    unfold inWhat at q
    dsimp only at q
    cases hq : η[m]? with
    | none => rw [hq] at q; exact nn q
    | some o =>
      rw [hq] at q
      have z := S.hot _ _ _ ha hq
      cases o with
      | hl ds =>
        obtain ⟨vs, k, g, r1⟩ := z.hl_of
        exact inLst_ok q r x g r1 S neg (h _)
      | hs ks =>
        obtain ⟨o, g, e2, e3⟩ := z.hs_of
        cases a with
        | int i => exact inSet_ok x g e2 e3 neg (Option.some.inj q ▸ h)
        | _ => exact nn q
      | _ => exact nn q
end
end Mine
end
section
namespace Mine
set_option tactic.hygienic false
open PySem PySem.W PyProof.Rows PySem.Spec PySem.Calls

section
variable {prog : Program} {w : World} {C₀ : Addr} {K₀ K : Kn} {n : Nat} {η η' : Eta} {A : Around} {E : Value → Shared → Prop} {s : Shared} {μ : List Addr} {h h' : Heap}

theorem keep_ok (S : SR prog w C₀ K μ η h) (hk : ∀ b o, h.get? b = some o → h'.get? b = some o) : SR prog w C₀ K μ η h' ∧ Gr [] K μ h K μ h' :=
  ⟨skip_ok S fun b o _ e => hk b o e, KK.refl K, fun _ _ e => .inl e, List.prefix_refl μ, fun _ e => .inl e, fun b o e => ⟨o, hk b o e⟩, fun b o e _ _ => hk b o e⟩
/-- a fresh object is learnt -/
theorem learn_ok (S : SR prog w C₀ K μ η h) (hk : ∀ b o, h.get? b = some o → h'.get? b = some o) {a : Addr} {o : Obj} (hn : h.get? a = none) (ho : h'.get? a = some o) :
    SR prog w C₀ (Kset K a o) μ η h' ∧ Gr [] K μ h (Kset K a o) μ h' := by
  have kz : K a = none := by
    induction q : K a with
    | none => rfl
    | some o' => rw [S.kn _ _ q] at hn; cases hn
  have am : a ∉ μ := fun q => by obtain ⟨o', e⟩ := S.there q; rw [hn] at e; cases e
  refine ⟨S.grow (Kset.kk kz) (fun b o' q => ?_) (fun b hb q => by rw [Kset.other (fun z : b = a => am (z ▸ hb))]; exact q) fun b _ o' e => hk b o' e, Kset.kk kz, fun b o' q => ?_, List.prefix_refl μ, fun _ e => .inl e, fun b o' e => ⟨o', hk b o' e⟩, fun b o' e _ _ => hk b o' e⟩
  · by_cases z : b = a
    · subst z; rw [Kset.same] at q; cases q; exact ho
    · rw [Kset.other z] at q; exact hk _ _ (S.kn _ _ q)
  · by_cases z : b = a
    · subst z; exact .inr (.inl hn)
    · rw [Kset.other z] at q; exact .inl q

set_option tactic.hygienic true in
theorem lenOf_ok {vv : VV} {v : Value} {m : Nat} {Q : Value → Shared → Prop} (q : lenOf vv η = some m) (x : VR prog w C₀ K μ v vv) (S : SR prog w C₀ K μ η s.heap)
    (hQ : HV prog w C₀ K μ s η (.int m) Q) : wpAny (model prog w) A (call (.builtin "len") [v]) Q E s := by
  have fin : ∀ (k : Nat) (tk : Nat) (t : Tok), k = m → Q (.int (k : Int) t) { s with toks := tk } := fun k tk t e => hQ _ K s.heap tk (Gr.refl ..) S (e ▸ .int _ _)
  have fit : ∀ {vs : Array Value} {ds : List D}, VA prog w C₀ K vs.toList ds → ds.length ≤ 4000 → (vs.size : Int) < 2 ^ 63 := by
    intro vs ds r l
    have := r.length
    simp only [Array.length_toList] at this
    have : (2 : Int) ^ 63 = 9223372036854775808 := by decide
    omega
  unfold lenOf at q
  split at q
  · cases x with
    | d y =>
      obtain ⟨a, vs, k, rfl, e1, r1, l1⟩ := y.lst_of
      first | exact nn q | (obtain ⟨rfl, rfl, rfl⟩ := p3 q) | (obtain ⟨rfl, rfl⟩ := p2 q) | (obtain rfl := p1 q) | cases q
      exact call_len_list (items := vs) ⟨_, S.kn _ _ e1, rfl, k, rfl⟩ (fit r1 l1) (fin _ _ _ (by have := r1.length; simpa using this))
  · cases x with
    | d y =>
      obtain ⟨a, o, vs, k, rfl, e1, e2, e3, r1, l1⟩ := y.tup_of
      first | exact nn q | (obtain ⟨rfl, rfl, rfl⟩ := p3 q) | (obtain ⟨rfl, rfl⟩ := p2 q) | (obtain rfl := p1 q) | cases q
      exact PyProof.Rows.len_tuple (items := vs) ⟨_, S.kn _ _ e1, e2, k, e3⟩ (fit r1 l1) (fin _ _ _ (by have := r1.length; simpa using this))
  · cases x with
    | h ha =>
      split at q
      · rename_i hq
        first | exact nn q | (obtain ⟨rfl, rfl, rfl⟩ := p3 q) | (obtain ⟨rfl, rfl⟩ := p2 q) | (obtain rfl := p1 q) | cases q
        cases S.hot _ _ _ ha hq with
        | @hl vs k ds kz g r l => exact call_len_list (items := vs) ⟨_, g, rfl, k, rfl⟩ (fit r l) (fin _ _ _ (by have := r.length; simpa using this))
      · first | exact nn q | (obtain ⟨rfl, rfl, rfl⟩ := p3 q) | (obtain ⟨rfl, rfl⟩ := p2 q) | (obtain rfl := p1 q) | cases q
  · first | exact nn q | (obtain ⟨rfl, rfl, rfl⟩ := p3 q) | (obtain ⟨rfl, rfl⟩ := p2 q) | (obtain rfl := p1 q) | cases q

theorem tuple_ok {d : D} {v : Value} {ds : List D} {Q : Value → Shared → Prop} (q : short ds (.tup ds) = some d) (x : V prog w C₀ K v (.lst ds)) (S : SR prog w C₀ K μ η s.heap)
    (hQ : HV prog w C₀ K μ s η d Q) : wpAny (model prog w) A (call (.type "tuple") [v]) Q E s := by
  unfold short at q
  split at q
  · first | exact nn q | (obtain ⟨rfl, rfl, rfl⟩ := p3 q) | (obtain ⟨rfl, rfl⟩ := p2 q) | (obtain rfl := p1 q) | cases q
    obtain ⟨a, vs, k, rfl, e1, r1, l1⟩ := x.lst_of
    refine call_tuple_list (items := vs) ⟨_, S.kn _ _ e1, rfl, k, rfl⟩ (fun h' hk => ?_) ?_
    · obtain ⟨S1, G1⟩ := keep_ok S hk
      obtain ⟨S2, G2⟩ := alloc_ok S1 ({ cls := .type "tuple", data := .seq vs } : Obj) rfl
      exact hQ _ _ _ _ (G1.trans G2) S2 (.tup Kset.same rfl rfl (r1.mono G2.k) l1)
    · have := r1.length
      simp only [Array.length_toList] at this
      have : sizeLine = 16777216 := by decide
      omega
  · first | exact nn q | (obtain ⟨rfl, rfl, rfl⟩ := p3 q) | (obtain ⟨rfl, rfl⟩ := p2 q) | (obtain rfl := p1 q) | cases q

theorem list_ok {d : D} {v : Value} {ds : List D} {Q : Value → Shared → Prop} (q : short ds (.lst ds) = some d) (x : V prog w C₀ K v (.lst ds)) (S : SR prog w C₀ K μ η s.heap)
    (hQ : HV prog w C₀ K μ s η d Q) : wpAny (model prog w) A (call (.type "list") [v]) Q E s := by
  unfold short at q
  split at q
  · first | exact nn q | (obtain ⟨rfl, rfl, rfl⟩ := p3 q) | (obtain ⟨rfl, rfl⟩ := p2 q) | (obtain rfl := p1 q) | cases q
    obtain ⟨a, vs, k, rfl, e1, r1, l1⟩ := x.lst_of
    refine call_list_seq (items := vs) a (.inl rfl) (S.kn _ _ e1) rfl rfl (fun h' c' hk hD => ?_) ?_
    · obtain ⟨S1, G1⟩ := learn_ok S hk (get_size _) hD
      exact hQ _ _ _ _ G1 S1 (.lst (n := c') Kset.same (r1.mono G1.k) l1)
    · have := r1.length
      simp only [Array.length_toList] at this
      have : sizeLine = 16777216 := by decide
      omega
  · first | exact nn q | (obtain ⟨rfl, rfl, rfl⟩ := p3 q) | (obtain ⟨rfl, rfl⟩ := p2 q) | (obtain rfl := p1 q) | cases q

set_option tactic.hygienic true in
theorem min_ok {i j : Int} {v u : Value} {Q : Value → Shared → Prop} (r : Room (n + 1) A) (x : V prog w C₀ K v (.int i)) (y : V prog w C₀ K u (.int j)) (S : SR prog w C₀ K μ η s.heap)
    (hQ : HV prog w C₀ K μ s η (.int (if j < i then j else i)) Q) : wpAny (model prog w) A (call (.builtin "min") [v, u]) Q E s := by
  obtain ⟨t, rfl⟩ := x.int_of
  obtain ⟨t', rfl⟩ := y.int_of
  refine min_two_ints r.hd fun h' tk hk => ?_
  obtain ⟨S1, G1⟩ := keep_ok S hk
  split
  · rename_i hc; exact hQ _ _ _ _ G1 S1 (by rw [if_pos hc]; exact .int _ _)
  · rename_i hc; exact hQ _ _ _ _ G1 S1 (by rw [if_neg hc]; exact .int _ _)

set_option tactic.hygienic true in
theorem repr_ok {d : D} {x : Str} {v : Value} {Q : Value → Shared → Prop} (q : reprD d = some x) (y : V prog w C₀ K v d) (S : SR prog w C₀ K μ η s.heap)
    (hQ : HV prog w C₀ K μ s η (.str x) Q) : wpAny (model prog w) A (call (.builtin "repr") [v]) Q E s := by
  have fin : ∀ (k : Str) (tk : Nat) (t : Tok), k = x → Q (.str k t) { s with toks := tk } := fun k tk t e => hQ _ K s.heap tk (Gr.refl ..) S (e ▸ .str _ _)
  unfold reprD at q
  split at q
  · cases y; cases q; exact P.repr_of_none (fin _ _ _ rfl)
  · have := y.bool_of; subst this; cases q; exact P.repr_of_bool (fin _ _ _ rfl)
  · have := y.bool_of; subst this; cases q; exact P.repr_of_bool (fin _ _ _ rfl)
  · obtain ⟨t, rfl⟩ := y.int_of
    split at q
    · rename_i hi; cases q; subst hi
      exact P.repr_of_int (by decide) (fin _ _ _ (by decide))
    · split at q
      · rename_i hi; cases q; subst hi
        exact P.repr_of_int (by decide) (fin _ _ _ (by decide))
      · first | exact nn q | (obtain ⟨rfl, rfl, rfl⟩ := p3 q) | (obtain ⟨rfl, rfl⟩ := p2 q) | (obtain rfl := p1 q) | cases q
  · obtain ⟨t, rfl⟩ := y.str_of
    have key : ∀ a b : Str, reprText a = b → b.length ≤ sizeLine → b = x → wpAny (model prog w) A (call (.builtin "repr") [.str a t]) Q E s := fun a b e l e2 =>
      P.repr_of_str (fin _ _ _ (e.trans e2)) (by rw [e]; exact l)
    split at q
    · rename_i hi; cases q; subst hi
      exact key _ _ (by decide +kernel) (by decide +kernel) rfl
    · split at q
      · rename_i hi; cases q; subst hi
        exact key _ _ (by decide +kernel) (by decide +kernel) rfl
      · split at q
        · rename_i hi; cases q; subst hi
          exact key _ _ (by decide +kernel) (by decide +kernel) rfl
        · first | exact nn q | (obtain ⟨rfl, rfl, rfl⟩ := p3 q) | (obtain ⟨rfl, rfl⟩ := p2 q) | (obtain rfl := p1 q) | cases q
  · first | exact nn q | (obtain ⟨rfl, rfl, rfl⟩ := p3 q) | (obtain ⟨rfl, rfl⟩ := p2 q) | (obtain rfl := p1 q) | cases q
end
end Mine
end
section
namespace Mine
set_option tactic.hygienic false
open PySem PySem.W PyProof.Rows PySem.Spec PySem.Calls

section
variable {prog : Program} {w : World} {C₀ : Addr} {K₀ K : Kn} {n : Nat} {η η' : Eta} {A : Around} {E : Value → Shared → Prop} {s : Shared} {μ : List Addr} {h h' : Heap}

theorem VA.ints {l : List (Int × Tok)} : ∀ {ds : List D}, VA prog w C₀ K (l.map fun p => Value.int p.1 p.2) ds → ds = (l.map (·.1)).map .int := by
  induction l with
  | nil => intro ds x; cases x; rfl
  | cons p l ih =>
    intro ds x
    cases x with
    | cons a r =>
      cases a
      rw [ih r]; rfl
set_option tactic.hygienic true in
theorem sumI_ints : ∀ {ns : List Int} {t : Int}, sumI (ns.map .int) = some t → ns.sum = t ∧ ∀ x ∈ ns, x = 0 ∨ x = 1
  | [], t, q => by cases q; exact ⟨rfl, by simp⟩
  | x :: ns, t, q => by
    simp only [List.map_cons] at q
    unfold sumI at q
    split at q
    · rename_i e; cases e
    · rename_i e
      simp only [List.cons.injEq, D.int.injEq] at e
      obtain ⟨rfl, rfl⟩ := e
      obtain ⟨h1, h2⟩ := sumI_ints q
      exact ⟨by rw [List.sum_cons, h1]; omega, fun y hy => by rcases List.mem_cons.mp hy with rfl | hy; exact .inl rfl; exact h2 y hy⟩
    · rename_i e
      simp only [List.cons.injEq, D.int.injEq] at e
      obtain ⟨rfl, rfl⟩ := e
      obtain ⟨t', q', rfl⟩ := Option.map_eq_some_iff.mp q
      obtain ⟨h1, h2⟩ := sumI_ints q'
      exact ⟨by rw [List.sum_cons, h1], fun y hy => by rcases List.mem_cons.mp hy with rfl | hy; exact .inr rfl; exact h2 y hy⟩
    · first | exact nn q | (obtain ⟨rfl, rfl, rfl⟩ := p3 q) | (obtain ⟨rfl, rfl⟩ := p2 q) | (obtain rfl := p1 q) | cases q
theorem sum_small : ∀ (ns : List Int), (∀ x ∈ ns, x = 0 ∨ x = 1) → 0 ≤ ns.sum ∧ ns.sum ≤ ns.length
  | [], _ => by simp
  | x :: ns, h => by
    have := sum_small ns fun y hy => h y (.tail _ hy)
    rw [List.sum_cons, List.length_cons]
    rcases h x (.head _) with rfl | rfl <;> omega
set_option tactic.hygienic true in
theorem VA.allInts {vs : Array Value} {ds : List D} (x : VA prog w C₀ K vs.toList ds) {t : Int} (q : sumI ds = some t) : AllInts vs := by
  suffices ∀ (l : List Value) (ds : List D) (t : Int), VA prog w C₀ K l ds → sumI ds = some t → ∀ v ∈ l, ∃ a u, v = Value.int a u by
    intro v hv
    exact this _ _ _ x q v (by simpa using hv)
  intro l
  induction l with
  | nil => intro _ _ _ _ v hv; cases hv
  | cons u l ih =>
    intro ds t x q v hv
    cases x with
    | cons a r =>
      unfold sumI at q
      split at q
      · rename_i e; cases e
      · rename_i e; cases e
        rcases List.mem_cons.mp hv with rfl | hv
        · obtain ⟨z, rfl⟩ := a.int_of; exact ⟨_, _, rfl⟩
        · exact ih _ _ r q v hv
      · rename_i e; cases e
        obtain ⟨t', q', _⟩ := Option.map_eq_some_iff.mp q
        rcases List.mem_cons.mp hv with rfl | hv
        · obtain ⟨z, rfl⟩ := a.int_of; exact ⟨_, _, rfl⟩
        · exact ih _ _ r q' v hv
      · first | exact nn q | (obtain ⟨rfl, rfl, rfl⟩ := p3 q) | (obtain ⟨rfl, rfl⟩ := p2 q) | (obtain rfl := p1 q) | cases q

theorem sum_ok {t : Int} {v : Value} {ds : List D} {Q : Value → Shared → Prop} (q : sumI ds = some t) (r : Room (n + 1) A) (x : V prog w C₀ K v (.lst ds)) (S : SR prog w C₀ K μ η s.heap)
    (hQ : HV prog w C₀ K μ s η (.int t) Q) : wpAny (model prog w) A (call (.builtin "sum") [v]) Q E s := by
  obtain ⟨a, vs, k, rfl, e1, r1, l1⟩ := x.lst_of
  obtain ⟨xs, rfl⟩ := (r1.allInts q).items
  have hl : (intItems xs).toList = xs.toList.map fun p => Value.int p.1 p.2 := by simp [intItems]
  rw [hl] at r1
  have hd := r1.ints
  have hlen := r1.length
  rw [hd] at q
  obtain ⟨h1, h2⟩ := sumI_ints q
  have big : (2 : Int) ^ 63 = 9223372036854775808 := by decide
  have len : xs.size ≤ 4000 := by
    rw [List.length_map, Array.length_toList] at hlen
    omega
  have pre : ∀ j, preSum (numAt xs) j = ((xs.toList.map (·.1)).take j).sum := fun j => preSum_eq xs j
  refine sum_intList r.hd (l := a) (xs := xs) ⟨_, S.kn _ _ e1, rfl, k, rfl⟩ (fun j hj => ⟨?_, ?_⟩) fun h' tk t' hk => ?_
  · rw [numAt_eq]
    have hm : (xs.toList.map (·.1)).getD j 0 ∈ xs.toList.map (·.1) := getD_mem (by simpa using hj)
    rcases h2 _ hm with z | z <;> rw [z] <;> constructor <;> omega
  · rw [pre]
    have := sum_small ((xs.toList.map (·.1)).take (j + 1)) fun y hy => h2 y (List.mem_of_mem_take hy)
    have l2 : ((xs.toList.map (·.1)).take (j + 1)).length ≤ 4000 := by
      rw [List.length_take, List.length_map, Array.length_toList]; omega
    constructor <;> omega
  · obtain ⟨S1, G1⟩ := keep_ok S hk
    refine hQ _ _ _ _ G1 S1 ?_
    rw [pre, List.take_of_length_le (by rw [List.length_map, Array.length_toList]; exact Nat.le_refl _), h1]
    exact .int _ _
end
end Mine
end
section
namespace Mine
set_option tactic.hygienic false
open PySem PySem.W PyProof.Rows PySem.Spec PySem.Calls

section
variable {prog : Program} {w : World} {C₀ : Addr} {K₀ K : Kn} {n : Nat} {η η' : Eta} {A : Around} {E : Value → Shared → Prop} {s : Shared} {μ : List Addr} {h h' : Heap} {I : Interp} {sc : Sc} {ρ : Rho} {ce : Env}

theorem seqIndex_nat {k n : Nat} (h : k < n) : seqIndex? (k : Int) n = some k := by
  unfold seqIndex?
  have h1 : ¬ ((k : Int) < 0) := by omega
  have h2 : (decide ((0 : Int) ≤ (k : Int)) && decide ((k : Int) < (n : Int))) = true := by
    rw [Bool.and_eq_true, decide_eq_true_eq, decide_eq_true_eq]; omega
  simp only [h1, if_false, h2, if_true, Int.toNat_natCast]

theorem nth_some {ds : List D} {i : Int} {d : D} (q : nth ds i = some d) : ∃ k : Nat, i = (k : Int) ∧ ds[k]? = some d := by
  unfold nth at q
  split at q
  · exact ⟨_, rfl, q⟩
  · first | exact nn q | (obtain ⟨rfl, rfl, rfl⟩ := p3 q) | (obtain ⟨rfl, rfl⟩ := p2 q) | (obtain rfl := p1 q) | cases q

/-- what an index that is no slice asks -/
noncomputable def NoSlice (e : Expr) : Prop := ∀ a b c p, e ≠ .Slice a b c p
theorem NoSlice.sub {e : Expr} (x : NoSlice e) (o i : Value) : subscripted e false o i = operate [o, i] (getItem o i) := by
  cases e <;> first | rfl | exact absurd rfl (x _ _ _ _)

theorem big63 : (2 : Int) ^ 63 = 9223372036854775808 := by decide

set_option tactic.hygienic true in
theorem item_ok {o : VV} {i : D} {vv : VV} {vo vi : Value} {value slice : Expr} {Q : Value → Shared → Prop} (q : itemOf o i η = some vv) (x : VR prog w C₀ K μ vo o) (y : V prog w C₀ K vi i) (S : SR prog w C₀ K μ η s.heap) (ns : NoSlice slice)
    (hQ : ∀ v tk, VR prog w C₀ K μ v vv → Q v { s with toks := tk }) : wpAny (model prog w) A (subscriptTail value slice vo vi) Q E s := by
  have num : ∀ {a : Addr} {ds : List D} {k : Int} {d : D} {t : Tok} {vs : Array Value}, VA prog w C₀ K vs.toList ds → ds.length ≤ 4000 → nth ds k = some d →
      ∃ (j : Nat) (v : Value), k = (j : Int) ∧ j < vs.size ∧ vs[j]? = some v ∧ V prog w C₀ K v d ∧ (j : Int) < 2 ^ 63 := by
    intro a ds k d t vs r l e
    obtain ⟨j, rfl, hj⟩ := nth_some e
    obtain ⟨v, hv, z⟩ := r.get hj
    have : j < vs.toList.length := (List.getElem?_eq_some_iff.mp hv).1
    have h2 := r.length
    rw [Array.length_toList] at this h2
    exact ⟨j, v, rfl, this, by simpa using hv, z, by rw [big63]; omega⟩
  have lst : ∀ {a : Addr} {ds : List D} {k : Int} {d : D} {t : Tok} {vs : Array Value} {ep : Nat}, s.heap.get? a = some (listOf vs ep) → VA prog w C₀ K vs.toList ds → ds.length ≤ 4000 → nth ds k = some d → vv = .d d →
      wpAny (model prog w) A (subscriptTail value slice (.ref a) (.int k t)) Q E s := by
    intro a ds k d t vs ep g r l e hv
    obtain ⟨j, v, rfl, hj, hvj, z, hb⟩ := num (a := a) (t := t) r l e
    have hl : s.heap.IsList a vs := ⟨_, g, rfl, ep, rfl⟩
    refine tail_any hl.typeIs slot_list_getitem.lookup (wpAny_getItem_list (x := v) hl (by omega) hb (by rw [Int.toNat_natCast]; exact hvj) ?_) (ns.sub _ _)
    exact hQ v s.toks (hv ▸ .d z)
  unfold itemOf at q
  split at q
  · cases x with
    | d x =>
      obtain ⟨t, rfl⟩ := y.int_of
      obtain ⟨a, ob, vs, ep, rfl, e1, e2, e3, r1, l1⟩ := x.tup_of
      obtain ⟨d, e, rfl⟩ := Option.map_eq_some_iff.mp q
      obtain ⟨j, v, rfl, hj, hvj, z, hb⟩ := num (a := a) (t := t) r1 l1 e
      have ht : IsTup s.heap a vs := ⟨_, S.kn _ _ e1, e2, ep, e3⟩
      exact tail_any ht.typeIs slot_tuple_getitem.lookup (PyProof.Rows.getItem_tuple (x := v) ht (by rw [big63]; omega) hb (seqIndex_nat hj) hvj (hQ v s.toks (.d z))) (ns.sub _ _)
  · cases x with
    | d x =>
      obtain ⟨t, rfl⟩ := y.int_of
      obtain ⟨a, vs, ep, rfl, e1, r1, l1⟩ := x.lst_of
      obtain ⟨d, e, rfl⟩ := Option.map_eq_some_iff.mp q
      exact lst (S.kn _ _ e1) r1 l1 e rfl
  · cases x with
    | h ha =>
      obtain ⟨t, rfl⟩ := y.int_of
      split at q
      · rename_i hq
        obtain ⟨d, e, rfl⟩ := Option.map_eq_some_iff.mp q
        cases S.hot _ _ _ ha hq with
        | hl _ g r l => exact lst g r l e rfl
      · first | exact nn q | (obtain ⟨rfl, rfl, rfl⟩ := p3 q) | (obtain ⟨rfl, rfl⟩ := p2 q) | (obtain rfl := p1 q) | cases q
  · cases x with
    | @h nn ar ha =>
      obtain ⟨t, rfl⟩ := y.str_of
      split at q
      · rename_i hq
        cases S.hot _ _ _ ha hq with
        | @hw l tt al at' vt o tape kz m1 m2 g sm vtp dd =>
          have hm : s.heap.DictOf (strKind prog w) _ _ := Heap.dictOf_iff.mpr ⟨o, g, dd⟩
          have go : ∀ {x : Str} {u : Value}, valueAt (K := Str) [(Str.ofString "log", Value.ref al), (Str.ofString "temps", .ref at'), (Str.ofString "tape", vt)] x = some u → VR prog w C₀ K μ u vv → wpAny (model prog w) A (subscriptTail value slice (.ref ar) (.str x t)) Q E s := by
            intro x u hv hu
            exact tail_any hm.mapOf.typeIs slot_dict_getitem.lookup (wpAny_getItem_of (strKind_is prog w x t) hm.mapOf hv (hQ u _ hu)) (ns.sub _ _)
          split at q
          · rename_i e; subst e; cases q
            exact go (by kernel_rfl) (.h m1)
          · split at q
            · rename_i e; subst e; cases q
              exact go (by kernel_rfl) (.h m2)
            · split at q
              · rename_i e; subst e; cases q
                exact go (by kernel_rfl) (.d vtp)
              · first | exact nn q | (obtain ⟨rfl, rfl, rfl⟩ := p3 q) | (obtain ⟨rfl, rfl⟩ := p2 q) | (obtain rfl := p1 q) | cases q
      · first | exact nn q | (obtain ⟨rfl, rfl, rfl⟩ := p3 q) | (obtain ⟨rfl, rfl⟩ := p2 q) | (obtain rfl := p1 q) | cases q
  · first | exact nn q | (obtain ⟨rfl, rfl, rfl⟩ := p3 q) | (obtain ⟨rfl, rfl⟩ := p2 q) | (obtain rfl := p1 q) | cases q
end
end Mine
end
section
namespace Mine
set_option tactic.hygienic false
open PySem PySem.W PyProof.Rows PySem.Spec PySem.Calls

section
variable {prog : Program} {w : World} {C₀ : Addr} {K₀ K : Kn} {n : Nat} {η η' : Eta} {A : Around} {E : Value → Shared → Prop} {s : Shared} {μ : List Addr} {h h' : Heap} {I : Interp} {sc : Sc} {ρ : Rho} {ce : Env}

noncomputable abbrev sliceObj (l u st : Value) : Obj := { cls := .type "slice", data := .fields #[l, u, st] }

theorem applied_upto4 {sl : Addr} {u : Tok} {Q : Int × Int × Nat → Shared → Prop} (hs : s.heap.IsSliceOf sl .none (.int 4 u) .none) (hQ : Q (0, 1, 4) s) :
    wpAny (model prog w) A (Builtin.Slice.sliceApplied (.ref sl) (pure (5 : Int))) Q E s := by
  obtain ⟨os, hos, hcs, hds⟩ := id hs
  unfold Builtin.Slice.sliceApplied Builtin.Slice.sliceFields
  refine wpAny_bind (wpAny_bind (wpAny_field hos hds (x := .none) rfl (wpAny_bind (wpAny_field hos hds (x := .int 4 u) rfl (wpAny_bind (wpAny_field hos hds (x := .none) rfl (wpAny_pure ?_)))))))
  refine wpAny_bind (slicePart_none ?_)
  show wpAny _ _ (if ((1 : Int) == 0) = true then _ else _) _ _ s
  rw [if_neg (by decide)]
  refine wpAny_bind (slicePart_none (wpAny_bind (slicePart_int (wpAny_bind (wpAny_pure ?_)))))
  exact wpAny_pure hQ

theorem getItem_tup4 {t sl : Addr} {a b c d e : Value} {u : Tok} {Q : Value → Shared → Prop} (ht : IsTup s.heap t #[a, b, c, d, e]) (hs : s.heap.IsSliceOf sl .none (.int 4 u) .none)
    (hQ : Q (.ref s.heap.objs.size) { s with heap := s.heap.push { cls := .type "tuple", data := .seq #[a, b, c, d] } }) : wpAny (model prog w) A (getItem (.ref t) (.ref sl)) Q E s := by
  obtain ⟨os, hos, hcs, hds⟩ := id hs
  have hTs : s.TypeIs (.ref sl) "slice" := ⟨os, hos, hcs⟩
  unfold getItem
  try with_reducible refine wpAny_holding ?_
  first | refine wpAny_bind (wpAny_pure ?_) | skip
  refine wpAny_bind (wpAny_sequenceKey ht.typeIs (by decide) ?_)
  refine wpAny_bind (wpAny_callSpecial?_slot (name := Str.ofString "__getitem__") ht.typeIs slot_tuple_getitem
    (wpAny_call_entry slot_tuple_getitem ht.typeIs entry_tuple_getitem ?_ (args_tuple_getitem _ _)))
  show wpAny _ _ (Builtin.Tuple.tupleItemsOf (.ref t) >>= _) _ _ s
  refine wpAny_bind (tupleItemsOf_ ht ?_)
  refine wpAny_bind (wpAny_typeOf hTs ?_)
  rw [if_pos (by decide)]
  refine wpAny_bind (applied_upto4 hs ?_)
  show wpAny _ _ (if ((0 : Int) == 0 && (1 : Int) == 1 && (4 : Nat) == 5) = true then _ else _) _ _ s
  rw [if_neg (by decide)]
  have e1 : ((List.range 4).filterMap fun (k : Nat) => (#[a, b, c, d, e] : Array Value)[((0 : Int) + (k : Int) * 1).toNat]?).toArray = #[a, b, c, d] := by
    simp [List.range_succ]
  show wpAny _ _ (Builtin.Tuple.tupleExact ((List.range 4).filterMap fun (k : Nat) => (#[a, b, c, d, e] : Array Value)[((0 : Int) + (k : Int) * 1).toNat]?).toArray >>= _) _ _ s
  rw [e1]
  exact wpAny_bind (m := Builtin.Tuple.tupleExact _) (wpAny_newObj_type (wpAny_pure ⟨_, rfl, wpAny_pure hQ⟩) (by show (4 : Nat) ≤ sizeLine; decide))

set_option tactic.hygienic true in
theorem cut_ok {o d : D} {i : D} {vo vi : Value} {e value : Expr} {p : Pos} {Q : Value → Shared → Prop} (q : cutOf o i = some d) (x : V prog w C₀ K vo o) (y : V prog w C₀ K vi i) (S : SR prog w C₀ K μ η s.heap)
    (hQ : HV prog w C₀ K μ s η d Q) :
    wpAny (model prog w) A (subscriptTail value (.Slice none (some e) none p) vo (.ref s.heap.objs.size)) Q E { s with heap := s.heap.push (sliceObj .none vi .none) } := by
  obtain ⟨S1, G1⟩ := keep_ok (h' := s.heap.push (sliceObj .none vi .none)) S fun b o' z => Heap.get?_push_of_some _ z
  have hsl : (s.heap.push (sliceObj .none vi .none)).IsSliceOf s.heap.objs.size .none vi .none := Heap.IsSliceOf.new ..
  have hs : ∀ v, subscripted (.Slice none (some e) none p) false v (.ref s.heap.objs.size) = operate [.ref s.heap.objs.size, v] (getItem v (.ref s.heap.objs.size)) := fun v => rfl
  cases o with
  | lst ds =>
    obtain ⟨k, q0, q'⟩ := Option.bind_eq_some_iff.mp q
    clear q
    obtain rfl := natOf_is q0
    have q := q'
    first | exact nn q | (obtain ⟨rfl, rfl, rfl⟩ := p3 q) | (obtain ⟨rfl, rfl⟩ := p2 q) | (obtain rfl := p1 q) | cases q
    obtain ⟨t, rfl⟩ := y.int_of
    obtain ⟨a, vs, ep, rfl, e1, r1, l1⟩ := x.lst_of
    have hl : (s.heap.push (sliceObj .none (.int (Int.ofNat k) t) .none)).IsList a vs := ⟨_, Heap.get?_push_of_some _ (S.kn _ _ e1), rfl, ep, rfl⟩
    refine tail_any (Heap.IsList.typeIs (s := { s with heap := s.heap.push (sliceObj .none (.int (Int.ofNat k) t) .none) }) hl) slot_list_getitem.lookup (wpAny_getItem_list_slice (s := { s with heap := s.heap.push (sliceObj .none (.int (Int.ofNat k) t) .none) }) hl hsl .none (.int _ _) .none (by simp) ?_ ?_) (hs _)
    · obtain ⟨S2, G2⟩ := alloc_ok S1 ({ cls := .type "list", data := .seq (slicePick vs none (some (Int.ofNat k)) none) } : Obj) rfl
      refine hQ _ _ _ _ (G1.trans G2) S2 (.lst (n := 0) Kset.same ?_ (by rw [List.length_take]; omega))
      have hp : (slicePick vs none (some (Int.ofNat k)) none).toList = vs.toList.take k := by
        rw [show (Int.ofNat k) = (k : Int) from rfl, slicePick_upto']
      rw [hp]
      exact (r1.mono G2.k).take k
    · have := r1.length
      rw [Array.length_toList] at this
      have : sizeLine = 16777216 := by decide
      omega
  | tup ds =>
    obtain ⟨a, b, c, d', e5, hds⟩ : ∃ a b c d' e5, ds = [a, b, c, d', e5] := by
      unfold cutOf at q
      dsimp only at q
      split at q
      · exact ⟨_, _, _, _, _, rfl⟩
      · exact nn q
    subst hds
    induction hf : isFour i with
    | false =>
      have q : (match isFour i with | true => some (D.tup [a, b, c, d']) | false => none) = some d := q
      rw [hf] at q
      exact nn q
    | true =>
    have q : (match isFour i with | true => some (D.tup [a, b, c, d']) | false => none) = some d := q
    rw [hf] at q
    obtain rfl := isFour_is hf
    first | exact nn q | (obtain ⟨rfl, rfl, rfl⟩ := p3 q) | (obtain ⟨rfl, rfl⟩ := p2 q) | (obtain rfl := p1 q) | cases q
    obtain ⟨t, rfl⟩ := y.int_of
    obtain ⟨ad, ob, vs, ep, rfl, e1, e2, e3, r1, l1⟩ := x.tup_of
    obtain ⟨lv⟩ := vs
    cases r1 with
    | cons p1 r1 => cases r1 with
      | cons p2 r1 => cases r1 with
        | cons p3 r1 => cases r1 with
          | cons p4 r1 => cases r1 with
            | cons p5 r1 =>
              cases r1
              have ht : IsTup (s.heap.push (sliceObj .none (.int 4 t) .none)) ad _ := ⟨_, Heap.get?_push_of_some _ (S.kn _ _ e1), e2, ep, e3⟩
              refine tail_any (IsTup.typeIs (s := { s with heap := s.heap.push (sliceObj .none (.int 4 t) .none) }) ht) slot_tuple_getitem.lookup (getItem_tup4 (s := { s with heap := s.heap.push (sliceObj .none (.int 4 t) .none) }) ht hsl ?_) (hs _)
              obtain ⟨S2, G2⟩ := alloc_ok S1 ({ cls := .type "tuple", data := .seq #[_, _, _, _] } : Obj) rfl
              exact hQ _ _ _ _ (G1.trans G2) S2 (.tup Kset.same rfl rfl (.cons (p1.mono G2.k) (.cons (p2.mono G2.k) (.cons (p3.mono G2.k) (.cons (p4.mono G2.k) .nil)))) (by simp))
  | str xs =>
    obtain ⟨k, q0, q'⟩ := Option.bind_eq_some_iff.mp q
    clear q
    obtain rfl := natOf_is q0
    have q := q'
    split at q
    · rename_i hx
      first | exact nn q | (obtain ⟨rfl, rfl, rfl⟩ := p3 q) | (obtain ⟨rfl, rfl⟩ := p2 q) | (obtain rfl := p1 q) | cases q
      obtain ⟨t, rfl⟩ := y.int_of
      obtain ⟨u, rfl⟩ := x.str_of
      have hx2 : xs.length ≤ sizeLine := Nat.le_trans hx (by decide)
      refine tail_any (typeIs_str _ xs u) F.slot_str_getitem.lookup (wpAny_getItem_str_slice (s := { s with heap := s.heap.push (sliceObj .none (.int (Int.ofNat k) t) .none) }) (l := none) (u := some ((k : Int), t)) (st := none) ⟨_, Heap.get?_push_size _ rfl, rfl, rfl⟩ rfl ?_) (hs _)
      have len := Txt.slice_le xs none (some (k : Int))
      unfold sliceMade
      split
      · rename_i hc
        refine hQ _ K _ _ G1 S1 ?_
        have : Txt.slice xs none (some (k : Int)) = xs := by
          unfold Txt.slice
          exact if_pos hc
        rw [this]
        exact .str _ _
      · rename_i hc
        have : Txt.slice xs none (some (k : Int)) = ⟨((slicePicked xs none (some ((k : Int), t)) none).filterMap (xs.cps[·]?)).toArray⟩ := by
          unfold Txt.slice
          exact if_neg hc
        rw [← this]
        exact ⟨by omega, hQ _ K _ _ G1 S1 (.str _ _)⟩
    · first | exact nn q | (obtain ⟨rfl, rfl, rfl⟩ := p3 q) | (obtain ⟨rfl, rfl⟩ := p2 q) | (obtain rfl := p1 q) | cases q
  | _ => exact nn q
end
end Mine
end
section
namespace Mine
set_option tactic.hygienic false
open PySem PySem.W PyProof.Rows PySem.Spec PySem.Calls

section
variable {prog : Program} {w : World} {C₀ : Addr} {K₀ K : Kn} {n : Nat} {η η' : Eta} {A : Around} {E : Value → Shared → Prop} {s : Shared} {μ : List Addr} {h h' : Heap} {I : Interp} {sc : Sc} {ρ : Rho} {ce : Env}

theorem rev_ok {o d : D} {vo : Value} {e value : Expr} {p : Pos} {t : Tok} {Q : Value → Shared → Prop} (q : revOf o = some d) (x : V prog w C₀ K vo o) (S : SR prog w C₀ K μ η s.heap)
    (hQ : HV prog w C₀ K μ s η d Q) :
    wpAny (model prog w) A (subscriptTail value (.Slice none none (some e) p) vo (.ref s.heap.objs.size)) Q E { s with heap := s.heap.push (sliceObj .none .none (.int (-1) t)) } := by
  obtain ⟨S1, G1⟩ := keep_ok (h' := s.heap.push (sliceObj .none .none (.int (-1) t))) S fun b o' z => Heap.get?_push_of_some _ z
  have hsl : (s.heap.push (sliceObj .none .none (.int (-1) t))).IsSliceOf s.heap.objs.size .none .none (.int (-1) t) := Heap.IsSliceOf.new ..
  unfold revOf at q
  split at q
  · first | exact nn q | (obtain ⟨rfl, rfl, rfl⟩ := p3 q) | (obtain ⟨rfl, rfl⟩ := p2 q) | (obtain rfl := p1 q) | cases q
    obtain ⟨a, vs, ep, rfl, e1, r1, l1⟩ := x.lst_of
    have hl : (s.heap.push (sliceObj .none .none (.int (-1) t))).IsList a vs := ⟨_, Heap.get?_push_of_some _ (S.kn _ _ e1), rfl, ep, rfl⟩
    refine tail_any (ops := [.ref a, .ref s.heap.objs.size]) (Heap.IsList.typeIs (s := { s with heap := s.heap.push (sliceObj .none .none (.int (-1) t)) }) hl) slot_list_getitem.lookup (wpAny_getItem_list_slice (s := { s with heap := s.heap.push (sliceObj .none .none (.int (-1) t)) }) hl hsl .none .none (.int _ _) (by simp) ?_ ?_) rfl
    · obtain ⟨S2, G2⟩ := alloc_ok S1 ({ cls := .type "list", data := .seq (slicePick vs none none (some (-1))) } : Obj) rfl
      refine hQ _ _ _ _ (G1.trans G2) S2 (.lst (n := 0) Kset.same ?_ (by rw [List.length_reverse]; exact l1))
      have hp : (slicePick vs none none (some (-1))).toList = vs.toList.reverse := by rw [krv_pick]
      rw [hp]
      exact (r1.mono G2.k).reverse
    · have := r1.length
      rw [Array.length_toList] at this
      have : sizeLine = 16777216 := by decide
      omega
  · first | exact nn q | (obtain ⟨rfl, rfl, rfl⟩ := p3 q) | (obtain ⟨rfl, rfl⟩ := p2 q) | (obtain rfl := p1 q) | cases q

theorem minusOne_ok {e : Expr} {Q : Value → Shared → Prop} (q : isMinusOne e = true) (hQ : ∀ t tk, Q (.int (-1) t) { s with toks := tk }) : wpAny (model prog w) A (eval e ce) Q E s := by
  obtain ⟨k, p1, p2, rfl⟩ := isMinusOne_is q
  exact wpAny_UnaryOp (wpAny_Constant_int (PyProof.Rows.neg_int (hQ _ _)))

set_option tactic.hygienic true in
theorem sub_ok (HI : EvOk prog w C₀ K₀ n I) {o sl : Expr} {pos : Pos} {vv : VV} {Q : Value → Shared → Prop} (q : (evSub I sc ρ η o sl).run = some (vv, η')) (r : Room n A) (R : ER prog w C₀ K μ s.heap ce sc ρ) (S : SR prog w C₀ K μ η s.heap) (k : KK K₀ K)
    (hQ : HVR prog w C₀ K μ s η' vv Q) : wpAny (model prog w) A (eval (.Subscript o sl pos) ce) Q E s := by
  rw [evSub, B.run_bind] at q
  obtain ⟨⟨vo, η1⟩, q1, q2⟩ := Option.bind_eq_some_iff.mp q
  refine Subscript_ (HI sc ρ η o vo η1 q1 A E s ce K μ _ r R S k fun v1 K1 μ1 h1 tk1 g1 S1 R1 => ?_)
  dsimp only at q2
  split at q2
  · rename_i e _
    refine bind_elim2 q2 fun d1 η2 q3 q4 => ?_
    rw [B.run_lift] at q3
    refine bind_elim2 q4 fun d2 η3 q5 q6 => ?_
    refine lift_elim q6 fun d3 q7 q8 => ?_
    first | exact nn q8 | (obtain ⟨rfl, rfl, rfl⟩ := p3 q8) | (obtain ⟨rfl, rfl⟩ := p2 q8) | (obtain rfl := p1 q8) | cases q8
    obtain ⟨K2, S2, z2, g2⟩ := frz_ok S1 R1 q3
    refine wpAny_Slice ?_
    rw [evalPart_none]
    refine wpAny_pure ?_
    rw [evalPart_some]
    refine evD_ok (s := { s with heap := h1, toks := tk1 }) HI q5 r (R.grow0 (g1.trans g2)) S2 (k.trans (g1.trans g2).k) fun v3 K3 μ3 h3 tk3 g3 S3 z3 => ?_
    refine wpAny_pure ?_
    refine cut_ok (s := { s with heap := h3, toks := tk3 }) q7 (z2.mono g3.k) z3 S3 fun v4 K4 h4 tk4 g4 S4 z4 => ?_
    exact hQ _ _ _ _ _ ((g1.trans g2).trans (g3.trans g4)) S4 (.d z4)
  · rename_i e _
    split at q2
    · rename_i hm
      refine bind_elim2 q2 fun d1 η2 q3 q4 => ?_
      rw [B.run_lift] at q3
      refine lift_elim q4 fun d3 q7 q8 => ?_
      first | exact nn q8 | (obtain ⟨rfl, rfl, rfl⟩ := p3 q8) | (obtain ⟨rfl, rfl⟩ := p2 q8) | (obtain rfl := p1 q8) | cases q8
      obtain ⟨K2, S2, z2, g2⟩ := frz_ok S1 R1 q3
      refine wpAny_Slice ?_
      rw [evalPart_none]
      refine wpAny_pure (wpAny_pure ?_)
      rw [evalPart_some]
      refine minusOne_ok hm fun t tk => ?_
      refine rev_ok (s := { s with heap := h1, toks := tk }) q7 z2 S2 fun v4 K4 h4 tk4 g4 S4 z4 => ?_
      exact hQ _ _ _ _ _ ((g1.trans g2).trans g4) S4 (.d z4)
    · first | exact nn q2 | (obtain ⟨rfl, rfl, rfl⟩ := p3 q2) | (obtain ⟨rfl, rfl⟩ := p2 q2) | (obtain rfl := p1 q2) | cases q2
  · first | exact nn q2 | (obtain ⟨rfl, rfl, rfl⟩ := p3 q2) | (obtain ⟨rfl, rfl⟩ := p2 q2) | (obtain rfl := p1 q2) | cases q2
  · rename_i hn1 hn2 hn3
    refine bind_elim2 q2 fun d1 η2 q3 q4 => ?_
    refine lift_elim q4 fun vv' q7 q8 => ?_
    first | exact nn q8 | (obtain ⟨rfl, rfl, rfl⟩ := p3 q8) | (obtain ⟨rfl, rfl⟩ := p2 q8) | (obtain rfl := p1 q8) | cases q8
    refine evD_ok (s := { s with heap := h1, toks := tk1 }) HI q3 r (R.grow0 g1) S1 (k.trans g1.k) fun v3 K3 μ3 h3 tk3 g3 S3 z3 => ?_
    refine item_ok (s := { s with heap := h3, toks := tk3 }) q7 (R1.grow g3) z3 S3 (fun a b c p e => hn3 _ _ _ _ e) fun v tk z => ?_
    exact hQ _ _ _ _ _ (g1.trans g3) S3 z
end
end Mine
end
section
namespace Mine
set_option tactic.hygienic false
open PySem PySem.W PyProof.Rows PySem.Spec PySem.Calls

section
variable {prog : Program} {w : World} {C₀ : Addr} {K₀ K : Kn} {n : Nat} {η η' : Eta} {A : Around} {E : Value → Shared → Prop} {s : Shared} {μ : List Addr} {h h' : Heap} {I : Interp} {sc : Sc} {ρ : Rho} {ce : Env}

theorem hotset_ok (S : SR prog w C₀ K μ η h) {i : Nat} {a : Addr} {o' : HO} (ha : μ[i]? = some a) (kz : K a = none) (hs : Heap.SameBut a h h') (x : OR prog w C₀ K μ h' a o') (hst : ∃ o, h'.get? a = some o) :
    SR prog w C₀ K μ (η.set i o') h' ∧ Gr [] K μ h K μ h' := by
  have am : a ∈ μ := List.mem_of_getElem? ha
  refine ⟨S.put ha (KK.refl K) (fun b o e => (hs.2 b fun q => by rw [q, kz] at e; cases e).trans (S.kn b o e)) (fun _ _ _ e => e) (fun b _ hb o e => (hs.2 b hb).trans e) x, KK.refl K, fun _ _ e => .inl e, List.prefix_refl μ, fun _ e => .inl e, fun b o e => ?_, fun b o e hb _ => (hs.2 b fun q => hb (q ▸ am)).trans e⟩
  by_cases q : b = a
  · subst q; exact hst
  · exact ⟨o, (hs.2 b q).trans e⟩

theorem stored_set (ks : List Int) (k : Int) : stored (setPairs ks) k (Value.bool true) = setPairs (insKey ks k) := by
  have hc : ((setPairs ks).any fun kv => decide (kv.1 = k)) = ks.contains k := by
    unfold setPairs
    induction ks with
    | nil => rfl
    | cons x ks ih =>
      rw [List.map_cons, List.any_cons, List.contains_cons, ih]
      congr 1
      by_cases q : x = k
      · subst q; simp
      · have : (k == x) = false := beq_eq_false_iff_ne.mpr (Ne.symm q)
        simp [q, this]
  unfold stored insKey
  rw [hc]
  split
  · unfold setPairs
    rw [List.map_map]
    apply List.map_congr_left
    intro x _
    simp
  · unfold setPairs
    simp

set_option tactic.hygienic true in
theorem setItem_ok {o : VV} {i d : D} {vo vi vd : Value} {Q : Unit → Shared → Prop} (q : setItem o i d η = some η') (x : VR prog w C₀ K μ vo o) (y : V prog w C₀ K vi i) (z : V prog w C₀ K vd d) (S : SR prog w C₀ K μ η s.heap)
    (hQ : ∀ h' tk, Gr [] K μ s.heap K μ h' → SR prog w C₀ K μ η' h' → Q () { s with heap := h', toks := tk }) : wpAny (model prog w) A (PySem.setItem vo vi vd) Q E s := by
  unfold setItem at q
  split at q
  · cases x with
    | @h nn ar ha =>
      split at q
      · rename_i ds k hq
        split at q
        · rename_i hk
          first | exact nn q | (obtain ⟨rfl, rfl, rfl⟩ := p3 q) | (obtain ⟨rfl, rfl⟩ := p2 q) | (obtain rfl := p1 q) | cases q
          obtain ⟨t, rfl⟩ := y.int_of
          cases S.hot _ _ _ ha hq with
          | @hl vs ep ds kz g r l =>
            have hsz : k < vs.size := by
              have := r.length
              rw [Array.length_toList] at this
              omega
            refine ki_setAt g (by exact Int.natCast_nonneg k) (by rw [big63]; show (k : Int) < _; omega) (by show (k : Int) < _; omega) ?_
            have hg := Heap.get?_update_self (h := s.heap) (a := ar) (Obj.mapSeq (·.setIfInBounds k vd)) g rfl
            obtain ⟨S1, G1⟩ := hotset_ok (h' := s.heap.update ar (Obj.mapSeq (·.setIfInBounds k vd))) (o' := .hl (ds.set k d)) S ha kz (Heap.SameBut.update ..)
              (.hl kz hg (by rw [Array.toList_setIfInBounds]; exact r.set k z) (by rw [List.length_set]; exact l)) ⟨_, hg⟩
            exact hQ _ _ G1 S1
        · first | exact nn q | (obtain ⟨rfl, rfl, rfl⟩ := p3 q) | (obtain ⟨rfl, rfl⟩ := p2 q) | (obtain rfl := p1 q) | cases q
      · rename_i ks k hq
        split at q
        · split at q
          · rename_i hl
            first | exact nn q | (obtain ⟨rfl, rfl, rfl⟩ := p3 q) | (obtain ⟨rfl, rfl⟩ := p2 q) | (obtain rfl := p1 q) | cases q
            obtain ⟨t, rfl⟩ := y.int_of
            have := z.bool_of; subst this
            cases S.hot _ _ _ ha hq with
            | @hs ob ks kz g sm dd =>
              refine wpAny_setItem_pairs (knd := intKind prog w) (kvs := setPairs ks) (intKind_is prog w k t) (Heap.dictOf_iff.mpr ⟨ob, g, dd⟩) (fun h' hd hs => ?_) ?_
              · rw [stored_set] at hd
                obtain ⟨o', ho', hd'⟩ := Heap.dictOf_iff.mp hd
                obtain ⟨S1, G1⟩ := hotset_ok (o' := .hs (insKey ks k)) S ha kz hs (.hs kz ho' sm hd') ⟨_, ho'⟩
                exact hQ _ _ G1 S1
              · unfold setPairs
                rw [List.length_map]
                exact Nat.le_trans hl (by decide)
          · first | exact nn q | (obtain ⟨rfl, rfl, rfl⟩ := p3 q) | (obtain ⟨rfl, rfl⟩ := p2 q) | (obtain rfl := p1 q) | cases q
        · first | exact nn q | (obtain ⟨rfl, rfl, rfl⟩ := p3 q) | (obtain ⟨rfl, rfl⟩ := p2 q) | (obtain rfl := p1 q) | cases q
      · first | exact nn q | (obtain ⟨rfl, rfl, rfl⟩ := p3 q) | (obtain ⟨rfl, rfl⟩ := p2 q) | (obtain rfl := p1 q) | cases q
  · first | exact nn q | (obtain ⟨rfl, rfl, rfl⟩ := p3 q) | (obtain ⟨rfl, rfl⟩ := p2 q) | (obtain rfl := p1 q) | cases q

theorem append_ok {vd : Value} {ar : Addr} {nn : Nat} {ds : List D} {d : D} {Q : Value → Shared → Prop} (ha : μ[nn]? = some ar) (hq : η[nn]? = some (.hl ds)) (hl : ds.length ≤ 1000) (z : V prog w C₀ K vd d) (S : SR prog w C₀ K μ η s.heap)
    (hQ : ∀ h' tk, Gr [] K μ s.heap K μ h' → SR prog w C₀ K μ (η.set nn (.hl (ds ++ [d]))) h' → Q .none { s with heap := h', toks := tk }) : wpAny (model prog w) A (call (.builtin "list.append") [.ref ar, vd]) Q E s := by
  cases S.hot _ _ _ ha hq with
  | @hl vs ep ds kz g r l =>
    have hsz : vs.size = ds.length := by
      have := r.length
      rwa [Array.length_toList] at this
    refine wpAny_list_append_plain (items := vs) ⟨ep, g⟩ (fun h' hp hs => ?_) ?_
    · obtain ⟨ep', hg⟩ := hp
      obtain ⟨S1, G1⟩ := hotset_ok (o' := .hl (ds ++ [d])) S ha kz hs (.hl (n := ep') kz hg (by rw [Array.toList_push]; exact r.append (.cons z .nil)) (by rw [List.length_append]; simp; omega)) ⟨_, hg⟩
      exact hQ _ _ G1 S1
    · rw [hsz]; exact Nat.le_trans hl (by decide)

theorem extend_ok {vd : Value} {ar : Addr} {nn : Nat} {ds es : List D} {Q : Value → Shared → Prop} (ha : μ[nn]? = some ar) (hq : η[nn]? = some (.hl ds)) (hl : ds.length ≤ 1000) (hl2 : es.length ≤ 1000) (z : V prog w C₀ K vd (.lst es)) (S : SR prog w C₀ K μ η s.heap)
    (hQ : ∀ h' tk, Gr [] K μ s.heap K μ h' → SR prog w C₀ K μ (η.set nn (.hl (ds ++ es))) h' → Q .none { s with heap := h', toks := tk }) : wpAny (model prog w) A (call (.builtin "list.extend") [.ref ar, vd]) Q E s := by
  cases S.hot _ _ _ ha hq with
  | @hl vs ep ds kz g r l =>
    obtain ⟨b, us, ep2, rfl, e1, r2, l2⟩ := z.lst_of
    have hsz : vs.size = ds.length := by
      have := r.length
      rwa [Array.length_toList] at this
    have hsz2 : us.size = es.length := by
      have := r2.length
      rwa [Array.length_toList] at this
    have line : sizeLine = 16777216 := by decide
    refine call_meets PySem.F.slot_list_extend ⟨_, g, rfl⟩ PySem.F.entry_list_extend (PySem.F.args_list_extend_2 _ _) (AutoSeq1.list_extend_list_list_0 ar vs ep b us ep2 ?_ (by omega) (by omega)) ⟨g, S.kn _ _ e1, ?_⟩
    · intro hb
      rw [Bool.and_eq_true] at hb
      have := hb.2
      unfold Builtin.List.listTooLong at this
      simp at this
      omega
    · have hg := Heap.get?_update_self (h := s.heap) (a := ar) (Obj.mapSeq fun x => x ++ us) g rfl
      obtain ⟨S1, G1⟩ := hotset_ok (h' := s.heap.update ar (Obj.mapSeq fun x => x ++ us)) (o' := .hl (ds ++ es)) S ha kz (Heap.SameBut.update ..)
        (.hl kz hg (by rw [Array.toList_append]; exact r.append r2) (by rw [List.length_append]; omega)) ⟨_, hg⟩
      exact hQ _ _ G1 S1
end
end Mine
end
section
namespace Mine
set_option tactic.hygienic false
open PySem PySem.W PyProof.Rows PySem.Spec PySem.Calls

/-! ## Entering a def -/
theorem lookup_zip_some : ∀ {ps : List Str} {vs : List Value}, vs.length = ps.length → ∀ x ∈ ps, ((ps.zip vs).lookup x).isSome = true
  | [], _, _, _, h => by cases h
  | p :: ps, [], h, _, _ => by cases h
  | p :: ps, v :: vs, h, x, hx => by
    rw [List.zip_cons_cons, List.lookup_cons]
    induction q : x == p with
    | true => rfl
    | false =>
      rcases List.mem_cons.mp hx with rfl | hx
      · rw [beq_self_eq_true] at q; cases q
      · exact lookup_zip_some (by simpa using h) x hx
theorem filterMap_zip : ∀ {ps : List Str} {vs : List Value}, vs.length = ps.length → ps.Nodup → (ps.filterMap fun n => ((ps.zip vs).lookup n).map (n, ·)) = ps.zip vs
  | [], _, _, _ => by simp
  | p :: ps, [], h, _ => by cases h
  | p :: ps, v :: vs, h, hn => by
    obtain ⟨h1, h2⟩ := List.nodup_cons.mp hn
    have ih := filterMap_zip (ps := ps) (vs := vs) (by simpa using h) h2
    have cong : ∀ l : List Str, (∀ x ∈ l, x ≠ p) → (l.filterMap fun n => (((p, v) :: ps.zip vs).lookup n).map (n, ·)) = l.filterMap fun n => ((ps.zip vs).lookup n).map (n, ·) := by
      intro l
      induction l with
      | nil => intro _; rfl
      | cons y l ihl =>
        intro hl
        have hy : (y == p) = false := beq_eq_false_iff_ne.mpr (hl y (.head _))
        rw [List.filterMap_cons, List.filterMap_cons, ihl fun x hx => hl x (.tail _ hx), List.lookup_cons, hy]
    have e : ((p, v) :: ps.zip vs).lookup p = some v := by rw [List.lookup_cons, beq_self_eq_true]
    have c := (cong ps fun x hx q => h1 (q ▸ hx)).trans ih
    rw [List.zip_cons_cons, List.filterMap_cons, e, c]
    rfl

theorem iteF {α : Type} {c : Bool} {a b x : α} (h : c = false) (e : b = x) : (if c = true then a else b) = x := by
  rw [h]
  exact e
theorem skip_none {α β σ γ : Type} (l : List α) (n : Nat) (f : α × β → σ → Sem (ForInStep σ)) (x : σ) (k : σ → Sem γ) : (forIn (l.zip (List.drop n ([] : List β))) x f >>= k) = k x := by
  rw [List.drop_nil, List.zip_nil_right, List.forIn_nil, pure_bind]
theorem bind_simple {fd : FuncData} {as : List Arg} {args : List Value} (hp : fd.params = ⟨[], as, none, [], [], none, []⟩) (hd : fd.defaults = .none) (hl : args.length = (as.map (·.arg)).length) (hn : (as.map (·.arg)).Nodup) :
    bindArgs fd ⟨args, []⟩ = pure ((as.map (·.arg)).zip args) := by
  cases fd
  cases hp
  cases hd
  have e2 : ∀ n, (!((List.take n (as.map (·.arg))).filter fun n => (((as.map (·.arg)).zip args).lookup n).isNone).isEmpty) = false := by
    intro n
    rw [List.filter_eq_nil_iff.mpr]
    · rfl
    · intro x hx z
      have := lookup_zip_some hl x (List.mem_of_mem_take hx)
      rw [Option.isNone_iff_eq_none.mp z] at this
      exact ft this
  have e3 := filterMap_zip hl hn
  refine iteF (c := decide (args.length > (as.map (·.arg)).length) && true) (by rw [Bool.and_true]; exact decide_eq_false (Nat.not_lt.mpr (Nat.le_of_eq hl))) ?_
  refine iteF (e2 _) ?_
  refine Eq.trans (skip_none _ _ _ _ _) ?_
  exact congrArg (pure (f := Sem)) ((congrArg (List.filterMap _) (List.append_nil _)).trans e3)

section
variable {kindOf : Str → Option NameKind}
theorem bindL_other {x : Str} : ∀ {bs : List (Str × Value)} {m : Str → Option Value}, x ∉ bs.map (·.1) → bindL kindOf bs m x = m x
  | [], _, _ => rfl
  | (n, v) :: r, m, h => by
    unfold bindL
    rw [List.map_cons, List.mem_cons, not_or] at h
    rw [bindL_other h.2]
    split
    · exact if_neg h.1
    · rfl
theorem bindL_at {x : Str} {v : Value} (hk : kindOf x = some .local) : ∀ {bs : List (Str × Value)} {m : Str → Option Value}, (bs.map (·.1)).Nodup → bs.lookup x = some v → bindL kindOf bs m x = some v
  | [], _, _, e => by cases e
  | (n, u) :: r, m, hn, e => by
    rw [List.map_cons, List.nodup_cons] at hn
    unfold bindL
    rw [List.lookup_cons] at e
    cases q : x == n with
    | true =>
      rw [q] at e; cases e
      have := beq_iff_eq.mp q; subst this
      rw [bindL_other hn.1, if_pos hk]
      exact if_pos rfl
    | false =>
      rw [q] at e
      exact bindL_at hk hn.2 e
theorem bindC_other {x : Str} : ∀ {bs : List (Str × Value)} {m : Str → Option Value}, x ∉ bs.map (·.1) → bindC kindOf bs m x = m x
  | [], _, _ => rfl
  | (n, v) :: r, m, h => by
    unfold bindC
    rw [List.map_cons, List.mem_cons, not_or] at h
    rw [bindC_other h.2]
    split
    · rfl
    · exact if_neg h.1
theorem bindC_at {x : Str} {v : Value} (hk : kindOf x ≠ some .local) : ∀ {bs : List (Str × Value)} {m : Str → Option Value}, (bs.map (·.1)).Nodup → bs.lookup x = some v → bindC kindOf bs m x = some v
  | [], _, _, e => by cases e
  | (n, u) :: r, m, hn, e => by
    rw [List.map_cons, List.nodup_cons] at hn
    unfold bindC
    rw [List.lookup_cons] at e
    cases q : x == n with
    | true =>
      rw [q] at e; cases e
      have := beq_iff_eq.mp q; subst this
      rw [bindC_other hn.1, if_neg hk]
      exact if_pos rfl
    | false =>
      rw [q] at e
      exact bindC_at hk hn.2 e
end

section
variable {prog : Program} {w : World} {C₀ : Addr} {K₀ K : Kn} {n : Nat} {η η' : Eta} {A : Around} {E : Value → Shared → Prop} {s : Shared} {μ : List Addr} {h h' : Heap} {I : Interp} {sc : Sc} {ρ : Rho} {ce : Env}

theorem zip_keys : ∀ {ps : List Str} {vs : List Value}, vs.length = ps.length → (ps.zip vs).map (·.1) = ps
  | [], [], _ => rfl
  | [], _ :: _, h => by cases h
  | _ :: _, [], h => by cases h
  | p :: ps, v :: vs, h => by rw [List.zip_cons_cons, List.map_cons, zip_keys (by simpa using h)]

theorem VRs.look {x : Str} {vv : VV} : ∀ {ps : List Str} {vs : List Value} {vvs : List VV}, VRs prog w C₀ K μ vs vvs → lookVV (ps.zip vvs) x = some vv → ∃ v, (ps.zip vs).lookup x = some v ∧ VR prog w C₀ K μ v vv
  | [], _, _, _, e => by simp [lookVV] at e
  | p :: ps, _, _, .nil, e => by simp [lookVV] at e
  | p :: ps, _, _, .cons (v := v) (vv := u) a r, e => by
    unfold lookVV at e
    rw [List.zip_cons_cons, List.lookup_cons] at e ⊢
    induction q : x == p with
    | true => rw [q] at e; cases e; exact ⟨v, rfl, a⟩
    | false => rw [q] at e; exact VRs.look r e

theorem Gr.shrink {X : List Addr} {K' : Kn} {μ' : List Addr} {h₁ : Heap} (x : Gr X K μ h₁ K' μ' h') (hk : ∀ b o, h.get? b = some o → h₁.get? b = some o) (hX : ∀ b ∈ X, h.get? b = none) : Gr [] K μ h K' μ' h' := by
  have back : ∀ a, h₁.get? a = none → h.get? a = none := fun a e => by
    induction q : h.get? a with
    | none => rfl
    | some o => rw [hk _ _ q] at e; cases e
  refine ⟨x.k, fun a o e => ?_, x.pre, fun a e => (x.fresh a e).imp id (back a), fun a o e => x.st a o (hk a o e), fun b o e hb _ => x.fr b o (hk b o e) hb fun q => by rw [hX b q] at e; cases e⟩
  rcases x.knew a o e with z | z | z
  · exact .inl z
  · exact .inr (.inl (back a z))
  · exact .inr (.inr z)

/-- what a def of the table is in the program -/
structure FIs (p : Program) (x : Str) (f : FDef) : Prop where
  rec_ : ∃ d ∈ recsOf p, ∃ as, d.name = x ∧ d.params = ⟨[], as, none, [], [], none, []⟩ ∧ f.params = as.map (·.arg) ∧ d.body = f.body ∧ d.scope.names = f.names ∧ d.scope.kind = .function ∧ d.scope.isCoroutine = false ∧ d.scope.isGenerator = false
  nd : f.params.Nodup
  st : ∀ y ∈ f.params, storable f.names y = true
  dbg : f.names.lookup (Str.ofString "__debug__") = none
  cdi : f.names.lookup (Str.ofString "__classdict__") = none

theorem fresh_of_ge {h : Heap} {a : Addr} (e : h.objs.size ≤ a) : h.get? a = none := by
  induction q : h.get? a with
  | none => rfl
  | some o => exact absurd (Heap.lt_size q) (Nat.not_lt.mpr e)

theorem cells_have {names : Sc} {x : Str} (e : names.lookup x = some .cell) (m : Nat) : ∃ c, (cellsFrom m names []).lookup x = some c := by
  have := cellsFrom_some (x := x) names m [] (.inl e)
  induction q : (cellsFrom m names []).lookup x with
  | none => rw [q] at this; cases this
  | some c => exact ⟨c, rfl⟩

set_option tactic.hygienic true in
theorem enter_ok {p : Program} {loose : List Str} {mean : ExcName → Option Value} {mg mb : Str → Option Value} {h₀ : Heap} {x : Str} {f : FDef} (T : Top p loose mean mg mb h₀) (hK₀ : ∀ a o, h₀.get? a = some o → K₀ a = some o) (hf : FIs p x f)
    {a : Addr} (ha : mg x = some (.ref a)) {vs : List Value} {vvs : List VV} {R : Result → Shared → Prop} (r : Room (n + 3) A) (S : SR prog w C₀ K μ η s.heap) (k : KK K₀ K) (V : VRs prog w C₀ K μ vs vvs) (hl : f.params.length = vvs.length)
    (hrun : ∀ ce h₁ tk, (∀ b o, s.heap.get? b = some o → h₁.get? b = some o) → (∀ b ∈ own ce, s.heap.get? b = none) → ER prog w C₀ K μ h₁ ce f.names (f.params.zip vvs) → SR prog w C₀ K μ η h₁ → Room n (A.deeper ce) →
      ∃ E, wpAny (model prog w) (A.deeper ce) (execs f.body ce) (fun fl s' => R (.ok (.ret (match fl with | .ret v => v | _ => .none))) s') E { s with heap := h₁, toks := tk } ∧ ∀ e s', E e s' → False) :
    codeAny (model prog w) A (.call (.ref a) ⟨vs, []⟩) R s := by
  obtain ⟨d, hd, as, hx, hp, hps, hb, hn, hk, hco, hgen⟩ := hf.rec_
  obtain ⟨a', o, pm, code, doc, e1, e2, e3, e4⟩ := T.fn d hd
  rw [hx] at e1
  rw [ha] at e1; cases e1
  have up : ∀ b o, h₀.get? b = some o → s.heap.get? b = some o := fun b o e => S.kn b o (k b o (hK₀ b o e))
  have hlen : vs.length = (as.map (·.arg)).length := by rw [V.length, ← hl, hps]
  have hroom : A.depth < recursionLimit := by
    have := r.dp
    have : recursionLimit = 1000 := rfl
    omega
  refine codeAny_call_function hroom (up _ _ e2) e3 hco hgen rfl (e4.keeps up) ?_
  rw [bind_simple hp rfl hlen (by rw [← hps]; exact hf.nd), ← hps]
  refine wpAny_pure (wpAny_newFunctionEnv_cells hk ?_ fun env he s' X => ?_)
  · intro y hy
    have hm : y.1 ∈ f.params := by
      have : y.1 ∈ (f.params.zip vs).map (·.1) := List.mem_map.mpr ⟨y, hy, rfl⟩
      rwa [zip_keys (by rw [V.length, hl])] at this
    have hs := hf.st _ hm
    unfold storable at hs
    show d.scope.names.lookup y.1 = some .local ∨ _
    split at hs
    · rename_i q; exact .inl (hn ▸ q)
    · rename_i q
      refine .inr ⟨hn ▸ q, ?_⟩
      obtain ⟨c, hc⟩ := cells_have q (s.heap.objs.size + 1)
      show ((cellsFrom (s.heap.objs.size + 1) d.scope.names []).lookup y.1).isSome = true
      rw [hn, hc]; rfl
    · cases hs
  · subst he
    obtain ⟨h₁, tk, rfl, hk₁⟩ := X.done
    have X0 := X
    clear X
    have TK := (T.nolimit.keeps up).keeps hk₁
    refine ⟨TK, ?_⟩
    obtain ⟨ce, cenv⟩ : ∃ ce, ce = newEnv d.scope s.heap.objs.size mainGlobals (cellsFrom (s.heap.objs.size + 1) d.scope.names []) (d.name ++ ".<locals>.") (some a) code none builtinsNs := ⟨_, rfl⟩
    have X : InCallC s ce.locals (bindL ce.kindOf (f.params.zip vs) fun _ => none) ce.cells (bindC ce.kindOf (f.params.zip vs) fun _ => none) { s with heap := h₁, toks := tk } := by rw [cenv]; exact X0
    have cL : ce.locals = s.heap.objs.size := by rw [cenv]; rfl
    have cC : ce.cells = cellsFrom (s.heap.objs.size + 1) d.scope.names [] := by rw [cenv]; rfl
    have cK : ∀ y, ce.kindOf y = f.names.lookup y := fun y => by rw [← hn, cenv]; rfl
    have fresh : ∀ b ∈ own ce, s.heap.get? b = none := by
      intro b hb'
      rcases List.mem_cons.mp hb' with rfl | hb'
      · rw [cL]; exact get_size _
      · obtain ⟨⟨y, c⟩, hy, rfl⟩ := List.mem_map.mp hb'
        replace hy := (List.mem_filter.mp hy).1
        have := X.above y c hy
        rw [cL] at this
        exact fresh_of_ge (Nat.le_of_lt this)
    have kn : ∀ b, s.heap.get? b = none → K b = none := fun b e => by
      induction q : K b with
      | none => rfl
      | some o => rw [S.kn _ _ q] at e; cases e
    have mn : ∀ b, s.heap.get? b = none → b ∉ μ := fun b e q => by
      obtain ⟨o, z⟩ := S.there q
      rw [e] at z; cases z
    have S1 : SR prog w C₀ K μ η h₁ := (keep_ok S hk₁).1
    have keys : ((f.params.zip vs).map (·.1)).Nodup := by rw [zip_keys (by rw [V.length, hl])]; exact hf.nd
    have R1 : ER prog w C₀ K μ h₁ ce f.names (f.params.zip vvs) := by
      refine ⟨by rw [cenv]; exact hk, by rw [cenv]; rfl, by rw [cenv]; rfl, fun y => .inl (cK y), ⟨_, X.toInCall.ns, fun y vv e hy => ?_⟩, fun y vv e hy => ?_, fun y c e => ?_, fun y z c e1 e2 => ?_, fun y e => ?_, hf.dbg, hf.cdi, kn _ (fresh _ (.head _)), mn _ (fresh _ (.head _))⟩
      · obtain ⟨v, hv, z⟩ := V.look e
        exact ⟨v, bindL_at hy keys hv, z⟩
      · obtain ⟨v, hv, z⟩ := V.look e
        have hm : y ∈ f.params := by
          have : y ∈ (f.params.zip vs).map (·.1) := List.mem_map.mpr ⟨(y, v), lookup_mem hv, rfl⟩
          rwa [zip_keys (by rw [V.length, hl])] at this
        have hs := hf.st _ hm
        unfold storable at hs
        split at hs
        · rename_i q; exact (hy ((cK y).trans q)).elim
        · rename_i q
          obtain ⟨c, hc⟩ := cells_have q (s.heap.objs.size + 1)
          rw [← hn] at hc
          obtain ⟨o', g1, g2⟩ := X.cell y c (by rw [cC]; exact hc)
          rw [bindC_at hy keys hv] at g2
          exact ⟨.inl ((cK y).trans q), c, v, o', by rw [cC]; exact hc, g1, g2, z⟩
        · cases hs
      · have hm := fresh c (own_cell e)
        obtain ⟨o', g1, g2⟩ := X.cell y c e
        exact ⟨⟨o', _, g1, g2⟩, kn _ hm, mn _ hm, Ne.symm (Nat.ne_of_lt (X.above y c (lookup_mem e)))⟩
      · exact name_of_addr X.apart (lookup_mem e1) (lookup_mem e2)
      · rw [cC, hn]
        exact cells_have e _
    have room : Room n (A.deeper ce) := ⟨r.hd, by have := r.dp; show A.depth + 1 + n ≤ 990; omega, by have := r.un; show A.units + 3 + 10 * n ≤ 9800; omega⟩
    obtain ⟨E', hw, hE⟩ := hrun ce h₁ tk hk₁ fresh R1 S1 room
    rw [← hb] at hw
    subst cenv
    exact codeAny_func (wpAny_mono hw (fun _ _ z => z) fun e s' z => (hE e s' z).elim)
end
end Mine
end
section
namespace Mine
set_option tactic.hygienic false
open PySem PySem.W PyProof.Rows PySem.Spec PySem.Calls

/-! ## The class Code -/
noncomputable def mkInit (q : Str × Pos × Pos × Pos × Pos) : Stmt := .Assign [.Attribute (.Name (Str.ofString "self") q.2.1) q.1 q.2.2.1] (.Name q.1 q.2.2.2.1) q.2.2.2.2
noncomputable def codeNames : List Str := [Str.ofString "rows", Str.ofString "names", Str.ofString "temps", Str.ofString "trys", Str.ofString "lives"]

structure CodeIs (G : Frag) (C₀ fI : Addr) : Prop where
  get : plainGet G C₀ (Str.ofString "rows") = true
  dict : hasDictIn G C₀ = true
  rd : ∀ x ∈ codeNames, findIn G (.ref C₀) x = some none
  made : makesIn G C₀ = true
  ini : findIn G (.ref C₀) "__init__" = some (some (.ref fI))
  fn : typeIn G (.ref fI) = some (.type "function")
  setr : findIn G (.ref C₀) "__setattr__" = some (some (.builtin "object.__setattr__"))
  over : plainOver G C₀ = true
  clsAt : ∃ oc, G.lookup C₀ = some oc
  body : ∃ (o : Obj) (fd : FuncData) (as : List Arg) (qs : List (Str × Pos × Pos × Pos × Pos)), G.lookup fI = some o ∧ o.data = .func fd ∧ fd.params = ⟨[], as, none, [], [], none, []⟩ ∧ as.map (·.arg) = Str.ofString "self" :: codeNames ∧ fd.defaults = .none ∧
    fd.body = .stmts (qs.map mkInit) ∧ qs.map (·.1) = codeNames ∧ codeIn G fd.code fd.qualname = true ∧ fd.scope.kind = .function ∧ fd.scope.isCoroutine = false ∧ fd.scope.isGenerator = false ∧
    (∀ y ∈ Str.ofString "self" :: codeNames, fd.scope.names.lookup y = some .local) ∧ (∀ y ∈ fd.scope.names, y.2 ≠ .cell)

section
variable {prog : Program} {w : World} {C₀ fI : Addr} {G : Frag} {K₀ K : Kn} {n : Nat} {η η' : Eta} {A : Around} {E : Value → Shared → Prop} {s : Shared} {μ : List Addr} {h h' : Heap} {I : Interp} {sc : Sc} {ρ : Rho} {ce : Env}

theorem V.handed {v : Value} {d : D} (x : V prog w C₀ K v d) : handedIn v = true := by cases x <;> rfl

set_option tactic.hygienic true in
theorem attrOf_ok (CI : CodeIs G C₀ fI) (X : G.In s.heap) {x d : D} {a : Str} {v : Value} {Q : Value → Shared → Prop} (q : attrOf x a = some d) (y : V prog w C₀ K v x) (S : SR prog w C₀ K μ η s.heap)
    (hQ : ∀ u tk, V prog w C₀ K u d → Q u { s with toks := tk }) : wpAny (model prog w) A (getAttr v a true) Q E s := by
  unfold attrOf at q
  split at q
  · cases y with
    | @code xx dx es kk vr vn vt vy vl _ _ _ _ _ e1 e2 g1 g2 g3 g4 g5 a1 a2 a3 a4 a5 =>
      have I : InstAt s.heap xx _ C₀ (some (dictOf es kk)) := ⟨S.kn _ _ e1, rfl, rfl, S.kn _ _ e2⟩
      have go : ∀ {x : Str} {u : Value} {d' : D}, x ∈ codeNames → getL x es = some (some u) → V prog w C₀ K u d' → d' = d → wpAny (model prog w) A (getAttr (.ref xx) x true) Q E s := by
        intro x u d' hx hl z e
        exact get_value X I (plainGet_of CI.get).1 (findObj_own CI.dict (CI.rd x hx) rfl hl) z.handed (hQ u _ (e ▸ z))
      split at q
      · rename_i e; subst e; exact go (by simp [codeNames]) g1 a1 (Option.some.inj q)
      · split at q
        · rename_i e; subst e; exact go (by simp [codeNames]) g2 a2 (Option.some.inj q)
        · split at q
          · rename_i e; subst e; exact go (by simp [codeNames]) g3 a3 (Option.some.inj q)
          · split at q
            · rename_i e; subst e; exact go (by simp [codeNames]) g4 a4 (Option.some.inj q)
            · split at q
              · rename_i e; subst e; exact go (by simp [codeNames]) g5 a5 (Option.some.inj q)
              · first | exact nn q | (obtain ⟨rfl, rfl, rfl⟩ := p3 q) | (obtain ⟨rfl, rfl⟩ := p2 q) | (obtain rfl := p1 q) | cases q
  · first | exact nn q | (obtain ⟨rfl, rfl, rfl⟩ := p3 q) | (obtain ⟨rfl, rfl⟩ := p2 q) | (obtain rfl := p1 q) | cases q

theorem attr_ok (CI : CodeIs G C₀ fI) (hG : ∀ a o, G.lookup a = some o → K₀ a = some o) (HI : EvOk prog w C₀ K₀ n I) {o : Expr} {a : Str} {pos : Pos} {d : D} {Q : Value → Shared → Prop} (ho : isName o = true)
    (q : ((evD I sc ρ η o).bind fun q => (B.lift (attrOf q.1 a)).bind fun d => .pure (VV.d d, q.2)).run = some (.d d, η')) (r : Room n A) (R : ER prog w C₀ K μ s.heap ce sc ρ) (S : SR prog w C₀ K μ η s.heap) (k : KK K₀ K)
    (hQ : HVM prog w C₀ K μ s η' d Q) : wpAny (model prog w) A (eval (.Attribute o a pos) ce) Q E s := by
  refine bind_elim2 q fun x η1 q1 q2 => ?_
  refine lift_elim q2 fun d' q3 q4 => ?_
  first | exact nn q4 | (obtain ⟨rfl, rfl, rfl⟩ := p3 q4) | (obtain ⟨rfl, rfl⟩ := p2 q4) | (obtain rfl := p1 q4) | cases q4
  cases o with
  | Name nx np =>
    refine Attribute_Name_ (evD_ok HI q1 r R S k fun v K1 μ1 h1 tk1 g1 S1 z1 => ?_) (by rfl)
    refine attrOf_ok (s := { s with heap := h1, toks := tk1 }) CI (fun a o e => S1.kn _ _ ((k.trans g1.k) _ _ (hG _ _ e))) q3 z1 S1 fun u tk z => ?_
    exact hQ _ _ _ _ _ g1 S1 z
  | _ => cases ho

end
end Mine
end
section
namespace Mine
set_option tactic.hygienic false
open PySem PySem.W PyProof.Rows PySem.Spec PySem.Calls

section
variable {prog : Program} {w : World} {C₀ fI : Addr} {G : Frag} {K₀ K : Kn} {n : Nat} {η η' : Eta} {A : Around} {E : Value → Shared → Prop} {s : Shared} {μ : List Addr} {h h' : Heap} {I : Interp} {sc : Sc} {ρ : Rho} {ce : Env}

theorem codeNames_nd {x : Str} (h : x ∈ Str.ofString "self" :: codeNames) : (x == ("__debug__" : Str)) = false := by
  have : ∀ y ∈ Str.ofString "self" :: codeNames, (y == ("__debug__" : Str)) = false := by decide +kernel
  exact this x h

theorem init_step (CI : CodeIs G C₀ fI) {base : Heap} {L x dx : Addr} {m : Str → Option Value} {es : List DictEntry} {k : Nat} {q : Str × Pos × Pos × Pos × Pos} {v : Value} {Q : Flow → Shared → Prop}
    (F : Fr base L s.heap m) (X₀ : G.In base) (N : News base L s.heap [(x, instObj C₀ dx), (dx, dictOf es k)]) (hx : x ≠ dx) (hL : ce.locals = L) (hk : ce.scope.kind = .function)
    (k1 : ce.kindOf (Str.ofString "self") = some .local) (k2 : ce.kindOf q.1 = some .local) (m1 : m (Str.ofString "self") = some (.ref x)) (m2 : m q.1 = some v) (hq : q.1 ∈ codeNames)
    (hl : (getL q.1 es).isSome = true) (hz : ∀ hsh t, (putL q.1 hsh (.str q.1 t) v es).length ≤ 1000)
    (hQ : ∀ h' tk hsh t k', Fr base L h' m → News base L h' [(x, instObj C₀ dx), (dx, dictOf (putL q.1 hsh (.str q.1 t) v es) k')] → Q .next { s with heap := h', toks := tk }) :
    wpAny (model prog w) A (exec (mkInit q) ce) Q E s := by
  subst hL
  refine plainObj_wpAny_Assign_Attribute (wpAny_Name (wpAny_loadName_local hk k2 F.ns m2 ?_) (codeNames_nd (.tail _ hq))) (by rfl)
  refine wpAny_Name (wpAny_loadName_local hk k1 F.ns m1 ?_) (codeNames_nd (.head _))
  have I : InstAt s.heap x (instObj C₀ dx) C₀ (some (dictOf es k)) := ⟨(N _ (.head _)).1, rfl, rfl, (N _ (.tail _ (.head _))).1⟩
  have ht : takerIn G C₀ q.1 = some none := by unfold takerIn; rw [CI.rd _ hq]; rfl
  exact set_dict F X₀ N I rfl CI.setr CI.over ht CI.dict hl rfl (.tail hx (.head (fun _ h => nomatch h))) (hz _ _) fun h' F' N' => hQ h' _ _ _ _ F' N'

theorem self_ne_names : ∀ y ∈ codeNames, y ≠ Str.ofString "self" := by decide +kernel

/-- two fresh objects are learnt -/
theorem learn2_ok (S : SR prog w C₀ K μ η h) (hk : ∀ b o, h.get? b = some o → h'.get? b = some o) {a b : Addr} {o p : Obj} (hab : a ≠ b) (hn : h.get? a = none) (ho : h'.get? a = some o) (hn2 : h.get? b = none) (hp : h'.get? b = some p) :
    SR prog w C₀ (Kset (Kset K a o) b p) μ η h' ∧ Gr [] K μ h (Kset (Kset K a o) b p) μ h' := by
  obtain ⟨S1, G1⟩ := learn_ok S hk hn ho
  have kz : Kset K a o b = none := by
    rw [Kset.other (Ne.symm hab)]
    induction q : K b with
    | none => rfl
    | some o' => rw [S.kn _ _ q] at hn2; cases hn2
  have bm : b ∉ μ := fun q => by obtain ⟨o', e⟩ := S.there q; rw [hn2] at e; cases e
  have kk := Kset.kk (o := p) kz
  refine ⟨S1.grow kk (Kset.le S1.kn hp) (fun c hc q => by rw [Kset.other (fun z : c = b => bm (z ▸ hc))]; exact q) fun c _ o' e => e, G1.k.trans kk, fun c o' q => ?_, List.prefix_refl μ, fun _ e => .inl e, G1.st, G1.fr⟩
  by_cases z : c = b
  · subst z; exact .inr (.inl hn2)
  · rw [Kset.other z] at q; exact G1.knew _ _ q

theorem makeCode_ok (CI : CodeIs G C₀ fI) (hG : ∀ a o, G.lookup a = some o → K₀ a = some o) (hlim : ∀ h : Heap, Kle K₀ h → h.NoLimit) {v1 v2 v3 v4 v5 : Value} {d1 d2 d3 d4 d5 : D} {R : Result → Shared → Prop}
    (r : Room (n + 1) A) (S : SR prog w C₀ K μ η s.heap) (k : KK K₀ K) (z1 : V prog w C₀ K v1 d1) (z2 : V prog w C₀ K v2 d2) (z3 : V prog w C₀ K v3 d3) (z4 : V prog w C₀ K v4 d4) (z5 : V prog w C₀ K v5 d5)
    (hQ : ∀ u K' h' tk, Gr [] K μ s.heap K' μ h' → SR prog w C₀ K' μ η h' → V prog w C₀ K' u (.code d1 d2 d3 d4 d5) → R (.ok (.ret u)) { s with heap := h', toks := tk }) :
    codeAny (model prog w) A (.call (.ref C₀) ⟨[v1, v2, v3, v4, v5], []⟩) R s := by
  have XG : ∀ {h : Heap}, (∀ b o, s.heap.get? b = some o → h.get? b = some o) → G.In h := fun hk a o e => hk _ _ (S.kn _ _ (k _ _ (hG _ _ e)))
  have X0 : G.In s.heap := XG fun _ _ e => e
  obtain ⟨hh, g, d, t, os⟩ := s
  refine make_core (makes_of X0 CI.made) (looks_findIn X0 CI.ini) (fun self => bind_fn X0 self CI.fn) (.inl rfl) ?_
  obtain ⟨o, fd, as, qs, b1, b2, b3, b4, b5, b6, b7, b8, b9, b10, b11, b12, b13⟩ := CI.body
  obtain ⟨h2, e2⟩ : ∃ h2, h2 = (hh.push emptyDict).push (instObj C₀ hh.objs.size) := ⟨_, rfl⟩
  have k2 : ∀ b o, hh.get? b = some o → h2.get? b = some o := fun b o e => e2 ▸ Heap.get?_push_of_some _ (Heap.get?_push_of_some _ e)
  have gx : h2.get? (hh.objs.size + 1) = some (instObj C₀ hh.objs.size) := by
    rw [e2]
    have := Heap.get?_push_size (o := instObj C₀ hh.objs.size) (hh.push emptyDict) rfl
    rwa [Heap.size_push] at this
  have gd : h2.get? hh.objs.size = some emptyDict := by
    rw [e2]
    exact Heap.get?_push_of_some _ (Heap.get?_push_size _ rfl)
  have sz : h2.objs.size = hh.objs.size + 2 := by rw [e2, Heap.size_push, Heap.size_push]
  rw [← e2]
  have X2 : G.In h2 := XG k2
  have hroom : (A.under (.builtin "type.__call__" ⟨.ref C₀ :: [v1, v2, v3, v4, v5], []⟩)).depth < recursionLimit := by
    have h1 := r.dp
    have h3 : (A.under (.builtin "type.__call__" ⟨.ref C₀ :: [v1, v2, v3, v4, v5], []⟩)).depth ≤ A.depth + 1 := by
      show A.depth + Code.weight _ ≤ _
      have : (Code.builtin "type.__call__" ⟨.ref C₀ :: [v1, v2, v3, v4, v5], []⟩).weight = 1 := by kernel_rfl
      omega
    have : recursionLimit = 1000 := rfl
    omega
  have nd : (as.map (·.arg)).Nodup := by rw [b4]; decide +kernel
  have kl2 : Kle K₀ h2 := fun a o e => k2 _ _ (S.kn _ _ (k _ _ e))
  refine codeAny_call_def (fd := fd) (body := qs.map mkInit) (binds := (as.map (·.arg)).zip [.ref (hh.objs.size + 1), v1, v2, v3, v4, v5]) hroom (X2 _ _ b1) b2 (hlim h2 kl2) (codeRec_of X2 b8) b6
    (BindsTo.of_eq (bind_simple b3 b5 (by rw [b4]; rfl) nd)) b13 (fun y hy => b12 _ ?_) (fun h₁ hns hkeep => ?_) b10 b11 b9
  · have : y.1 ∈ ((as.map (·.arg)).zip [.ref (hh.objs.size + 1), v1, v2, v3, v4, v5]).map (·.1) := List.mem_map.mpr ⟨y, hy, rfl⟩
    rw [zip_keys (by rw [b4]; rfl), b4] at this
    exact this
  · rw [b4] at hns
    obtain ⟨ce, hce⟩ : ∃ ce, ce = callEnv fd h2.objs.size fI := ⟨_, rfl⟩
    show wpAny _ (Around.deeper _ (callEnv fd h2.objs.size fI)) (execs _ (callEnv fd h2.objs.size fI)) _ _ _
    rw [← hce]
    have cL : ce.locals = h2.objs.size := by rw [hce]; rfl
    have cK : ∀ y ∈ Str.ofString "self" :: codeNames, ce.kindOf y = some .local := fun y hy => by rw [hce]; exact b12 y hy
    have ck : ce.scope.kind = .function := by rw [hce]; exact b9
    have F1 : Fr hh h2.objs.size h₁ (fun x => ((Str.ofString "self" :: codeNames).zip [.ref (hh.objs.size + 1), v1, v2, v3, v4, v5]).reverse.lookup x) := ⟨hns, fun b o e => hkeep _ _ (k2 _ _ e), by rw [sz]; omega⟩
    have N1 : News hh h2.objs.size h₁ [(hh.objs.size + 1, instObj C₀ hh.objs.size), (hh.objs.size, dictOf [] 0)] := fun p hp => by
      rcases List.mem_cons.mp hp with rfl | hp
      · exact ⟨hkeep _ _ gx, by rw [sz]; show hh.objs.size + 1 ≠ _; omega, fresh_of_ge (Nat.le_succ _)⟩
      · rcases List.mem_cons.mp hp with rfl | hp
        · exact ⟨hkeep _ _ gd, by rw [sz]; show hh.objs.size ≠ _; omega, fresh_of_ge (Nat.le_refl _)⟩
        · cases hp
    obtain ⟨q1, q2, q3, q4, q5, rfl⟩ : ∃ q1 q2 q3 q4 q5, qs = [q1, q2, q3, q4, q5] := by
      have hl : qs.length = 5 := by have := congrArg List.length b7; rwa [List.length_map] at this
      match qs, hl with
      | [q1, q2, q3, q4, q5], _ => exact ⟨q1, q2, q3, q4, q5, rfl⟩
    · simp only [List.map_cons, List.map_nil, codeNames, List.cons.injEq, and_true] at b7
      obtain ⟨c1, c2, c3, c4, c5⟩ := b7
      have hx : hh.objs.size + 1 ≠ hh.objs.size := by omega
      have m0 : ∀ y ∈ codeNames, y ∈ Str.ofString "self" :: codeNames := fun y hy => .tail _ hy
      have i1 : q1.1 ∈ codeNames := by rw [c1]; simp [codeNames]
      have i2 : q2.1 ∈ codeNames := by rw [c2]; simp [codeNames]
      have i3 : q3.1 ∈ codeNames := by rw [c3]; simp [codeNames]
      have i4 : q4.1 ∈ codeNames := by rw [c4]; simp [codeNames]
      have i5 : q5.1 ∈ codeNames := by rw [c5]; simp [codeNames]
      refine wpAny_execs_cons (init_step (v := v1) CI F1 X0 N1 hx cL ck (cK _ (.head _)) (cK _ (m0 _ i1)) (by kernel_rfl) (by rw [c1]; kernel_rfl) i1 (by rw [c1]; kernel_rfl) (fun _ _ => by rw [c1]; exact (by decide : 1 ≤ 1000)) fun ha tka hsa ta ka Fa Na => ?_)
      rw [c1] at Na
      refine wpAny_execs_cons (init_step (v := v2) (s := { heap := ha, gens := g, drawn := d, toks := tka, os := os }) CI Fa X0 Na hx cL ck (cK _ (.head _)) (cK _ (m0 _ i2)) (by kernel_rfl) (by rw [c2]; kernel_rfl) i2 (by rw [c2]; kernel_rfl) (fun _ _ => by rw [c2]; exact (by decide : 2 ≤ 1000)) fun hb tkb hsb tb kb Fb Nb => ?_)
      rw [c2] at Nb
      refine wpAny_execs_cons (init_step (v := v3) (s := { heap := hb, gens := g, drawn := d, toks := tkb, os := os }) CI Fb X0 Nb hx cL ck (cK _ (.head _)) (cK _ (m0 _ i3)) (by kernel_rfl) (by rw [c3]; kernel_rfl) i3 (by rw [c3]; kernel_rfl) (fun _ _ => by rw [c3]; exact (by decide : 3 ≤ 1000)) fun hc tkc hsc tc kc Fc Nc => ?_)
      rw [c3] at Nc
      refine wpAny_execs_cons (init_step (v := v4) (s := { heap := hc, gens := g, drawn := d, toks := tkc, os := os }) CI Fc X0 Nc hx cL ck (cK _ (.head _)) (cK _ (m0 _ i4)) (by kernel_rfl) (by rw [c4]; kernel_rfl) i4 (by rw [c4]; kernel_rfl) (fun _ _ => by rw [c4]; exact (by decide : 4 ≤ 1000)) fun hd tkd hsd td kd Fd Nd => ?_)
      rw [c4] at Nd
      refine wpAny_execs_cons (init_step (v := v5) (s := { heap := hd, gens := g, drawn := d, toks := tkd, os := os }) CI Fd X0 Nd hx cL ck (cK _ (.head _)) (cK _ (m0 _ i5)) (by kernel_rfl) (by rw [c5]; kernel_rfl) i5 (by rw [c5]; kernel_rfl) (fun _ _ => by rw [c5]; exact (by decide : 5 ≤ 1000)) fun he tke hse te ke Fe Nz => ?_)
      rw [c5] at Nz
      refine wpAny_execs_nil ⟨rfl, ?_⟩
      obtain ⟨S', G'⟩ := learn2_ok S Fe.keep (Ne.symm hx) (Nz _ (.tail _ (.head _))).2.2 (Nz _ (.tail _ (.head _))).1 (Nz _ (.head _)).2.2 (Nz _ (.head _)).1
      refine hQ _ _ _ _ G' S' (.code Kset.same ((Kset.other (Ne.symm hx)).trans Kset.same) ?_ ?_ ?_ ?_ ?_ (z1.mono G'.k) (z2.mono G'.k) (z3.mono G'.k) (z4.mono G'.k) (z5.mono G'.k))
      all_goals kernel_rfl
end
end Mine
end
section
namespace Mine
set_option tactic.hygienic false
open PySem PySem.W PyProof.Rows PySem.Spec PySem.Calls

/-- all that the program's text brings -/
structure Ctx (p : Program) (w : World) (G : Frag) (C₀ fI : Addr) (loose : List Str) (mean : ExcName → Option Value) (mg mb : Str → Option Value) (h₀ : Heap) (FF : Str → Option FDef) : Prop where
  T : Top p loose mean mg mb h₀
  gk : ∀ a o, G.lookup a = some o → h₀.get? a = some o
  CI : CodeIs G C₀ fI
  code : mg (Str.ofString "Code") = some (.ref C₀)
  bi : ∀ x v, (x, v) ∈ [(Str.ofString "len", Value.builtin "len"), (Str.ofString "tuple", Value.type "tuple"), (Str.ofString "list", Value.type "list"), (Str.ofString "min", Value.builtin "min"), (Str.ofString "sum", Value.builtin "sum"), (Str.ofString "repr", Value.builtin "repr"), (Str.ofString "range", Value.type "range")] → mg x = none ∧ mb x = some v
  fis : ∀ x f, FF x = some f → FIs p x f

section
variable {prog p : Program} {w : World} {C₀ fI : Addr} {G : Frag} {loose : List Str} {mean : ExcName → Option Value} {mg mb : Str → Option Value} {h₀ : Heap} {FF : Str → Option FDef}
  {K : Kn} {n : Nat} {η η' : Eta} {A : Around} {E : Value → Shared → Prop} {s : Shared} {μ : List Addr} {h h' : Heap} {I : Interp} {sc : Sc} {ρ : Rho} {ce : Env}

theorem up_of (S : SR prog w C₀ K μ η s.heap) (k : KK h₀.get? K) : ∀ b o, h₀.get? b = some o → s.heap.get? b = some o := fun _ _ e => S.kn _ _ (k _ _ e)

theorem glob_ok {x : Str} {pos : Pos} {v : Value} {Q : Value → Shared → Prop} (X : Ctx p w G C₀ fI loose mean mg mb h₀ FF) (R : ER prog w C₀ K μ s.heap ce sc ρ) (S : SR prog w C₀ K μ η s.heap) (k : KK h₀.get? K)
    (hx : sc.lookup x = some .globalImplicit) (hv : mg x = some v) (h : Q v s) : wpAny (model prog w) A (eval (.Name x pos) ce) Q E s := by
  have hk : ce.kindOf x = some .globalImplicit := by
    rcases R.names x with q | ⟨q, _⟩
    · rw [q, hx]
    · rw [hx] at q; cases q
  refine Calls.Name_function_global R.kind hk (loadGlobal_global (mg := mg) ?_ hv h) (R.nd hk).1
  rw [R.gl]
  exact X.T.g.keeps (up_of S k)
theorem bi_ok {x : Str} {pos : Pos} {v : Value} {Q : Value → Shared → Prop} (X : Ctx p w G C₀ fI loose mean mg mb h₀ FF) (R : ER prog w C₀ K μ s.heap ce sc ρ) (S : SR prog w C₀ K μ η s.heap) (k : KK h₀.get? K)
    (hx : sc.lookup x = some .globalImplicit) (hv : mg x = none ∧ mb x = some v) (h : Q v s) : wpAny (model prog w) A (eval (.Name x pos) ce) Q E s := by
  have hk : ce.kindOf x = some .globalImplicit := by
    rcases R.names x with q | ⟨q, _⟩
    · rw [q, hx]
    · rw [hx] at q; cases q
  refine Calls.Name_function_global R.kind hk (loadGlobal_builtin (mg := mg) (mb := mb) ?_ hv.1 ?_ hv.2 h) (R.nd hk).1
  · rw [R.gl]
    exact X.T.g.keeps (up_of S k)
  · rw [R.bi]
    exact X.T.b.keeps (up_of S k)

/-- what keeps a call's operands -/
noncomputable def Keepy (M : Model) (f : Value) (h : Heap) : Prop := ∃ k, (k = Keeper.frame ∨ k = Keeper.machine ∨ k = Keeper.boundFrame) ∧ Looks M h (keeperOf f) k
theorem Keepy.builtin {M : Model} {i : String} {h : Heap} : Keepy M (.builtin i) h := ⟨.machine, .inr (.inl rfl), Looks.of_pure rfl⟩
theorem Keepy.type {M : Model} {i : String} {h : Heap} : Keepy M (.type i) h := ⟨.machine, .inr (.inl rfl), Looks.of_pure rfl⟩
theorem Keepy.fn {M : Model} {a : Addr} {o : Obj} {fd : FuncData} {h : Heap} (e : h.get? a = some o) (d : o.data = .func fd) : Keepy M (.ref a) h := by
  obtain ⟨c, dd, data, sl⟩ := o
  subst d
  exact ⟨.frame, .inl rfl, (Looks.ld (part := none) e).andThen .now⟩

theorem noStars (N : NoStar I) {pos : Pos} : ∀ (es : List Expr) {η η' : Eta} {vvs : List VV}, (evVs I sc ρ η es).run = some (vvs, η') → (backTo pos (starEach es ce)).any (·.1) = false
  | [], _, _, _, _ => rfl
  | e :: es, η, η', vvs, q => by
    rw [evVs, B.run_bind] at q
    obtain ⟨⟨vv, η1⟩, q1, q2⟩ := Option.bind_eq_some_iff.mp q
    refine bind_elim2 q2 fun vvs' η2 qb qc => ?_
    rw [starEach_cons (N.ne q1)]
    exact noStars N es qb

theorem call_args {K₀ : Kn} (HI : EvOk prog w C₀ K₀ n I) (N : NoStar I) {pos : Pos} {f : Value} {es : List Expr} {vvs : List VV} {Q : Value → Shared → Prop} (q : (evVs I sc ρ η es).run = some (vvs, η'))
    (r : Room n A) (R : ER prog w C₀ K μ s.heap ce sc ρ) (S : SR prog w C₀ K μ η s.heap) (k : KK K₀ K)
    (h : ∀ vs K' μ' h' tk, Gr [] K μ s.heap K' μ' h' → SR prog w C₀ K' μ' η' h' → VRs prog w C₀ K' μ' vs vvs → Keepy (model prog w) f h' ∧ wpAny (model prog w) A (call f vs) Q E { s with heap := h', toks := tk }) :
    wpAny (model prog w) A (callWith pos f [] (backTo pos (starEach es ce)) []) Q E s := by
  refine callWith_of (P := Keepy (model prog w) f) (by rw [noStars N es q]; rfl) (fun h x => x) ?_
  induction es with
  | nil =>
    first | exact nn q | (obtain ⟨rfl, rfl, rfl⟩ := p3 q) | (obtain ⟨rfl, rfl⟩ := p2 q) | (obtain rfl := p1 q) | cases q
    exact evalArgs_nil3 (h [] K μ s.heap s.toks (Gr.refl ..) S .nil)
  | cons e es =>
    have q' := q
    rw [evVs, B.run_bind] at q'
    obtain ⟨⟨vv, η1⟩, q1, _⟩ := Option.bind_eq_some_iff.mp q'
    have ns := N.ne q1
    have := evVs_ok (A := A) (E := E) (s := s) (pos := pos) (Q := fun vs s₁ => Keepy (model prog w) f s₁.heap ∧ wpAny (model prog w) A (call f vs) Q E s₁) HI N (e :: es) q r R S k fun vs K' μ' h' tk g S' z => h vs K' μ' h' tk g S' z
    rw [starEach_cons ns] at this ⊢
    exact evalArgs_plain this

/-! ### freezing several -/
theorem VRs.grow {K' : Kn} {μ' : List Addr} {X : List Addr} (g : Gr X K μ h K' μ' h') {vs : List Value} {vvs : List VV} (x : VRs prog w C₀ K μ vs vvs) : VRs prog w C₀ K' μ' vs vvs := by
  induction x with
  | nil => exact .nil
  | cons x _ ih => exact .cons (x.grow g) ih

theorem frzs_ok : ∀ {vs : List Value} {vvs : List VV} {ds : List D} {K : Kn} {η η' : Eta}, SR prog w C₀ K μ η h → VRs prog w C₀ K μ vs vvs → frzs η vvs = some (ds, η') →
    ∃ K', SR prog w C₀ K' μ η' h ∧ VA prog w C₀ K' vs ds ∧ Gr [] K μ h K' μ h
  | _, _, _, K, _, _, S, .nil, q => by cases q; exact ⟨K, S, .nil, Gr.refl ..⟩
  | _, _, _, K, η, η', S, .cons a r, q => by
    unfold frzs at q
    obtain ⟨⟨d, η1⟩, q1, q2⟩ := Option.bind_eq_some_iff.mp q
    obtain ⟨⟨ds, η2⟩, q3, q4⟩ := Option.bind_eq_some_iff.mp q2
    first | exact nn q4 | (obtain ⟨rfl, rfl, rfl⟩ := p3 q4) | (obtain ⟨rfl, rfl⟩ := p2 q4) | (obtain rfl := p1 q4) | cases q4
    obtain ⟨K1, S1, z1, g1⟩ := frz_ok S a q1
    have r' := r.grow g1
    obtain ⟨K2, S2, z2, g2⟩ := frzs_ok S1 r' q3
    exact ⟨K2, S2, .cons (z1.mono g2.k) z2, g1.trans g2⟩

theorem pureArgs_ok : ∀ {vs : List Value} {vvs : List VV} {ds : List D}, VRs prog w C₀ K μ vs vvs → pureArgs vvs = some ds → VA prog w C₀ K vs ds ∧ vvs = ds.map .d
  | _, _, _, .nil, q => by cases q; exact ⟨.nil, rfl⟩
  | _, _, _, .cons (vv := vv) a r, q => by
    induction vv with
    | h n => cases q
    | d x =>
      unfold pureArgs at q
      obtain ⟨ds, q1, rfl⟩ := Option.map_eq_some_iff.mp q
      obtain ⟨z, rfl⟩ := pureArgs_ok r q1
      cases a with
      | d a => exact ⟨.cons a z, rfl⟩

end
end Mine
end
section
namespace Mine
set_option tactic.hygienic false
open PySem PySem.W PyProof.Rows PySem.Spec PySem.Calls

section
variable (prog : Program) (w : World) (C₀ : Addr) (mg : Str → Option Value) (h₀ : Heap)
noncomputable def CpOk (n : Nat) (P : Str → List D → Option D) : Prop := ∀ x ds d, P x ds = some d → ∃ a o fd, mg x = some (.ref a) ∧ h₀.get? a = some o ∧ o.data = .func fd ∧
  ∀ (A : Around) (E : Value → Shared → Prop) (s : Shared) (K : Kn) (μ : List Addr) (η : Eta) (vs : List Value) (Q : Value → Shared → Prop), Room n A → SR prog w C₀ K μ η s.heap → KK h₀.get? K → VA prog w C₀ K vs ds →
    (HV prog w C₀ K μ s η d Q) → wpAny (model prog w) A (call (.ref a) vs) Q E s
noncomputable def ChOk (n : Nat) (H : Str → List VV → Eta → Option (D × Eta)) : Prop := ∀ x vvs η d η', H x vvs η = some (d, η') → ∃ a o fd, mg x = some (.ref a) ∧ h₀.get? a = some o ∧ o.data = .func fd ∧
  ∀ (A : Around) (E : Value → Shared → Prop) (s : Shared) (K : Kn) (μ : List Addr) (vs : List Value) (Q : Value → Shared → Prop), Room n A → SR prog w C₀ K μ η s.heap → KK h₀.get? K → VRs prog w C₀ K μ vs vvs →
    (HV prog w C₀ K μ s η' d Q) → wpAny (model prog w) A (call (.ref a) vs) Q E s
end

section
variable {prog p : Program} {w : World} {C₀ fI : Addr} {G : Frag} {loose : List Str} {mean : ExcName → Option Value} {mg mb : Str → Option Value} {h₀ : Heap} {FF : Str → Option FDef}
  {K : Kn} {n : Nat} {η η' : Eta} {A : Around} {E : Value → Shared → Prop} {s : Shared} {μ : List Addr} {h h' : Heap} {I : Interp} {sc : Sc} {ρ : Rho} {ce : Env}

theorem VA.one {vs : List Value} {d : D} (x : VA prog w C₀ K vs [d]) : ∃ v, vs = [v] ∧ V prog w C₀ K v d := by
  cases x with
  | cons a r => cases r; exact ⟨_, rfl, a⟩
theorem VA.two {vs : List Value} {d e : D} (x : VA prog w C₀ K vs [d, e]) : ∃ v u, vs = [v, u] ∧ V prog w C₀ K v d ∧ V prog w C₀ K u e := by
  cases x with
  | cons a r => obtain ⟨u, rfl, z⟩ := r.one; exact ⟨_, _, rfl, a, z⟩

noncomputable def biVal (C₀ : Addr) : Bi → Value
  | .len => .builtin "len"
  | .tuple => .type "tuple"
  | .list => .type "list"
  | .min => .builtin "min"
  | .sum => .builtin "sum"
  | .repr => .builtin "repr"
  | .code => .ref C₀

set_option tactic.hygienic true in
theorem biCall_ok (X : Ctx p w G C₀ fI loose mean mg mb h₀ FF) {b : Bi} {vs : List Value} {vvs : List VV} {d : D} {Q : Value → Shared → Prop} (q : (biCall b vvs η).run = some (d, η')) (r : Room (n + 1) A) (S : SR prog w C₀ K μ η s.heap) (k : KK h₀.get? K)
    (z : VRs prog w C₀ K μ vs vvs) (hQ : HV prog w C₀ K μ s η' d Q) :
    wpAny (model prog w) A (call (biVal C₀ b) vs) Q E s := by
  have other : ∀ {b : Bi}, ((B.lift (frzs η vvs)).bind fun q => (B.lift (biD b q.1)).bind fun d => .pure (d, q.2)).run = some (d, η') →
      ∃ ds K1, biD b ds = some d ∧ SR prog w C₀ K1 μ η' s.heap ∧ VA prog w C₀ K1 vs ds ∧ Gr [] K μ s.heap K1 μ s.heap := by
    intro b q
    refine bind_elim2 q fun ds η1 q1 q2 => ?_
    rw [B.run_lift] at q1
    refine lift_elim q2 fun d' q3 q4 => ?_
    first | exact nn q4 | (obtain ⟨rfl, rfl, rfl⟩ := p3 q4) | (obtain ⟨rfl, rfl⟩ := p2 q4) | (obtain rfl := p1 q4) | cases q4
    obtain ⟨K1, S1, z1, g1⟩ := frzs_ok S z q1
    exact ⟨ds, K1, q3, S1, z1, g1⟩
  unfold biCall at q
  split at q
  · split at q
    · rename_i v
      refine lift_elim q fun m q1 q2 => ?_
      first | exact nn q2 | (obtain ⟨rfl, rfl, rfl⟩ := p3 q2) | (obtain ⟨rfl, rfl⟩ := p2 q2) | (obtain rfl := p1 q2) | cases q2
      cases z with
      | cons a r' =>
        cases r'
        exact lenOf_ok q1 a S hQ
    · first | exact nn q | (obtain ⟨rfl, rfl, rfl⟩ := p3 q) | (obtain ⟨rfl, rfl⟩ := p2 q) | (obtain rfl := p1 q) | cases q
  · obtain ⟨ds, K1, q1, S1, z1, g1⟩ := other q
    have hQ1 : ∀ v K' h' tk, Gr [] K1 μ s.heap K' μ h' → SR prog w C₀ K' μ η' h' → V prog w C₀ K' v d → Q v { s with heap := h', toks := tk } := fun v K' h' tk g => hQ v K' h' tk (g1.trans g)
    induction b with
    | tuple =>
      obtain ⟨l, q0, q1'⟩ := Option.bind_eq_some_iff.mp q1
      obtain rfl := oneL_is q0
      obtain ⟨v, rfl, a⟩ := z1.one
      exact tuple_ok q1' a S1 hQ1
    | list =>
      obtain ⟨l, q0, q1'⟩ := Option.bind_eq_some_iff.mp q1
      obtain rfl := oneL_is q0
      obtain ⟨v, rfl, a⟩ := z1.one
      exact list_ok q1' a S1 hQ1
    | min =>
      obtain ⟨l, q0, q1'⟩ := Option.bind_eq_some_iff.mp q1
      obtain rfl := twoI_is q0
      obtain ⟨v, u, rfl, a, c⟩ := z1.two
      first | exact nn q1' | (obtain ⟨rfl, rfl, rfl⟩ := p3 q1') | (obtain ⟨rfl, rfl⟩ := p2 q1') | (obtain rfl := p1 q1') | cases q1'
      exact min_ok r a c S1 hQ1
    | sum =>
      obtain ⟨l, q0, q1'⟩ := Option.bind_eq_some_iff.mp q1
      obtain rfl := oneL_is q0
      obtain ⟨v, rfl, a⟩ := z1.one
      obtain ⟨t, q2, rfl⟩ := Option.map_eq_some_iff.mp q1'
      exact sum_ok q2 r a S1 hQ1
    | repr =>
      obtain ⟨l, q0, q1'⟩ := Option.bind_eq_some_iff.mp q1
      obtain rfl := oneD_is q0
      obtain ⟨v, rfl, a⟩ := z1.one
      obtain ⟨t, q2, rfl⟩ := Option.map_eq_some_iff.mp q1'
      exact repr_ok q2 a S1 hQ1
    | code =>
      match ds, q1, z1 with
      | [_, _, _, _, _], q1, z1 =>
      first | exact nn q1 | (obtain ⟨rfl, rfl, rfl⟩ := p3 q1) | (obtain ⟨rfl, rfl⟩ := p2 q1) | (obtain rfl := p1 q1) | cases q1
      cases z1 with
      | cons a1 z1 => cases z1 with
        | cons a2 z1 => cases z1 with
          | cons a3 z1 => cases z1 with
            | cons a4 z1 =>
              obtain ⟨v5, rfl, a5⟩ := z1.one
              refine wpAny_call (makeCode_ok (K₀ := h₀.get?) X.CI X.gk (fun h kl => X.T.nolimit.keeps kl) r S1 (k.trans g1.k) a1 a2 a3 a4 a5 fun u K' h' tk g S' z' => ?_)
              exact hQ1 u K' h' tk g S' z'
    | len => exact nn q1

noncomputable def biNm : Bi → Str
  | .len => Str.ofString "len"
  | .tuple => Str.ofString "tuple"
  | .list => Str.ofString "list"
  | .min => Str.ofString "min"
  | .sum => Str.ofString "sum"
  | .repr => Str.ofString "repr"
  | .code => Str.ofString "Code"
theorem biOf_name {x : Str} {b : Bi} (q : biOf x = some b) : x = biNm b := by
  unfold biOf at q
  repeat' (split at q)
  all_goals (first | (cases q; assumption) | cases q)

set_option tactic.hygienic true in
theorem evCall_ok (X : Ctx p w G C₀ fI loose mean mg mb h₀ FF) (HI : EvOk prog w C₀ h₀.get? (n + 1) I) (N : NoStar I) (HP : CpOk prog w C₀ mg h₀ (n + 1) I.cp) (HH : ChOk prog w C₀ mg h₀ (n + 1) I.ch)
    {f : Expr} {args : List Expr} {pos : Pos} {vv : VV} {Q : Value → Shared → Prop} (q : (evCall I sc ρ η f args).run = some (vv, η')) (r : Room (n + 1) A) (R : ER prog w C₀ K μ s.heap ce sc ρ) (S : SR prog w C₀ K μ η s.heap) (k : KK h₀.get? K)
    (hQ : HVR prog w C₀ K μ s η' vv Q) : wpAny (model prog w) A (eval (.Call f args [] pos) ce) Q E s := by
  unfold evCall at q
  split at q
  · rename_i x np
    split at q
    · rename_i hx
      refine wpAny_Call_ofName ?_
      show wpAny (model prog w) A (eval (.Name x np) ce) (fun f s₁ => wpAny (model prog w) A (callWith pos f [] (backTo pos (starEach args ce)) []) Q E s₁) E s
      refine bind_elim2 q fun vvs η1 q1 q2 => ?_
      dsimp only at q2
      split at q2
      · rename_i b hb
        refine bind_elim2 q2 fun d η2 q3 q4 => ?_
        first | exact nn q4 | (obtain ⟨rfl, rfl, rfl⟩ := p3 q4) | (obtain ⟨rfl, rfl⟩ := p2 q4) | (obtain rfl := p1 q4) | cases q4
        have kp : ∀ h', (∀ b o, h₀.get? b = some o → h'.get? b = some o) → Keepy (model prog w) (biVal C₀ b) h' := by
          intro h' hk
          cases b <;> first | exact Keepy.builtin | exact Keepy.type | skip
          have XG : G.In h' := fun a o e => hk _ _ (X.gk _ _ e)
          obtain ⟨⟨oc, od, cd, sl, e1, _⟩, _, _, _, _, cl, _⟩ := makes_of (M := model prog w) XG X.CI.made
          exact ⟨.machine, .inr (.inl rfl), (Looks.ld (part := none) e1).andThen (cl.andThen .now)⟩
        have go : wpAny (model prog w) A (callWith pos (biVal C₀ b) [] (backTo pos (starEach args ce)) []) Q E s := by
          refine call_args HI N q1 r R S k fun vs K1 μ1 h1 tk1 g1 S1 z1 => ⟨kp _ fun b o e => S1.kn _ _ ((k.trans g1.k) _ _ e), ?_⟩
          exact biCall_ok (s := { s with heap := h1, toks := tk1 }) X q3 r S1 (k.trans g1.k) z1 fun v K2 h2 tk2 g2 S2 z2 => hQ v K2 μ1 h2 tk2 (g1.trans g2) S2 (.d z2)
        have nm := biOf_name hb
        induction b with
        | code => exact glob_ok X R S k hx (nm ▸ X.code) go
        | _ => exact bi_ok X R S k hx (X.bi _ _ (by rw [nm]; simp [biVal, biNm])) go
      · rw [B.run_br] at q2
        split at q2
        · rw [B.run_bind] at q2
          obtain ⟨ds, hp, q2⟩ := Option.bind_eq_some_iff.mp q2
          rw [B.run_lift] at hp
          refine lift_elim q2 fun d q3 q4 => ?_
          first | exact nn q4 | (obtain ⟨rfl, rfl, rfl⟩ := p3 q4) | (obtain ⟨rfl, rfl⟩ := p2 q4) | (obtain rfl := p1 q4) | cases q4
          obtain ⟨a, o, fd, e1, e2, e3, run⟩ := HP x ds d q3
          refine glob_ok X R S k hx e1 (call_args HI N q1 r R S k fun vs K1 μ1 h1 tk1 g1 S1 z1 => ⟨Keepy.fn (S1.kn _ _ ((k.trans g1.k) _ _ e2)) e3, ?_⟩)
          exact run A E { s with heap := h1, toks := tk1 } K1 μ1 _ vs Q r S1 (k.trans g1.k) (pureArgs_ok z1 hp).1 fun v K2 h2 tk2 g2 S2 z2 => hQ v K2 μ1 h2 tk2 (g1.trans g2) S2 (.d z2)
        · rw [B.run_bind] at q2
          obtain ⟨⟨d, η2⟩, q3, q4⟩ := Option.bind_eq_some_iff.mp q2
          rw [B.run_lift] at q3
          first | exact nn q4 | (obtain ⟨rfl, rfl, rfl⟩ := p3 q4) | (obtain ⟨rfl, rfl⟩ := p2 q4) | (obtain rfl := p1 q4) | cases q4
          obtain ⟨a, o, fd, e1, e2, e3, run⟩ := HH x vvs _ d _ q3
          refine glob_ok X R S k hx e1 (call_args HI N q1 r R S k fun vs K1 μ1 h1 tk1 g1 S1 z1 => ⟨Keepy.fn (S1.kn _ _ ((k.trans g1.k) _ _ e2)) e3, ?_⟩)
          exact run A E { s with heap := h1, toks := tk1 } K1 μ1 vs Q r S1 (k.trans g1.k) z1 fun v K2 h2 tk2 g2 S2 z2 => hQ v K2 μ1 h2 tk2 (g1.trans g2) S2 (.d z2)
    · first | exact nn q | (obtain ⟨rfl, rfl, rfl⟩ := p3 q) | (obtain ⟨rfl, rfl⟩ := p2 q) | (obtain rfl := p1 q) | cases q
  · first | exact nn q | (obtain ⟨rfl, rfl, rfl⟩ := p3 q) | (obtain ⟨rfl, rfl⟩ := p2 q) | (obtain rfl := p1 q) | cases q
end
end Mine
end
section
namespace Mine
set_option tactic.hygienic false
open PySem PySem.W PyProof.Rows PySem.Spec PySem.Calls

section
variable {prog p : Program} {w : World} {C₀ : Addr} {K₀ K : Kn} {n : Nat} {η η' : Eta} {A : Around} {E : Value → Shared → Prop} {s : Shared} {μ : List Addr} {h h' : Heap} {I : Interp} {sc : Sc} {ρ : Rho} {ce : Env}

theorem cmp1_ok {op : CmpOp} {l r : VV} {b : Bool} {va vb : Value} {Q : Value → Shared → Prop} (q : (cmp1 op l r η).run = some (b, η')) (rm : Room (n + 1) A) (x : VR prog w C₀ K μ va l) (y : VR prog w C₀ K μ vb r) (S : SR prog w C₀ K μ η s.heap)
    (hQ : ∀ K' tk, Gr [] K μ s.heap K' μ s.heap → SR prog w C₀ K' μ η' s.heap → Q (.bool b) { s with toks := tk }) : wpAny (model prog w) A (compareOp op va vb) Q E s := by
  have isIn : ∀ (neg : Bool) (c : Bool), (∃ x1 η1, frz l η = some (x1, η1) ∧ inWhat r η1 x1 = some c ∧ η1 = η' ∧ b = (if neg then !c else c)) → wpAny (model prog w) A (compareOp (if neg then .NotIn else .In) va vb) Q E s := by
    rintro neg c ⟨x1, η1, q1, q2, rfl, rfl⟩
    obtain ⟨K1, S1, z1, g1⟩ := frz_ok S x q1
    exact inWhat_ok q2 rm z1 (y.grow g1) S1 neg fun tk => hQ K1 tk g1 S1
  have other : ((B.lift (frz l η)).bind fun q => (B.lift (frz r q.2)).bind fun p => (B.lift (cmpD op q.1 p.1)).bind fun b => .pure (b, p.2)).run = some (b, η') → wpAny (model prog w) A (compareOp op va vb) Q E s := by
    intro q
    refine bind_elim2 q fun x1 η1 q1 q2 => ?_
    rw [B.run_lift] at q1
    refine bind_elim2 q2 fun x2 η2 q3 q4 => ?_
    rw [B.run_lift] at q3
    refine lift_elim q4 fun c q5 q6 => ?_
    first | exact nn q6 | (obtain ⟨rfl, rfl, rfl⟩ := p3 q6) | (obtain ⟨rfl, rfl⟩ := p2 q6) | (obtain rfl := p1 q6) | cases q6
    obtain ⟨K1, S1, z1, g1⟩ := frz_ok S x q1
    obtain ⟨K2, S2, z2, g2⟩ := frz_ok S1 (y.grow g1) q3
    exact cmpD_ok q5 rm (z1.mono g2.k) z2 S2 (hQ K2 s.toks (g1.trans g2) S2)
  have split2 : ∀ (neg : Bool), ((B.lift (frz l η)).bind fun q => (B.lift (inWhat r q.2 q.1)).bind fun b => .pure ((if neg then !b else b), q.2)).run = some (b, η') →
      ∃ c x1 η1, frz l η = some (x1, η1) ∧ inWhat r η1 x1 = some c ∧ η1 = η' ∧ b = (if neg then !c else c) := by
    intro neg q
    refine bind_elim2 q fun x1 η1 q1 q2 => ?_
    rw [B.run_lift] at q1
    refine lift_elim q2 fun c q3 q4 => ?_
    first | exact nn q4 | (obtain ⟨rfl, rfl, rfl⟩ := p3 q4) | (obtain ⟨rfl, rfl⟩ := p2 q4) | (obtain rfl := p1 q4) | cases q4
    exact ⟨c, x1, _, q1, q3, rfl, rfl⟩
  unfold cmp1 at q
  split at q
  · obtain ⟨c, z⟩ := split2 false q
    exact isIn false c z
  · obtain ⟨c, z⟩ := split2 true q
    exact isIn true c z
  · exact other q

theorem truD_some {d : D} {c : Bool} (h : truD d = some c) : d = .bool c := by
  unfold truD at h
  split at h
  · cases h; rfl
  · cases h
theorem isSetE_marks {op : CmpOp} {e : Expr} (h : isSetE e = false) : behindInMarks op e = false := by
  cases e <;> first | rfl | cases h

section
variable (HI : EvOk prog w C₀ K₀ (n + 1) I)
include HI

set_option tactic.hygienic true in
/-- what both chains come to -/
theorem chainW_ok {ops : List CmpOp} {es : List Expr} {l : VV} {va : Value} {b : Bool} (q : (cmpChain I sc ρ l η ops es).run = some (b, η'))
    (r : Room (n + 1) A) (R : ER prog w C₀ K μ s.heap ce sc ρ) (S : SR prog w C₀ K μ η s.heap) (k : KK K₀ K) (x : VR prog w C₀ K μ va l) :
    (∃ op e, ops = [op] ∧ es = [e] ∧ behindInMarks op e = false ∧ ∀ (Q : Value → Shared → Prop), (HN prog w C₀ K μ s η' (.bool b) Q) →
      wpAny (model prog w) A (eval e ce) (fun vb s₁ => wpAny (model prog w) A (compareOp op va vb) Q E s₁) E s) ∨
    (∃ op op' e e', ops = [op, op'] ∧ es = [e, e'] ∧ behindInMarks op' e' = false ∧ ∀ (Q : Value → Shared → Prop), (HN prog w C₀ K μ s η' (.bool b) Q) →
      wpAny (model prog w) A (eval e ce) (fun vb s₁ => wpAny (model prog w) A (compareOp op va vb) (fun c s₂ => ∃ t, c = .bool t ∧
        (if t then wpAny (model prog w) A (eval e' ce) (fun vc s₃ => wpAny (model prog w) A (compareOp op' vb vc) Q E s₃) E s₂ else Q (.bool false) s₂)) E s₁) E s) := by
  unfold cmpChain at q
  split at q
  · rename_i op e
    split at q
    · rename_i hs
      refine bind_elim2 q fun rv η1 q1 q2 => ?_
      refine .inl ⟨op, e, rfl, rfl, isSetE_marks hs, fun Q hQ => HI sc ρ η e rv η1 q1 A E s ce K μ _ r R S k fun v K1 μ1 h1 tk1 g1 S1 R1 => ?_⟩
      exact cmp1_ok (s := { s with heap := h1, toks := tk1 }) q2 r (x.grow g1) R1 S1 fun K2 tk2 g2 S2 => hQ K2 μ1 h1 tk2 (g1.trans g2) S2
    · first | exact nn q | (obtain ⟨rfl, rfl, rfl⟩ := p3 q) | (obtain ⟨rfl, rfl⟩ := p2 q) | (obtain rfl := p1 q) | cases q
  · rename_i op op' e e'
    split at q
    · rename_i hs
      refine bind_elim2 q fun rv η1 q1 q2 => ?_
      refine bind_elim2 q2 fun c η2 q3 q4 => ?_
      rw [B.run_br] at q4
      refine .inr ⟨op, op', e, e', rfl, rfl, isSetE_marks hs, fun Q hQ => HI sc ρ η e rv η1 q1 A E s ce K μ _ r R S k fun v K1 μ1 h1 tk1 g1 S1 R1 => ?_⟩
      refine cmp1_ok (s := { s with heap := h1, toks := tk1 }) q3 r (x.grow g1) R1 S1 fun K2 tk2 g2 S2 => ⟨c, rfl, ?_⟩
      cases c
      · simp only [Bool.false_eq_true, if_false] at q4 ⊢
        first | exact nn q4 | (obtain ⟨rfl, rfl, rfl⟩ := p3 q4) | (obtain ⟨rfl, rfl⟩ := p2 q4) | (obtain rfl := p1 q4) | cases q4
        exact hQ K2 μ1 h1 tk2 (g1.trans g2) S2
      · simp only [if_true] at q4 ⊢
        refine bind_elim2 q4 fun rw' η3 q5 q6 => ?_
        refine HI sc ρ _ e' rw' η3 q5 A E { s with heap := h1, toks := tk2 } ce K2 μ1 _ r (R.grow0 (g1.trans g2)) S2 (k.trans (g1.trans g2).k) fun v' K3 μ3 h3 tk3 g3 S3 R3 => ?_
        exact cmp1_ok (s := { s with heap := h3, toks := tk3 }) q6 r ((R1.grow g2).grow g3) R3 S3 fun K4 tk4 g4 S4 => hQ K4 μ3 h3 tk4 ((g1.trans g2).trans (g3.trans g4)) S4
    · first | exact nn q | (obtain ⟨rfl, rfl, rfl⟩ := p3 q) | (obtain ⟨rfl, rfl⟩ := p2 q) | (obtain rfl := p1 q) | cases q
  · first | exact nn q | (obtain ⟨rfl, rfl, rfl⟩ := p3 q) | (obtain ⟨rfl, rfl⟩ := p2 q) | (obtain rfl := p1 q) | cases q

theorem Compare_ok {lE : Expr} {ops : List CmpOp} {es : List Expr} {pos : Pos} {b : Bool} {Q : Value → Shared → Prop} (q : ((I.ev sc ρ η lE).bind fun q => cmpChain I sc ρ q.1 q.2 ops es).run = some (b, η'))
    (r : Room (n + 1) A) (R : ER prog w C₀ K μ s.heap ce sc ρ) (S : SR prog w C₀ K μ η s.heap) (k : KK K₀ K)
    (hQ : HN prog w C₀ K μ s η' (.bool b) Q) : wpAny (model prog w) A (eval (.Compare lE ops es pos) ce) Q E s := by
  refine bind_elim2 q fun lv η1 q1 q2 => ?_
  show wpAny _ A (do compareChain pos (← eval lE ce) ops (markedEach ops es (evalEach es ce))) Q E s
  refine wpAny_bind (HI sc ρ η lE lv η1 q1 A E s ce K μ _ r R S k fun v K1 μ1 h1 tk1 g1 S1 R1 => ?_)
  rcases chainW_ok (A := A) (E := E) (s := { s with heap := h1, toks := tk1 }) HI q2 r (R.grow0 g1) S1 (k.trans g1.k) R1 with ⟨op, e, rfl, rfl, hm, go⟩ | ⟨op, op', e, e', rfl, rfl, hm, go⟩
  · rw [markedEach_of_false _ _ _ (by simpa [lastMarks] using hm)]
    exact chain_last (go Q fun K' μ' h' tk g2 S2 => hQ K' μ' h' tk (g1.trans g2) S2)
  · rw [markedEach_of_false _ _ _ (by simpa [lastMarks] using hm)]
    refine chain_link (wpAny_mono (go Q fun K' μ' h' tk g2 S2 => hQ K' μ' h' tk (g1.trans g2) S2) (fun vb s₁ z => wpAny_mono z (fun c s₂ z => ?_) fun _ _ z => z) fun _ _ z => z)
    obtain ⟨t, rfl, z⟩ := z
    refine wpAny_truthy_bool ?_
    cases t
    · exact z
    · exact chain_last z

theorem isTrueCompare_ok {lE : Expr} {ops : List CmpOp} {es : List Expr} {pos : Pos} {b : Bool} {whole : Sem Value} {Q : Bool → Shared → Prop} (q : ((I.ev sc ρ η lE).bind fun q => cmpChain I sc ρ q.1 q.2 ops es).run = some (b, η'))
    (r : Room (n + 1) A) (R : ER prog w C₀ K μ s.heap ce sc ρ) (S : SR prog w C₀ K μ η s.heap) (k : KK K₀ K)
    (hQ : HN prog w C₀ K μ s η' b Q) : wpAny (model prog w) A (isTrue (.Compare lE ops es pos) ce whole) Q E s := by
  refine bind_elim2 q fun lv η1 q1 q2 => ?_
  show wpAny _ A (do testChain pos (← eval lE ce) ops (markedEach ops es (evalEach es ce))) Q E s
  refine wpAny_bind (HI sc ρ η lE lv η1 q1 A E s ce K μ _ r R S k fun v K1 μ1 h1 tk1 g1 S1 R1 => ?_)
  rcases chainW_ok (A := A) (E := E) (s := { s with heap := h1, toks := tk1 }) HI q2 r (R.grow0 g1) S1 (k.trans g1.k) R1 with ⟨op, e, rfl, rfl, hm, go⟩ | ⟨op, op', e, e', rfl, rfl, hm, go⟩
  · rw [markedEach_of_false _ _ _ (by simpa [lastMarks] using hm)]
    exact test_last (wpAny_mono (go (fun c s₂ => ∃ t, c = .bool t ∧ Q t s₂) fun K' μ' h' tk g2 S2 => ⟨b, rfl, hQ K' μ' h' tk (g1.trans g2) S2⟩) (fun vb s₁ z => wpAny_mono z (fun c s₂ z => by obtain ⟨t, rfl, z⟩ := z; exact wpAny_truthy_bool z) fun _ _ z => z) fun _ _ z => z)
  · rw [markedEach_of_false _ _ _ (by simpa [lastMarks] using hm)]
    refine test_link (wpAny_mono (go (fun c s₂ => ∃ t, c = .bool t ∧ Q t s₂) fun K' μ' h' tk g2 S2 => ⟨b, rfl, hQ K' μ' h' tk (g1.trans g2) S2⟩) (fun vb s₁ z => wpAny_mono z (fun c s₂ z => ?_) fun _ _ z => z) fun _ _ z => z)
    obtain ⟨t, rfl, z⟩ := z
    refine wpAny_truthy_bool ?_
    cases t
    · obtain ⟨t, e, z⟩ := z
      cases e
      exact z
    · exact test_last (wpAny_mono z (fun vb s₁ z => wpAny_mono z (fun c s₂ z => by obtain ⟨t, rfl, z⟩ := z; exact wpAny_truthy_bool z) fun _ _ z => z) fun _ _ z => z)

theorem bools_ok {pos : Pos} {op : BoolOp} : ∀ (es : List Expr) {η η' : Eta} {b : Bool} {K : Kn} {μ : List Addr} {s : Shared} {Q : Value → Shared → Prop}, (evBools I op sc ρ η es).run = some (b, η') →
    Room (n + 1) A → ER prog w C₀ K μ s.heap ce sc ρ → SR prog w C₀ K μ η s.heap → KK K₀ K →
    (HN prog w C₀ K μ s η' (.bool b) Q) → wpAny (model prog w) A (boolOp pos op (evalEach es ce)) Q E s
  | [], η, η', b, K, μ, s, Q, q, r, R, S, k, hQ => by cases q
  | [e], η, η', b, K, μ, s, Q, q, r, R, S, k, hQ => by
    rw [evBools, B.run_bind] at q
    obtain ⟨⟨d, η1⟩, q1, q2⟩ := Option.bind_eq_some_iff.mp q
    refine lift_elim q2 fun c q3 q4 => ?_
    first | exact nn q4 | (obtain ⟨rfl, rfl, rfl⟩ := p3 q4) | (obtain ⟨rfl, rfl⟩ := p2 q4) | (obtain rfl := p1 q4) | cases q4
    show wpAny _ A (eval e ce) Q E s
    refine evD_ok HI q1 r R S k fun v K1 μ1 h1 tk1 g1 S1 z1 => ?_
    obtain rfl := truD_some q3
    rw [z1.bool_of]
    exact hQ K1 μ1 h1 tk1 g1 S1
  | e :: e' :: es, η, η', b, K, μ, s, Q, q, r, R, S, k, hQ => by
    rw [evBools, B.run_bind] at q
    · obtain ⟨⟨d, η1⟩, q1, q2⟩ := Option.bind_eq_some_iff.mp q
      refine lift_elim q2 fun c q3 q4 => ?_
      show wpAny _ A (do
        let v ← eval e ce
        standAt pos
        let t ← holding [v] (truthy v)
        match op, t with
        | .And, false | .Or, true => pure v
        | _, _ => boolOp pos op (evalEach (e' :: es) ce)) Q E s
      refine wpAny_bind (evD_ok HI q1 r R S k fun v K1 μ1 h1 tk1 g1 S1 z1 => ?_)
      obtain rfl := truD_some q3
      · rw [z1.bool_of]
        refine wpAny_bind (wpAny_standAt (wpAny_bind (wpAny_holding (wpAny_truthy_bool ?_))))
        have rest : (evBools I op sc ρ η1 (e' :: es)).run = some (b, η') → wpAny (model prog w) A (boolOp pos op (evalEach (e' :: es) ce)) Q E { s with heap := h1, toks := tk1 } := fun q5 =>
          bools_ok (e' :: es) (s := { s with heap := h1, toks := tk1 }) q5 r (R.grow0 g1) S1 (k.trans g1.k) fun K3 μ3 h3 tk3 g3 S3 => hQ K3 μ3 h3 tk3 (g1.trans g3) S3
        cases op <;> cases c <;> dsimp only at q4 ⊢ <;> rw [B.run_br] at q4 <;> first
          | (simp only [Bool.false_eq_true, if_false, if_true] at q4; cases q4; exact wpAny_pure (hQ K1 μ1 h1 tk1 g1 S1))
          | (simp only [Bool.false_eq_true, if_false, if_true] at q4; exact rest q4)
    · rintro ⟨⟩

omit HI in
theorem trAll_ok {op : BoolOp} (HT : TrOk prog w C₀ K₀ (n + 1) I) : ∀ (es : List Expr) {η η' : Eta} {b : Bool} {K : Kn} {μ : List Addr} {s : Shared} {Q : Bool → Shared → Prop}, (trAll I op sc ρ η es).run = some (b, η') →
    Room (n + 1) A → ER prog w C₀ K μ s.heap ce sc ρ → SR prog w C₀ K μ η s.heap → KK K₀ K →
    (HN prog w C₀ K μ s η' b Q) → wpAny (model prog w) A (allTrue op es ce) Q E s
  | [], η, η', b, K, μ, s, Q, q, r, R, S, k, hQ => by
    first | exact nn q | (obtain ⟨rfl, rfl, rfl⟩ := p3 q) | (obtain ⟨rfl, rfl⟩ := p2 q) | (obtain rfl := p1 q) | cases q
    exact wpAny_pure (hQ K μ s.heap s.toks (Gr.refl ..) S)
  | e :: es, η, η', b, K, μ, s, Q, q, r, R, S, k, hQ => by
    rw [trAll, B.run_bind] at q
    obtain ⟨⟨c, η1⟩, q1, q2⟩ := Option.bind_eq_some_iff.mp q
    have go : wpAny (model prog w) A (isTrue e ce (eval e ce)) (fun t s₁ => t = c ∧ (wpAny (model prog w) A (match op, t with | .And, false => pure false | .Or, true => pure true | _, _ => allTrue op es ce) Q E s₁)) E s := by
      refine HT sc ρ η e c η1 q1 A E s ce K μ _ r R S k fun K1 μ1 h1 tk1 g1 S1 => ⟨rfl, ?_⟩
      have rest : (trAll I op sc ρ η1 es).run = some (b, η') → wpAny (model prog w) A (allTrue op es ce) Q E { s with heap := h1, toks := tk1 } := fun q5 =>
        trAll_ok HT es (s := { s with heap := h1, toks := tk1 }) q5 r (R.grow0 g1) S1 (k.trans g1.k) fun K3 μ3 h3 tk3 g3 S3 => hQ K3 μ3 h3 tk3 (g1.trans g3) S3
      cases op <;> cases c <;> dsimp only at q2 ⊢ <;> rw [B.run_br] at q2 <;> first
        | (simp only [Bool.false_eq_true, if_false, if_true] at q2; cases q2; exact wpAny_pure (hQ K1 μ1 h1 tk1 g1 S1))
        | (simp only [Bool.false_eq_true, if_false, if_true] at q2; exact rest q2)
    cases op
    · show wpAny _ A (do match BoolOp.And, ← isTrue e ce (eval e ce) with | .And, false => pure false | .Or, true => pure true | _, _ => allTrue .And es ce) Q E s
      exact wpAny_bind (wpAny_mono go (fun t s₁ z => z.2) fun _ _ z => z)
    · show wpAny _ A (do match BoolOp.Or, ← isTrue e ce (eval e ce) with | .And, false => pure false | .Or, true => pure true | _, _ => allTrue .Or es ce) Q E s
      exact wpAny_bind (wpAny_mono go (fun t s₁ z => z.2) fun _ _ z => z)
end
end
end Mine
end
section
namespace Mine
set_option tactic.hygienic false
open PySem PySem.W PyProof.Rows PySem.Spec PySem.Calls

section
variable (prog : Program) (w : World) (C₀ : Addr)
/-- an iterator that has these before it -/
inductive ItAt (K : Kn) (h : Heap) (it : Addr) (ds : List D) : Prop
  | list {a : Addr} {vs : Array Value} {n i : Nat} {all : List D} : h.IsListIter it a i → K a = some (listOf vs n) → VA prog w C₀ K vs.toList all → ds = all.drop i → ItAt K h it ds
  | tup {a : Addr} {o : Obj} {vs : Array Value} {n i : Nat} {all : List D} : IsTupIter h it a i → K a = some o → o.cls = .type "tuple" → o.data = .seq vs n → VA prog w C₀ K vs.toList all → ds = all.drop i → ItAt K h it ds
  | range {i m : Nat} : IsRangeIter h it (i : Int) (m : Int) 1 → ds = ((List.range m).map fun (k : Nat) => D.int ((i + k : Nat) : Int)) → ItAt K h it ds
end

section
variable {prog p : Program} {w : World} {C₀ : Addr} {K₀ K K' : Kn} {n : Nat} {η η' : Eta} {A : Around} {E : Value → Shared → Prop} {s : Shared} {μ : List Addr} {h h' : Heap} {it : Addr} {d : D} {ds : List D}

theorem ItAt.grow (x : ItAt prog w C₀ K h it ds) (k : KK K K') (hi : ∀ o, h.get? it = some o → h'.get? it = some o) : ItAt prog w C₀ K' h' it ds := by
  induction x with
  | list e1 e2 e3 e4 => exact .list (e1.at hi) (k _ _ e2) (e3.mono k) e4
  | tup e1 e2 e3 e4 e5 e6 => obtain ⟨o, g, r⟩ := e1; exact .tup ⟨o, hi _ g, r⟩ (k _ _ e2) e3 e4 (e5.mono k) e6
  | range e1 e2 => exact .range (hi _ e1) e2
theorem ItAt.there (x : ItAt prog w C₀ K h it ds) : ∃ o, h.get? it = some o := by
  induction x with
  | list e1 => obtain ⟨o, g, _⟩ := e1; exact ⟨o, g⟩
  | tup e1 => obtain ⟨o, g, _⟩ := e1; exact ⟨o, g⟩
  | range e1 => exact ⟨_, e1⟩

theorem next_item (x : ItAt prog w C₀ K s.heap it (d :: ds)) (kl : Kle K s.heap) (hk : K it = none) {Q : Option Value → Shared → Prop}
    (hQ : ∀ v h' tk, V prog w C₀ K v d → ItAt prog w C₀ K h' it ds → Heap.SameBut it s.heap h' → (∃ o, h'.get? it = some o) → Q (some v) { s with heap := h', toks := tk }) : wpAny (model prog w) A (pyNext (.ref it)) Q E s := by
  have drop : ∀ {all : List D} {i : Nat}, d :: ds = all.drop i → all[i]? = some d ∧ ds = all.drop (i + 1) := by
    intro all i e
    have h1 : all[i]? = some d := by
      have := congrArg (fun l : List D => l[0]?) e
      simp only [List.getElem?_cons_zero, List.getElem?_drop, Nat.add_zero] at this
      exact this.symm
    refine ⟨h1, ?_⟩
    have := congrArg List.tail e
    rwa [List.tail_cons, List.tail_drop] at this
  induction x with
  | @list a vs n i all e1 e2 e3 e4 =>
    obtain ⟨e5, e6⟩ := drop e4
    obtain ⟨v, hv, z⟩ := e3.get e5
    refine wpAny_pyNext_list_item e1 (items := vs) ⟨_, kl _ _ e2, rfl, n, rfl⟩ (x := v) (by simpa using hv) fun h' hit hs => ?_
    obtain ⟨o, ho, _⟩ := id hit
    exact hQ v h' s.toks z (.list hit e2 e3 e6) hs ⟨o, ho⟩
  | @tup a o vs n i all e1 e2 c1 c2 e3 e4 =>
    obtain ⟨e5, e6⟩ := drop e4
    obtain ⟨v, hv, z⟩ := e3.get e5
    refine next_tuple_item e1 (items := vs) ⟨_, kl _ _ e2, c1, n, c2⟩ (x := v) (by simpa using hv) fun h' hit hs => ?_
    obtain ⟨o, ho, _⟩ := id hit
    exact hQ v h' s.toks z (.tup hit e2 c1 c2 e3 e6) hs ⟨o, ho⟩
  | @range i m e1 e2 =>
    cases m with
    | zero => cases e2
    | succ m =>
      rw [List.range_succ_eq_map, List.map_cons, List.cons.injEq] at e2
      obtain ⟨rfl, rfl⟩ := e2
      refine wpAny_pyNext_range_item e1 (by omega) fun h' hit hs => ?_
      refine hQ _ h' _ (.int _ _) (.range (i := i + 1) (m := m) ?_ ?_) hs ⟨_, hit⟩
      · have e1 : ((i + 1 : Nat) : Int) = (i : Int) + 1 := by omega
        have e2 : (m : Int) = ((m + 1 : Nat) : Int) - 1 := by omega
        rw [e1, e2]; exact hit
      · rw [List.map_map]
        apply List.map_congr_left
        intro k _
        show D.int _ = D.int _
        congr 1
        omega

theorem next_end (hh : A.handled = none) (x : ItAt prog w C₀ K s.heap it []) (kl : Kle K s.heap) {Q : Option Value → Shared → Prop}
    (hQ : ∀ h', Heap.ExtBut it s.heap h' → Q none { s with heap := h' }) : wpAny (model prog w) A (pyNext (.ref it)) Q E s := by
  have drop : ∀ {all : List D} {i : Nat}, ([] : List D) = all.drop i → all.length ≤ i := by
    intro all i e
    exact List.drop_eq_nil_iff.mp e.symm
  induction x with
  | @list a vs n i all e1 e2 e3 e4 =>
    have := e3.length
    have h2 := drop e4
    rw [Array.length_toList] at this
    exact wpAny_pyNext_list_end hh e1 (items := vs) ⟨_, kl _ _ e2, rfl, n, rfl⟩ (by simp; omega) hQ
  | @tup a o vs n i all e1 e2 c1 c2 e3 e4 =>
    have := e3.length
    have h2 := drop e4
    rw [Array.length_toList] at this
    exact next_tuple_end hh e1 (items := vs) ⟨_, kl _ _ e2, c1, n, c2⟩ (by simp; omega) hQ
  | @range i m e1 e2 =>
    induction m with
    | zero => exact wpAny_pyNext_range_end hh e1 (by decide) hQ
    | succ m => rw [List.range_succ_eq_map] at e2; cases e2

/-- the pair that an iterator may own: none of these does -/
theorem owned_ok {target : Expr} {v : Value} {Q : Unit → Shared → Prop} (x : ItAt prog w C₀ K s.heap it ds) (hQ : Q () s) : wpAny (model prog w) A (letOwnedTupleGo target (.ref it) v) Q E s := by
  have key : ∀ {o : Obj} {T : String} {vs : Array Value} {r : Value → Sem Unit}, s.heap.get? it = some o → o.cls = .type T → o.data = .fields vs → (["enumerate", "zip", "dict_itemiterator", "dict_reverseitemiterator", "odict_iterator", "itertools.zip_longest", "itertools.pairwise"].contains T) = false →
      wpAny (model prog w) A (do
        let (.ref r, .ref a) := ((.ref it : Value), v) | return
        let o ← load r
        match o.cls, o.data with
        | .type n, .fields vs =>
          if ["enumerate", "zip", "dict_itemiterator", "dict_reverseitemiterator", "odict_iterator", "itertools.zip_longest", "itertools.pairwise"].contains n && vs[0]? == some (rawInt a) then
            rule "for.unpacks-the-owned-tuple"
            updateField r 0 .none
        | _, _ => pure ()) Q E s := by
    intro o T vs _ ho hc hd ht
    induction v with
    | ref a =>
      dsimp only
      refine wpAny_bind (wpAny_load ho ?_)
      rw [hc, hd]
      dsimp only
      rw [ht, Bool.false_and, if_neg (by decide)]
      exact wpAny_pure hQ
    | _ => exact wpAny_pure hQ
  have go : wpAny (model prog w) A (do
        let (.ref r, .ref a) := ((.ref it : Value), v) | return
        let o ← load r
        match o.cls, o.data with
        | .type n, .fields vs =>
          if ["enumerate", "zip", "dict_itemiterator", "dict_reverseitemiterator", "odict_iterator", "itertools.zip_longest", "itertools.pairwise"].contains n && vs[0]? == some (rawInt a) then
            rule "for.unpacks-the-owned-tuple"
            updateField r 0 .none
        | _, _ => pure ()) Q E s := by
    induction x with
    | list e1 => obtain ⟨o, g, c, dd⟩ := e1; exact key (r := fun _ => pure ()) g c dd (by decide)
    | tup e1 => obtain ⟨o, g, c, dd⟩ := e1; exact key (r := fun _ => pure ()) g c dd (by decide)
    | range e1 => exact key (r := fun _ => pure ()) e1 rfl rfl (by decide)
  unfold letOwnedTupleGo
  cases target <;> first | exact go | exact wpAny_pure hQ
end
end Mine
end
section
namespace Mine
set_option tactic.hygienic false
open PySem PySem.W PyProof.Rows PySem.Spec PySem.Calls

section
variable {prog p : Program} {w : World} {C₀ : Addr} {K₀ K K' : Kn} {n : Nat} {η η' : Eta} {A : Around} {E : Value → Shared → Prop} {s : Shared} {μ μ' : List Addr} {h h' : Heap} {I : Interp} {sc : Sc} {ρ ρ' : Rho} {ce : Env} {X : List Addr}

/-! ### more of growth -/
theorem Gr.transFresh {Z : List Addr} {K1 K2 : Kn} {μ1 μ2 : List Addr} {h1 h2 : Heap} (x : Gr X K μ h K1 μ1 h1) (y : Gr (Z ++ X) K1 μ1 h1 K2 μ2 h2) (hz : ∀ b ∈ Z, h.get? b = none) : Gr X K μ h K2 μ2 h2 := by
  have t := (x.weaken (Y := Z ++ X) fun a ha => List.mem_append_right _ ha).trans y
  refine ⟨t.k, t.knew, t.pre, t.fresh, t.st, fun b o e hb hX => t.fr b o e hb fun q => ?_⟩
  rcases List.mem_append.mp q with q | q
  · rw [hz b q] at e; cases e
  · exact hX q
/-- what is not old may go -/
theorem Gr.endBut {Z : List Addr} {K1 : Kn} {μ1 : List Addr} {h1 h2 : Heap} (x : Gr X K μ h K1 μ1 h1) (e : ∀ b o, b ∉ Z → h1.get? b = some o → h2.get? b = some o) (hz : ∀ b ∈ Z, h.get? b = none) : Gr X K μ h K1 μ1 h2 := by
  refine ⟨x.k, x.knew, x.pre, x.fresh, fun a o q => ?_, fun b o q hb hX => e b o (fun hm => by rw [hz b hm] at q; cases q) (x.fr b o q hb hX)⟩
  obtain ⟨o', q'⟩ := x.st a o q
  exact ⟨o', e a o' (fun hm => by rw [hz a hm] at q; cases q) q'⟩
theorem Gr.same {a : Addr} (hs : Heap.SameBut a h h') (ha : ∃ o, h'.get? a = some o) : Gr [a] K μ h K μ h' := by
  refine ⟨KK.refl K, fun _ _ e => .inl e, List.prefix_refl μ, fun _ e => .inl e, fun b o e => ?_, fun b o e _ hX => (hs.2 b fun q => hX (q ▸ .head _)).trans e⟩
  by_cases q : b = a
  · subst q; exact ha
  · exact ⟨o, (hs.2 b q).trans e⟩
theorem SR.sameBut {a : Addr} (S : SR prog w C₀ K μ η h) (hs : ∀ b o, b ≠ a → h.get? b = some o → h'.get? b = some o) (hk : K a = none) (hm : a ∉ μ) : SR prog w C₀ K μ η h' :=
  skip_ok S fun b o q e => hs b o (fun z => by subst z; rcases q with q | q; (rw [hk] at q; cases q); exact hm q) e
theorem ER.keep (R : ER prog w C₀ K μ h ce sc ρ) (hk : ∀ b o, b ∈ own ce → h.get? b = some o → h'.get? b = some o) : ER prog w C₀ K μ h' ce sc ρ := by
  have inC : ∀ {y : Str} {c : Addr}, ce.cells.lookup y = some c → c ∈ own ce := fun e => own_cell e
  refine ⟨R.kind, R.gl, R.bi, R.names, ?_, fun y vv e q => ?_, fun y c e => ?_, R.inj, R.have_, R.dbg, R.cdi, R.lk, R.lm⟩
  · obtain ⟨m, ⟨o, es, ep, e, r⟩, q⟩ := R.ns
    exact ⟨m, ⟨o, es, ep, hk _ _ (.head _) e, r⟩, q⟩
  · obtain ⟨hk', c, v, o, e1, e2, e3, z⟩ := R.cl y vv e q
    exact ⟨hk', c, v, o, e1, hk _ _ (inC e1) e2, e3, z⟩
  · obtain ⟨⟨o, v, e1, e2⟩, r⟩ := R.cells y c e
    exact ⟨⟨o, v, hk _ _ (inC e) e1, e2⟩, r⟩
theorem ER.congr (R : ER prog w C₀ K μ h ce sc ρ) (hr : ∀ x, lookVV ρ' x = lookVV ρ x) : ER prog w C₀ K μ h ce sc ρ' :=
  ⟨R.kind, R.gl, R.bi, R.names, let ⟨m, a, b⟩ := R.ns; ⟨m, a, fun x vv e => b x vv (by rw [← hr]; exact e)⟩, fun x vv e => R.cl x vv (by rw [← hr]; exact e), R.cells, R.inj, R.have_, R.dbg, R.cdi, R.lk, R.lm⟩
theorem ER.ownThere (R : ER prog w C₀ K μ h ce sc ρ) : ∀ b ∈ own ce, ∃ o, h.get? b = some o := by
  intro b hb
  rcases own_iff hb with rfl | ⟨y, e⟩
  · exact R.there
  · obtain ⟨⟨o, _, e1, _⟩, _⟩ := R.cells y b e
    exact ⟨o, e1⟩

/-! ### targets -/
theorem nodup_rev {α : Type} {l : List α} (h : l.Nodup) : l.reverse.Nodup := List.pairwise_reverse.mpr (h.imp Ne.symm)
noncomputable def rsets (ρ : Rho) : List (Str × D) → Rho
  | [] => ρ
  | (x, d) :: r => rsets (rset ρ x (.d d)) r
theorem look_rsets (y : Str) : ∀ (l : List (Str × D)) (ρ : Rho), (l.map (·.1)).Nodup → lookVV (rsets ρ l) y = match l.lookup y with | some d => some (.d d) | none => lookVV ρ y
  | [], _, _ => rfl
  | (x, d) :: r, ρ, hn => by
    obtain ⟨h1, h2⟩ := List.nodup_cons.mp hn
    rw [rsets, look_rsets y r _ h2, List.lookup_cons]
    induction q : y == x with
    | true =>
      have := beq_iff_eq.mp q; subst this
      have : r.lookup y = none := by
        rw [List.lookup_eq_none_iff]
        intro p hp
        exact bne_iff_ne.mpr fun z => h1 (List.mem_map.mpr ⟨p, hp, z.symm⟩) 
      rw [this]
      dsimp only
      rw [look_rset, if_pos rfl]
    | false =>
      cases r.lookup y with
      | some d => rfl
      | none =>
        dsimp only
        rw [look_rset, if_neg (beq_eq_false_iff_ne.mp q)]

theorem lookup_iff {y : Str} {d : D} : ∀ {l : List (Str × D)}, (l.map (·.1)).Nodup → (l.lookup y = some d ↔ (y, d) ∈ l)
  | [], _ => by simp
  | (x, e) :: r, hn => by
    obtain ⟨h1, h2⟩ := List.nodup_cons.mp hn
    rw [List.lookup_cons]
    cases q : y == x with
    | true =>
      have := beq_iff_eq.mp q; subst this
      simp only [Option.some.injEq, List.mem_cons, Prod.mk.injEq, true_and]
      constructor
      · intro e; exact .inl e.symm
      · rintro (e | e)
        · exact e.symm
        · exact (h1 (List.mem_map.mpr ⟨_, e, rfl⟩)).elim
    | false =>
      simp only [List.mem_cons, Prod.mk.injEq, beq_eq_false_iff_ne.mp q, false_and, false_or]
      exact lookup_iff h2
theorem look_reverse {l : List (Str × D)} (hn : (l.map (·.1)).Nodup) (y : Str) : l.reverse.lookup y = l.lookup y := by
  have hr : (l.reverse.map (·.1)).Nodup := by rw [List.map_reverse]; exact nodup_rev hn
  induction q : l.lookup y with
  | some d => exact (lookup_iff hr).mpr (List.mem_reverse.mpr ((lookup_iff hn).mp q))
  | none =>
    induction q' : l.reverse.lookup y with
    | none => rfl
    | some d => rw [(lookup_iff hn).mpr (List.mem_reverse.mp ((lookup_iff hr).mp q'))] at q; cases q
theorem rsets_reverse {l : List (Str × D)} (hn : (l.map (·.1)).Nodup) (ρ : Rho) (y : Str) : lookVV (rsets ρ l) y = lookVV (rsets ρ l.reverse) y := by
  rw [look_rsets y l ρ hn, look_rsets y l.reverse ρ (by rw [List.map_reverse]; exact nodup_rev hn), look_reverse hn]

theorem distinct_nodup : ∀ {xs : List Str}, distinct xs = true → xs.Nodup
  | [], _ => List.nodup_nil
  | x :: r, h => by
    unfold distinct at h
    rw [Bool.and_eq_true, Bool.not_eq_true'] at h
    refine List.nodup_cons.mpr ⟨fun q => ?_, distinct_nodup h.2⟩
    have := List.contains_iff_mem.mpr q
    rw [h.1] at this; cases this

theorem isName_of {e : Expr} (h : isName e = true) : ∃ x p, e = .Name x p := by
  cases e with
  | Name x p => exact ⟨x, p, rfl⟩
  | _ => exact ft h
theorem guarded {α : Type} {b : Bool} {o : Option α} {x : α} (q : (match b with
    | true => o
    | false => none) = some x) : b = true ∧ o = some x := by
  induction b with
  | true => exact ⟨rfl, q⟩
  | false => exact nn q
theorem bindAll_cons {e : Expr} {es : List Expr} {d : D} {ds : List D} {P : Prop} (q : bindAll sc ρ (e :: es) (d :: ds) = some ρ') (h : ∀ x p, e = .Name x p → storable sc x = true → bindAll sc (rset ρ x (.d d)) es ds = some ρ' → P) : P := by
  have hn : isName e = true := by
    cases e with
    | Name => rfl
    | _ => exact nn q
  obtain ⟨x, p, e0⟩ := isName_of hn
  rw [e0] at q
  exact h x p e0 (guarded q).1 (guarded q).2
theorem bindAll_length : ∀ {es : List Expr} {ds : List D} {ρ : Rho}, bindAll sc ρ es ds = some ρ' → es.length = ds.length := by
  intro es
  induction es with
  | nil =>
    intro ds ρ q
    induction ds with
    | nil => rfl
    | cons => exact nn q
  | cons e es ih =>
    intro ds ρ q
    induction ds with
    | nil =>
      exfalso
      cases e <;> exact nn q
    | cons d ds => exact bindAll_cons q fun _ _ _ _ q => congrArg (· + 1) (ih q)
theorem namesOf_cons {e : Expr} {es : List Expr} {xs : List Str} {P : Prop} (q : namesOf (e :: es) = some xs) (h : ∀ x p ys, e = .Name x p → xs = x :: ys → namesOf es = some ys → P) : P := by
  have hn : isName e = true := by
    cases e with
    | Name => rfl
    | _ => exact nn q
  obtain ⟨x, p, e0⟩ := isName_of hn
  rw [e0] at q
  obtain ⟨ys, h1, h2⟩ := Option.map_eq_some_iff.mp q
  exact h x p ys e0 h2.symm h1
theorem bindAll_names {es : List Expr} : ∀ {ds : List D} {ρ ρ' : Rho}, bindAll sc ρ es ds = some ρ' → ∃ xs, namesOf es = some xs ∧ xs.length = ds.length ∧ (∀ x ∈ xs, storable sc x = true) ∧ ρ' = rsets ρ (xs.zip ds) := by
  induction es with
  | nil =>
    intro ds ρ ρ' q
    induction ds with
    | nil => exact ⟨[], rfl, rfl, fun _ h => absurd h (List.not_mem_nil), (Option.some.inj q).symm⟩
    | cons => exact nn q
  | cons e es ih =>
    intro ds ρ ρ' q
    induction ds with
    | nil => exact nomatch bindAll_length q
    | cons d ds =>
      refine bindAll_cons q fun x p e0 hx q => ?_
      obtain ⟨xs, h1, h2, h3, h4⟩ := ih q
      refine ⟨x :: xs, ?_, congrArg (· + 1) h2, fun y hy => ?_, h4⟩
      · rw [e0]
        exact congrArg (Option.map fun r => x :: r) h1
      · exact (List.mem_cons.mp hy).elim (fun e => e ▸ hx) (h3 y)

/-- a store of one name -/
noncomputable def Stores (M : Model) (ce : Env) (t : Value → Sem Unit) (x : Str) : Prop := ∀ (A : Around) (E : Value → Shared → Prop) (s : Shared) (v : Value) (Q : Unit → Shared → Prop), wpAny M A (storeName ce x v) Q E s → wpAny M A (t v) Q E s
inductive StoresAll (M : Model) (ce : Env) : List (Value → Sem Unit) → List Str → Prop
  | nil : StoresAll M ce [] []
  | cons {t : Value → Sem Unit} {x : Str} {ts : List (Value → Sem Unit)} {xs : List Str} : Stores M ce t x → StoresAll M ce ts xs → StoresAll M ce (t :: ts) (x :: xs)
theorem StoresAll.names {M : Model} {es : List Expr} : ∀ {xs : List Str}, namesOf es = some xs → StoresAll M ce ((assignEach es ce).map (·.2)) xs ∧ (assignEach es ce).findIdx? (·.1) = none ∧ (assignEach es ce).length = xs.length := by
  induction es with
  | nil =>
    intro xs q
    rw [← Option.some.inj q]
    exact ⟨.nil, rfl, rfl⟩
  | cons e es ih =>
    intro xs q
    refine namesOf_cons q fun x p ys e0 e1 h1 => ?_
    obtain ⟨h2, h3, h4⟩ := ih h1
    rw [e0, e1]
    refine ⟨.cons (fun _ _ _ _ _ z => wpAny_assign_Name z) h2, ?_, congrArg (· + 1) h4⟩
    show List.findIdx? (·.1) ((false, assign (.Name x p) ce) :: assignEach es ce) = none
    rw [List.findIdx?_cons, h3]
    rfl
theorem StoresAll.append {M : Model} {ts us : List (Value → Sem Unit)} {xs ys : List Str} (a : StoresAll M ce ts xs) (b : StoresAll M ce us ys) : StoresAll M ce (ts ++ us) (xs ++ ys) := by
  induction a with
  | nil => exact b
  | cons h _ ih => exact .cons h ih
theorem StoresAll.binds {M : Model} : ∀ (xs : List Str), StoresAll M ce (xs.map fun n => bindName ce n) xs
  | [] => .nil
  | _ :: xs => .cons (fun _ _ _ _ _ z => wpAny_bindName z) (StoresAll.binds xs)

theorem inOrder_ok {ts : List (Value → Sem Unit)} {xs : List Str} (st : StoresAll (model prog w) ce ts xs) : ∀ {vs : List Value} {ds : List D} {ρ : Rho} {s : Shared} {Q : Unit → Shared → Prop}, VA prog w C₀ K vs ds → xs.length = ds.length →
    (∀ x ∈ xs, storable sc x = true) → ER prog w C₀ K μ s.heap ce sc ρ → SR prog w C₀ K μ η s.heap →
    (∀ h' tk, Gr (own ce) K μ s.heap K μ h' → ER prog w C₀ K μ h' ce sc (rsets ρ (xs.zip ds)) → SR prog w C₀ K μ η h' → Q () { s with heap := h', toks := tk }) → wpAny (model prog w) A (assignInOrder ts vs) Q E s := by
  induction st with
  | nil =>
    intro vs ds ρ s Q z hl hx R S hQ
    cases z with
    | nil => exact wpAny_pure (hQ s.heap s.toks (Gr.refl ..) R S)
    | cons => exact nomatch hl
  | cons a r ih =>
    intro vs ds ρ s Q z hl hx R S hQ
    cases z with
    | nil => exact nomatch hl
    | cons z zs =>
      refine wpAny_bind (wpAny_holding (a A E s _ _ (store_ok R S (hx _ (.head _)) (.d z) fun h1 tk1 g1 R1 S1 => ?_)))
      exact ih (s := { s with heap := h1, toks := tk1 }) zs (Nat.succ.inj hl) (fun y hy => hx y (.tail _ hy)) R1 S1 fun h2 tk2 g2 R2 S2 => hQ h2 tk2 (g1.trans g2) R2 S2

set_option tactic.hygienic true in
/-- a target of a loop or of a plain assignment -/
theorem bindT_ok (rm : Room (n + 1) A) {t : Expr} {vv : VV} {v : Value} {Q : Unit → Shared → Prop} (q : bindT sc ρ t vv = some ρ') (z : VR prog w C₀ K μ v vv) (R : ER prog w C₀ K μ s.heap ce sc ρ) (S : SR prog w C₀ K μ η s.heap)
    (hQ : ∀ h' tk, Gr (own ce) K μ s.heap K μ h' → ER prog w C₀ K μ h' ce sc ρ' → SR prog w C₀ K μ η h' → Q () { s with heap := h', toks := tk }) : wpAny (model prog w) A (assign t ce v) Q E s := by
  unfold bindT at q
  split at q
  · split at q
    · rename_i hx
      first | exact nn q | (obtain ⟨rfl, rfl, rfl⟩ := p3 q) | (obtain ⟨rfl, rfl⟩ := p2 q) | (obtain rfl := p1 q) | cases q
      exact wpAny_assign_Name (store_ok R S hx z hQ)
    · first | exact nn q | (obtain ⟨rfl, rfl, rfl⟩ := p3 q) | (obtain ⟨rfl, rfl⟩ := p2 q) | (obtain rfl := p1 q) | cases q
  · split at q
    · split at q
      · rename_i ds hd
        obtain ⟨xs, h1, h2, h3, rfl⟩ := bindAll_names q
        cases z with
        | d z =>
          obtain ⟨a, o, vs, k, rfl, e1, e2, e3, r1, l1⟩ := z.tup_of
          obtain ⟨s1, s2, s3⟩ := StoresAll.names (M := model prog w) (ce := ce) h1
          have hlen := r1.length
          rw [Array.length_toList] at hlen
          refine assign_Tuple_tuple rm.hd (items := vs) ⟨_, S.kn _ _ e1, e2, k, e3⟩ (by rw [s3, h2, hlen]) s2 fun h1 he => ?_
          have hk : ∀ b o, s.heap.get? b = some o → h1.get? b = some o := fun b o e => he b o (fun q => by rw [q, get_size] at e; cases e) e
          obtain ⟨S1, G1⟩ := keep_ok S hk
          refine inOrder_ok (s := { s with heap := h1 }) s1 r1 h2 h3 (R.grow0 G1) S1 fun h2 tk2 g2 R2 S2 => ?_
          exact hQ h2 tk2 ((G1.weaken (by simp)).trans g2) R2 S2
      · first | exact nn q | (obtain ⟨rfl, rfl, rfl⟩ := p3 q) | (obtain ⟨rfl, rfl⟩ := p2 q) | (obtain rfl := p1 q) | cases q
    · first | exact nn q | (obtain ⟨rfl, rfl, rfl⟩ := p3 q) | (obtain ⟨rfl, rfl⟩ := p2 q) | (obtain rfl := p1 q) | cases q
  · first | exact nn q | (obtain ⟨rfl, rfl, rfl⟩ := p3 q) | (obtain ⟨rfl, rfl⟩ := p2 q) | (obtain rfl := p1 q) | cases q

theorem names_key {g : Expr → Option Str} (hg : ∀ x p, g (.Name x p) = some x ∨ g (.Name x p) = none) : ∀ {ts : List Expr} {xs : List Str}, namesOf ts = some xs → (ts.filterMap g).length = ts.length → ts.filterMap g = xs := by
  intro ts
  induction ts with
  | nil => exact fun q _ => Option.some.inj q
  | cons t ts ih =>
    intro xs q hl
    refine namesOf_cons q fun x p ys e0 e1 h1 => ?_
    rw [e0, List.filterMap_cons] at hl ⊢
    rw [e1]
    rcases hg x p with h | h
    · rw [h] at hl ⊢
      exact congrArg (x :: ·) (ih h1 (Nat.succ.inj hl))
    · rw [h] at hl
      exact absurd (hl ▸ List.length_filterMap_le g ts) (Nat.not_succ_le_self _)
theorem ite_or {α : Type} {c : Prop} [Decidable c] {a b x y : α} (h1 : a = x) (h2 : ¬c → b = x ∨ b = y) : (if c then a else b) = x ∨ (if c then a else b) = y := by
  by_cases h : c
  · exact .inl ((if_pos h).trans h1)
  · rw [if_neg h]
    exact h2 h
noncomputable def isTupE : Expr → Bool
  | .Tuple _ _ _ => true
  | _ => false
theorem isTupE_of {e : Expr} (h : isTupE e = true) : ∃ x k p, e = .Tuple x k p := by
  cases e with
  | Tuple x k p => exact ⟨x, k, p, rfl⟩
  | _ => exact ft h
theorem swapped_not {ts : List Expr} {k : Nat} {tp : Pos} {e : Expr} (h : isTupE e = false) : swappedStores [.Tuple ts k tp] e ce = pure none := by
  cases e with
  | Tuple => exact ft h.symm
  | _ => rfl
theorem len_of {a b c d : Nat} (h : ¬(a != b || c != d) = true) : a = b := by simp at h; exact h.1
theorem swapped_or {ts : List Expr} {k : Nat} {tp : Pos} {e : Expr} {xs : List Str} (hn : namesOf ts = some xs) (hg : tupGuard (.Tuple ts k tp) e = true) :
    swappedStores [.Tuple ts k tp] e ce = pure none ∨ swappedStores [.Tuple ts k tp] e ce = pure (some xs) := by
  induction he : isTupE e with
  | false => exact .inl (swapped_not he)
  | true =>
    obtain ⟨vs, k', tp', e0⟩ := isTupE_of he
    clear he
    rw [e0] at hg ⊢
    clear e0
    have hg' : (vs.all (foldedForSure 8) || !vs.all (constantsAlone 8)) = true := hg
    clear hg
    refine ite_or rfl fun _ => ite_or rfl fun _ => ite_or rfl fun hl => ite_or rfl fun hf => .inr ?_
    rw [Bool.not_eq_true] at hf
    rw [hf, Bool.false_or, Bool.not_eq_true'] at hg'
    rw [hg']
    refine congrArg (fun z => (pure (some z) : Sem (Option (List Str)))) (names_key (fun x p => ?_) hn (len_of hl))
    dsimp only
    split
    · exact .inl rfl
    · exact .inr rfl
end
end Mine
end
section
namespace Mine
set_option tactic.hygienic false
open PySem PySem.W PyProof.Rows PySem.Spec PySem.Calls

section
variable {prog p : Program} {w : World} {C₀ : Addr} {K₀ K Kb : Kn} {n : Nat} {η η' : Eta} {A : Around} {E : Value → Shared → Prop} {s : Shared} {μ μb : List Addr} {hb : Heap} {I : Interp} {sc : Sc} {ρ ρ' : Rho} {ce : Env}

/-- a loop's hold on its state, told by what follows from it -/
noncomputable def Inv (T : (Nat → Shared → Prop) → Prop) (j : Nat) (s : Shared) : Prop := ∀ P, T P → P j s
theorem Inv.go {T : (Nat → Shared → Prop) → Prop} {P : Nat → Shared → Prop} (h : T P) : ∀ n s, Inv T n s → P n s := fun _ _ H => H P h

theorem flGo_run {r : Fl × Rho × Eta} {k : Rho → Eta → B (Fl × Rho × Eta)} {x : Fl × Rho × Eta} (q : (flGo r k).run = some x) : (r.1 = .next ∧ (k r.2.1 r.2.2).run = some x) ∨ ∃ v, r.1 = .ret v ∧ x = (.ret v, r.2.1, r.2.2) := by
  obtain ⟨f, ρ, η⟩ := r
  induction f with
  | next => exact .inl ⟨rfl, q⟩
  | ret v => exact .inr ⟨v, rfl, (Option.some.inj q).symm⟩

/-- what comes of a body's end -/
theorem flow_elim {r : Fl × Rho × Eta} {g : Rho → Eta → B (Fl × Rho × Eta)} {x : Fl × Rho × Eta} {f : Flow} {P : Flow → Prop} {TR : Rho → Prop} {TS : Eta → Prop} (q : (flGo r g).run = some x) (F : FR prog w C₀ K μ f r.1) (R : TR r.2.1) (S : TS r.2.2)
    (h1 : (g r.2.1 r.2.2).run = some x → P .next) (h2 : ∀ v, FR prog w C₀ K μ (.ret v) x.1 → TR x.2.1 → TS x.2.2 → P (.ret v)) : P f := by
  obtain ⟨a, b, c⟩ := r
  cases F with
  | next => exact h1 q
  | ret z =>
    obtain rfl := Option.some.inj q
    exact h2 _ (.ret z) R S

theorem forLoop_ok (HX : ExsOk prog w C₀ K₀ (n + 1) I) {t : Expr} {body : List Stmt} {it : Addr} {fl : Fl} {R : Result → Shared → Prop} (rm : Room (n + 1) A) (hown : it ∉ own ce) (hib : hb.get? it = none)
    (hR : ∀ f K' μ' h' tk, Gr (own ce) Kb μb hb K' μ' h' → ER prog w C₀ K' μ' h' ce sc ρ' → SR prog w C₀ K' μ' η' h' → FR prog w C₀ K' μ' f fl → R (.ok f) { s with heap := h', toks := tk })
    {ds : List D} (q : (forGo I sc t body ρ η ds).run = some (fl, ρ', η')) (k : KK K₀ K) (G : Gr (own ce) Kb μb hb K μ s.heap) (Re : ER prog w C₀ K μ s.heap ce sc ρ) (S : SR prog w C₀ K μ η s.heap) (It : ItAt prog w C₀ K s.heap it ds) (hk : K it = none) (hm : it ∉ μ) :
    codeAny (model prog w) A (.forLoop t (.ref it) body [] ce) R s := by
  refine codeAny_forLoop_any (Inv fun P => ∀ ds' ρi ηi Ki μi hi tk, (forGo I sc t body ρi ηi ds').run = some (fl, ρ', η') → KK K₀ Ki → Gr (own ce) Kb μb hb Ki μi hi →
    ER prog w C₀ Ki μi hi ce sc ρi → SR prog w C₀ Ki μi ηi hi → ItAt prog w C₀ Ki hi it ds' → Ki it = none → it ∉ μi → P ds'.length { s with heap := hi, toks := tk }) (Inv.go ?_) ds.length fun P kk => kk ds ρ η K μ s.heap s.toks q k G Re S It hk hm
  clear q k G Re S It hk hm
  intro ds' ρi ηi Ki μi hi tk q k G Re S It hk hm
  cases ds' with
  | nil =>
    first | exact nn q | (obtain ⟨rfl, rfl, rfl⟩ := p3 q) | (obtain ⟨rfl, rfl⟩ := p2 q) | (obtain rfl := p1 q) | cases q
    refine next_end (s := { s with heap := hi, toks := tk }) rm.hd It S.kn fun h1 he => wpAny_execs_nil ?_
    exact hR .next Ki μi h1 tk (G.endBut (Z := [it]) (fun b o hb e => he b o (by simpa using hb) e) (by simpa using hib)) (Re.keep fun b o hb e => he b o (fun z => hown (z ▸ hb)) e) (S.sameBut he hk hm) .next
  | cons d ds' =>
    rw [forGo, B.run_bind] at q
    obtain ⟨ρ1, q1, q2⟩ := Option.bind_eq_some_iff.mp q
    rw [B.run_lift] at q1
    refine bind_elim q2 fun r q3 q4 => ?_
    refine next_item (s := { s with heap := hi, toks := tk }) It S.kn hk fun v h1 tk1 z It1 hs hst => ?_
    have R1 : ER prog w C₀ Ki μi h1 ce sc ρi := Re.keep fun b o hb e => (hs.2 b fun z => hown (z ▸ hb)).trans e
    have S1 : SR prog w C₀ Ki μi ηi h1 := S.sameBut (fun b o hb e => (hs.2 b hb).trans e) hk hm
    refine owned_ok (s := { s with heap := h1, toks := tk1 }) It1 ?_
    refine bindT_ok (s := { s with heap := h1, toks := tk1 }) rm q1 (.d z) R1 S1 fun h2 tk2 g2 R2 S2 => ?_
    refine HX sc ρ1 ηi body r.1 r.2.1 r.2.2 q3 A _ { s with heap := h2, toks := tk2 } ce Ki μi _ rm R2 S2 k fun f K3 μ3 h3 tk3 g3 R3 S3 F3 => ?_
    have g23 := g2.trans g3
    have G3 : Gr (own ce) Kb μb hb K3 μ3 h3 := G.transFresh (Z := [it]) (((Gr.same hs hst).weaken fun a ha => List.mem_append_left _ ha).trans (g23.weaken fun a ha => List.mem_append_right _ ha)) fun b hb' => List.mem_singleton.mp hb' ▸ hib
    refine It1.there.elim fun o ho => ?_
    apply flow_elim (TR := ER prog w C₀ K3 μ3 h3 ce sc) (TS := fun e => SR prog w C₀ K3 μ3 e h3) q4 F3 R3 S3 ?_ fun v F R S => hR _ K3 μ3 h3 tk3 G3 R S F
    intro q5
    exact ⟨ds'.length, Nat.lt_succ_self _, fun P kk => kk ds' r.2.1 r.2.2 K3 μ3 h3 tk3 q5 (k.trans g23.k) G3 R3 S3 (It1.grow g23.k fun o e => g23.fr it o e hm hown) (g23.unknown ho hm hk) (g23.notMem ho hm)⟩

theorem whileLoop_ok (HT : TrOk prog w C₀ K₀ (n + 1) I) (HX : ExsOk prog w C₀ K₀ (n + 1) I) {t : Expr} {body : List Stmt} {fl : Fl} {R : Result → Shared → Prop} (rm : Room (n + 1) A)
    (hR : ∀ f K' μ' h' tk, Gr (own ce) Kb μb hb K' μ' h' → ER prog w C₀ K' μ' h' ce sc ρ' → SR prog w C₀ K' μ' η' h' → FR prog w C₀ K' μ' f fl → R (.ok f) { s with heap := h', toks := tk })
    {m : Nat} (q : (whileGo I sc t body ρ η m).run = some (fl, ρ', η')) (k : KK K₀ K) (G : Gr (own ce) Kb μb hb K μ s.heap) (Re : ER prog w C₀ K μ s.heap ce sc ρ) (S : SR prog w C₀ K μ η s.heap) :
    codeAny (model prog w) A (.whileLoop t body [] ce) R s := by
  refine codeAny_whileLoop (Inv fun P => ∀ m ρi ηi Ki μi hi tk, (whileGo I sc t body ρi ηi m).run = some (fl, ρ', η') → KK K₀ Ki → Gr (own ce) Kb μb hb Ki μi hi →
    ER prog w C₀ Ki μi hi ce sc ρi → SR prog w C₀ Ki μi ηi hi → P m { s with heap := hi, toks := tk }) (Inv.go ?_) m fun P kk => kk m ρ η K μ s.heap s.toks q k G Re S
  clear q k G Re S
  intro m ρi ηi Ki μi hi tk q k G Re S
  cases m with
  | zero => cases q
  | succ m =>
    rw [whileGo, B.run_bind] at q
    obtain ⟨⟨b, η1⟩, q1, q2⟩ := Option.bind_eq_some_iff.mp q
    rw [B.run_br] at q2
    refine HT sc ρi ηi t b η1 q1 A _ { s with heap := hi, toks := tk } ce Ki μi _ rm Re S k fun K1 μ1 h1 tk1 g1 S1 => ?_
    have R1 := Re.grow0 g1
    have G1 := G.trans (g1.weaken (Y := own ce) (by simp))
    induction b with
    | false =>
      simp only [Bool.false_eq_true, if_false] at q2 ⊢
      first | exact nn q2 | (obtain ⟨rfl, rfl, rfl⟩ := p3 q2) | (obtain ⟨rfl, rfl⟩ := p2 q2) | (obtain rfl := p1 q2) | cases q2
      exact wpAny_execs_nil (hR .next K1 μ1 h1 tk1 G1 R1 S1 .next)
    | true =>
      simp only [if_true] at q2 ⊢
      refine bind_elim3 q2 fun f1 ρ2 η2 q3 q4 => ?_
      refine HX sc ρi η1 body f1 ρ2 η2 q3 A _ { s with heap := h1, toks := tk1 } ce K1 μ1 _ rm R1 S1 (k.trans g1.k) fun f K3 μ3 h3 tk3 g3 R3 S3 F3 => ?_
      apply flow_elim (TR := ER prog w C₀ K3 μ3 h3 ce sc) (TS := fun e => SR prog w C₀ K3 μ3 e h3) q4 F3 R3 S3 ?_ fun v F R S => hR _ K3 μ3 h3 tk3 (G1.trans g3) R S F
      intro q5
      exact ⟨m, Nat.lt_succ_self m, fun P kk => kk m ρ2 η2 K3 μ3 h3 tk3 q5 ((k.trans g1.k).trans g3.k) (G1.trans g3) R3 S3⟩
end
end Mine
end
section
namespace Mine
set_option tactic.hygienic false
open PySem PySem.W PyProof.Rows PySem.Spec PySem.Calls

noncomputable def NoSet (I : Interp) : Prop := ∀ sc ρ η es k p, I.ev sc ρ η (.Set es k p) = .fail

section
variable {prog p : Program} {w : World} {C₀ fI : Addr} {G : Frag} {loose : List Str} {mean : ExcName → Option Value} {mg mb : Str → Option Value} {h₀ : Heap} {FF : Str → Option FDef}
  {K : Kn} {n : Nat} {η η' : Eta} {A : Around} {E : Value → Shared → Prop} {s : Shared} {μ : List Addr} {h h' : Heap} {I : Interp} {sc : Sc} {ρ : Rho} {ce : Env}

theorem itr_noSet (N : NoSet I) {e : Expr} {r : List D × Eta} (q : (itr I sc ρ η e).run = some r) (x : Value) : foldedSetIterable e ce x = pure x := by
  cases e with
  | Set es k p =>
    exfalso
    have : (evD I sc ρ η (.Set es k p)).run = none := by rw [evD, B.run_bind, N]; rfl
    unfold itr at q
    rw [B.run_bind] at q
    rw [this] at q; cases q
  | _ => rfl

set_option tactic.hygienic true in
theorem rangeD_some {d : D} {ds : List D} (q : rangeD d = some ds) : ∃ m : Int, d = .int m ∧ 0 ≤ m ∧ m ≤ 1000 ∧ ds = (List.range m.toNat).map fun (k : Nat) => D.int (k : Int) := by
  unfold rangeD at q
  split at q
  · split at q
    · rename_i hb; cases q; exact ⟨_, rfl, hb.1, hb.2, rfl⟩
    · first | exact nn q | (obtain ⟨rfl, rfl, rfl⟩ := p3 q) | (obtain ⟨rfl, rfl⟩ := p2 q) | (obtain rfl := p1 q) | cases q
  · first | exact nn q | (obtain ⟨rfl, rfl, rfl⟩ := p3 q) | (obtain ⟨rfl, rfl⟩ := p2 q) | (obtain rfl := p1 q) | cases q
theorem fresh_it (S : SR prog w C₀ K μ η h) : K h.objs.size = none ∧ h.objs.size ∉ μ := ⟨S.size_none, S.size_notin⟩

/-- an iterator over what is data -/
theorem pyIter_ok {v : Value} {d : D} {ds : List D} {Q : Value → Shared → Prop} (q : itemsD d = some ds) (z : V prog w C₀ K v d) (S : SR prog w C₀ K μ η s.heap)
    (hQ : ∀ h', (∀ b o, s.heap.get? b = some o → h'.get? b = some o) → ItAt prog w C₀ K h' s.heap.objs.size ds → Q (.ref s.heap.objs.size) { s with heap := h' }) : wpAny (model prog w) A (pyIter v) Q E s := by
  unfold itemsD at q
  split at q
  · first | exact nn q | (obtain ⟨rfl, rfl, rfl⟩ := p3 q) | (obtain ⟨rfl, rfl⟩ := p2 q) | (obtain rfl := p1 q) | cases q
    obtain ⟨a, vs, n, rfl, e1, r1, l1⟩ := z.lst_of
    refine wpAny_pyIter_list (items := vs) ⟨_, S.kn _ _ e1, rfl, n, rfl⟩ (hQ _ (fun b o e => Heap.get?_push_of_some _ e) ?_)
    exact .list ⟨_, Heap.get?_push_size _ rfl, rfl, rfl⟩ e1 r1 rfl
  · first | exact nn q | (obtain ⟨rfl, rfl, rfl⟩ := p3 q) | (obtain ⟨rfl, rfl⟩ := p2 q) | (obtain rfl := p1 q) | cases q
    obtain ⟨a, o, vs, n, rfl, e1, e2, e3, r1, l1⟩ := z.tup_of
    refine iter_tuple (items := vs) ⟨_, S.kn _ _ e1, e2, n, e3⟩ (hQ _ (fun b o e => Heap.get?_push_of_some _ e) ?_)
    exact .tup ⟨_, Heap.get?_push_size _ rfl, rfl, rfl⟩ e1 e2 e3 r1 rfl
  · first | exact nn q | (obtain ⟨rfl, rfl, rfl⟩ := p3 q) | (obtain ⟨rfl, rfl⟩ := p2 q) | (obtain rfl := p1 q) | cases q

set_option tactic.hygienic true in
theorem itr_ok (X : Ctx p w G C₀ fI loose mean mg mb h₀ FF) (HI : EvOk prog w C₀ h₀.get? (n + 1) I) (N : NoStar I) {e : Expr} {ds : List D} {Q : Value → Shared → Prop} (q : (itr I sc ρ η e).run = some (ds, η'))
    (r : Room (n + 1) A) (R : ER prog w C₀ K μ s.heap ce sc ρ) (S : SR prog w C₀ K μ η s.heap) (k : KK h₀.get? K)
    (hQ : ∀ it K' μ' h' tk, Gr [] K μ s.heap K' μ' h' → SR prog w C₀ K' μ' η' h' → ItAt prog w C₀ K' h' it ds → s.heap.get? it = none → K' it = none → it ∉ μ' → Q (.ref it) { s with heap := h', toks := tk }) :
    wpAny (model prog w) A (eval e ce) (fun x s₁ => wpAny (model prog w) A (pyIter x) Q E s₁) E s := by
  have other : ((evD I sc ρ η e).bind fun r => (B.lift (itemsD r.1)).bind fun ds => .pure (ds, r.2)).run = some (ds, η') →
      wpAny (model prog w) A (eval e ce) (fun x s₁ => wpAny (model prog w) A (pyIter x) Q E s₁) E s := by
    intro q
    refine bind_elim2 q fun d η1 q1 q2 => ?_
    refine lift_elim q2 fun ds' q3 q4 => ?_
    first | exact nn q4 | (obtain ⟨rfl, rfl, rfl⟩ := p3 q4) | (obtain ⟨rfl, rfl⟩ := p2 q4) | (obtain rfl := p1 q4) | cases q4
    refine evD_ok HI q1 r R S k fun v K1 μ1 h1 tk1 g1 S1 z1 => ?_
    refine pyIter_ok (s := { s with heap := h1, toks := tk1 }) q3 z1 S1 fun h2 hk It => ?_
    obtain ⟨S2, G2⟩ := keep_ok S1 hk
    exact hQ _ K1 μ1 h2 tk1 (g1.trans G2) S2 It (g1.back (get_size h1)) S1.size_none S1.size_notin
  unfold itr at q
  split at q
  · rename_i x np a cp
    split at q
    · rename_i hx
      subst hx
      split at q
      · rename_i hg
        refine bind_elim2 q fun d η1 q1 q2 => ?_
        refine lift_elim q2 fun ds' q3 q4 => ?_
        first | exact nn q4 | (obtain ⟨rfl, rfl, rfl⟩ := p3 q4) | (obtain ⟨rfl, rfl⟩ := p2 q4) | (obtain rfl := p1 q4) | cases q4
        refine wpAny_Call_NameR (bi_ok X R S k hg (X.bi (Str.ofString "range") (.type "range") (by simp)) ?_)
        have ns : ∀ x p, a ≠ .Starred x p := by
          have q1' := q1
          rw [evD, B.run_bind] at q1'
          obtain ⟨r', q1', _⟩ := Option.bind_eq_some_iff.mp q1'
          exact N.ne q1'
        rw [starEach_cons ns]
        show wpAny _ A (callWith cp (.type "range") [] [(false, eval a ce)] []) _ E s
        refine callWith_type1 (evD_ok HI q1 r R S k fun v K1 μ1 h1 tk1 g1 S1 z1 => ?_)
        obtain ⟨m, rfl, hb1, hb2, rfl⟩ := rangeD_some q3
        · · obtain ⟨t, rfl⟩ := z1.int_of
            have b62 : (2 : Int) ^ 62 = 4611686018427387904 := by decide
            refine call_range_1 ?_
            refine wpAny_pyIter_range (IsRange.new ..) (small_one (by decide) (by decide) (by omega) (by omega)) ?_
            have hk : ∀ b o, h1.get? b = some o → ((h1.push { cls := .type "range", data := .fields #[.int 0 tk1, .int m t, .int 1 (tk1 + 1)] }).push { cls := .type "range_iterator", data := .fields #[rawInt 0, rawInt (Builtin.Range.rangeSize 0 m 1), rawInt 1] }).get? b = some o :=
              fun b o e => Heap.get?_push_of_some _ (Heap.get?_push_of_some _ e)
            obtain ⟨S2, G2⟩ := keep_ok S1 hk
            have hs : (h1.push { cls := .type "range", data := .fields #[.int 0 tk1, .int m t, .int 1 (tk1 + 1)] }).objs.size = h1.objs.size + 1 := Heap.size_push ..
            have f1 : h1.get? (h1.objs.size + 1) = none := fresh_of_ge (Nat.le_succ _)
            have hk1 : K1 (h1.objs.size + 1) = none := by
              induction z : K1 (h1.objs.size + 1) with
              | none => rfl
              | some o => rw [S1.kn _ _ z] at f1; cases f1
            have hm1 : h1.objs.size + 1 ∉ μ1 := fun z => by obtain ⟨o, e⟩ := S1.there z; rw [f1] at e; cases e
            show Q (.ref (h1.push { cls := .type "range", data := .fields #[.int 0 tk1, .int m t, .int 1 (tk1 + 1)] }).objs.size) _
            rw [hs]
            refine hQ _ K1 μ1 _ _ (g1.trans G2) S2 (.range (i := 0) (m := m.toNat) ?_ ?_) (g1.back f1) hk1 hm1
            · have := Heap.get?_push_size (h1.push { cls := .type "range", data := .fields #[.int 0 tk1, .int m t, .int 1 (tk1 + 1)] }) (o := { cls := .type "range_iterator", data := .fields #[rawInt 0, rawInt (Builtin.Range.rangeSize 0 m 1), rawInt 1] }) rfl
              rw [hs] at this
              have e1 : Builtin.Range.rangeSize 0 m 1 = (m.toNat : Int) := by rw [rangeSize_one]; split <;> omega
              rw [e1] at this ⊢
              exact this
            · apply List.map_congr_left
              intro j _
              show D.int _ = D.int _
              congr 1
              omega
      · first | exact nn q | (obtain ⟨rfl, rfl, rfl⟩ := p3 q) | (obtain ⟨rfl, rfl⟩ := p2 q) | (obtain rfl := p1 q) | cases q
    · first | exact nn q | (obtain ⟨rfl, rfl, rfl⟩ := p3 q) | (obtain ⟨rfl, rfl⟩ := p2 q) | (obtain rfl := p1 q) | cases q
  · first | exact nn q | (obtain ⟨rfl, rfl, rfl⟩ := p3 q) | (obtain ⟨rfl, rfl⟩ := p2 q) | (obtain rfl := p1 q) | cases q
  · exact other q
end
end Mine
end
section
namespace Mine
set_option tactic.hygienic false
open PySem PySem.W PyProof.Rows PySem.Spec PySem.Calls

/-! ### the names of a comprehension -/
noncomputable def closeL (cells : List (Str × Addr)) : Sc → List (Str × Addr) → List (Str × Addr)
  | [], acc => acc
  | (n, .free) :: r, acc => closeL cells r ((n, (cells.lookup n).getD 0) :: acc)
  | _ :: r, acc => closeL cells r acc

theorem closure_ok {env : Env} {scope : Scope} (hf : ∀ y ∈ scope.names, y.2 = .free → ∃ c, env.cells.lookup y.1 = some c) : closureFor scope env = pure (closeL env.cells scope.names []) := by
  unfold closureFor
  have key : ∀ (l : Sc) (acc : List (Str × Addr)), (∀ y ∈ l, y.2 = .free → ∃ c, env.cells.lookup y.1 = some c) →
      (forIn l acc fun (x : Str × NameKind) (r : List (Str × Addr)) => (match x with
        | (name, kind) => if (kind == NameKind.free) = true then do
            let a ← cellOf env name
            pure (ForInStep.yield ((name, a) :: r))
          else pure (ForInStep.yield r) : Sem (ForInStep (List (Str × Addr))))) = pure (closeL env.cells l acc) := by
    intro l
    induction l with
    | nil => intro acc _; rw [List.forIn_nil]; rfl
    | cons y l ih =>
      intro acc h
      obtain ⟨n, k⟩ := y
      rw [List.forIn_cons]
      have ih' := fun acc => ih acc fun z hz => h z (.tail _ hz)
      induction k with
      | free =>
        obtain ⟨c, hc⟩ := h _ (.head _) rfl
        dsimp only at hc
        have e1 : cellOf env n = pure c := by unfold cellOf; rw [hc]
        have e2 : (NameKind.free == NameKind.free) = true := rfl
        simp only [e2, if_true, e1, pure_bind]
        rw [ih']
        show pure _ = pure (closeL env.cells l ((n, (env.cells.lookup n).getD 0) :: acc))
        rw [hc]; rfl
      | _ => exact ih' acc
  have := key scope.names [] hf
  simp only [bind_pure]
  exact this

theorem closeL_some {cells : List (Str × Addr)} {y : Str} {c : Addr} : ∀ {l : Sc} {acc : List (Str × Addr)}, (closeL cells l acc).lookup y = some c → acc.lookup y = some c ∨ ((y, .free) ∈ l ∧ c = (cells.lookup y).getD 0)
  | [], _, h => .inl h
  | (n, k) :: r, acc, h => by
    induction k with
    | free =>
      rcases closeL_some (l := r) (acc := (n, (cells.lookup n).getD 0) :: acc) h with h | ⟨h1, h2⟩
      · rw [List.lookup_cons] at h
        induction q : y == n with
        | true =>
          rw [q] at h; cases h
          have := beq_iff_eq.mp q; subst this
          exact .inr ⟨.head _, rfl⟩
        | false => rw [q] at h; exact .inl h
      · exact .inr ⟨.tail _ h1, h2⟩
    | _ =>
      rcases closeL_some (l := r) (acc := acc) h with h | ⟨h1, h2⟩
      · exact .inl h
      · exact .inr ⟨.tail _ h1, h2⟩
theorem closeL_acc {cells : List (Str × Addr)} {y : Str} {c : Addr} : ∀ {l : Sc} {acc : List (Str × Addr)}, acc.lookup y = some c → c = (cells.lookup y).getD 0 → (closeL cells l acc).lookup y = some c
  | [], _, h, _ => h
  | (n, k) :: r, acc, h, e => by
    induction k with
    | free =>
      refine closeL_acc (l := r) ?_ e
      rw [List.lookup_cons]
      induction q : y == n with
      | true => have := beq_iff_eq.mp q; subst this; rw [← e]
      | false => exact h
    | _ => exact closeL_acc (l := r) h e
theorem closeL_mem {cells : List (Str × Addr)} {y : Str} : ∀ {l : Sc} {acc : List (Str × Addr)}, (y, .free) ∈ l → (closeL cells l acc).lookup y = some ((cells.lookup y).getD 0)
  | [], _, h => by cases h
  | (n, k) :: r, acc, h => by
    induction k with
    | free =>
      rcases List.mem_cons.mp h with e | h
      · cases e
        refine closeL_acc (l := r) ?_ rfl
        rw [List.lookup_cons, beq_self_eq_true]
      · exact closeL_mem (l := r) h
    | _ =>
      rcases List.mem_cons.mp h with e | h
      · cases e
      · exact closeL_mem (l := r) h

theorem look_filter {f : Str → Bool} {y : Str} : ∀ {ρ : Rho}, lookVV (ρ.filter fun p => f p.1) y = if f y then lookVV ρ y else none
  | [] => by simp [lookVV]
  | (x, v) :: r => by
    have ih := @look_filter f y r
    unfold lookVV at ih ⊢
    rw [List.filter_cons, List.lookup_cons]
    induction q : y == x with
    | true =>
      have := beq_iff_eq.mp q; subst this
      dsimp only
      induction hf : f y with
      | true => rw [if_pos rfl, if_pos rfl, List.lookup_cons, beq_self_eq_true]
      | false => rw [if_neg (by decide), ih, hf, if_neg (by decide), if_neg (by decide)]
    | false =>
      dsimp only
      induction hf : f x with
      | true => rw [if_pos rfl, List.lookup_cons, q]; exact ih
      | false => rw [if_neg (by decide)]; exact ih

theorem relabel_look {env : Env} {y : Str} : ∀ {names : Sc},
    (names.map fun (n, k) => if (k == NameKind.free && env.scope.kind == .function && env.kindOf n == some .cell) then (n, NameKind.cell) else (n, k)).lookup y = names.lookup y ∨
    (names.lookup y = some .free ∧ (names.map fun (n, k) => if (k == NameKind.free && env.scope.kind == .function && env.kindOf n == some .cell) then (n, NameKind.cell) else (n, k)).lookup y = some .cell)
  | [] => .inl rfl
  | (n, k) :: r => by
    have ih := @relabel_look env y r
    rw [List.map_cons]
    by_cases hc : (k == NameKind.free && env.scope.kind == .function && env.kindOf n == some .cell) = true
    · simp only [hc, if_true]
      rw [List.lookup_cons, List.lookup_cons]
      induction q : y == n with
      | true =>
        simp only [Bool.and_eq_true, beq_iff_eq] at hc
        exact .inr ⟨by rw [hc.1.1], rfl⟩
      | false => exact ih
    · rw [Bool.not_eq_true] at hc
      simp only [hc, Bool.false_eq_true, if_false]
      rw [List.lookup_cons, List.lookup_cons]
      induction q : y == n with
      | true => exact .inl rfl
      | false => exact ih

section
variable {prog p : Program} {w : World} {C₀ : Addr} {K₀ K : Kn} {n : Nat} {η η' : Eta} {A : Around} {E : Value → Shared → Prop} {s : Shared} {μ : List Addr} {h h' : Heap} {I : Interp} {sc : Sc} {ρ : Rho} {ce : Env}

structure CompOk (sc : Sc) (ρ : Rho) (x : Str) (scope : Scope) : Prop where
  kind : scope.kind = .function
  x : scope.names.lookup x = some .local
  dbg : scope.names.lookup (Str.ofString "__debug__") = none
  cdi : scope.names.lookup (Str.ofString "__classdict__") = none
  all : scope.names.all (nameOk sc ρ scope.names) = true

theorem CompOk.at_ {x : Str} {scope : Scope} (c : CompOk sc ρ x scope) {y : Str × NameKind} (hy : y ∈ scope.names) : nameOk sc ρ scope.names y = true := List.all_eq_true.mp c.all y hy
set_option tactic.hygienic true in
theorem CompOk.free {x : Str} {scope : Scope} (c : CompOk sc ρ x scope) {y : Str} (hy : (y, .free) ∈ scope.names) : scope.names.lookup y = some .free ∧ (∃ vv, lookVV ρ y = some vv) ∧ (sc.lookup y = some .cell ∨ sc.lookup y = some .free) := by
  have := c.at_ hy
  unfold nameOk at this
  dsimp only at this
  split at this
  · rename_i e1 e2 e3; exact ⟨e1, ⟨_, e2⟩, .inl e3⟩
  · rename_i e1 e2 e3; exact ⟨e1, ⟨_, e2⟩, .inr e3⟩
  · cases this
set_option tactic.hygienic true in
theorem CompOk.names {x : Str} {scope : Scope} (c : CompOk sc ρ x scope) : ∀ y ∈ scope.names, y.2 = .local → scope.names.lookup y.1 = some .local := by
  rintro ⟨y, k⟩ hy rfl
  have := c.at_ hy
  unfold nameOk at this
  dsimp only at this
  split at this
  · rename_i e1; exact e1
  · cases this
theorem CompOk.noCell {x : Str} {scope : Scope} (c : CompOk sc ρ x scope) : ∀ y ∈ scope.names, y.2 ≠ .cell := by
  rintro ⟨y, k⟩ hy rfl
  have := c.at_ hy
  unfold nameOk at this
  cases this

theorem ER.notLocal (R : ER prog w C₀ K μ h ce sc ρ) {y : Str} (e : sc.lookup y = some .cell ∨ sc.lookup y = some .free) : ce.kindOf y ≠ some .local := by
  intro z
  rcases R.names y with q | ⟨_, q⟩
  · rw [z] at q; rcases e with e | e <;> (rw [e] at q; cases q)
  · rw [z] at q; cases q
theorem ER.free (R : ER prog w C₀ K μ h ce sc ρ) {x y : Str} {scope : Scope} (c : CompOk sc ρ x scope) (hy : (y, .free) ∈ scope.names) : ∃ a, ce.cells.lookup y = some a := by
  obtain ⟨_, ⟨vv, e⟩, q⟩ := c.free hy
  obtain ⟨_, a, _, _, e1, _⟩ := R.cl y vv e (R.notLocal q)
  exact ⟨a, e1⟩

set_option tactic.hygienic true in
/-- the comprehension's own frame -/
theorem compER (R : ER prog w C₀ K μ h ce sc ρ) {x : Str} {scope : Scope} (c : CompOk sc ρ x scope) {C : Addr} {m : Str → Option Value} {v : Value} {d : D} (hn : h.Ns C m) (mx : m x = some v) (z : V prog w C₀ K v d)
    (kC : K C = none) (mC : C ∉ μ) (oC : C ∉ own ce) : ER prog w C₀ K μ h (compEnvC scope (closeL ce.cells scope.names []) C ce) scope.names ((x, .d d) :: freeOf scope.names ρ) := by
  have cell : ∀ y a, (closeL ce.cells scope.names []).lookup y = some a → (y, .free) ∈ scope.names ∧ ce.cells.lookup y = some a := by
    intro y a e
    rcases closeL_some e with e | ⟨h1, h2⟩
    · cases e
    · obtain ⟨b, hb⟩ := R.free c h1
      rw [hb] at h2
      exact ⟨h1, by rw [hb, h2]; rfl⟩
  have kind : ∀ y, (compEnvC scope (closeL ce.cells scope.names []) C ce).kindOf y = scope.names.lookup y ∨ (scope.names.lookup y = some .free ∧ (compEnvC scope (closeL ce.cells scope.names []) C ce).kindOf y = some .cell) := fun y => relabel_look
  have lk : ∀ y vv, lookVV ((x, .d d) :: freeOf scope.names ρ) y = some vv → (y = x ∧ vv = .d d) ∨ (y ≠ x ∧ scope.names.lookup y = some .free ∧ lookVV ρ y = some vv) := by
    intro y vv e
    unfold lookVV at e
    rw [List.lookup_cons] at e
    induction q : y == x with
    | true => rw [q] at e; cases e; exact .inl ⟨beq_iff_eq.mp q, rfl⟩
    | false =>
      rw [q] at e
      have e' : lookVV (ρ.filter fun p => (fun y => scope.names.lookup y == some .free) p.1) y = some vv := e
      rw [look_filter (f := fun y => scope.names.lookup y == some .free)] at e'
      split at e'
      · rename_i hf; exact .inr ⟨beq_eq_false_iff_ne.mp q, beq_iff_eq.mp hf, e'⟩
      · cases e'
  refine ⟨?_, R.gl, R.bi, kind, ⟨m, hn, fun y vv e hy => ?_⟩, fun y vv e hy => ?_, fun y a e => ?_, fun y y' a e1 e2 => ?_, fun y e => ?_, c.dbg, c.cdi, kC, mC⟩
  · show (relabel scope ce).kind = .function
    exact c.kind
  · rcases lk y vv e with ⟨rfl, rfl⟩ | ⟨_, hf, _⟩
    · exact ⟨v, mx, .d z⟩
    · exfalso
      rcases kind y with q | ⟨_, q⟩
      · rw [hy, hf] at q; cases q
      · rw [hy] at q; cases q
  · rcases lk y vv e with ⟨rfl, rfl⟩ | ⟨_, hf, e'⟩
    · exfalso
      rcases kind y with q | ⟨q, _⟩
      · exact hy (q.trans c.x)
      · rw [c.x] at q; cases q
    · have hm : (y, .free) ∈ scope.names := lookup_mem hf
      obtain ⟨_, _, q⟩ := c.free hm
      obtain ⟨_, a, u, o, e1, e2, e3, t⟩ := R.cl y vv e' (R.notLocal q)
      refine ⟨?_, a, u, o, ?_, e2, e3, t⟩
      · rcases kind y with q | ⟨_, q⟩
        · exact .inr (q.trans hf)
        · exact .inl q
      · show (closeL ce.cells scope.names []).lookup y = some a
        rw [closeL_mem hm, e1]; rfl
  · obtain ⟨_, e'⟩ := cell y a e
    obtain ⟨h1, h2, h3, _⟩ := R.cells y a e'
    exact ⟨h1, h2, h3, fun z => oC ((show a = C from z) ▸ own_cell e')⟩
  · exact R.inj y y' a (cell y a e1).2 (cell y' a e2).2
  · exact (c.noCell _ (lookup_mem e) rfl).elim

/-! ### tests -/
noncomputable def tstep (ce : Env) : Expr → Bool → Sem (ForInStep Bool) := fun c r => if r = true then do let ok ← isTrue c ce (eval c ce); pure (ForInStep.yield ok) else pure (ForInStep.yield r)
theorem tests_false : ∀ (l : List Expr), forIn l false (tstep ce) = pure false
  | [] => by rw [List.forIn_nil]
  | e :: l => by
    rw [List.forIn_cons]
    show (pure (ForInStep.yield false) >>= _) = _
    rw [pure_bind]
    exact tests_false l
theorem tests_ok (HT : TrOk prog w C₀ K₀ (n + 1) I) : ∀ (l : List Expr) {η η' : Eta} {b : Bool} {K : Kn} {μ : List Addr} {s : Shared} {Q : Bool → Shared → Prop}, (testAll I sc ρ η l).run = some (b, η') →
    Room (n + 1) A → ER prog w C₀ K μ s.heap ce sc ρ → SR prog w C₀ K μ η s.heap → KK K₀ K →
    (HN prog w C₀ K μ s η' b Q) → wpAny (model prog w) A (forIn l true (tstep ce)) Q E s
  | [], η, η', b, K, μ, s, Q, q, r, R, S, k, hQ => by
    first | exact nn q | (obtain ⟨rfl, rfl, rfl⟩ := p3 q) | (obtain ⟨rfl, rfl⟩ := p2 q) | (obtain rfl := p1 q) | cases q
    rw [List.forIn_nil]
    exact wpAny_pure (hQ K μ s.heap s.toks (Gr.refl ..) S)
  | e :: l, η, η', b, K, μ, s, Q, q, r, R, S, k, hQ => by
    rw [testAll, B.run_bind] at q
    obtain ⟨⟨c, η1⟩, q1, q2⟩ := Option.bind_eq_some_iff.mp q
    rw [B.run_br] at q2
    rw [List.forIn_cons]
    show wpAny _ A ((isTrue e ce (eval e ce) >>= fun ok => pure (ForInStep.yield ok)) >>= _) Q E s
    refine wpAny_bind (wpAny_bind (HT sc ρ η e c η1 q1 A E s ce K μ _ r R S k fun K1 μ1 h1 tk1 g1 S1 => wpAny_pure ?_))
    induction c with
    | false =>
      simp only [Bool.false_eq_true, if_false] at q2
      first | exact nn q2 | (obtain ⟨rfl, rfl, rfl⟩ := p3 q2) | (obtain ⟨rfl, rfl⟩ := p2 q2) | (obtain rfl := p1 q2) | cases q2
      show wpAny _ A (forIn l false (tstep ce)) Q E _
      rw [tests_false]
      exact wpAny_pure (hQ K1 μ1 h1 tk1 g1 S1)
    | true =>
      simp only [if_true] at q2
      exact tests_ok HT l (s := { s with heap := h1, toks := tk1 }) q2 r (R.grow0 g1) S1 (k.trans g1.k) fun K3 μ3 h3 tk3 g3 S3 => hQ K3 μ3 h3 tk3 (g1.trans g3) S3

theorem iter_self {it : Addr} {ds : List D} {Q : Value → Shared → Prop} (x : ItAt prog w C₀ K s.heap it ds) (hQ : Q (.ref it) s) : wpAny (model prog w) A (pyIter (.ref it)) Q E s := by
  induction x with
  | list e1 => exact wpAny_pyIter_listiter e1 hQ
  | tup e1 => exact wpAny_pyIter_tupleiter e1 hQ
  | range e1 => exact wpAny_pyIter_rangeiter e1 hQ
end
end Mine
end
section
namespace Mine
set_option tactic.hygienic false
open PySem PySem.W PyProof.Rows PySem.Spec PySem.Calls

section
variable {prog p : Program} {w : World} {C₀ : Addr} {K₀ K : Kn} {n : Nat} {η η' : Eta} {A : Around} {E : Value → Shared → Prop} {s : Shared} {μ : List Addr} {h h' : Heap} {I : Interp} {sc : Sc} {ρ : Rho} {ce : Env}

theorem VA.snoc {vs : List Value} {ds : List D} {v : Value} {d : D} (x : VA prog w C₀ K vs ds) (z : V prog w C₀ K v d) : VA prog w C₀ K (vs ++ [v]) (ds ++ [d]) := x.append (.cons z .nil)

theorem sub1 {α : Type} {a b c : α} : ∀ x ∈ [a], x ∈ [a, b, c] := fun _ h => List.mem_append_left [b, c] h
theorem sub2 {α : Type} {a b c : α} : ∀ x ∈ [b], x ∈ [a, b, c] := fun _ h => .tail _ (List.mem_append_left [c] h)
theorem sub3 {α : Type} {a b c : α} : ∀ x ∈ [c], x ∈ [a, b, c] := fun _ h => .tail _ (.tail _ h)
theorem not3 {α : Type} {a b c : α} {P : α → Prop} (h1 : P a) (h2 : P b) (h3 : P c) {x : α} (h : x ∈ [a, b, c]) : P x := by
  rcases List.mem_cons.mp h with rfl | h
  · exact h1
  · rcases List.mem_cons.mp h with rfl | h
    · exact h2
    · rcases List.mem_cons.mp h with rfl | h
      · exact h3
      · cases h
theorem len_step {α β : Type} {l : List α} {d : α} {m : List β} {e : β} (h : l.length + (e :: m).length ≤ 1000) : (l ++ [d]).length + m.length ≤ 1000 := by
  simp only [List.length_append, List.length_cons, List.length_nil] at h ⊢; omega
/-- the loop of a comprehension -/
theorem compLoop_ok (HI : EvOk prog w C₀ K₀ (n + 1) I) (HT : TrOk prog w C₀ K₀ (n + 1) I) {elt iter : Expr} {x : Str} {px pos : Pos} {ifs : List Expr} {scope : Scope} {it Dd C : Addr} {m : Str → Option Value} {R : Result → Shared → Prop} {ds qs : List D}
    (rm : Room (n + 1) A) (c : CompOk sc ρ x scope) (q : (compGo I scope.names (freeOf scope.names ρ) x ifs elt η ds).run = some (qs, η')) (k : KK K₀ K)
    (Re : ER prog w C₀ K μ s.heap ce sc ρ) (S : SR prog w C₀ K μ η s.heap) (It : ItAt prog w C₀ K s.heap it ds) (hn : s.heap.Ns C m) (hacc : s.heap.PlainList Dd #[])
    (d1 : Dd ≠ C) (d2 : it ≠ C) (d3 : it ≠ Dd) (kI : K it = none) (kC : K C = none) (kD : K Dd = none) (mI : it ∉ μ) (mC : C ∉ μ) (mD : Dd ∉ μ) (oI : it ∉ own ce) (oC : C ∉ own ce) (oD : Dd ∉ own ce) (hlen : ds.length ≤ 1000)
    (hR : ∀ K' μ' h' tk m' ys, (∃ h₂, Gr [it, C, Dd] K μ s.heap K' μ' h₂ ∧ ∀ b o, b ∉ [it, C, Dd] → h₂.get? b = some o → h'.get? b = some o) → SR prog w C₀ K' μ' η' h' → h'.Ns C m' → h'.PlainList Dd ys → VA prog w C₀ K' ys.toList qs → K' Dd = none → Dd ∉ μ' → K' C = none → C ∉ μ' → qs.length ≤ 1000 → R (.ok .next) { s with heap := h', toks := tk }) :
    codeAny (model prog w) A (.compLoop (.ListComp elt [⟨.Name x px, iter, ifs, 0⟩] scope pos) 0 (.ref it) (.ref Dd) (compEnvC scope (closeL ce.cells scope.names []) C ce)) R s := by
  refine codeAny_compLoop_tests (Inv fun P => ∀ ds' done rest ηi Ki μi hi tk mi ys, (compGo I scope.names (freeOf scope.names ρ) x ifs elt ηi ds').run = some (rest, η') → done ++ rest = qs →
    KK K₀ Ki → Gr [it, C, Dd] K μ s.heap Ki μi hi → SR prog w C₀ Ki μi ηi hi → ItAt prog w C₀ Ki hi it ds' → hi.Ns C mi → hi.PlainList Dd ys → VA prog w C₀ Ki ys.toList done → done.length + ds'.length ≤ 1000 →
    Ki it = none → Ki C = none → Ki Dd = none → it ∉ μi → C ∉ μi → Dd ∉ μi → P ds'.length { s with heap := hi, toks := tk }) (Inv.go ?_) ds.length
    fun P kk => kk ds [] qs η K μ s.heap s.toks m #[] q rfl k (Gr.refl ..) S It hn hacc .nil (by simpa using hlen) kI kC kD mI mC mD
  clear q k S It hn hacc hlen kI kC kD mI mC mD
  intro ds' done rest ηi Ki μi hi tk mi ys q hq k G S It hn hacc hys hl kI kC kD mI mC mD
  cases ds' with
  | nil =>
    first | exact nn q | (obtain ⟨rfl, rfl, rfl⟩ := p3 q) | (obtain ⟨rfl, rfl⟩ := p2 q) | (obtain rfl := p1 q) | cases q
    rw [List.append_nil] at hq
    subst hq
    refine next_end (s := { s with heap := hi, toks := tk }) rm.hd It S.kn fun h1 he => ?_
    exact hR Ki μi h1 tk mi ys ⟨hi, G, fun b o hb e => he b o (fun z => hb (z ▸ .head _)) e⟩ (S.sameBut he kI mI) (hn.extBut he d2.symm) (hacc.at fun o e => he _ o d3.symm e) hys kD mD kC mC (by simpa using hl)
  | cons d ds' =>
    rw [compGo, B.run_bind] at q
    obtain ⟨⟨b, η1⟩, q1, q2⟩ := Option.bind_eq_some_iff.mp q
    rw [B.run_br] at q2
    refine next_item (s := { s with heap := hi, toks := tk }) It S.kn kI fun v h1 tk1 z It1 hs hst => ?_
    have G1 : Gr [it, C, Dd] K μ s.heap Ki μi h1 := G.trans ((Gr.same hs hst).weaken sub1)
    have S1 : SR prog w C₀ Ki μi ηi h1 := S.sameBut (fun b o hb e => (hs.2 b hb).trans e) kI mI
    have hn1 : h1.Ns C mi := hn.sameBut hs d2.symm
    have hacc1 : h1.PlainList Dd ys := hacc.at fun o e => (hs.2 _ d3.symm).trans e
    have cK : (compEnvC scope (closeL ce.cells scope.names []) C ce).scope.kind = .function := c.kind
    have hx : (compEnvC scope (closeL ce.cells scope.names []) C ce).kindOf x = some .local := by
      rcases relabel_look (env := ce) (names := scope.names) (y := x) with e | ⟨e, _⟩
      · exact e.trans c.x
      · rw [c.x] at e; cases e
    refine wpAny_assign_Name (wpAny_storeName_local hx hn1 (fun h2 hn2 hs2 => ?_) (by rw [cK]; rfl))
    have ne : ∀ b, b ≠ C → h2.get? b = h1.get? b := fun b hb => hs2.2 b hb
    obtain ⟨oc, _, _, hoc, _⟩ := id hn2
    have G2 : Gr [it, C, Dd] K μ s.heap Ki μi h2 := G1.trans ((Gr.same hs2 ⟨oc, hoc⟩).weaken sub2)
    have S2 : SR prog w C₀ Ki μi ηi h2 := S1.sameBut (fun b o hb e => (ne b hb).trans e) kC mC
    have It2 : ItAt prog w C₀ Ki h2 it ds' := It1.grow (KK.refl _) fun o e => (ne _ d2).trans e
    have hacc2 : h2.PlainList Dd ys := hacc1.at fun o e => (ne _ d1).trans e
    have R2 : ER prog w C₀ Ki μi h2 ce sc ρ := Re.grow G2 (fun hm => not3 (P := (· ∉ own ce)) oI oC oD hm (own_locals ce)) (fun y a e hm => not3 (P := (· ∉ own ce)) oI oC oD hm (own_cell e))
    have CR := compER R2 c hn2 (by simp) z kC mC oC
    have It2' := It2.there
    obtain ⟨ot, hot⟩ := It2'
    obtain ⟨nd, hnd⟩ := id hacc2
    refine tests_ok (s := { s with heap := h2, toks := _ }) HT ifs q1 rm CR S2 k fun K3 μ3 h3 tk3 g3 S3 => ?_
    have kp : ∀ {b : Addr} {o : Obj}, h2.get? b = some o → b ∉ μi → h3.get? b = some o := fun e hb => g3.fr _ _ e hb (by simp)
    have It3 : ItAt prog w C₀ K3 h3 it ds' := It2.grow g3.k fun o e => kp e mI
    have hn3 : h3.Ns C (fun y => if y = x then some v else mi y) := hn2.at' fun o e => kp e mC
    have hacc3 : h3.PlainList Dd ys := hacc2.at fun o e => kp e mD
    have uI := g3.unknown hot mI kI
    have uC := g3.unknown hoc mC kC
    have uD := g3.unknown hnd mD kD
    have nI := g3.notMem hot mI
    have nC := g3.notMem hoc mC
    have nD := g3.notMem hnd mD
    have G3 := G2.trans (g3.weaken (Y := [it, C, Dd]) (List.nil_subset _))
    induction b with
    | false =>
      simp only [Bool.false_eq_true, if_false] at q2 ⊢
      exact ⟨ds'.length, Nat.lt_succ_self _, fun P kk => kk ds' done rest η1 K3 μ3 h3 tk3 _ ys q2 hq (k.trans g3.k) G3 S3 It3 hn3 hacc3 (hys.mono g3.k) (Nat.le_of_succ_le hl) uI uC uD nI nC nD⟩
    | true =>
      simp only [if_true] at q2 ⊢
      refine bind_elim2 q2 fun dy η4 q3 q4 => ?_
      refine bind_elim2 q4 fun rest' η5 q5 q6 => ?_
      first | exact nn q6 | (obtain ⟨rfl, rfl, rfl⟩ := p3 q6) | (obtain ⟨rfl, rfl⟩ := p2 q6) | (obtain rfl := p1 q6) | cases q6
      refine evD_ok (s := { s with heap := h3, toks := tk3 }) HI q3 rm (CR.grow0 g3) S3 (k.trans g3.k) fun vy K4 μ4 h4 tk4 g4 S4 z4 => ?_
      have hot3 := kp hot mI
      have hoc3 := kp hoc mC
      have hnd3 := kp hnd mD
      have kp4 : ∀ {b : Addr} {o : Obj}, h3.get? b = some o → b ∉ μ3 → h4.get? b = some o := fun e hb => g4.fr _ _ e hb (by simp)
      have hsz : ys.size ≤ sizeLine := by
        have := hys.length
        rw [Array.length_toList] at this
        have : sizeLine = 16777216 := by decide
        omega
      refine wpAny_list_append_plain (s := { s with heap := h4, toks := tk4 }) (hacc3.at fun o e => kp4 e nD) (fun h5 hp5 hs5 => ?_) hsz
      obtain ⟨nd5, hnd5⟩ := id hp5
      refine ⟨ds'.length, Nat.lt_succ_self _, fun P kk => kk ds' (done ++ [dy]) rest' η4 K4 μ4 h5 tk4 (fun y => if y = x then some v else mi y) (ys.push vy) q5 (by rw [List.append_assoc]; exact hq) ((k.trans g3.k).trans g4.k)
        ((G3.trans (g4.weaken (List.nil_subset _))).trans ((Gr.same hs5 ⟨_, hnd5⟩).weaken sub3)) (S4.sameBut (fun b o hb e => (hs5.2 b hb).trans e) (g4.unknown hnd3 nD uD) (g4.notMem hnd3 nD)) ?_ ?_ hp5 ?_ ?_
        (g4.unknown hot3 nI uI) (g4.unknown hoc3 nC uC) (g4.unknown hnd3 nD uD) (g4.notMem hot3 nI) (g4.notMem hoc3 nC) (g4.notMem hnd3 nD)⟩
      · exact (It3.grow g4.k fun o e => kp4 e nI).grow (KK.refl _) fun o e => (hs5.2 _ d3).trans e
      · exact (hn3.at' fun o e => kp4 e nC).sameBut hs5 d1.symm
      · rw [Array.toList_push]
        exact ((hys.mono g3.k).mono g4.k).snoc z4
      · exact len_step hl
end
end Mine
end
section
namespace Mine
set_option tactic.hygienic false
open PySem PySem.W PyProof.Rows PySem.Spec PySem.Calls

section
variable {prog p : Program} {w : World} {C₀ fI : Addr} {G : Frag} {loose : List Str} {mean : ExcName → Option Value} {mg mb : Str → Option Value} {h₀ : Heap} {FF : Str → Option FDef}
  {K : Kn} {n : Nat} {η η' : Eta} {A : Around} {E : Value → Shared → Prop} {s : Shared} {μ : List Addr} {h h' : Heap} {I : Interp} {sc : Sc} {ρ : Rho} {ce : Env}

set_option tactic.hygienic true in
theorem comp_ok (X : Ctx p w G C₀ fI loose mean mg mb h₀ FF) (HI : EvOk prog w C₀ h₀.get? (n + 1) I) (HT : TrOk prog w C₀ h₀.get? (n + 1) I) (N : NoStar I) (NS : NoSet I) {elt : Expr} {gens : List Comprehension} {scope : Scope} {pos : Pos} {qs : List D} {Q : Value → Shared → Prop}
    (q : (evComp I sc ρ η elt gens scope).run = some (qs, η')) (rm : Room (n + 1) A) (Re : ER prog w C₀ K μ s.heap ce sc ρ) (S : SR prog w C₀ K μ η s.heap) (k : KK h₀.get? K) (use : Option (Value → Sem Unit))
    (hQ : ∀ D C K' μ' h' tk m' ys, Gr [] K μ s.heap K' μ' h' → SR prog w C₀ K' μ' η' h' → h'.Ns C m' → h'.PlainList D ys → VA prog w C₀ K' ys.toList qs → qs.length ≤ 1000 → s.heap.get? D = none → s.heap.get? C = none → D ≠ C →
      K' D = none → D ∉ μ' → K' C = none → C ∉ μ' → compPost (model prog w) A E use Q (.ref D) C (.ok .next) { s with heap := h', toks := tk }) :
    firstAsync gens = false ∧ wpAny (model prog w) A (comprehension (.ListComp elt gens scope pos) scope ce (firstIterPos gens pos) (newList []) false (firstIter gens ce) use) Q E s := by
  unfold evComp at q
  split at q
  · rename_i x px iter ifs
    refine bind_elim2 q fun ds η1 q1 q2 => ?_
    split at q2
    · rename_i hc
      obtain ⟨c1, c2, c3, c4, c5⟩ := hc
      have c : CompOk sc ρ x scope := ⟨c1, c2, c3, c4, c5⟩
      rw [B.run_br] at q2
      split at q2
      · rename_i hlen
        have hlen := of_decide_eq_true hlen
        refine ⟨rfl, wpAny_comprehension_free (cl := closeL ce.cells scope.names []) rfl (itr_noSet NS q1) (closure_ok fun y hy hf => ?_) c1 c.names ?_⟩
        · obtain ⟨y, kd⟩ := y
          dsimp only at hf
          subst hf
          exact Re.free c hy
        · show wpAny (model prog w) A (eval iter ce) _ E s
          refine itr_ok X HI N q1 rm Re S k fun it K1 μ1 h1 tk1 g1 S1 It f1 k1 m1 => ?_
          refine wpAny_newObj_type (wpAny_newFunctionEnv c.noCell (by intro y hy; cases hy) (fun h3 hn3 hs3 => ?_) c1) (by show (0 : Nat) ≤ sizeLine; decide)
          dsimp only at hn3 hs3 ⊢
          obtain ⟨H2, eH⟩ : ∃ H2, H2 = h1.push { cls := .type "list", dict := none, data := .seq ([] : List Value).toArray } := ⟨_, rfl⟩
          rw [← eH] at hn3 hs3 ⊢
          have hC : H2.objs.size = h1.objs.size + 1 := by rw [eH, Heap.size_push]
          rw [hC] at hn3 hs3 ⊢
          have old : ∀ b o, h1.get? b = some o → h3.get? b = some o := fun b o e => by
            have hb := Heap.lt_size e
            exact (hs3.2 b (Nat.ne_of_lt (Nat.lt_succ_of_lt hb))).trans (Heap.get?_push_of_some _ (by rw [eH]; exact Heap.get?_push_of_some _ e))
          obtain ⟨S3, G3⟩ := keep_ok S1 old
          have fD : h1.get? h1.objs.size = none := get_size h1
          have fC : h1.get? (h1.objs.size + 1) = none := fresh_of_ge (Nat.le_succ _)
          have kn : ∀ b, h1.get? b = none → K1 b = none := fun b e => by
            induction q : K1 b with
            | none => rfl
            | some o => rw [S1.kn _ _ q] at e; cases e
          have mn : ∀ b, h1.get? b = none → b ∉ μ1 := fun b e q => by
            obtain ⟨o, z⟩ := S1.there q
            rw [e] at z; cases z
          have Re1 := Re.grow0 g1
          have on : ∀ b, h1.get? b = none → b ∉ own ce := fun b e q => by
            obtain ⟨o, z⟩ := Re1.ownThere b q
            rw [e] at z; cases z
          have on0 : ∀ b, s.heap.get? b = none → b ∉ own ce := fun b e q => by
            obtain ⟨o, z⟩ := Re.ownThere b q
            rw [e] at z; cases z
          obtain ⟨oi, hoi⟩ := It.there
          have iD : it ≠ h1.objs.size := fun z => by rw [z, fD] at hoi; cases hoi
          have iC : it ≠ h1.objs.size + 1 := fun z => by rw [z, fC] at hoi; cases hoi
          have hacc : h3.PlainList h1.objs.size #[] := ⟨0, (hs3.2 _ (Nat.ne_of_lt (Nat.lt_succ_self _))).trans (Heap.get?_push_of_some _ (by rw [eH]; exact Heap.get?_push_size _ rfl))⟩
          have It3 := It.grow (KK.refl K1) (old it)
          have loop : codeAny (model prog w) A (.compLoop (.ListComp elt [⟨.Name x px, iter, ifs, 0⟩] scope pos) 0 (.ref it) (.ref h1.objs.size) (compEnvC scope (closeL ce.cells scope.names []) (h1.objs.size + 1) ce))
              (compPost (model prog w) A E use Q (.ref h1.objs.size) (h1.objs.size + 1)) { s with heap := h3, toks := tk1 } := by
            refine compLoop_ok (s := { s with heap := h3, toks := tk1 }) HI HT rm c q2 (k.trans g1.k) (Re1.grow0 G3) S3 It3 hn3 hacc (Nat.ne_of_lt (Nat.lt_succ_self _)) iC iD k1 (kn _ fC) (kn _ fD) m1 (mn _ fC) (mn _ fD) (on0 _ f1) (on _ fC) (on _ fD) hlen ?_
            rintro K' μ' h' tk m' ys ⟨h₂, g2, hk2⟩ S' hn' hp' hys kD mD kC mC hql
            refine hQ h1.objs.size (h1.objs.size + 1) K' μ' h' tk m' ys ?_ S' hn' hp' hys hql (g1.back fD) (g1.back fC) (Nat.ne_of_lt (Nat.lt_succ_self _)) kD mD kC mC
            have fr : ∀ b ∈ [it, h1.objs.size + 1, h1.objs.size], s.heap.get? b = none := by
              intro b hb
              simp only [List.mem_cons, List.not_mem_nil, or_false] at hb
              rcases hb with rfl | rfl | rfl
              · exact f1
              · exact g1.back fC
              · exact g1.back fD
            exact ((g1.trans G3).transFresh (Z := [it, h1.objs.size + 1, h1.objs.size]) (by rw [List.append_nil]; exact g2) fr).endBut hk2 fr
          exact codeAny_compStart_list loop (iter_self (s := { s with heap := h3, toks := tk1 }) It3 loop)
      · first | exact nn q2 | (obtain ⟨rfl, rfl, rfl⟩ := p3 q2) | (obtain ⟨rfl, rfl⟩ := p2 q2) | (obtain rfl := p1 q2) | cases q2
    · first | exact nn q2 | (obtain ⟨rfl, rfl, rfl⟩ := p3 q2) | (obtain ⟨rfl, rfl⟩ := p2 q2) | (obtain rfl := p1 q2) | cases q2
  · first | exact nn q | (obtain ⟨rfl, rfl, rfl⟩ := p3 q) | (obtain ⟨rfl, rfl⟩ := p2 q) | (obtain rfl := p1 q) | cases q

/-- a comprehension as a value -/
theorem ListComp_ok (X : Ctx p w G C₀ fI loose mean mg mb h₀ FF) (HI : EvOk prog w C₀ h₀.get? (n + 1) I) (HT : TrOk prog w C₀ h₀.get? (n + 1) I) (N : NoStar I) (NS : NoSet I) {elt : Expr} {gens : List Comprehension} {scope : Scope} {pos : Pos} {qs : List D} {Q : Value → Shared → Prop}
    (q : (evComp I sc ρ η elt gens scope).run = some (qs, η')) (rm : Room (n + 1) A) (Re : ER prog w C₀ K μ s.heap ce sc ρ) (S : SR prog w C₀ K μ η s.heap) (k : KK h₀.get? K)
    (hQ : ∀ D K' μ' h' tk ys m, Gr [] K μ s.heap K' μ' h' → SR prog w C₀ K' μ' η' h' → h'.get? D = some (listOf ys m) → VA prog w C₀ K' ys.toList qs → qs.length ≤ 1000 → s.heap.get? D = none → K' D = none → D ∉ μ' → Q (.ref D) { s with heap := h', toks := tk }) :
    wpAny (model prog w) A (eval (.ListComp elt gens scope pos) ce) Q E s := by
  rw [eval_ListComp]
  obtain ⟨e1, e2⟩ := comp_ok (pos := pos) (A := A) (E := E) (Q := Q) X HI HT N NS q rm Re S k none fun D C K' μ' h' tk m' ys g S' hn hp hys hl fD fC dc kD mD kC mC => by
    refine ⟨m', hn, fun h'' hs => ?_⟩
    obtain ⟨m, hm⟩ := hp
    obtain ⟨oc, _, _, hoc, _⟩ := id hn
    have fr : ∀ b ∈ [C], s.heap.get? b = none := by simpa using fC
    have kp : ∀ b o, b ≠ C → h'.get? b = some o → h''.get? b = some o := fun b o hb e => (hs.2 b hb).trans e
    exact hQ D K' μ' h'' tk ys m (g.endBut (Z := [C]) (fun b o hb e => kp b o (by simpa using hb) e) fr) (S'.sameBut kp kC mC) (kp _ _ dc hm) hys hl fD kD mD
  rw [e1]
  exact e2

end
end Mine
end
section
namespace Mine
set_option tactic.hygienic false
open PySem PySem.W PyProof.Rows PySem.Spec PySem.Calls

section
variable {prog p : Program} {w : World} {C₀ fI : Addr} {G : Frag} {loose : List Str} {mean : ExcName → Option Value} {mg mb : Str → Option Value} {h₀ : Heap} {FF : Str → Option FDef}
  {K K' : Kn} {n : Nat} {η η' : Eta} {A : Around} {E : Value → Shared → Prop} {s : Shared} {μ μ' : List Addr} {h h' : Heap} {I : Interp} {sc : Sc} {ρ ρ' : Rho} {ce : Env} {X : List Addr}

theorem SR.addHot (S : SR prog w C₀ K μ η h) {a : Addr} {ho : HO} (ha : a ∉ μ) (x : OR prog w C₀ K (μ ++ [a]) h a ho) : SR prog w C₀ K (μ ++ [a]) (η ++ [ho]) h := by
  refine ⟨S.kn, by simp [S.len], ?_, fun n b o' e1 e2 => ?_⟩
  · rw [List.nodup_append]
    exact ⟨S.nd, by simp, fun c hc b hb => by simp at hb; subst hb; exact fun z => ha (z ▸ hc)⟩
  · by_cases q : n < μ.length
    · rw [List.getElem?_append_left q] at e1
      rw [List.getElem?_append_left (S.len ▸ q)] at e2
      exact (S.hot n b o' e1 e2).grow (KK.refl K) id (fun i c e => by
        have hi := (List.getElem?_eq_some_iff.mp e).1
        rw [List.getElem?_append_left hi]; exact e) (fun _ z => z)
    · have hn : n = μ.length := by
        have := (List.getElem?_eq_some_iff.mp e1).1
        simp at this; omega
      subst hn
      rw [List.getElem?_append_right (Nat.le_refl _)] at e1
      rw [S.len, List.getElem?_append_right (Nat.le_refl _)] at e2
      simp at e1 e2
      subst e1; subst e2
      exact x
theorem Gr.addHot (g : Gr X K μ h K' μ' h') {a : Addr} (hz : h.get? a = none) : Gr X K μ h K' (μ' ++ [a]) h' :=
  ⟨g.k, g.knew, g.pre.trans (List.prefix_append ..), fun b hb => by
    rcases List.mem_append.mp hb with q | q
    · exact g.fresh b q
    · simp at q; subst q; exact .inr hz, g.st, g.fr⟩
theorem Gr.learn (g : Gr X K μ h K' μ' h') {a : Addr} {o : Obj} (kz : K' a = none) (hz : h.get? a = none) : Gr X K μ h (Kset K' a o) μ' h' :=
  ⟨g.k.trans (Kset.kk kz), fun b o' e => by
    by_cases q : b = a
    · subst q; exact .inr (.inl hz)
    · rw [Kset.other q] at e; exact g.knew b o' e, g.pre, g.fresh, g.st, g.fr⟩
theorem SR.learn (S : SR prog w C₀ K μ η h) {a : Addr} {o : Obj} (kz : K a = none) (am : a ∉ μ) (ho : h.get? a = some o) : SR prog w C₀ (Kset K a o) μ η h :=
  S.grow (Kset.kk kz) (Kset.le S.kn ho) (fun b hb q => by rw [Kset.other (fun z : b = a => am (z ▸ hb))]; exact q) fun b _ o' e => e

/-- the list that a comprehension made: hot, or data -/
theorem compVal_ok {x : Str} {Dd : Addr} {ys : Array Value} {m : Nat} {qs : List D} {η1 : Eta} {vv : VV} (S' : SR prog w C₀ K' μ' η1 h') (hD : h'.get? Dd = some (listOf ys m)) (hys : VA prog w C₀ K' ys.toList qs) (hl : qs.length ≤ 1000) (kD : K' Dd = none) (mD : Dd ∉ μ')
    (g : Gr X K μ h K' μ' h') (fD : h.get? Dd = none) (e : ((if x = "led" then B.pure (VV.h η1.length, η1 ++ [HO.hl qs]) else B.pure (VV.d (.lst qs), η1)) : B (VV × Eta)).run = some (vv, η')) :
    ∃ K'' μ'', Gr X K μ h K'' μ'' h' ∧ SR prog w C₀ K'' μ'' η' h' ∧ VR prog w C₀ K'' μ'' (.ref Dd) vv ∧ ∀ b, Dd ≠ b → K' b = none → b ∉ μ' → K'' b = none ∧ b ∉ μ'' := by
  split at e
  · cases e
    refine ⟨K', μ' ++ [Dd], g.addHot fD, S'.addHot mD (.hl kD hD hys (by omega)), .h ?_, fun b hb e1 e2 => ⟨e1, fun z => ?_⟩⟩
    · rw [← S'.len, List.getElem?_append_right (Nat.le_refl _)]
      simp
    · rcases List.mem_append.mp z with z | z
      · exact e2 z
      · exact hb (by simpa using z : b = Dd).symm
  · cases e
    have g2 := g.learn (o := listOf ys m) kD fD
    exact ⟨_, μ', g2, S'.learn kD mD hD, .d (.lst Kset.same (hys.mono (Kset.kk kD)) (by omega)), fun b hb e1 e2 => ⟨by rw [Kset.other hb.symm]; exact e1, e2⟩⟩

/-- a fresh list that is not hot yet -/
theorem freshList_ok (HI : EvOk prog w C₀ h₀.get? (n + 1) I) (N : NoStar I) {es : List Expr} {lp : Pos} {ds : List D} {Q : Value → Shared → Prop} (q : (evDs I sc ρ η es).run = some (ds, η')) (rm : Room (n + 1) A) (R : ER prog w C₀ K μ s.heap ce sc ρ) (S : SR prog w C₀ K μ η s.heap) (k : KK h₀.get? K)
    (hQ : ∀ a vs K' μ' h' tk, Gr [] K μ s.heap K' μ' h' → SR prog w C₀ K' μ' η' h' → h'.get? a = some (listOf vs 0) → VA prog w C₀ K' vs.toList ds → s.heap.get? a = none → K' a = none → a ∉ μ' → Q (.ref a) { s with heap := h', toks := tk })
    (hl : ds.length ≤ 1000 := by assumption) : wpAny (model prog w) A (eval (.List es lp) ce) Q E s := by
  have line : sizeLine = 16777216 := by decide
  refine wpAny_List_spliced (evDs_ok HI N es q rm R S k fun vs K1 μ1 h1 tk1 g1 S1 z1 => ⟨by have := z1.length; omega, ?_⟩)
  have keep : ∀ b o', h1.get? b = some o' → (h1.push (listOf vs.toArray 0)).get? b = some o' := fun b o' z => Heap.get?_push_of_some _ z
  obtain ⟨S2, G2⟩ := keep_ok S1 keep
  exact hQ _ vs.toArray K1 μ1 _ tk1 (g1.trans G2) S2 (Heap.get?_push_size _ rfl) (by simpa using z1) (g1.back (get_size h1)) S1.size_none S1.size_notin

set_option tactic.hygienic true in
/-- what is assigned, but for comprehensions -/
theorem evHot_ok (lim : h₀.NoLimit) (HI : EvOk prog w C₀ h₀.get? (n + 1) I) (N : NoStar I) {t e : Expr} {vv : VV} {Q : Value → Shared → Prop} (hc : ∀ elt gens scope pos, e = .ListComp elt gens scope pos → ∀ x p, t ≠ .Name x p)
    (q : (evHot I sc ρ η t e).run = some (vv, η')) (rm : Room (n + 1) A) (R : ER prog w C₀ K μ s.heap ce sc ρ) (S : SR prog w C₀ K μ η s.heap) (k : KK h₀.get? K)
    (hQ : HVR prog w C₀ K μ s η' vv Q) : wpAny (model prog w) A (eval e ce) Q E s := by
  have line : sizeLine = 16777216 := by decide
  have notSys : (s.heap.objs.size == sysModules) = false := beq_eq_false_iff_ne.mpr fun z => by
    have := modules_low (lim.keeps (up_of S k))
    rw [z] at this
    exact Nat.lt_irrefl _ this
  cases t, e using hot_elim with
  | list x px es lp =>
    refine bind_elim2 q fun ds η1 q1 q2 => ?_
    rw [B.run_br] at q2
    split at q2
    · rename_i hl
      have hl := of_decide_eq_true hl
      first | exact nn q2 | (obtain ⟨rfl, rfl, rfl⟩ := p3 q2) | (obtain ⟨rfl, rfl⟩ := p2 q2) | (obtain rfl := p1 q2) | cases q2
      refine wpAny_List_spliced (evDs_ok HI N es q1 rm R S k fun vs K1 μ1 h1 tk1 g1 S1 z1 => ?_)
      have hlen := z1.length
      refine ⟨by dsimp only at hl; omega, ?_⟩
      have keep : ∀ b o', h1.get? b = some o' → (h1.push (listOf vs.toArray 0)).get? b = some o' := fun b o' z => Heap.get?_push_of_some _ z
      obtain ⟨S2, G2⟩ := allocHot_ok S1 (listOf vs.toArray 0) (.hl ds) rfl fun h' hh => .hl S1.size_none hh (by simpa using z1) (by dsimp only at hl; omega)
      refine hQ _ K1 _ _ _ (g1.trans G2) S2 (.h ?_)
      show (μ1 ++ [h1.objs.size])[η1.length]? = _
      rw [← S1.len, List.getElem?_append_right (Nat.le_refl _)]
      simp
    · first | exact nn q2 | (obtain ⟨rfl, rfl, rfl⟩ := p3 q2) | (obtain ⟨rfl, rfl⟩ := p2 q2) | (obtain rfl := p1 q2) | cases q2
  | none_ x px dp =>
    first | exact nn q | (obtain ⟨rfl, rfl, rfl⟩ := p3 q) | (obtain ⟨rfl, rfl⟩ := p2 q) | (obtain rfl := p1 q) | cases q
    refine wpAny_Dict_empty ?_
    obtain ⟨S2, G2⟩ := allocHot_ok S ({ cls := .type "dict", data := .dict #[] } : Obj) (.hs []) rfl fun h' hh => .hs S.size_none hh notSys (by obtain ⟨o, ho, hd⟩ := Heap.dictOf_iff.mp (Heap.DictOf.new (knd := intKind prog w) s.heap); rw [Heap.get?_push_size _ rfl] at ho; cases ho; exact hd)
    · refine hQ _ K _ _ s.toks G2 S2 (.h ?_)
      rw [← S.len, List.getElem?_append_right (Nat.le_refl _)]
      simp
  | dict x px ks v vs dp =>
    replace q : (evWorld I sc ρ η (.Dict ks (v :: vs) dp) ks (v :: vs)).run = some (vv, η') := q
    clear hc
    generalize hvs : v :: vs = vs' at q ⊢
    clear hvs v vs
    unfold evWorld at q
    induction hl3 : lists3 vs' with
    | none =>
      rw [hl3] at q
      exact HI sc ρ η _ vv η' q A E s ce K μ Q rm R S k hQ
    | some x3 =>
      obtain ⟨ls, ts, tp⟩ := x3
      obtain ⟨lp, tp0, rfl⟩ := lists3_is hl3
      rw [hl3] at q
      dsimp only at q
      induction hk : isWorldKeys ks with
      | false => rw [hk] at q; exact nn q
      | true =>
        rw [hk] at q
        obtain ⟨ak, apos, bk, bpos, ck, cpos, rfl⟩ := isWorldKeys_is hk
        refine bind_elim2 q fun d1 η1 q1 q2 => ?_
        refine bind_elim2 q2 fun d2 η2 q3 q4 => ?_
        refine bind_elim2 q4 fun d3 η3 q5 q6 => ?_
        refine lift_elim q6 fun tape q7 q8 => ?_
        rw [B.run_br] at q8
        split at q8
        · rename_i hl
          rw [Bool.and_eq_true, decide_eq_true_eq, decide_eq_true_eq] at hl
          obtain ⟨hl1, hl2⟩ := hl
          dsimp only at hl1 hl2 q7
          have e3 : d3 = .lst tape := by
            unfold tapeOf at q7
            split at q7
            · cases q7; rfl
            · first | exact nn q7 | (obtain ⟨rfl, rfl, rfl⟩ := p3 q7) | (obtain ⟨rfl, rfl⟩ := p2 q7) | (obtain rfl := p1 q7) | cases q7
          subst e3
          first | exact nn q8 | (obtain ⟨rfl, rfl, rfl⟩ := p3 q8) | (obtain ⟨rfl, rfl⟩ := p2 q8) | (obtain rfl := p1 q8) | cases q8
          refine wpAny_Dict_walk (knd := strKind prog w) rfl rfl (by simp) (by show (3 : Nat) ≤ 15; decide) ?_
          obtain ⟨S0, G0⟩ := keep_ok (h' := s.heap.push { cls := .type "dict", data := .dict #[] }) S fun b o' z => Heap.get?_push_of_some _ z
          have hD0 : (s.heap.push { cls := .type "dict", data := .dict #[] }).DictOf (strKind prog w) s.heap.objs.size [] := Heap.DictOf.new _
          obtain ⟨oD, hoD, hdD⟩ := Heap.dictOf_iff.mp hD0
          have fD := get_size s.heap
          have mD : s.heap.objs.size ∉ μ := S.size_notin
          have kD : K s.heap.objs.size = none := S.size_none
          refine pairTrees_cons_walk (Constant_str ?_)
          refine freshList_ok (s := { s with heap := s.heap.push { cls := .type "dict", data := .dict #[] }, toks := s.toks + 1 }) HI N q1 rm (R.grow0 G0) S0 k fun a1 vs1 K1 μ1 h1 tk1 g1 S1 l1 z1 f1 k1 m1 => ?_
          have G1 := G0.trans g1
          refine pairTrees_cons_walk (Constant_str ?_)
          refine freshList_ok (s := { s with heap := h1, toks := tk1 + 1 }) HI N q3 rm (R.grow0 G1) S1 (k.trans G1.k) fun a2 vs2 K2 μ2 h2 tk2 g2 S2 l2 z2 f2 k2 m2 => ?_
          have G2 := G1.trans g2
          refine pairTrees_cons_walk (Constant_str ?_)
          refine evD_ok (s := { s with heap := h2, toks := tk2 + 1 }) HI q5 rm (R.grow0 G2) S2 (k.trans G2.k) fun v3 K3 μ3 h3 tk3 g3 S3 z3 => pairTrees_nil_walk ?_
          have G3 := G2.trans g3
          have nb : ∀ {b : Addr}, b ∉ ([] : List Addr) := by simp
          have hoD0 : (s.heap.push { cls := .type "dict", data := .dict #[] }).get? s.heap.objs.size = some oD := hoD
          have hoD1 := g1.fr _ _ hoD0 mD nb
          have mD1 := g1.notMem hoD0 mD
          have kD1 := g1.unknown hoD0 mD kD
          have hoD2 := g2.fr _ _ hoD1 mD1 nb
          have mD2 := g2.notMem hoD1 mD1
          have kD2 := g2.unknown hoD1 mD1 kD1
          have hoD3 := g3.fr _ _ hoD2 mD2 nb
          have mD3 := g3.notMem hoD2 mD2
          have kD3 := g3.unknown hoD2 mD2 kD2
          have l1' := g2.fr _ _ l1 m1 nb
          have m1' := g2.notMem l1 m1
          have k1' := g2.unknown l1 m1 k1
          have l13 := g3.fr _ _ l1' m1' nb
          have m13 := g3.notMem l1' m1'
          have k13 := g3.unknown l1' m1' k1'
          have l23 := g3.fr _ _ l2 m2 nb
          have m23 := g3.notMem l2 m2
          have k23 := g3.unknown l2 m2 k2
          refine ⟨[(Str.ofString "log", .ref a1), (Str.ofString "temps", .ref a2), (Str.ofString "tape", v3)], ⟨by kernel_rfl, rfl, by kernel_rfl, rfl, by kernel_rfl, rfl, trivial⟩, Heap.dictOf_iff.mpr ⟨oD, hoD3, hdD⟩, fun h4 hd4 hs4 => ?_⟩
          have hm : merged [] [(Str.ofString "log", Value.ref a1), (Str.ofString "temps", .ref a2), (Str.ofString "tape", v3)] = [(Str.ofString "log", Value.ref a1), (Str.ofString "temps", .ref a2), (Str.ofString "tape", v3)] := by kernel_rfl
          rw [hm] at hd4
          obtain ⟨o4, ho4, hd4⟩ := Heap.dictOf_iff.mp hd4
          have n1 : a1 ≠ s.heap.objs.size := fun z => by rw [z, hoD0] at f1; cases f1
          have n2 : a2 ≠ s.heap.objs.size := fun z => by rw [z, hoD1] at f2; cases f2
          have n12 : a1 ≠ a2 := fun z => by rw [← z, l1] at f2; cases f2
          have S4 : SR prog w C₀ K3 μ3 η3 h4 := S3.sameBut (fun b o hb e => (hs4.2 b hb).trans e) kD3 mD3
          have G4 : Gr [] K μ s.heap K3 μ3 h4 := G3.endBut (Z := [s.heap.objs.size]) (fun b o hb e => (hs4.2 b (by simpa using hb)).trans e) (by simpa using fD)
          have S5 := S4.addHot m13 (ho := .hl d1) (.hl k13 ((hs4.2 _ n1).trans l13) ((z1.mono g2.k).mono g3.k) (by omega))
          have m25 : a2 ∉ μ3 ++ [a1] := fun z => by
            rcases List.mem_append.mp z with z | z
            · exact m23 z
            · exact n12 (by simpa using z : a2 = a1).symm
          have S6 := S5.addHot m25 (ho := .hl d2) (.hl k23 ((hs4.2 _ n2).trans l23) (z2.mono g3.k) (by omega))
          have mD6 : s.heap.objs.size ∉ (μ3 ++ [a1]) ++ [a2] := fun z => by
            rcases List.mem_append.mp z with z | z
            · rcases List.mem_append.mp z with z | z
              · exact mD3 z
              · exact n1 (by simpa using z : s.heap.objs.size = a1).symm
            · exact n2 (by simpa using z : s.heap.objs.size = a2).symm
          have ln := S3.len
          have S7 := S6.addHot mD6 (ho := .hw η3.length (η3.length + 1) tape) (.hw (al := a1) (at' := a2) kD3 (by rw [← ln]; simp) (by rw [← ln]; simp) ho4 notSys z3 hd4)
          have f1' : s.heap.get? a1 = none := G0.back f1
          have f2' : s.heap.get? a2 = none := G1.back f2
          have S8 : SR prog w C₀ K3 (((μ3 ++ [a1]) ++ [a2]) ++ [s.heap.objs.size]) (η3 ++ [.hl d1, .hl d2, .hw η3.length (η3.length + 1) tape]) h4 := by
            have e : η3 ++ [HO.hl d1, .hl d2, .hw η3.length (η3.length + 1) tape] = ((η3 ++ [.hl d1]) ++ [.hl d2]) ++ [.hw η3.length (η3.length + 1) tape] := by simp
            rw [e]; exact S7
          refine hQ _ K3 _ h4 _ (((G4.addHot f1').addHot f2').addHot fD) S8 (.h ?_)
          show (((μ3 ++ [a1]) ++ [a2]) ++ [s.heap.objs.size])[η3.length + 2]? = _
          rw [← ln, List.getElem?_append_right (by simp)]
          simp
        · first | exact nn q8 | (obtain ⟨rfl, rfl, rfl⟩ := p3 q8) | (obtain ⟨rfl, rfl⟩ := p2 q8) | (obtain rfl := p1 q8) | cases q8
  | comp x px elt gens scope lp => exact (hc _ _ _ _ rfl _ _ rfl).elim
  | other t e he =>
    rw [he] at q
    exact HI sc ρ η e vv η' q A E s ce K μ Q rm R S k hQ
end
end Mine
end
section
namespace Mine
set_option tactic.hygienic false
open PySem PySem.W PyProof.Rows PySem.Spec PySem.Calls

/-- what has no walk -/
structure Plain (I : Interp) : Prop where
  star : NoStar I
  set : NoSet I
  sc : ∀ sc ρ η a b c d, I.ev sc ρ η (.SetComp a b c d) = .fail
  dc : ∀ sc ρ η a b c d e, I.ev sc ρ η (.DictComp a b c d e) = .fail

theorem zip_rev {α β : Type} : ∀ {xs : List α} {ds : List β}, xs.length = ds.length → (xs.zip ds).reverse = xs.reverse.zip ds.reverse
  | [], [], _ => rfl
  | [], _ :: _, h => by cases h
  | _ :: _, [], h => by cases h
  | x :: xs, d :: ds, h => by
    have h' : xs.length = ds.length := by simpa using h
    rw [List.zip_cons_cons, List.reverse_cons, List.reverse_cons, List.reverse_cons, zip_rev h', List.zip_append (by simp [h'])]
    rfl

section
variable {prog p : Program} {w : World} {C₀ fI : Addr} {G : Frag} {loose : List Str} {mean : ExcName → Option Value} {mg mb : Str → Option Value} {h₀ : Heap} {FF : Str → Option FDef}
  {K K' : Kn} {n : Nat} {η η' : Eta} {A : Around} {E : Value → Shared → Prop} {s : Shared} {μ μ' : List Addr} {h h' : Heap} {I : Interp} {sc : Sc} {ρ ρ' : Rho} {ce : Env} {X : List Addr}

theorem swaps_false (P : Plain I) {t e : Expr} {r : VV × Eta} {line : Nat} (hc : ∀ elt gens scope pos, e = .ListComp elt gens scope pos → ∀ x p, t ≠ .Name x p) (q : (evHot I sc ρ η t e).run = some r) :
    swapsWithSole [t] e line ce = pure false := by
  have other : (evHot I sc ρ η t e).run = (I.ev sc ρ η e).run → swapsWithSole [t] e line ce = pure false := by
    intro h
    rw [h] at q
    show swapsWith e (some t) line ce = pure false
    cases e with
    | ListComp a b c d =>
      cases t with
      | Name x p => exact (hc _ _ _ _ rfl _ _ rfl).elim
      | _ => rfl
    | SetComp a b c d => rw [P.sc] at q; cases q
    | DictComp a b c d e' => rw [P.dc] at q; cases q
    | _ => rfl
  cases e with
  | ListComp a b c d =>
    cases t with
    | Name x p => exact (hc _ _ _ _ rfl _ _ rfl).elim
    | _ => rfl
  | SetComp a b c d =>
    apply other
    cases t <;> rfl
  | DictComp a b c d e' =>
    apply other
    cases t <;> rfl
  | _ => rfl

set_option tactic.hygienic true in
/-- a value that is bound to a name or to names -/
theorem bind_ok (rm : Room (n + 1) A) {t e : Expr} {vv : VV} {v : Value} {Q : Flow → Shared → Prop} (hg : tupGuard t e = true) (q : bindT sc ρ t vv = some ρ') (z : VR prog w C₀ K μ v vv) (R : ER prog w C₀ K μ s.heap ce sc ρ) (S : SR prog w C₀ K μ η s.heap)
    (hQ : ∀ h' tk, Gr (own ce) K μ s.heap K μ h' → ER prog w C₀ K μ h' ce sc ρ' → SR prog w C₀ K μ η h' → Q .next { s with heap := h', toks := tk }) :
    wpAny (model prog w) A (do assignStores ce v (← swappedStores [t] e ce) ((assignEach [t] ce).map (·.2))) Q E s := by
  have plain : swappedStores [t] e ce = pure none → (assignEach [t] ce).map (·.2) = [assign t ce] → wpAny (model prog w) A (do assignStores ce v (← swappedStores [t] e ce) ((assignEach [t] ce).map (·.2))) Q E s := by
    intro h1 h2
    rw [h1, h2]
    refine wpAny_bind (wpAny_pure ?_)
    show wpAny _ A (do assignAll v [assign t ce]; pure .next) Q E s
    exact wpAny_bind (m := assign t ce v) (bindT_ok rm q z R S fun h' tk g R' S' => wpAny_pure (hQ h' tk g R' S'))
  cases t with
  | Name x p => exact plain rfl rfl
  | Tuple ts k tp =>
    have q' := q
    unfold bindT at q
    dsimp only at q
    split at q
    · rename_i ds
      split at q
      · rename_i hd
        obtain ⟨xs, h1, h2, h3, rfl⟩ := bindAll_names q
        rcases swapped_or (ce := ce) (k := k) (tp := tp) h1 hg with e1 | e1
        · exact plain e1 rfl
        · rw [e1]
          refine wpAny_bind (wpAny_pure ?_)
          cases z with
          | d z =>
            obtain ⟨a, o, vs, m, rfl, c1, c2, c3, r1, l1⟩ := z.tup_of
            have hlen := r1.length
            rw [Array.length_toList] at hlen
            show wpAny _ A (do rule "assign.swapped-stores"; let items ← unpackItems (.ref a) xs.length none; assignInOrder (xs.reverse.map fun n => bindName ce n) items.reverse; pure .next) Q E s
            refine wpAny_bind (wpAny_rule (wpAny_bind ?_))
            have hx : xs.length = vs.size := by rw [h2, hlen]
            rw [hx]
            refine unpackItems_tuple rm.hd (items := vs) ⟨_, S.kn _ _ c1, c2, m, c3⟩ fun h1' he => ?_
            have hk : ∀ b o, s.heap.get? b = some o → h1'.get? b = some o := fun b o e => he b o (fun q => by rw [q, get_size] at e; cases e) e
            obtain ⟨S1, G1⟩ := keep_ok S hk
            have dn : xs.Nodup := by
              unfold distinctNames at hd
              rw [h1] at hd
              exact distinct_nodup hd
            refine wpAny_bind (inOrder_ok (s := { s with heap := h1' }) (StoresAll.binds xs.reverse) r1.reverse (by simp [h2]) (fun x hx => h3 x (List.mem_reverse.mp hx)) (R.grow0 G1) S1 fun h2' tk2 g2 R2 S2 => wpAny_pure ?_)
            refine hQ h2' tk2 ((G1.weaken (by simp)).trans g2) (R2.congr fun y => ?_) S2
            have hz : (xs.zip ds).reverse = xs.reverse.zip ds.reverse := by
              exact zip_rev h2
            rw [← hz]
            refine rsets_reverse ?_ ρ y
            rw [List.map_fst_zip (by omega)]
            exact dn
      · first | exact nn q | (obtain ⟨rfl, rfl, rfl⟩ := p3 q) | (obtain ⟨rfl, rfl⟩ := p2 q) | (obtain rfl := p1 q) | cases q
    · first | exact nn q | (obtain ⟨rfl, rfl, rfl⟩ := p3 q) | (obtain ⟨rfl, rfl⟩ := p2 q) | (obtain rfl := p1 q) | cases q
  | _ => cases q

theorem Assign_ok (lim : h₀.NoLimit) (HI : EvOk prog w C₀ h₀.get? (n + 1) I) (P : Plain I) {t e : Expr} {pos : Pos} {vv : VV} {η1 : Eta} {Q : Flow → Shared → Prop} (hc : ∀ elt gens scope pos, e = .ListComp elt gens scope pos → ∀ x p, t ≠ .Name x p)
    (hg : tupGuard t e = true) (q1 : (evHot I sc ρ η t e).run = some (vv, η1)) (q2 : bindT sc ρ t vv = some ρ') (rm : Room (n + 1) A) (R : ER prog w C₀ K μ s.heap ce sc ρ) (S : SR prog w C₀ K μ η s.heap) (k : KK h₀.get? K)
    (hQ : ∀ K' μ' h' tk, Gr (own ce) K μ s.heap K' μ' h' → ER prog w C₀ K' μ' h' ce sc ρ' → SR prog w C₀ K' μ' η1 h' → Q .next { s with heap := h', toks := tk }) : wpAny (model prog w) A (exec (.Assign [t] e pos) ce) Q E s := by
  rw [exec_Assign_arm]
  refine wpAny_bind (wpAny_standAt ?_)
  rw [swaps_false P hc q1]
  refine wpAny_bind (wpAny_pure ?_)
  rw [if_neg (by decide)]
  refine wpAny_bind (evHot_ok lim HI P.star hc q1 rm R S k fun v K1 μ1 h1 tk1 g1 S1 z1 => ?_)
  refine bind_ok (s := { s with heap := h1, toks := tk1 }) rm hg q2 z1 (R.grow0 g1) S1 fun h2 tk2 g2 R2 S2 => ?_
  exact hQ K1 μ1 h2 tk2 ((g1.weaken (by simp)).trans g2) R2 S2

theorem AssignComp_ok (X : Ctx p w G C₀ fI loose mean mg mb h₀ FF) (HI : EvOk prog w C₀ h₀.get? (n + 1) I) (HT : TrOk prog w C₀ h₀.get? (n + 1) I) (P : Plain I) {x : Str} {px : Pos} {elt : Expr} {gens : List Comprehension} {scope : Scope} {cpos pos : Pos} {vv : VV} {η1 : Eta} {Q : Flow → Shared → Prop}
    (q1 : (evHot I sc ρ η (.Name x px) (.ListComp elt gens scope cpos)).run = some (vv, η1)) (q2 : bindT sc ρ (.Name x px) vv = some ρ') (rm : Room (n + 1) A) (R : ER prog w C₀ K μ s.heap ce sc ρ) (S : SR prog w C₀ K μ η s.heap) (k : KK h₀.get? K)
    (hQ : ∀ K' μ' h' tk, Gr (own ce) K μ s.heap K' μ' h' → ER prog w C₀ K' μ' h' ce sc ρ' → SR prog w C₀ K' μ' η1 h' → Q .next { s with heap := h', toks := tk }) : wpAny (model prog w) A (exec (.Assign [.Name x px] (.ListComp elt gens scope cpos) pos) ce) Q E s := by
  have q1' : ((evComp I sc ρ η elt gens scope).bind fun q => if x = "led" then B.pure (VV.h q.2.length, q.2 ++ [HO.hl q.1]) else .pure (.d (.lst q.1), q.2)).run = some (vv, η1) := q1
  refine bind_elim2 q1' fun qs η2 q3 q4 => ?_
  dsimp only at q4
  have hx : storable sc x = true := by
    unfold bindT at q2
    dsimp only at q2
    split at q2
    · assumption
    · first | exact nn q2 | (obtain ⟨rfl, rfl, rfl⟩ := p3 q2) | (obtain ⟨rfl, rfl⟩ := p2 q2) | (obtain rfl := p1 q2) | cases q2
  have hρ : ρ' = rset ρ x vv := by
    unfold bindT at q2
    dsimp only at q2
    rw [hx] at q2
    exact (Option.some.inj q2).symm
  subst hρ
  obtain ⟨b, hb⟩ : ∃ b, swapsWith (.ListComp elt gens scope cpos) (some (.Name x px)) pos.line ce = pure b := ⟨_, rfl⟩
  induction b with
  | false =>
    rw [exec_Assign_arm]
    refine wpAny_bind (wpAny_standAt ?_)
    rw [show swapsWithSole [.Name x px] (.ListComp elt gens scope cpos) pos.line ce = pure false from hb]
    refine wpAny_bind (wpAny_pure ?_)
    rw [if_neg (by decide)]
    refine wpAny_bind (ListComp_ok X HI HT P.star P.set q3 rm R S k fun Dd K1 μ1 h1 tk1 ys m g1 S1 hD hys hl fD kD mD => ?_)
    obtain ⟨K2, μ2, g2, S2, z2, _⟩ := compVal_ok S1 hD hys hl kD mD g1 fD q4
    refine bind_ok (s := { s with heap := h1, toks := tk1 }) rm (by rfl) q2 z2 (R.grow0 g2) S2 fun h2 tk2 g2' R2 S2 => ?_
    exact hQ K2 μ2 h2 tk2 ((g2.weaken (by simp)).trans g2') R2 S2
  | true =>
    rw [exec_Assign_Name_used _ _ _ _ hb]
    refine wpAny_bind (wpAny_standAt (wpAny_bind ?_))
    obtain ⟨e1, e2⟩ := comp_ok (pos := cpos) (A := A) (E := E) (Q := fun _ s' => Q .next s') X HI HT P.star P.set q3 rm R S k (some (assign (.Name x px) ce)) fun Dd C K1 μ1 h1 tk1 m' ys g1 S1 hn hp hys hl fD fC dc kD mD kC mC => by
      show wpAny _ A (assign (.Name x px) ce (.ref Dd)) _ E _
      obtain ⟨m, hm⟩ := hp
      obtain ⟨K2, μ2, g2, S2, z2, nw⟩ := compVal_ok S1 hm hys hl kD mD g1 fD q4
      have R1 := R.grow0 g2
      have oC : C ∉ own ce := fun z => by
        obtain ⟨o, e⟩ := R.ownThere C z
        rw [fC] at e; cases e
      obtain ⟨oc, _, _, hoc, _⟩ := id hn
      have mC2 : C ∉ μ2 ∧ K2 C = none := (nw C dc kC mC).symm
      refine wpAny_assign_Name (store_ok (s := { s with heap := h1, toks := tk1 }) R1 S2 hx z2 fun h2 tk2 g3 R3 S3 => ?_)
      refine ⟨m', hn.at' fun o e => g3.fr C o e mC2.1 oC, fun h3 hs3 => ?_⟩
      have kp : ∀ b o, b ≠ C → h2.get? b = some o → h3.get? b = some o := fun b o hb e => (hs3.2 b hb).trans e
      have g23 := (g2.weaken (Y := own ce) (by simp)).trans g3
      exact hQ K2 μ2 h3 tk2 (g23.endBut (Z := [C]) (fun b o hb e => kp b o (by simpa using hb) e) (by simpa using fC)) (R3.keep fun b o hb e => kp b o (fun z => oC (z ▸ hb)) e) (S3.sameBut kp mC2.2 mC2.1)
    show wpAny _ A (do let _ ← comprehension (.ListComp elt gens scope cpos) scope ce (firstIterPos gens cpos) (newList []) (firstAsync gens) (firstIter gens ce) (some (assign (.Name x px) ce))) _ E s
    rw [e1]
    exact wpAny_bind (wpAny_mono e2 (fun _ s' hq => wpAny_pure (wpAny_pure hq)) fun _ _ e => e)
end
end Mine
end
section
namespace Mine
set_option tactic.hygienic false
open PySem PySem.W PyProof.Rows PySem.Spec PySem.Calls

section
variable {prog p : Program} {w : World} {C₀ fI : Addr} {G : Frag} {loose : List Str} {mean : ExcName → Option Value} {mg mb : Str → Option Value} {h₀ : Heap} {FF : Str → Option FDef}
  {K K' : Kn} {n : Nat} {η η' : Eta} {A : Around} {E : Value → Shared → Prop} {s : Shared} {μ μ' : List Addr} {h h' : Heap} {I : Interp} {sc : Sc} {ρ ρ' : Rho} {ce : Env} {X : List Addr} {K₀ : Kn}

theorem base_name {o : Expr} {name : Str} (h : isNameOrItem o = true) : attributeBase o name ce (eval o ce) = eval o ce := by
  cases o <;> first | rfl | cases h

set_option tactic.hygienic true in
theorem meth_ok (HI : EvOk prog w C₀ K₀ (n + 1) I) (N : NoStar I) {o a : Expr} {m : Str} {apos cpos : Pos} {Q : Value → Shared → Prop} (ho : isNameOrItem o = true) (hl : (apos.endLine == cpos.line) = true)
    (q : (meth I sc ρ η o m a).run = some η') (rm : Room (n + 1) A) (R : ER prog w C₀ K μ s.heap ce sc ρ) (S : SR prog w C₀ K μ η s.heap) (k : KK K₀ K)
    (hQ : HN prog w C₀ K μ s η' .none Q) : wpAny (model prog w) A (eval (.Call (.Attribute o m apos) [a] [] cpos) ce) Q E s := by
  rw [meth, B.run_bind] at q
  obtain ⟨⟨ov, η1⟩, q1, q2⟩ := Option.bind_eq_some_iff.mp q
  refine lift_elim q2 fun u q3 q4 => ?_
  refine bind_elim2 q4 fun d η2 q5 q6 => ?_
  rw [B.run_lift] at q6
  dsimp only at q3 q6
  have ns : ∀ x p, a ≠ .Starred x p := by
    have q5' := q5
    rw [evD, B.run_bind] at q5'
    obtain ⟨r', q5', _⟩ := Option.bind_eq_some_iff.mp q5'
    exact N.ne q5'
  have ht : backTo cpos (starEach [a] ce) = [(false, eval a ce)] := by rw [starEach_cons ns]; rfl
  refine wpAny_Call_method1_late (base_name ho) hl ht (HI sc ρ η o ov η1 q1 A E s ce K μ _ rm R S k fun v K1 μ1 h1 tk1 g1 S1 z1 => ?_)
  unfold isHl at q3
  split at q3
  · rename_i nn
    split at q3
    · rename_i ds0 hq0
      cases z1 with
      | @h _ ar ha =>
        have O := S1.hot _ _ _ ha hq0
        cases O with
        | @hl vs ep _ kz g r l =>
          have fin : ∀ {id : String}, wpAny (model prog w) A (eval a ce) (fun y s₂ => wpAny (model prog w) A (call (.builtin id) [.ref ar, y]) Q E s₂) E { s with heap := h1, toks := tk1 } →
              wpAny (model prog w) A (callWith cpos (.builtin id) [.ref ar] [(false, eval a ce)] []) Q E { s with heap := h1, toks := tk1 } := fun hc =>
            Calls.callWith_builtin rfl (Calls.evalArgs_plain (Calls.spliced_cons (wpAny_mono hc (fun y s₂ h₂ => Calls.spliced_nil h₂) fun _ _ e => e)))
          unfold methD at q6
          dsimp only at q6
          split at q6
          · rename_i ds hq2
            split at q6
            · rename_i hsz
              split at q6
              · rename_i hm
                subst hm
                first | exact nn q6 | (obtain ⟨rfl, rfl, rfl⟩ := p3 q6) | (obtain ⟨rfl, rfl⟩ := p2 q6) | (obtain rfl := p1 q6) | cases q6
                refine ⟨"list", "list.append", PySem.F.plainAttrs_list, PySem.F.slot_list_append, PySem.F.type_list_append, ⟨_, g, rfl⟩, fun a' e => by cases e; exact ⟨_, g, rfl⟩, fin ?_⟩
                refine evD_ok (s := { s with heap := h1, toks := tk1 }) HI q5 rm (R.grow0 g1) S1 (k.trans g1.k) fun vy K2 μ2 h2 tk2 g2 S2 z2 => ?_
                exact append_ok (s := { s with heap := h2, toks := tk2 }) (g2.at_ ha) hq2 hsz z2 S2 fun h3 tk3 g3 S3 => hQ K2 μ2 h3 tk3 ((g1.trans g2).trans g3) S3
              · split at q6
                · rename_i hm
                  subst hm
                  split at q6
                  · rename_i es
                    split at q6
                    · rename_i hsz2
                      first | exact nn q6 | (obtain ⟨rfl, rfl, rfl⟩ := p3 q6) | (obtain ⟨rfl, rfl⟩ := p2 q6) | (obtain rfl := p1 q6) | cases q6
                      refine ⟨"list", "list.extend", PySem.F.plainAttrs_list, PySem.F.slot_list_extend, PySem.F.type_list_extend, ⟨_, g, rfl⟩, fun a' e => by cases e; exact ⟨_, g, rfl⟩, fin ?_⟩
                      refine evD_ok (s := { s with heap := h1, toks := tk1 }) HI q5 rm (R.grow0 g1) S1 (k.trans g1.k) fun vy K2 μ2 h2 tk2 g2 S2 z2 => ?_
                      exact extend_ok (s := { s with heap := h2, toks := tk2 }) (g2.at_ ha) hq2 hsz hsz2 z2 S2 fun h3 tk3 g3 S3 => hQ K2 μ2 h3 tk3 ((g1.trans g2).trans g3) S3
                    · first | exact nn q6 | (obtain ⟨rfl, rfl, rfl⟩ := p3 q6) | (obtain ⟨rfl, rfl⟩ := p2 q6) | (obtain rfl := p1 q6) | cases q6
                  · first | exact nn q6 | (obtain ⟨rfl, rfl, rfl⟩ := p3 q6) | (obtain ⟨rfl, rfl⟩ := p2 q6) | (obtain rfl := p1 q6) | cases q6
                · first | exact nn q6 | (obtain ⟨rfl, rfl, rfl⟩ := p3 q6) | (obtain ⟨rfl, rfl⟩ := p2 q6) | (obtain rfl := p1 q6) | cases q6
            · first | exact nn q6 | (obtain ⟨rfl, rfl, rfl⟩ := p3 q6) | (obtain ⟨rfl, rfl⟩ := p2 q6) | (obtain rfl := p1 q6) | cases q6
          · first | exact nn q6 | (obtain ⟨rfl, rfl, rfl⟩ := p3 q6) | (obtain ⟨rfl, rfl⟩ := p2 q6) | (obtain rfl := p1 q6) | cases q6
    · first | exact nn q3 | (obtain ⟨rfl, rfl, rfl⟩ := p3 q3) | (obtain ⟨rfl, rfl⟩ := p2 q3) | (obtain rfl := p1 q3) | cases q3
  · first | exact nn q3 | (obtain ⟨rfl, rfl, rfl⟩ := p3 q3) | (obtain ⟨rfl, rfl⟩ := p2 q3) | (obtain rfl := p1 q3) | cases q3

theorem swapsExpr {f : Expr} {args : List Expr} {kws : List Keyword} {cp : Pos} {line : Nat} : swapsWith (.Call f args kws cp) none line ce = pure false := rfl

set_option tactic.hygienic true in
theorem exStep_ok (X : Ctx p w G C₀ fI loose mean mg mb h₀ FF) (P : Plain I) (HI : EvOk prog w C₀ h₀.get? (n + 1) I) (HT : TrOk prog w C₀ h₀.get? (n + 1) I) (HX : ExsOk prog w C₀ h₀.get? (n + 1) I) {st : Stmt} {fl : Fl} {Q : Flow → Shared → Prop}
    (q : (exStep I sc ρ η st).run = some (fl, ρ', η')) (rm : Room (n + 1) A) (R : ER prog w C₀ K μ s.heap ce sc ρ) (S : SR prog w C₀ K μ η s.heap) (k : KK h₀.get? K)
    (hQ : ∀ f K' μ' h' tk, Gr (own ce) K μ s.heap K' μ' h' → ER prog w C₀ K' μ' h' ce sc ρ' → SR prog w C₀ K' μ' η' h' → FR prog w C₀ K' μ' f fl → Q f { s with heap := h', toks := tk }) : wpAny (model prog w) A (exec st ce) Q E s := by
  have lim := X.T.nolimit
  have w0 : ∀ {K' : Kn} {μ' : List Addr} {h' : Heap}, Gr [] K μ s.heap K' μ' h' → Gr (own ce) K μ s.heap K' μ' h' := fun g => g.weaken (by simp)
  cases st using exStep_elim with
  | ret e rp =>
    refine bind_elim2 q fun v η1 q1 q2 => ?_
    first | exact nn q2 | (obtain ⟨rfl, rfl, rfl⟩ := p3 q2) | (obtain ⟨rfl, rfl⟩ := p2 q2) | (obtain rfl := p1 q2) | cases q2
    exact wpAny_Return_some (HI sc ρ η e v η1 q1 A E s ce K μ _ rm R S k fun u K1 μ1 h1 tk1 g1 S1 z1 => hQ _ K1 μ1 h1 tk1 (w0 g1) (R.grow0 g1) S1 (.ret z1))
  | asg t e ap =>
    unfold exStep at q
    dsimp only at q
    split at q
    · rename_i o i sp
      refine bind_elim2 q fun d1 η1 q1 q2 => ?_
      refine bind_elim2 q2 fun ov η2 q3 q4 => ?_
      refine bind_elim2 q4 fun di η3 q5 q6 => ?_
      refine lift_elim q6 fun η4 q7 q8 => ?_
      first | exact nn q8 | (obtain ⟨rfl, rfl, rfl⟩ := p3 q8) | (obtain ⟨rfl, rfl⟩ := p2 q8) | (obtain rfl := p1 q8) | cases q8
      have hs : swapsWith e (some (.Subscript o i sp)) ap.line ce = pure false := by
        cases e with
        | ListComp a b c d => rfl
        | SetComp a b c d => rfl
        | DictComp a b c d e' => rfl
        | _ => rfl
      refine wpAny_Assign_Subscript (evD_ok HI q1 rm R S k fun v1 K1 μ1 h1 tk1 g1 S1 z1 => ?_) hs
      have R1 := R.grow0 g1
      refine HI sc ρ η1 o ov η2 q3 A E { s with heap := h1, toks := tk1 } ce K1 μ1 _ rm R1 S1 (k.trans g1.k) fun vo K2 μ2 h2 tk2 g2 S2 z2 => ?_
      have g12 := g1.trans g2
      refine evD_ok (s := { s with heap := h2, toks := tk2 }) HI q5 rm (R.grow0 g12) S2 (k.trans g12.k) fun vi K3 μ3 h3 tk3 g3 S3 z3 => ?_
      have g13 := g12.trans g3
      refine setItem_ok (s := { s with heap := h3, toks := tk3 }) q7 (z2.grow g3) z3 ((z1.mono g2.k).mono g3.k) S3 fun h4 tk4 g4 S4 => ?_
      have g14 := g13.trans g4
      exact hQ _ K3 μ3 h4 tk4 (w0 g14) (R.grow0 g14) S4 .next
    · rename_i hns
      split at q
      · rename_i hg
        refine bind_elim2 q fun vv η1 q1 q2 => ?_
        refine lift_elim q2 fun ρ1 q3 q4 => ?_
        first | exact nn q4 | (obtain ⟨rfl, rfl, rfl⟩ := p3 q4) | (obtain ⟨rfl, rfl⟩ := p2 q4) | (obtain rfl := p1 q4) | cases q4
        by_cases hc : (∃ elt gens scope pos, e = .ListComp elt gens scope pos) ∧ ∃ x p, t = .Name x p
        · obtain ⟨⟨elt, gens, scope, pos, rfl⟩, x, px, rfl⟩ := hc
          exact AssignComp_ok X HI HT P q1 q3 rm R S k fun K1 μ1 h1 tk1 g1 R1 S1 => hQ _ K1 μ1 h1 tk1 g1 R1 S1 .next
        · exact Assign_ok lim HI P (fun elt gens scope pos e1 x px e2 => hc ⟨⟨elt, gens, scope, pos, e1⟩, x, px, e2⟩) hg q1 q3 rm R S k fun K1 μ1 h1 tk1 g1 R1 S1 => hQ _ K1 μ1 h1 tk1 g1 R1 S1 .next
      · first | exact nn q | (obtain ⟨rfl, rfl, rfl⟩ := p3 q) | (obtain ⟨rfl, rfl⟩ := p2 q) | (obtain rfl := p1 q) | cases q
  | meth o m apos a cpos ep =>
    unfold exStep at q
    dsimp only at q
    split at q
    · rename_i ho hl
      refine bind_elim q fun η1 q1 q2 => ?_
      first | exact nn q2 | (obtain ⟨rfl, rfl, rfl⟩ := p3 q2) | (obtain ⟨rfl, rfl⟩ := p2 q2) | (obtain rfl := p1 q2) | cases q2
      refine wpAny_Expr (meth_ok HI P.star ho hl q1 rm R S k fun K1 μ1 h1 tk1 g1 S1 => ?_) ?_ rfl
      · exact hQ _ K1 μ1 h1 tk1 (w0 g1) (R.grow0 g1) S1 .next
      · unfold interactive
        rw [R.kind]; rfl
    · first | exact nn q | (obtain ⟨rfl, rfl, rfl⟩ := p3 q) | (obtain ⟨rfl, rfl⟩ := p2 q) | (obtain rfl := p1 q) | cases q
  | iff_ t a b ip =>
    refine bind_elim2 q fun c η1 q1 q2 => ?_
    rw [B.run_br] at q2
    refine wpAny_If (HT sc ρ η t c η1 q1 A E s ce K μ _ rm R S k fun K1 μ1 h1 tk1 g1 S1 => ?_)
    induction c with
    | false =>
      simp only [Bool.false_eq_true, if_false] at q2 ⊢
      exact HX sc ρ η1 b fl ρ' η' q2 A E { s with heap := h1, toks := tk1 } ce K1 μ1 Q rm (R.grow0 g1) S1 (k.trans g1.k) fun f K2 μ2 h2 tk2 g2 R2 S2 F2 => hQ f K2 μ2 h2 tk2 ((w0 g1).trans g2) R2 S2 F2
    | true =>
      simp only [if_true] at q2 ⊢
      exact HX sc ρ η1 a fl ρ' η' q2 A E { s with heap := h1, toks := tk1 } ce K1 μ1 Q rm (R.grow0 g1) S1 (k.trans g1.k) fun f K2 μ2 h2 tk2 g2 R2 S2 F2 => hQ f K2 μ2 h2 tk2 ((w0 g1).trans g2) R2 S2 F2
  | for_ t it body fp =>
    refine bind_elim2 q fun ds η1 q1 q2 => ?_
    refine wpAny_For (itr_ok X HI P.star q1 rm R S k fun I' K1 μ1 h1 tk1 g1 S1 It f1 k1 m1 => ?_) (itr_noSet P.set q1)
    have R1 := R.grow0 g1
    refine forLoop_ok (s := { s with heap := h1, toks := tk1 }) (Kb := K) (μb := μ) (hb := s.heap) (fl := fl) HX rm (fun z => ?_) f1 ?_ q2 (k.trans g1.k) (w0 g1) R1 S1 It k1 m1
    · obtain ⟨o, e⟩ := R.ownThere _ z
      rw [f1] at e; cases e
    · exact fun f K' μ' h' tk g R' S' F => hQ f K' μ' h' tk g R' S' F
  | while_ t body wp =>
    refine wpAny_While (whileLoop_ok (Kb := K) (μb := μ) (hb := s.heap) (fl := fl) HT HX rm ?_ q k (Gr.refl ..) R S)
    exact fun f K' μ' h' tk g R' S' F => hQ f K' μ' h' tk g R' S' F
  | other s0 he => rw [he] at q; exact nn q

set_option tactic.hygienic true in
theorem exsStep_ok (HE : ExOk prog w C₀ h₀.get? n I) (HX : ExsOk prog w C₀ h₀.get? n I) {ss : List Stmt} {fl : Fl} {Q : Flow → Shared → Prop}
    (q : (exsStep I sc ρ η ss).run = some (fl, ρ', η')) (rm : Room n A) (R : ER prog w C₀ K μ s.heap ce sc ρ) (S : SR prog w C₀ K μ η s.heap) (k : KK h₀.get? K)
    (hQ : ∀ f K' μ' h' tk, Gr (own ce) K μ s.heap K' μ' h' → ER prog w C₀ K' μ' h' ce sc ρ' → SR prog w C₀ K' μ' η' h' → FR prog w C₀ K' μ' f fl → Q f { s with heap := h', toks := tk }) : wpAny (model prog w) A (execs ss ce) Q E s := by
  unfold exsStep at q
  split at q
  · first | exact nn q | (obtain ⟨rfl, rfl, rfl⟩ := p3 q) | (obtain ⟨rfl, rfl⟩ := p2 q) | (obtain rfl := p1 q) | cases q
    exact wpAny_execs_nil (hQ _ K μ s.heap s.toks (Gr.refl ..) R S .next)
  · rename_i st ss
    refine bind_elim3 q fun f1 ρ1 η1 q1 q2 => ?_
    refine wpAny_execs_cons (HE sc ρ η st f1 ρ1 η1 q1 A E s ce K μ _ rm R S k fun f K1 μ1 h1 tk1 g1 R1 S1 F1 => ?_)
    rcases flGo_run q2 with ⟨e, q5⟩ | ⟨v, e, q5⟩
    · cases e
      cases F1
      exact HX sc ρ1 η1 ss fl ρ' η' q5 A E { s with heap := h1, toks := tk1 } ce K1 μ1 Q rm R1 S1 (k.trans g1.k) fun f K2 μ2 h2 tk2 g2 R2 S2 F2 => hQ f K2 μ2 h2 tk2 (g1.trans g2) R2 S2 F2
    · cases e
      first | exact nn q5 | (obtain ⟨rfl, rfl, rfl⟩ := p3 q5) | (obtain ⟨rfl, rfl⟩ := p2 q5) | (obtain rfl := p1 q5) | cases q5
      cases F1 with
      | ret z1 => exact hQ _ K1 μ1 h1 tk1 g1 R1 S1 (.ret z1)
end
end Mine
end
section
namespace Mine
set_option tactic.hygienic false
open PySem PySem.W PyProof.Rows PySem.Spec PySem.Calls

section
variable {prog p : Program} {w : World} {C₀ fI : Addr} {G : Frag} {loose : List Str} {mean : ExcName → Option Value} {mg mb : Str → Option Value} {h₀ : Heap} {FF : Str → Option FDef}
  {K K' : Kn} {n : Nat} {η η' : Eta} {A : Around} {E : Value → Shared → Prop} {s : Shared} {μ μ' : List Addr} {h h' : Heap} {I : Interp} {sc : Sc} {ρ ρ' : Rho} {ce : Env} {X : List Addr} {K₀ : Kn}

set_option tactic.hygienic true in
theorem short_some {ds : List D} {x d : D} (q : short ds x = some d) : ds.length ≤ 1000 ∧ d = x := by
  unfold short at q
  split at q
  · rename_i h; cases q; exact ⟨h, rfl⟩
  · first | exact nn q | (obtain ⟨rfl, rfl, rfl⟩ := p3 q) | (obtain ⟨rfl, rfl⟩ := p2 q) | (obtain rfl := p1 q) | cases q

set_option tactic.hygienic true in
theorem evStep_ok (X : Ctx p w G C₀ fI loose mean mg mb h₀ FF) (P : Plain I) (HI : EvOk prog w C₀ h₀.get? (n + 1) I) (HT : TrOk prog w C₀ h₀.get? (n + 1) I) (HP : CpOk prog w C₀ mg h₀ (n + 1) I.cp) (HH : ChOk prog w C₀ mg h₀ (n + 1) I.ch) {e : Expr} {vv : VV} {Q : Value → Shared → Prop}
    (q : (evStep I sc ρ η e).run = some (vv, η')) (rm : Room (n + 1) A) (R : ER prog w C₀ K μ s.heap ce sc ρ) (S : SR prog w C₀ K μ η s.heap) (k : KK h₀.get? K)
    (hQ : HVR prog w C₀ K μ s η' vv Q) : wpAny (model prog w) A (eval e ce) Q E s := by
  have line : sizeLine = 16777216 := by decide
  cases e using evStep_elim with
  | const c ck cp =>
    refine lift_elim q fun d q1 q2 => ?_
    first | exact nn q2 | (obtain ⟨rfl, rfl, rfl⟩ := p3 q2) | (obtain ⟨rfl, rfl⟩ := p2 q2) | (obtain rfl := p1 q2) | cases q2
    unfold constD at q1
    split at q1
    · cases q1; exact wpAny_Constant_none (hQ _ K μ s.heap s.toks (Gr.refl ..) S (.d .none))
    · cases q1; exact wpAny_Constant_bool (hQ _ K μ s.heap s.toks (Gr.refl ..) S (.d (.bool _)))
    · cases q1; exact wpAny_Constant_int (hQ _ K μ s.heap _ (Gr.refl ..) S (.d (.int _ _)))
    · cases q1; exact wpAny_Constant_str (hQ _ K μ s.heap _ (Gr.refl ..) S (.d (.str _ _)))
    · first | exact nn q1 | (obtain ⟨rfl, rfl, rfl⟩ := p3 q1) | (obtain ⟨rfl, rfl⟩ := p2 q1) | (obtain rfl := p1 q1) | cases q1
  | name x xp =>
    refine lift_elim q fun v q1 q2 => ?_
    first | exact nn q2 | (obtain ⟨rfl, rfl, rfl⟩ := p3 q2) | (obtain ⟨rfl, rfl⟩ := p2 q2) | (obtain rfl := p1 q2) | cases q2
    exact name_ok R q1 fun v z => hQ v K μ s.heap s.toks (Gr.refl ..) S z
  | bool op es bp =>
    refine bind_elim2 q fun b η1 q1 q2 => ?_
    first | exact nn q2 | (obtain ⟨rfl, rfl, rfl⟩ := p3 q2) | (obtain ⟨rfl, rfl⟩ := p2 q2) | (obtain rfl := p1 q2) | cases q2
    show wpAny _ A (boolOp bp op (evalEach es ce)) Q E s
    exact bools_ok HI es q1 rm R S k fun K1 μ1 h1 tk1 g1 S1 => hQ _ K1 μ1 h1 tk1 g1 S1 (.d (.bool _))
  | bin l op r bp =>
    refine bind_elim2 q fun d1 η1 q1 q2 => ?_
    refine bind_elim2 q2 fun d2 η2 q3 q4 => ?_
    refine lift_elim q4 fun d q5 q6 => ?_
    first | exact nn q6 | (obtain ⟨rfl, rfl, rfl⟩ := p3 q6) | (obtain ⟨rfl, rfl⟩ := p2 q6) | (obtain rfl := p1 q6) | cases q6
    refine wpAny_BinOp (evD_ok HI q1 rm R S k fun v1 K1 μ1 h1 tk1 g1 S1 z1 => ?_)
    refine evD_ok (s := { s with heap := h1, toks := tk1 }) HI q3 rm (R.grow0 g1) S1 (k.trans g1.k) fun v2 K2 μ2 h2 tk2 g2 S2 z2 => ?_
    exact binop_ok (s := { s with heap := h2, toks := tk2 }) q5 (z1.mono g2.k) z2 S2 fun v K3 h3 tk3 g3 S3 z3 => hQ v K3 μ2 h3 tk3 ((g1.trans g2).trans g3) S3 (.d z3)
  | not_ x xp =>
    refine bind_elim2 q fun d1 η1 q1 q2 => ?_
    refine lift_elim q2 fun c q3 q4 => ?_
    first | exact nn q4 | (obtain ⟨rfl, rfl, rfl⟩ := p3 q4) | (obtain ⟨rfl, rfl⟩ := p2 q4) | (obtain rfl := p1 q4) | cases q4
    obtain rfl := truD_some q3
    refine wpAny_UnaryOp (evD_ok HI q1 rm R S k fun v1 K1 μ1 h1 tk1 g1 S1 z1 => ?_)
    rw [z1.bool_of]
    exact not_value (wpAny_truthy_bool (hQ _ K1 μ1 h1 tk1 g1 S1 (.d (.bool _))))
  | ifexp t a b ip =>
    refine bind_elim2 q fun c η1 q1 q2 => ?_
    rw [B.run_br] at q2
    refine wpAny_IfExp (HT sc ρ η t c η1 q1 A E s ce K μ _ rm R S k fun K1 μ1 h1 tk1 g1 S1 => ?_)
    induction c with
    | false =>
      simp only [Bool.false_eq_true, if_false] at q2 ⊢
      exact HI sc ρ η1 b vv η' q2 A E { s with heap := h1, toks := tk1 } ce K1 μ1 Q rm (R.grow0 g1) S1 (k.trans g1.k) fun v K2 μ2 h2 tk2 g2 S2 z2 => hQ v K2 μ2 h2 tk2 (g1.trans g2) S2 z2
    | true =>
      simp only [if_true] at q2 ⊢
      exact HI sc ρ η1 a vv η' q2 A E { s with heap := h1, toks := tk1 } ce K1 μ1 Q rm (R.grow0 g1) S1 (k.trans g1.k) fun v K2 μ2 h2 tk2 g2 S2 z2 => hQ v K2 μ2 h2 tk2 (g1.trans g2) S2 z2
  | list es lp =>
    refine bind_elim2 q fun ds η1 q1 q2 => ?_
    refine lift_elim q2 fun d q3 q4 => ?_
    first | exact nn q4 | (obtain ⟨rfl, rfl, rfl⟩ := p3 q4) | (obtain ⟨rfl, rfl⟩ := p2 q4) | (obtain rfl := p1 q4) | cases q4
    obtain ⟨hl, rfl⟩ := short_some q3
    dsimp only at hl
    refine freshList_ok HI P.star q1 rm R S k fun a vs K1 μ1 h1 tk1 g1 S1 l1 z1 f1 k1 m1 => ?_
    exact hQ _ _ μ1 h1 tk1 (g1.learn k1 f1) (S1.learn k1 m1 l1) (.d (.lst Kset.same (z1.mono (Kset.kk k1)) (by dsimp only; omega)))
  | tup es lk lp =>
    refine bind_elim2 q fun ds η1 q1 q2 => ?_
    refine lift_elim q2 fun d q3 q4 => ?_
    first | exact nn q4 | (obtain ⟨rfl, rfl, rfl⟩ := p3 q4) | (obtain ⟨rfl, rfl⟩ := p2 q4) | (obtain rfl := p1 q4) | cases q4
    obtain ⟨hl, rfl⟩ := short_some q3
    dsimp only at hl
    refine wpAny_Tuple_spliced (evDs_ok HI P.star es q1 rm R S k fun vs K1 μ1 h1 tk1 g1 S1 z1 => ⟨by have := z1.length; omega, ?_⟩)
    obtain ⟨S2, G2⟩ := alloc_ok S1 ({ cls := .type "tuple", data := .seq vs.toArray } : Obj) rfl
    exact hQ _ _ μ1 _ tk1 (g1.trans G2) S2 (.d (.tup Kset.same rfl rfl (by simpa using z1.mono G2.k) (by dsimp only; omega)))
  | comp elt gens scope lp =>
    refine bind_elim2 q fun qs η1 q1 q2 => ?_
    first | exact nn q2 | (obtain ⟨rfl, rfl, rfl⟩ := p3 q2) | (obtain ⟨rfl, rfl⟩ := p2 q2) | (obtain rfl := p1 q2) | cases q2
    refine ListComp_ok X HI HT P.star P.set q1 rm R S k fun Dd K1 μ1 h1 tk1 ys m g1 S1 hD hys hl fD kD mD => ?_
    exact hQ _ _ μ1 h1 tk1 (g1.learn kD fD) (S1.learn kD mD hD) (.d (.lst Kset.same (hys.mono (Kset.kk kD)) (by dsimp only at *; omega)))
  | cmp l ops es cp =>
    unfold evStep at q
    dsimp only at q
    have q' : (((I.ev sc ρ η l).bind fun q => cmpChain I sc ρ q.1 q.2 ops es).bind fun r => B.pure (VV.d (.bool r.1), r.2)).run = some (vv, η') := by
      rw [B.run_bind] at q ⊢
      rw [B.run_bind, Option.bind_assoc]
      rw [← q]
      congr 1
      funext a
      rw [B.run_bind]
    refine bind_elim2 q' fun b η1 q1 q2 => ?_
    first | exact nn q2 | (obtain ⟨rfl, rfl, rfl⟩ := p3 q2) | (obtain ⟨rfl, rfl⟩ := p2 q2) | (obtain rfl := p1 q2) | cases q2
    exact Compare_ok HI q1 rm R S k fun K1 μ1 h1 tk1 g1 S1 => hQ _ K1 μ1 h1 tk1 g1 S1 (.d (.bool _))
  | call f args kws cp =>
    unfold evStep at q
    dsimp only at q
    split at q
    · rename_i hk
      induction kws with
      | nil => exact evCall_ok X HI P.star HP HH q rm R S k hQ
      | cons a b => cases hk
    · first | exact nn q | (obtain ⟨rfl, rfl, rfl⟩ := p3 q) | (obtain ⟨rfl, rfl⟩ := p2 q) | (obtain rfl := p1 q) | cases q
  | attr o a ap =>
    unfold evStep at q
    dsimp only at q
    split at q
    · rename_i ho
      have q0 := q
      refine bind_elim2 q fun d1 η1 q1 q2 => ?_
      refine bind_elim q2 fun d q3 q4 => ?_
      first | exact nn q4 | (obtain ⟨rfl, rfl, rfl⟩ := p3 q4) | (obtain ⟨rfl, rfl⟩ := p2 q4) | (obtain rfl := p1 q4) | cases q4
      exact attr_ok X.CI (K₀ := h₀.get?) X.gk HI ho q0 rm R S k fun v K1 μ1 h1 tk1 g1 S1 z1 => hQ v K1 μ1 h1 tk1 g1 S1 (.d z1)
    · first | exact nn q | (obtain ⟨rfl, rfl, rfl⟩ := p3 q) | (obtain ⟨rfl, rfl⟩ := p2 q) | (obtain rfl := p1 q) | cases q
  | sub o sl sp => exact sub_ok HI q rm R S k hQ
  | other e0 he => rw [he] at q; exact nn q

theorem value_ok {e : Expr} {b : Bool} {whole : Sem Value} {Q : Bool → Shared → Prop} (HI : EvOk prog w C₀ K₀ (n + 1) I) (hw : whole = eval e ce) (he : isTrue e ce whole = (do let v ← whole; standAt e.pos; holding [v] (truthy v)))
    (q : ((evD I sc ρ η e).bind fun r => (B.lift (truD r.1)).bind fun b => B.pure (b, r.2)).run = some (b, η')) (rm : Room (n + 1) A) (R : ER prog w C₀ K μ s.heap ce sc ρ) (S : SR prog w C₀ K μ η s.heap) (k : KK K₀ K)
    (hQ : HN prog w C₀ K μ s η' b Q) : wpAny (model prog w) A (isTrue e ce whole) Q E s := by
  refine bind_elim2 q fun d1 η1 q1 q2 => ?_
  refine lift_elim q2 fun c q3 q4 => ?_
  first | exact nn q4 | (obtain ⟨rfl, rfl, rfl⟩ := p3 q4) | (obtain ⟨rfl, rfl⟩ := p2 q4) | (obtain rfl := p1 q4) | cases q4
  obtain rfl := truD_some q3
  subst hw
  refine wpAny_isTrue_value (evD_ok HI q1 rm R S k fun v1 K1 μ1 h1 tk1 g1 S1 z1 => ?_) he
  rw [z1.bool_of]
  exact wpAny_truthy_bool (hQ K1 μ1 h1 tk1 g1 S1)

theorem trStep_ok (HI : EvOk prog w C₀ K₀ (n + 1) I) (HT : TrOk prog w C₀ K₀ (n + 1) I) {e : Expr} {b : Bool} {Q : Bool → Shared → Prop}
    (q : (trStep I sc ρ η e).run = some (b, η')) (rm : Room (n + 1) A) (R : ER prog w C₀ K μ s.heap ce sc ρ) (S : SR prog w C₀ K μ η s.heap) (k : KK K₀ K)
    (hQ : HN prog w C₀ K μ s η' b Q) : wpAny (model prog w) A (isTrue e ce (eval e ce)) Q E s := by
  cases e using trStep_elim with
  | not_ x xp =>
    refine bind_elim2 q fun c η1 q1 q2 => ?_
    first | exact nn q2 | (obtain ⟨rfl, rfl, rfl⟩ := p3 q2) | (obtain ⟨rfl, rfl⟩ := p2 q2) | (obtain rfl := p1 q2) | cases q2
    exact wpAny_isTrue_Not (HT sc ρ η x c η1 q1 A E s ce K μ _ rm R S k fun K1 μ1 h1 tk1 g1 S1 => hQ K1 μ1 h1 tk1 g1 S1)
  | bool op es p => exact wpAny_isTrue_BoolOp (trAll_ok HT _ q rm R S k hQ)
  | cmp l ops es p => exact isTrueCompare_ok HI q rm R S k hQ
  | name x p => exact value_ok HI rfl rfl q rm R S k hQ
  | call f args kws p => exact value_ok HI rfl rfl q rm R S k hQ
  | sub o sl p => exact value_ok HI rfl rfl q rm R S k hQ
  | other e0 he => rw [he] at q; exact nn q
end
end Mine
end
section
namespace Mine
set_option tactic.hygienic false
open PySem PySem.W PyProof.Rows PySem.Spec PySem.Calls

section
variable {prog p : Program} {w : World} {C₀ fI : Addr} {G : Frag} {loose : List Str} {mean : ExcName → Option Value} {mg mb : Str → Option Value} {h₀ : Heap} {FF : Str → Option FDef}
  {K K' : Kn} {n : Nat} {η η' : Eta} {A : Around} {E : Value → Shared → Prop} {s : Shared} {μ μ' : List Addr} {h h' : Heap} {I : Interp} {sc : Sc} {ρ ρ' : Rho} {ce : Env}

theorem plain_ast (P : Str → List D → Option D) (H : Str → List VV → Eta → Option (D × Eta)) : ∀ k, Plain (ast P H k)
  | 0 => ⟨fun _ _ _ _ _ => rfl, fun _ _ _ _ _ _ => rfl, fun _ _ _ _ _ _ _ => rfl, fun _ _ _ _ _ _ _ _ => rfl⟩
  | _ + 1 => ⟨fun _ _ _ _ _ => rfl, fun _ _ _ _ _ _ => rfl, fun _ _ _ _ _ _ _ => rfl, fun _ _ _ _ _ _ _ _ => rfl⟩

theorem ast_ok (X : Ctx p w G C₀ fI loose mean mg mb h₀ FF) {P : Str → List D → Option D} {H : Str → List VV → Eta → Option (D × Eta)} (HP : CpOk prog w C₀ mg h₀ (n + 1) P) (HH : ChOk prog w C₀ mg h₀ (n + 1) H) : ∀ k,
    EvOk prog w C₀ h₀.get? (n + 1) (ast P H k) ∧ TrOk prog w C₀ h₀.get? (n + 1) (ast P H k) ∧ ExOk prog w C₀ h₀.get? (n + 1) (ast P H k) ∧ ExsOk prog w C₀ h₀.get? (n + 1) (ast P H k)
  | 0 => ⟨fun _ _ _ _ _ _ q => (by cases q), fun _ _ _ _ _ _ q => (by cases q), fun _ _ _ _ _ _ _ q => (by cases q), fun _ _ _ _ _ _ _ q => (by cases q)⟩
  | k + 1 => by
    obtain ⟨h1, h2, h3, h4⟩ := ast_ok X HP HH k
    have pl := plain_ast P H k
    have e1 : (ast P H k).cp = P := by cases k <;> rfl
    have e2 : (ast P H k).ch = H := by cases k <;> rfl
    refine ⟨fun sc ρ η e vv η' q A E s ce K μ Q r R S kk hQ => evStep_ok X pl h1 h2 (by rw [e1]; exact HP) (by rw [e2]; exact HH) q r R S kk hQ,
      fun sc ρ η e b η' q A E s ce K μ Q r R S kk hQ => trStep_ok h1 h2 q r R S kk hQ,
      fun sc ρ η e fl ρ' η' q A E s ce K μ Q r R S kk hQ => exStep_ok X pl h1 h2 h4 q r R S kk hQ,
      fun sc ρ η e fl ρ' η' q A E s ce K μ Q r R S kk hQ => exsStep_ok h3 h4 q r R S kk hQ⟩

theorem VA.vrs : ∀ {vs : List Value} {ds : List D}, VA prog w C₀ K vs ds → VRs prog w C₀ K μ vs (ds.map .d)
  | _, _, .nil => .nil
  | _, _, .cons a r => .cons (.d a) (VA.vrs r)

theorem SR.take (S : SR prog w C₀ K μ' η' h) (hp : μ <+: μ') (ha : (η'.take μ.length).all (hwOk μ.length) = true) : SR prog w C₀ K μ (η'.take μ.length) h := by
  obtain ⟨t, rfl⟩ := hp
  have le : μ.length ≤ η'.length := by rw [← S.len, List.length_append]; omega
  refine ⟨S.kn, by rw [List.length_take]; omega, (List.nodup_append.mp S.nd).1, fun i a o e1 e2 => ?_⟩
  have hi := (List.getElem?_eq_some_iff.mp e1).1
  have e2' := e2
  rw [List.getElem?_take_of_lt hi] at e2
  have O := S.hot i a o (by rw [List.getElem?_append_left hi]; exact e1) e2
  have hw := List.all_eq_true.mp ha o (List.mem_of_getElem? e2')
  induction O with
  | hl a1 a2 a3 a4 => exact .hl a1 a2 a3 a4
  | hs a1 a2 a3 a4 => exact .hs a1 a2 a3 a4
  | hw a1 m1 m2 a2 a3 a4 a5 =>
    unfold hwOk at hw
    rw [Bool.and_eq_true, Nat.blt_eq, Nat.blt_eq] at hw
    rw [List.getElem?_append_left hw.1] at m1
    rw [List.getElem?_append_left hw.2] at m2
    exact .hw a1 m1 m2 a2 a3 a4 a5
  | fz v => exact .fz v

theorem CpOk.less {m : Nat} {P : Str → List D → Option D} (x : CpOk prog w C₀ mg h₀ m P) (hm : m ≤ n) : CpOk prog w C₀ mg h₀ n P := fun y ds d q => by
  obtain ⟨a, o, fd, e1, e2, e3, run⟩ := x y ds d q
  exact ⟨a, o, fd, e1, e2, e3, fun A E s K μ η vs Q r => run A E s K μ η vs Q (r.less hm)⟩
theorem ChOk.less {m : Nat} {H : Str → List VV → Eta → Option (D × Eta)} (x : ChOk prog w C₀ mg h₀ m H) (hm : m ≤ n) : ChOk prog w C₀ mg h₀ n H := fun y ds η d η' q => by
  obtain ⟨a, o, fd, e1, e2, e3, run⟩ := x y ds η d η' q
  exact ⟨a, o, fd, e1, e2, e3, fun A E s K μ vs Q r => run A E s K μ vs Q (r.less hm)⟩

theorem fn_at (X : Ctx p w G C₀ fI loose mean mg mb h₀ FF) {x : Str} {f : FDef} (hf : FF x = some f) : ∃ a o fd, mg x = some (.ref a) ∧ h₀.get? a = some o ∧ o.data = .func fd := by
  obtain ⟨d, hd, as, hx, _⟩ := (X.fis x f hf).rec_
  obtain ⟨a, o, pm, code, doc, e1, e2, e3, _⟩ := X.T.fn d hd
  exact ⟨a, o, _, hx ▸ e1, e2, e3⟩

set_option tactic.hygienic true in
theorem runP_ok (X : Ctx p w G C₀ fI loose mean mg mb h₀ FF) (HX : ExsOk prog w C₀ h₀.get? (n + 1) I) {x : Str} {f : FDef} (hf : FF x = some f) {ds : List D} {d : D} (q : runP I f ds = some d) {a : Addr} (ha : mg x = some (.ref a))
    {vs : List Value} {Q : Value → Shared → Prop} (r : Room (n + 4) A) (S : SR prog w C₀ K μ η s.heap) (k : KK h₀.get? K) (z : VA prog w C₀ K vs ds)
    (hQ : HV prog w C₀ K μ s η d Q) : wpAny (model prog w) A (call (.ref a) vs) Q E s := by
  unfold runP at q
  split at q
  · rename_i hl
    have hl := of_decide_eq_true hl
    refine bind_elim3 q fun fl ρ' η' q1 q2 => ?_
    rw [B.run_lift] at q2
    have S0 : SR prog w C₀ K [] [] s.heap := ⟨S.kn, rfl, List.nodup_nil, fun _ _ _ e => by cases e⟩
    refine wpAny_call (enter_ok (n := n + 1) X.T (fun _ _ e => e) (X.fis x f hf) ha r S0 k z.vrs (by simpa using hl) fun ce h1 tk hk1 hfr R1 S1 rm => ⟨fun _ _ => False, ?_, fun _ _ z => z⟩)
    refine HX f.names _ [] f.body fl ρ' η' q1 _ _ { s with heap := h1, toks := tk } ce K [] _ rm R1 S1 k fun f' K2 μ2 h2 tk2 g2 R2 S2 F2 => ?_
    unfold backD at q2
    split at q2
    · rename_i vv hv
      dsimp only at hv
      subst hv
      cases F2 with
      | @ret v _ z2 =>
        obtain ⟨⟨d', η3⟩, q3, rfl⟩ := Option.map_eq_some_iff.mp q2
        obtain ⟨K3, S3, z3, g3⟩ := frz_ok S2 z2 q3
        have g := g2.trans (g3.weaken (Y := own ce) (by simp))
        have nn : ∀ b, b ∈ own ce → ∀ o, s.heap.get? b ≠ some o := fun b hb o e => by rw [hfr b hb] at e; cases e
        have fr : ∀ b o, s.heap.get? b = some o → h2.get? b = some o := fun b o e => g.fr b o (hk1 b o e) (by simp) fun hb => nn b hb o e
        have back : ∀ b, h1.get? b = none → s.heap.get? b = none := fun b e => by
          induction q : s.heap.get? b with
          | none => rfl
          | some o => rw [hk1 b o q] at e; cases e
        have kn : ∀ b o, K3 b = some o → K b = some o ∨ s.heap.get? b = none ∨ b ∈ μ := fun b o e => by
          rcases g.knew b o e with z | z | z
          · exact .inl z
          · exact .inr (.inl (back b z))
          · cases z
        have G1 : Gr [] K μ s.heap K3 μ h2 := ⟨g.k, kn, List.prefix_refl _, fun _ z => .inl z, fun b o e => ⟨o, fr b o e⟩, fun b o e _ _ => fr b o e⟩
        have S4 : SR prog w C₀ K3 μ η h2 := S.grow g.k S3.kn (fun b hb e => by
          induction q : K3 b with
          | none => rfl
          | some o =>
            obtain ⟨o', e'⟩ := S.there hb
            rcases g.knew b o q with z | z | z
            · rw [e] at z; cases z
            · rw [back b z] at e'; cases e'
            · cases z) fun b _ o e => fr b o e
        exact hQ v K3 h2 tk2 G1 S4 z3
    · first | exact nn q2 | (obtain ⟨rfl, rfl, rfl⟩ := p3 q2) | (obtain ⟨rfl, rfl⟩ := p2 q2) | (obtain rfl := p1 q2) | cases q2
  · first | exact nn q | (obtain ⟨rfl, rfl, rfl⟩ := p3 q) | (obtain ⟨rfl, rfl⟩ := p2 q) | (obtain rfl := p1 q) | cases q

set_option tactic.hygienic true in
theorem runH_ok (X : Ctx p w G C₀ fI loose mean mg mb h₀ FF) (HX : ExsOk prog w C₀ h₀.get? (n + 1) I) {x : Str} {f : FDef} (hf : FF x = some f) {vvs : List VV} {d : D} (q : runH I f vvs η = some (d, η')) {a : Addr} (ha : mg x = some (.ref a))
    {vs : List Value} {Q : Value → Shared → Prop} (r : Room (n + 4) A) (S : SR prog w C₀ K μ η s.heap) (k : KK h₀.get? K) (z : VRs prog w C₀ K μ vs vvs)
    (hQ : HV prog w C₀ K μ s η' d Q) : wpAny (model prog w) A (call (.ref a) vs) Q E s := by
  unfold runH at q
  split at q
  · rename_i hl
    have hl := of_decide_eq_true hl
    refine bind_elim3 q fun fl ρ' η1 q1 q2 => ?_
    rw [B.run_lift] at q2
    refine wpAny_call (enter_ok (n := n + 1) X.T (fun _ _ e => e) (X.fis x f hf) ha r S k z hl fun ce h1 tk hk1 hfr R1 S1 rm => ⟨fun _ _ => False, ?_, fun _ _ z => z⟩)
    refine HX f.names _ η f.body fl ρ' η1 q1 _ _ { s with heap := h1, toks := tk } ce K μ _ rm R1 S1 k fun f' K2 μ2 h2 tk2 g2 R2 S2 F2 => ?_
    unfold backH at q2
    split at q2
    · rename_i vv hv
      dsimp only at hv
      subst hv
      cases F2 with
      | @ret v _ z2 =>
        obtain ⟨⟨d', η3⟩, q3, q4⟩ := Option.bind_eq_some_iff.mp q2
        dsimp only at q3 q4
        split at q4
        · rename_i hall
          first | exact nn q4 | (obtain ⟨rfl, rfl, rfl⟩ := p3 q4) | (obtain ⟨rfl, rfl⟩ := p2 q4) | (obtain rfl := p1 q4) | cases q4
          obtain ⟨K3, S3, z3, g3⟩ := frz_ok S2 z2 q3
          have g := (g2.trans (g3.weaken (Y := own ce) (by simp))).shrink hk1 hfr
          have G1 : Gr [] K μ s.heap K3 μ h2 := ⟨g.k, g.knew, List.prefix_refl _, fun _ z => .inl z, g.st, g.fr⟩
          rw [← S.len] at hall hQ
          exact hQ v K3 h2 tk2 G1 (S3.take g.pre hall) z3
        · first | exact nn q4 | (obtain ⟨rfl, rfl, rfl⟩ := p3 q4) | (obtain ⟨rfl, rfl⟩ := p2 q4) | (obtain rfl := p1 q4) | cases q4
    · first | exact nn q2 | (obtain ⟨rfl, rfl, rfl⟩ := p3 q2) | (obtain ⟨rfl, rfl⟩ := p2 q2) | (obtain rfl := p1 q2) | cases q2
  · first | exact nn q | (obtain ⟨rfl, rfl, rfl⟩ := p3 q) | (obtain ⟨rfl, rfl⟩ := p2 q) | (obtain rfl := p1 q) | cases q

set_option tactic.hygienic true in
theorem pcl_ok (X : Ctx p w G C₀ fI loose mean mg mb h₀ FF) : ∀ m, CpOk prog w C₀ mg h₀ (4 * m + 1) (pcl FF m) ∧ ChOk prog w C₀ mg h₀ (4 * m + 1) (hcl FF m)
  | 0 => ⟨fun _ _ _ q => (by cases q), fun _ _ _ _ _ q => (by cases q)⟩
  | m + 1 => by
    obtain ⟨h1, h2⟩ := pcl_ok X m
    obtain ⟨_, _, _, HX⟩ := ast_ok X h1 h2 60
    refine ⟨fun x ds d q => ?_, fun x vvs η d η' q => ?_⟩
    · rw [pcl] at q
      dsimp only at q
      split at q
      · rename_i f hf
        obtain ⟨a, o, fd, e1, e2, e3⟩ := fn_at X hf
        exact ⟨a, o, fd, e1, e2, e3, fun A E s K μ η vs Q r S k z hQ => runP_ok X HX hf q e1 (r.less (by omega)) S k z hQ⟩
      · first | exact nn q | (obtain ⟨rfl, rfl, rfl⟩ := p3 q) | (obtain ⟨rfl, rfl⟩ := p2 q) | (obtain rfl := p1 q) | cases q
    · rw [hcl] at q
      dsimp only at q
      split at q
      · rename_i f hf
        obtain ⟨a, o, fd, e1, e2, e3⟩ := fn_at X hf
        exact ⟨a, o, fd, e1, e2, e3, fun A E s K μ vs Q r S k z hQ => runH_ok X HX hf q e1 (r.less (by omega)) S k z hQ⟩
      · first | exact nn q | (obtain ⟨rfl, rfl, rfl⟩ := p3 q) | (obtain ⟨rfl, rfl⟩ := p2 q) | (obtain rfl := p1 q) | cases q
end
end Mine
end
section
namespace Mine
set_option tactic.hygienic false
open PySem

/-! ## The typed world -/
/-- the values that the law's machine meets -/
inductive Val | none | tru | zero | x | e | seven | t
  deriving DecidableEq, Inhabited
inductive Opd | lit (v : Val) | tmp (i : Bool) | cv (i : Bool)
  deriving DecidableEq, Inhabited
inductive Cnd | iff | unless | null | set
  deriving DecidableEq, Inhabited
inductive Row | echo (a : Opd) | move (t : Bool) (a : Opd) | throw (a : Opd) | ret (a : Opd) | jump (t : Nat) | cond (c : Cnd) (a : Opd) (t : Nat)
  deriving DecidableEq, Inhabited
structure Try where
  first : Nat
  catch_ : Nat
  stop : Nat
  deriving DecidableEq, Inhabited
structure Cod where
  rows : List Row
  trys : List Try
  deriving DecidableEq, Inhabited

noncomputable def Val.D : Val → D
  | .none => .none
  | .tru => .bool true
  | .zero => .int 0
  | .x => .str "x"
  | .e => .str ""
  | .seven => .int 7
  | .t => .str "t"
noncomputable def bitD (b : Bool) : D := match b with
  | true => .int 1
  | false => .int 0
noncomputable def Opd.D : Opd → D
  | .lit v => .tup [.str "lit", v.D]
  | .tmp i => .tup [.str "tmp", bitD i]
  | .cv i => .tup [.str "cv", bitD i]
noncomputable def Cnd.op : Cnd → Str
  | .iff => "jump_if"
  | .unless => "jump_unless"
  | .null => "jump_null"
  | .set => "jump_set"
noncomputable def natD (n : Nat) : D := .int (.ofNat n)
noncomputable def Row.D : Row → D
  | .echo a => .tup [.str "echo", .none, a.D, .none]
  | .move t a => .tup [.str "move", bitD t, a.D, .none]
  | .throw a => .tup [.str "throw", .none, a.D, .none]
  | .ret a => .tup [.str "return", .none, a.D, .none]
  | .jump t => .tup [.str "jump", .none, .none, natD t]
  | .cond c a t => .tup [.str c.op, .none, a.D, natD t]
noncomputable def Try.D (y : Try) : D := .tup [natD y.first, natD y.catch_, .none, natD y.stop, .none]
noncomputable def rowsD (rows : List Row) : D := .lst (rows.map Row.D)
noncomputable def trysD (trys : List Try) : D := .lst (trys.map Try.D)
noncomputable def namesD : D := .lst [.str "a", .str "b"]
noncomputable def Cod.D (c : Cod) : D := .code (rowsD c.rows) namesD (.int 2) (trysD c.trys) (.lst [])

noncomputable def Row.target : Row → Option Nat
  | .jump t => some t
  | .cond _ _ t => some t
  | _ => none
noncomputable def Row.isLed (r : Row) : Bool := r.target.isSome
noncomputable def Row.isJump (r : Row) : Bool := match r with
  | .jump _ => true
  | _ => false
noncomputable def Row.with_ (r : Row) (t : Nat) : Row := match r with
  | .jump _ => .jump t
  | .cond c a _ => .cond c a t
  | r => r
noncomputable def Opd.isCv : Opd → Bool
  | .cv _ => true
  | _ => false
noncomputable def Row.isIdle (r : Row) (at_ : Nat) : Bool := match r with
  | .jump t => t == at_ + 1
  | .cond _ a t => t == at_ + 1 && !a.isCv
  | _ => false

/-- where a chain of jumps leads, so many jumps at most -/
noncomputable def chain (rows : List Row) : Nat → Nat → Option Nat
  | 0, _ => none
  | k + 1, t => match rows[t]? with
    | some (.jump u) => chain rows k u
    | _ => some t
noncomputable def lastTarget (rows : List Row) (t : Nat) : Nat := (chain rows (rows.length + 1) t).getD t
noncomputable def ledRow (rows : List Row) (r : Row) : Row := match r.target with
  | some t => r.with_ (lastTarget rows t)
  | none => r
noncomputable def ledOn (rows : List Row) : List Row := rows.map (ledRow rows)
noncomputable def targetsOf (rows : List Row) (trys : List Try) (i : Nat) : Bool := rows.any (fun r => r.target == some i) || trys.any fun y => y.first == i || y.catch_ == i || y.stop == i
noncomputable def Cnd.other : Cnd → Option Cnd
  | .iff => some .unless
  | .unless => some .iff
  | _ => none
/-- a condition over a jump -/
noncomputable def turnedRow (rows : List Row) (known : Nat → Bool) (at_ : Nat) : Option Row :=
  match rows[at_]? with
  | some (.cond c a t) => match c.other with
    | some c' => if t = at_ + 2 ∧ known (at_ + 1) = false then
        match rows[at_ + 1]? with
        | some (.jump u) => some (.cond c' a u)
        | _ => none
      else none
    | none => none
  | _ => none
noncomputable def over (rows : List Row) (known : Nat → Bool) (at_ : Nat) : Bool := match at_ with
  | 0 => false
  | k + 1 => (turnedRow rows known k).isSome
noncomputable def newRow (rows : List Row) (known : Nat → Bool) (at_ : Nat) (r : Row) : Row := if over rows known at_ then r else (turnedRow rows known at_).getD r
noncomputable def keepRow (rows : List Row) (known : Nat → Bool) (at_ : Nat) (r : Row) : Bool := if over rows known at_ then false else !(newRow rows known at_ r).isIdle at_
/-- how many are kept ahead of a place -/
noncomputable def numOf (keep : List Bool) (p : Nat) : Nat := (keep.take p).countP id
noncomputable def pick : List Row → List Bool → List Row
  | r :: rs, true :: ks => r :: pick rs ks
  | _ :: rs, false :: ks => pick rs ks
  | _, _ => []
noncomputable def kept (c : Cod) (keep : List Bool) : Cod :=
  ⟨(pick c.rows keep).map fun r => match r.target with
    | some t => r.with_ (numOf keep t)
    | none => r, c.trys.map fun y => ⟨numOf keep y.first, numOf keep y.catch_, numOf keep y.stop⟩⟩
noncomputable def threaded (c : Cod) : Cod :=
  let led := ledOn c.rows
  let known := targetsOf led c.trys
  kept ⟨led.mapIdx (newRow led known), c.trys⟩ (led.mapIdx (keepRow led known))
end Mine
end
section
namespace Mine
set_option tactic.hygienic false
open PySem
noncomputable def fdef (x : Str) : FDef := (FT x).getD ⟨[], [], []⟩
noncomputable def bodyOf (x : String) : List Stmt := (fdef x).body
noncomputable def scOf (x : String) : Sc := (fdef x).names

theorem is_led_spec (n : Nat) (r : Row) : pcl FT (n + 1) "is_led" [r.D] = some (.bool r.isLed) := by
  cases r with
  | cond c a t => cases c <;> kernel_rfl
  | _ => kernel_rfl
theorem target_of_spec (n : Nat) (r : Row) : pcl FT (n + 1) "target_of" [r.D] = some (match r.target with | some t => natD t | none => .none) := by
  cases r with
  | cond c a t => cases c <;> kernel_rfl
  | _ => kernel_rfl
theorem with_target_spec (n : Nat) (r : Row) (t u : Nat) (h : r.target = some u) : pcl FT (n + 1) "with_target" [r.D, natD t] = some (r.with_ t).D := by
  induction r with
  | cond c a t => cases c <;> kernel_rfl
  | jump t => kernel_rfl
  | _ => cases h
theorem moved_none (n : Nat) (ks : D) : pcl FT (n + 1) "moved" [ks, .none] = some .none := by kernel_rfl
theorem moved_spec (n : Nat) (ks : List D) (p : Nat) : pcl FT (n + 1) "moved" [.lst ks, natD p] = ks[p]? := by
  have : pcl FT (n + 1) "moved" [.lst ks, natD p] = ((ks[p]?).map VV.d).bind fun v => ((frz v []).map fun q => q.1).bind fun x => some x := by kernel_rfl
  rw [this]; cases ks[p]? <;> rfl
theorem is_idle_spec (n : Nat) (r : Row) (p : Nat) : pcl FT (n + 1) "is_idle" [r.D, natD p] = some (.bool (r.isIdle p)) := by
  have key : ∀ t : Nat, ((Int.ofNat t : Int) == Int.ofNat p + 1) = (t == p + 1) := by
    intro t
    rw [Bool.eq_iff_iff, beq_iff_eq, beq_iff_eq]
    show (t : Int) = (p : Int) + 1 ↔ _
    omega
  induction r with
  | cond c a t =>
    have h := key t
    induction a with
    | cv i => 
      have : pcl FT (n + 1) "is_idle" [(Row.cond c (.cv i) t).D, natD p] = match ((Int.ofNat t : Int) == Int.ofNat p + 1) with | true => some (.bool false) | false => some (.bool false) := by cases c <;> kernel_rfl
      rw [this]; cases ((Int.ofNat t : Int) == Int.ofNat p + 1) <;> simp [Row.isIdle, Opd.isCv]
    | lit v => 
      have : pcl FT (n + 1) "is_idle" [(Row.cond c (.lit v) t).D, natD p] = match ((Int.ofNat t : Int) == Int.ofNat p + 1) with | true => some (.bool true) | false => some (.bool false) := by cases c <;> kernel_rfl
      rw [this, h]; cases q : (t == p + 1) <;> simp [Row.isIdle, Opd.isCv, q]
    | tmp v => 
      have : pcl FT (n + 1) "is_idle" [(Row.cond c (.tmp v) t).D, natD p] = match ((Int.ofNat t : Int) == Int.ofNat p + 1) with | true => some (.bool true) | false => some (.bool false) := by cases c <;> kernel_rfl
      rw [this, h]; cases q : (t == p + 1) <;> simp [Row.isIdle, Opd.isCv, q]
  | jump t =>
    have : pcl FT (n + 1) "is_idle" [(Row.jump t).D, natD p] = some (.bool ((Int.ofNat t : Int) == Int.ofNat p + 1)) := by kernel_rfl
    rw [this, key]; rfl
  | _ => kernel_rfl
end Mine
end
section
namespace Mine
set_option tactic.hygienic false
open PySem

noncomputable def stAt (l : List Stmt) (i : Nat) : Stmt := (l[i]?).getD default
noncomputable def forT : Stmt → Expr
  | .For t _ _ _ _ => t
  | _ => default
noncomputable def forB : Stmt → List Stmt
  | .For _ _ b _ _ => b
  | _ => []
noncomputable def forI : Stmt → Expr
  | .For _ i _ _ _ => i
  | _ => default
noncomputable def whT : Stmt → Expr
  | .While t _ _ _ => t
  | _ => default
noncomputable def whB : Stmt → List Stmt
  | .While _ b _ _ => b
  | _ => []

noncomputable abbrev out (f : Fl) (ρ : Rho) (η : Eta) : Fl × Rho × Eta := (f, ρ, η)
section
variable {P : Str → List D → Option D} {H : Str → List VV → Eta → Option (D × Eta)} {F : Str → Option FDef} {k n : Nat} {sc : Sc} {ρ ρ1 ρ2 : Rho} {η η1 η2 : Eta} {s : Stmt} {ss : List Stmt} {I : Interp} {v : VV}

theorem exs_run : ((ast P H (k + 1)).exs sc ρ η (s :: ss)).run = (((ast P H k).ex sc ρ η s).run).bind fun r => (flGo r fun ρ η => (ast P H k).exs sc ρ η ss).run :=
  B.run_bind _ _
theorem exs_next (h : ((ast P H k).ex sc ρ η s).run = some (.next, ρ1, η1)) : ((ast P H (k + 1)).exs sc ρ η (s :: ss)).run = ((ast P H k).exs sc ρ1 η1 ss).run := by
  rw [exs_run, h]; rfl
theorem exs_ret (h : ((ast P H k).ex sc ρ η s).run = some (.ret v, ρ1, η1)) : ((ast P H (k + 1)).exs sc ρ η (s :: ss)).run = some (.ret v, ρ1, η1) := by
  rw [exs_run, h]; rfl
theorem exs_nil : ((ast P H (k + 1)).exs sc ρ η []).run = some (.next, ρ, η) := rfl
theorem ex_for {t it : Expr} {body : List Stmt} {p : Pos} : ((ast P H (k + 1)).ex sc ρ η (.For t it body [] p)).run = ((itr (ast P H k) sc ρ η it).run).bind fun q => (forGo (ast P H k) sc t body ρ q.2 q.1).run :=
  B.run_bind _ _
theorem ex_for_ok {t it : Expr} {body : List Stmt} {p : Pos} {ds : List D} {x : Fl × Rho × Eta} (h1 : (itr (ast P H k) sc ρ η it).run = some (ds, η1)) (h2 : (forGo (ast P H k) sc t body ρ η1 ds).run = some x) :
    ((ast P H (k + 1)).ex sc ρ η (.For t it body [] p)).run = some x := by rw [ex_for, h1, Option.bind_some]; exact h2
theorem ex_while {t : Expr} {body : List Stmt} {p : Pos} : ((ast P H (k + 1)).ex sc ρ η (.While t body [] p)).run = (whileGo (ast P H k) sc t body ρ η 1000).run := rfl
theorem pcl_run {x : Str} {f : FDef} {ds : List D} (hf : F x = some f) (hl : f.params.length = ds.length) :
    pcl F (n + 1) x ds = (((ast (pcl F n) (hcl F n) 60).exs f.names (f.params.zip (ds.map .d)) [] f.body).run).bind backD := by
  have : pcl F (n + 1) x ds = runP (ast (pcl F n) (hcl F n) 60) f ds := by
    show (match F x with | some f => runP (ast (pcl F n) (hcl F n) 60) f ds | none => none) = _
    rw [hf]
  rw [this]
  unfold runP
  rw [decide_eq_true hl]
  dsimp only
  rw [B.run_bind]
  congr 1
  funext r
  rw [B.run_lift]
theorem hcl_run {x : Str} {f : FDef} {vs : List VV} (hf : F x = some f) (hl : f.params.length = vs.length) :
    hcl F (n + 1) x vs η = (((ast (pcl F n) (hcl F n) 60).exs f.names (f.params.zip vs) η f.body).run).bind (backH η.length) := by
  have : hcl F (n + 1) x vs η = runH (ast (pcl F n) (hcl F n) 60) f vs η := by
    show (match F x with | some f => runH (ast (pcl F n) (hcl F n) 60) f vs η | none => none) = _
    rw [hf]
  rw [this]
  unfold runH
  rw [decide_eq_true hl]
  dsimp only
  rw [B.run_bind]
  congr 1
  funext r
  rw [B.run_lift]

theorem nx {β : Type} {f : Fl × Rho × Eta → Option β} {x : Option β} (h : ((ast P H k).ex sc ρ η s).run = some (.next, ρ1, η1)) (h2 : (((ast P H k).exs sc ρ1 η1 ss).run).bind f = x) : (((ast P H (k + 1)).exs sc ρ η (s :: ss)).run).bind f = x := by
  rw [exs_next h]; exact h2
theorem nret {β : Type} {f : Fl × Rho × Eta → Option β} {x : Option β} (h : ((ast P H k).ex sc ρ η s).run = some (.ret v, ρ1, η1)) (h2 : f (.ret v, ρ1, η1) = x) : (((ast P H (k + 1)).exs sc ρ η (s :: ss)).run).bind f = x := by
  rw [exs_ret h]; exact h2
theorem pcl_is {x : String} {ds : List D} {ρ0 : Rho} {d : D} (hf : FT x = some (fdef x)) (hl : (fdef x).params.length = ds.length) (hb : bodyOf x = ss) (hρ : (fdef x).params.zip (ds.map .d) = ρ0)
    (h : (((ast (pcl FT n) (hcl FT n) 60).exs (scOf x) ρ0 [] ss).run).bind backD = some d) : pcl FT (n + 1) x ds = some d := by
  rw [pcl_run hf hl, hρ]
  show (((ast (pcl FT n) (hcl FT n) 60).exs (scOf x) ρ0 [] (bodyOf x)).run).bind backD = _
  rw [hb]; exact h
theorem hcl_is {x : String} {vs : List VV} {ρ0 : Rho} {d : D × Eta} (hf : FT x = some (fdef x)) (hl : (fdef x).params.length = vs.length) (hb : bodyOf x = ss) (hρ : (fdef x).params.zip vs = ρ0)
    (h : (((ast (pcl FT n) (hcl FT n) 60).exs (scOf x) ρ0 η ss).run).bind (backH η.length) = some d) : hcl FT (n + 1) x vs η = some d := by
  rw [hcl_run hf hl, hρ]
  show (((ast (pcl FT n) (hcl FT n) 60).exs (scOf x) ρ0 η (bodyOf x)).run).bind (backH η.length) = _
  rw [hb]; exact h

/-- a loop by its invariant; it may be left by a return -/
theorem forGo_inv {t : Expr} {body : List Stmt} (Inv : List D → Rho → Eta → Prop) (Post : Fl → Rho → Eta → Prop)
    (step : ∀ d ds ρ η, Inv (d :: ds) ρ η → ∃ ρ1 fl ρ2 η2, bindT sc ρ t (.d d) = some ρ1 ∧ (I.exs sc ρ1 η body).run = some (fl, ρ2, η2) ∧ (match fl with | .next => Inv ds ρ2 η2 | .ret v => Post (.ret v) ρ2 η2))
    (fin : ∀ ρ η, Inv [] ρ η → Post .next ρ η) : ∀ ds ρ η, Inv ds ρ η → ∃ fl ρ' η', (forGo I sc t body ρ η ds).run = some (fl, ρ', η') ∧ Post fl ρ' η'
  | [], ρ, η, h => ⟨.next, ρ, η, rfl, fin ρ η h⟩
  | d :: ds, ρ, η, h => by
    obtain ⟨ρ1, fl, ρ2, η2, h1, h2, h3⟩ := step d ds ρ η h
    have e : (forGo I sc t body ρ η (d :: ds)).run = (flGo (fl, ρ2, η2) fun ρ η => forGo I sc t body ρ η ds).run := by
      rw [forGo, B.run_bind, B.run_lift, h1, Option.bind_some, B.run_bind, h2, Option.bind_some]
    induction fl with
    | next =>
      obtain ⟨fl, ρ', η', h4, h5⟩ := forGo_inv Inv Post step fin ds ρ2 η2 h3
      exact ⟨fl, ρ', η', e.trans h4, h5⟩
    | ret v => exact ⟨.ret v, ρ2, η2, e, h3⟩

theorem whileGo_inv {t : Expr} {body : List Stmt} (Inv : Nat → Rho → Eta → Prop) (Post : Fl → Rho → Eta → Prop)
    (step : ∀ m ρ η, Inv m ρ η → ∃ b η1, (I.tr sc ρ η t).run = some (b, η1) ∧ (match b with
      | true => ∃ fl ρ2 η2, (I.exs sc ρ η1 body).run = some (fl, ρ2, η2) ∧ (match fl with | .next => ∃ m', m' < m ∧ Inv m' ρ2 η2 | .ret v => Post (.ret v) ρ2 η2)
      | false => Post .next ρ η1)) : ∀ fuel m ρ η, Inv m ρ η → m < fuel → ∃ fl ρ' η', (whileGo I sc t body ρ η fuel).run = some (fl, ρ', η') ∧ Post fl ρ' η'
  | 0, m, ρ, η, _, hm => absurd hm (Nat.not_lt_zero m)
  | fuel + 1, m, ρ, η, h, hm => by
    obtain ⟨b, η1, h1, h2⟩ := step m ρ η h
    induction b with
    | false => exact ⟨.next, ρ, η1, by rw [whileGo, B.run_bind, h1]; rfl, h2⟩
    | true =>
      obtain ⟨fl, ρ2, η2, h3, h4⟩ := h2
      have e : (whileGo I sc t body ρ η (fuel + 1)).run = (flGo (fl, ρ2, η2) fun ρ η => whileGo I sc t body ρ η fuel).run := by
        rw [whileGo, B.run_bind, h1, Option.bind_some, B.run_br]
        simp only [if_true]
        rw [B.run_bind, h3, Option.bind_some]
      induction fl with
      | next =>
        obtain ⟨m', hm', h4⟩ := h4
        obtain ⟨fl, ρ', η', h5, h6⟩ := whileGo_inv Inv Post step fuel m' ρ2 η2 h4 (by omega)
        exact ⟨fl, ρ', η', e.trans h5, h6⟩
      | ret v => exact ⟨.ret v, ρ2, η2, e, h4⟩

theorem append_run {i : Nat} {ds : List D} {d : D} (h : η[i]? = some (.hl ds)) (hl : ds.length ≤ 1000) : methD "append" (.h i) d η = some (η.set i (.hl (ds ++ [d]))) := by
  unfold methD
  simp only [h, hl, if_true]
end

/-! ### led_on -/
noncomputable abbrev ledR (c : D) : Rho := [("code", .d c), ("rows", .h 0)]
noncomputable abbrev ledR1 (c x : D) : Rho := [("code", .d c), ("rows", .h 0), ("row", .d x)]
section
variable {P : Str → List D → Option D} {H : Str → List VV → Eta → Option (D × Eta)}
theorem led_body (k : Nat) (o b a t : D) (nm tp ty lv : D) (acc rows : List D) :
    ((ast P H (k + 20)).exs (scOf "led_on") (ledR1 (.code (.lst rows) nm tp ty lv) (.tup [o, b, a, t])) [.hl acc] (forB (stAt (bodyOf "led_on") 1))).run =
      (P "is_led" [.tup [o, b, a, t]]).bind fun d => (truD d).bind fun c => match c with
        | true => (P "last_target" [.lst rows, t]).bind fun d => (P "with_target" [.tup [o, b, a, t], d]).bind fun d => (methD "append" (.h 0) d [.hl acc]).bind fun η => some (out .next (ledR1 (.code (.lst rows) nm tp ty lv) (.tup [o, b, a, t])) η)
        | false => (methD "append" (.h 0) (.tup [o, b, a, t]) [.hl acc]).bind fun η => some (out .next (ledR1 (.code (.lst rows) nm tp ty lv) (.tup [o, b, a, t])) η) := by kernel_rfl
theorem Row.D_tup (r : Row) : ∃ o b a t, r.D = .tup [o, b, a, t] ∧ ∀ u, r.target = some u → t = natD u := by
  induction r with
  | cond c a t => exact ⟨_, _, _, _, rfl, fun u h => by cases h; rfl⟩
  | jump t => exact ⟨_, _, _, _, rfl, fun u h => by cases h; rfl⟩
  | _ => exact ⟨_, _, _, _, rfl, fun u h => by cases h⟩
theorem led_turn (k : Nat) (r : Row) (rows : List Row) (nm tp ty lv : D) (acc : List D) (ha : acc.length ≤ 1000)
    (h1 : ∀ r : Row, P "is_led" [r.D] = some (.bool r.isLed)) (h2 : ∀ t, P "last_target" [rowsD rows, natD t] = some (natD (lastTarget rows t))) (h3 : ∀ (r : Row) t u, r.target = some u → P "with_target" [r.D, natD t] = some (r.with_ t).D) :
    ((ast P H (k + 20)).exs (scOf "led_on") (ledR1 (.code (rowsD rows) nm tp ty lv) r.D) [.hl acc] (forB (stAt (bodyOf "led_on") 1))).run =
      some (out .next (ledR1 (.code (rowsD rows) nm tp ty lv) r.D) [.hl (acc ++ [(ledRow rows r).D])]) := by
  obtain ⟨o, b, a, t, e, ht⟩ := r.D_tup
  have h4 := h1 r
  have hb := led_body (P := P) (H := H) k o b a t nm tp ty lv acc (rows.map Row.D)
  rw [← e, h4] at hb
  refine hb.trans ?_
  simp only [Option.bind_some, truD]
  unfold ledRow Row.isLed
  induction q : r.target with
  | none =>
    simp only [Option.isSome_none]
    rw [append_run rfl ha]; rfl
  | some u =>
    simp only [Option.isSome_some]
    rw [ht u q]
    rw [show D.lst (rows.map Row.D) = rowsD rows from rfl, h2, Option.bind_some, h3 r _ u q, Option.bind_some, append_run rfl ha]; rfl

theorem led_loop (k : Nat) (rows : List Row) (nm tp ty lv : D)
    (h1 : ∀ r : Row, P "is_led" [r.D] = some (.bool r.isLed)) (h2 : ∀ t, P "last_target" [rowsD rows, natD t] = some (natD (lastTarget rows t))) (h3 : ∀ (r : Row) t u, r.target = some u → P "with_target" [r.D, natD t] = some (r.with_ t).D) (hl : rows.length ≤ 1000) :
    ∃ fl ρ η, (forGo (ast P H (k + 20)) (scOf "led_on") (forT (stAt (bodyOf "led_on") 1)) (forB (stAt (bodyOf "led_on") 1)) (ledR (.code (rowsD rows) nm tp ty lv)) [.hl []] (rows.map Row.D)).run = some (out fl ρ η) ∧
      (fl = .next ∧ η = [.hl ((ledOn rows).map Row.D)] ∧ ∃ tl, ρ = ledR (.code (rowsD rows) nm tp ty lv) ++ tl) := by
  refine forGo_inv
    (fun ds ρ η => ∃ done rest, rows = done ++ rest ∧ ds = rest.map Row.D ∧ η = [.hl ((done.map (ledRow rows)).map Row.D)] ∧ (ρ = (ledR (.code (rowsD rows) nm tp ty lv)) ∨ ∃ x, ρ = ledR1 (.code (rowsD rows) nm tp ty lv) x))
    (fun fl ρ η => fl = .next ∧ η = [.hl ((ledOn rows).map Row.D)] ∧ ∃ tl, ρ = ledR (.code (rowsD rows) nm tp ty lv) ++ tl) ?_ ?_ _ _ _ ⟨[], rows, rfl, rfl, rfl, .inl rfl⟩
  · rintro d ds ρ η ⟨done, rest, hr, hd, rfl, hρ⟩
    cases rest with
    | nil => cases hd
    | cons r rest =>
      cases hd
      refine ⟨_, _, _, _, ?_, led_turn k r rows nm tp ty lv _ ?_ h1 h2 h3, done ++ [r], rest, by rw [hr, List.append_assoc]; rfl, rfl, by simp, .inr ⟨_, rfl⟩⟩
      · rcases hρ with rfl | ⟨x, rfl⟩ <;> kernel_rfl
      · rw [List.length_map, List.length_map]
        have := congrArg List.length hr
        rw [List.length_append] at this
        omega
  · rintro ρ η ⟨done, rest, hr, hd, rfl, hρ⟩
    have : rest = [] := by induction rest with | nil => rfl | cons a b => cases hd
    subst this
    rw [List.append_nil] at hr
    subst hr
    exact ⟨rfl, rfl, by rcases hρ with rfl | ⟨x, rfl⟩; exact ⟨[], rfl⟩; exact ⟨[("row", .d x)], rfl⟩⟩
end
end Mine
end
section
namespace Mine
set_option tactic.hygienic false
open PySem
noncomputable def forP : Stmt → Pos
  | .For _ _ _ _ p => p
  | _ => default
noncomputable def whP : Stmt → Pos
  | .While _ _ _ p => p
  | _ => default
section
variable {P : Str → List D → Option D} {H : Str → List VV → Eta → Option (D × Eta)}
theorem led_on_spec (n : Nat) (rows : List Row) (nm tp ty lv : D)
    (h1 : ∀ r : Row, pcl FT n "is_led" [r.D] = some (.bool r.isLed)) (h2 : ∀ t, pcl FT n "last_target" [rowsD rows, natD t] = some (natD (lastTarget rows t))) (h3 : ∀ (r : Row) t u, r.target = some u → pcl FT n "with_target" [r.D, natD t] = some (r.with_ t).D)
    (hl : rows.length ≤ 1000) :
    pcl FT (n + 1) "led_on" [.code (rowsD rows) nm tp ty lv] = some (.code (rowsD (ledOn rows)) nm tp ty lv) := by
  obtain ⟨fl, ρ, η, e3, rfl, rfl, tl, rfl⟩ := led_loop (P := pcl FT n) (H := hcl FT n) 37 rows nm tp ty lv h1 h2 h3 hl
  have e4 : (itr (ast (pcl FT n) (hcl FT n) 57) (scOf "led_on") (ledR (.code (rowsD rows) nm tp ty lv)) [.hl []] (forI (stAt (bodyOf "led_on") 1))).run = some (rows.map Row.D, [.hl []]) := by kernel_rfl
  refine pcl_is (x := "led_on") (ρ0 := [("code", .d (.code (rowsD rows) nm tp ty lv))])
    (ss := [stAt (bodyOf "led_on") 0, .For (forT (stAt (bodyOf "led_on") 1)) (forI (stAt (bodyOf "led_on") 1)) (forB (stAt (bodyOf "led_on") 1)) [] (forP (stAt (bodyOf "led_on") 1)), stAt (bodyOf "led_on") 2])
    (by kernel_rfl) (by kernel_rfl) (by kernel_rfl) (by kernel_rfl) (nx (ρ1 := ledR (.code (rowsD rows) nm tp ty lv)) (η1 := [.hl []]) (by kernel_rfl) (nx (ex_for_ok e4 e3) ?_))
  kernel_rfl
end
end Mine
end
section
namespace Mine
set_option tactic.hygienic false
open PySem

noncomputable abbrev bs (x : String) (i : Nat) : Stmt := stAt (bodyOf x) i
noncomputable abbrev sFor (s : Stmt) : Stmt := .For (forT s) (forI s) (forB s) [] (forP s)
noncomputable abbrev sWhile (s : Stmt) : Stmt := .While (whT s) (whB s) [] (whP s)

/-! ### chains of jumps -/
theorem nodup_short : ∀ (n : Nat) (l : List Nat), l.Nodup → (∀ v ∈ l, v < n) → l.length ≤ n
  | 0, [], _, _ => Nat.le_refl _
  | 0, v :: l, _, h => absurd (h v (.head _)) (Nat.not_lt_zero v)
  | n + 1, l, hn, h => by
    have h1 : (l.erase n).length ≤ n := nodup_short n (l.erase n) (hn.erase n) fun v hv => by
      have h2 := (hn.mem_erase_iff).mp hv
      have := h v h2.2
      have := h2.1
      omega
    have := List.length_erase (a := n) (l := l)
    split at this <;> omega
inductive Path (rows : List Row) (t : Nat) : List Nat → Nat → Prop
  | nil : Path rows t [] t
  | snoc {vs : List Nat} {u w : Nat} : Path rows t vs u → rows[u]? = some (.jump w) → u ∉ vs → Path rows t (vs ++ [u]) w
variable {rows : List Row} {t u w : Nat} {vs : List Nat}
theorem Path.chain (p : Path rows t vs u) : ∀ j, chain rows (vs.length + j) t = chain rows j u := by
  induction p with
  | nil => intro j; simp
  | snoc p h1 h2 ih =>
    intro j
    rw [List.length_append, List.length_singleton, Nat.add_assoc, ih, Nat.add_comm 1 j, Mine.chain, h1]
theorem Path.nodup (p : Path rows t vs u) : vs.Nodup := by
  induction p with
  | nil => exact List.nodup_nil
  | snoc p h1 h2 ih =>
    rw [List.nodup_append]
    exact ⟨ih, by simp, fun a ha b hb => by simp at hb; subst hb; exact fun z => h2 (z ▸ ha)⟩
theorem Path.lt (p : Path rows t vs u) : ∀ v ∈ vs, v < rows.length := by
  induction p with
  | nil => intro v hv; cases hv
  | snoc p h1 h2 ih =>
    intro v hv
    rcases List.mem_append.mp hv with hv | hv
    · exact ih v hv
    · simp at hv; subst hv; exact (List.getElem?_eq_some_iff.mp h1).1
theorem Path.short (p : Path rows t vs u) : vs.length ≤ rows.length := by
  have h1 := p.nodup
  exact nodup_short _ _ h1 p.lt
set_option tactic.hygienic true in
theorem Path.step (p : Path rows t vs u) : ∀ v ∈ vs, ∃ w, rows[v]? = some (.jump w) ∧ (w ∈ vs ∨ w = u) := by
  induction p with
  | nil => intro v hv; cases hv
  | snoc p h1 h2 ih =>
    rename_i w'
    intro v hv
    rcases List.mem_append.mp hv with hv | hv
    · obtain ⟨w, e, z⟩ := ih v hv
      exact ⟨w, e, .inl (by rcases z with z | z; exact List.mem_append_left _ z; subst z; simp)⟩
    · simp at hv; subst hv; exact ⟨_, h1, .inr rfl⟩
theorem Path.start (p : Path rows t vs u) : (vs = [] ∧ u = t) ∨ t ∈ vs := by
  induction p with
  | nil => exact .inl ⟨rfl, rfl⟩
  | snoc p h1 h2 ih =>
    rcases ih with ⟨rfl, rfl⟩ | h
    · exact .inr (by simp)
    · exact .inr (List.mem_append_left _ h)
theorem chain_closed {S : List Nat} (h : ∀ v ∈ S, ∃ w, rows[v]? = some (.jump w) ∧ w ∈ S) : ∀ k, ∀ v ∈ S, chain rows k v = none
  | 0, _, _ => rfl
  | k + 1, v, hv => by
    obtain ⟨w, e, hw⟩ := h v hv
    rw [chain, e]
    exact chain_closed h k w hw
theorem Path.cycle (p : Path rows t vs u) (h : u ∈ vs) (k : Nat) : Mine.chain rows k t = none := by
  have ht : t ∈ vs := by
    rcases p.start with ⟨rfl, rfl⟩ | z
    · cases h
    · exact z
  refine chain_closed (S := vs) (fun v hv => ?_) k t ht
  obtain ⟨w, e, z⟩ := p.step v hv
  exact ⟨w, e, by rcases z with z | z; exact z; exact z ▸ h⟩
theorem chain_mono : ∀ {k t x}, chain rows k t = some x → ∀ j, chain rows (k + j) t = some x
  | 0, _, _, h, _ => by cases h
  | k + 1, t, x, h, j => by
    rw [Nat.add_right_comm, chain]
    rw [chain] at h
    split at h
    · exact chain_mono h j
    · exact h
set_option tactic.hygienic true in
theorem Path.last (p : Path rows t vs u) (h : ∀ w, rows[u]? ≠ some (.jump w)) : lastTarget rows t = u := by
  have h1 : Mine.chain rows 1 u = some u := by
    rw [Mine.chain]
    split
    · rename_i w e; exact (h w e).elim
    · rfl
  have h2 := p.chain 1
  rw [h1] at h2
  have h3 := chain_mono h2 (rows.length - vs.length)
  have := p.short
  rw [show vs.length + 1 + (rows.length - vs.length) = rows.length + 1 by omega] at h3
  unfold lastTarget
  rw [h3]; rfl
theorem Path.loop (p : Path rows t vs u) (h : u ∈ vs) : lastTarget rows t = t := by
  unfold lastTarget
  rw [p.cycle h]; rfl

/-! ### last_target -/
noncomputable abbrev ltR (rows : D) (t : Nat) (u : VV) : Rho := [("rows", .d rows), ("target", .d (natD t)), ("seen", .h 0), ("to", u)]
section
variable {P : Str → List D → Option D} {H : Str → List VV → Eta → Option (D × Eta)}
theorem lt_test (k : Nat) (ds : List D) (t u : Nat) (ks : List Int) : ((ast P H (k + 20)).tr (scOf "last_target") (ltR (.lst ds) t (.d (natD u))) [.hs ks] (whT (bs "last_target" 2))).run =
    match decide (Int.ofNat u < (ds.length : Int)) with
    | true => ((ds[u]?).map VV.d).bind fun v => (itemOf v (.int 0) [.hs ks]).bind fun o => (frz o [.hs ks]).bind fun p => (pyEq p.1 (.str "jump")).bind fun b => match b with | true => some (true, p.2) | false => some (false, p.2)
    | false => some (false, [.hs ks]) := by kernel_rfl
theorem lt_body (k : Nat) (ds : List D) (t u : Nat) (ks : List Int) : ((ast P H (k + 20)).exs (scOf "last_target") (ltR (.lst ds) t (.d (natD u))) [.hs ks] (whB (bs "last_target" 2))).run =
    match ks.contains (Int.ofNat u) with
    | true => some (out (.ret (.d (natD t))) (ltR (.lst ds) t (.d (natD u))) [.hs ks])
    | false => (if ks.length ≤ 1000 then some [HO.hs (insKey ks (Int.ofNat u))] else none).bind fun η => ((ds[u]?).map VV.d).bind fun v => (itemOf v (.int 3) η).bind fun w => some (out .next (ltR (.lst ds) t w) η) := by kernel_rfl
end
theorem op_jump (r : Row) (η : Eta) : ((itemOf (.d r.D) (.int 0) η).bind fun o => (frz o η).bind fun p => (pyEq p.1 (.str "jump")).bind fun b => match b with | true => some (true, p.2) | false => some (false, p.2)) = some (r.isJump, η) := by
  induction r with
  | cond c a t => cases c <;> kernel_rfl
  | _ => kernel_rfl
theorem contains_nat (vs : List Nat) (u : Nat) : (vs.map Int.ofNat).contains (Int.ofNat u) = decide (u ∈ vs) := by
  induction vs with
  | nil => rfl
  | cons v vs ih =>
    rw [List.map_cons, List.contains_cons, ih]
    by_cases h : u = v
    · subst h; simp
    · have : (Int.ofNat u == Int.ofNat v) = false := beq_eq_false_iff_ne.mpr fun z => h (Int.ofNat.inj z)
      rw [this]
      simp [h]

theorem last_target_spec (n : Nat) (rows : List Row) (t : Nat) (hl : rows.length ≤ 900) : pcl FT (n + 1) "last_target" [rowsD rows, natD t] = some (natD (lastTarget rows t)) := by
  have loop : ∃ fl ρ η, (whileGo (ast (pcl FT n) (hcl FT n) 56) (scOf "last_target") (whT (bs "last_target" 2)) (whB (bs "last_target" 2)) (ltR (rowsD rows) t (.d (natD t))) [.hs []] 1000).run = some (out fl ρ η) ∧
      ((fl = .next ∧ ρ = ltR (rowsD rows) t (.d (natD (lastTarget rows t)))) ∨ fl = .ret (.d (natD (lastTarget rows t)))) := by
    refine whileGo_inv (fun m ρ η => ∃ vs u, Path rows t vs u ∧ m = rows.length + 1 - vs.length ∧ ρ = ltR (rowsD rows) t (.d (natD u)) ∧ η = [.hs (vs.map Int.ofNat)])
      (fun fl ρ η => (fl = .next ∧ ρ = ltR (rowsD rows) t (.d (natD (lastTarget rows t)))) ∨ fl = .ret (.d (natD (lastTarget rows t)))) ?_ 1000 (rows.length + 1) _ _ ⟨[], t, .nil, rfl, rfl, rfl⟩ (by omega)
    rintro m ρ η ⟨vs, u, p, rfl, rfl, rfl⟩
    have ht := lt_test (P := pcl FT n) (H := hcl FT n) 36 (rows.map Row.D) t u (vs.map Int.ofNat)
    have hb := lt_body (P := pcl FT n) (H := hcl FT n) 36 (rows.map Row.D) t u (vs.map Int.ofNat)
    induction hu : rows[u]? with
    | none =>
      have hlen : rows.length ≤ u := List.getElem?_eq_none_iff.mp hu
      have : decide (Int.ofNat u < ((rows.map Row.D).length : Int)) = false := by
        rw [decide_eq_false_iff_not, List.length_map]
        show ¬ ((u : Int) < _)
        omega
      rw [this] at ht
      refine ⟨false, _, ht, .inl ⟨rfl, ?_⟩⟩
      rw [p.last fun w => by rw [hu]; intro z; cases z]
    | some r =>
      have hlen : u < rows.length := (List.getElem?_eq_some_iff.mp hu).1
      have e1 : decide (Int.ofNat u < ((rows.map Row.D).length : Int)) = true := by
        rw [decide_eq_true_iff, List.length_map]
        show (u : Int) < _
        omega
      have e2 : (rows.map Row.D)[u]? = some r.D := by rw [List.getElem?_map, hu]; rfl
      rw [e1, e2] at ht
      have ht' := ht.trans (op_jump r _)
      rw [e2, contains_nat] at hb
      induction hj : r.isJump with
      | false =>
        rw [hj] at ht'
        refine ⟨false, _, ht', .inl ⟨rfl, ?_⟩⟩
        rw [p.last fun w => by rw [hu]; intro z; cases z; cases hj]
      | true =>
        rw [hj] at ht'
        refine ⟨true, _, ht', ?_⟩
        by_cases hm : u ∈ vs
        · rw [decide_eq_true hm] at hb
          exact ⟨_, _, _, hb, .inr (by rw [p.loop hm])⟩
        · rw [decide_eq_false hm] at hb
          have hs := p.short
          have e3 : (vs.map Int.ofNat).length ≤ 1000 := by rw [List.length_map]; omega
          induction r with
          | jump w =>
            have e4 : insKey (vs.map Int.ofNat) (Int.ofNat u) = (vs ++ [u]).map Int.ofNat := by
              unfold insKey
              rw [contains_nat, decide_eq_false hm]
              simp
            simp only [if_pos e3, Option.bind_some, e4] at hb
            refine ⟨_, _, _, hb, rows.length + 1 - (vs ++ [u]).length, ?_, vs ++ [u], w, .snoc p hu hm, rfl, rfl, rfl⟩
            have := (Path.snoc p hu hm).short
            rw [List.length_append, List.length_singleton] at *
            omega
          | _ => cases hj
  obtain ⟨fl, ρ, η, e, h⟩ := loop
  refine pcl_is (x := "last_target") (ρ0 := [("rows", .d (rowsD rows)), ("target", .d (natD t))]) (ss := [bs "last_target" 0, bs "last_target" 1, sWhile (bs "last_target" 2), bs "last_target" 3])
    (by kernel_rfl) (by kernel_rfl) (by kernel_rfl) (by kernel_rfl) (nx (ρ1 := [("rows", .d (rowsD rows)), ("target", .d (natD t)), ("seen", .h 0)]) (η1 := [.hs []]) (by kernel_rfl) (nx (ρ1 := ltR (rowsD rows) t (.d (natD t))) (η1 := [.hs []]) (by kernel_rfl) ?_))
  rcases h with ⟨rfl, rfl⟩ | rfl
  · exact nx e (by kernel_rfl)
  · exact nret e (by kernel_rfl)
end Mine
end
section
namespace Mine
set_option tactic.hygienic false
open PySem

/-! ### turned -/
noncomputable abbrev rcons (ρ : Rho) (x : Str) (v : VV) : Rho := ρ ++ [(x, v)]
noncomputable abbrev tuR (rows : D) (at_ : D) (known : D) (row : VV) : Rho := [("rows", .d rows), ("at", .d at_), ("known", .d known), ("row", row)]
section
variable {P : Str → List D → Option D} {H : Str → List VV → Eta → Option (D × Eta)}
theorem tu_0 (k : Nat) (ds : List D) (p : Nat) (known : D) : ((ast P H (k + 20)).ex (scOf "turned") [("rows", .d (.lst ds)), ("at", .d (natD p)), ("known", .d known)] [] (bs "turned" 0)).run =
    ((ds[p]?).map VV.d).bind fun v => some (out .next (tuR (.lst ds) (natD p) known v) []) := by kernel_rfl
/-- a row that is no condition to be turned -/
theorem tu_1 (k : Nat) (ds : List D) (p : Nat) (known : D) (r : Row) (h : ∀ c a t, r = .cond c a t → c.other = none) :
    ((ast P H (k + 20)).ex (scOf "turned") (tuR (.lst ds) (natD p) known (.d r.D)) [] (bs "turned" 1)).run = some (out (.ret (.d .none)) (tuR (.lst ds) (natD p) known (.d r.D)) []) := by
  induction r with
  | cond c a t =>
    induction c with
    | iff => cases h _ _ _ rfl
    | «unless» => cases h _ _ _ rfl
    | _ => kernel_rfl
  | _ => kernel_rfl
theorem tu_1c (k : Nat) (ds : List D) (p : Nat) (ks : List Int) (c : Cnd) (a : Opd) (t : Nat) (h : c.other.isSome = true) :
    ((ast P H (k + 20)).ex (scOf "turned") (tuR (.lst ds) (natD p) (.set ks) (.d (Row.cond c a t).D)) [] (bs "turned" 1)).run =
      match !(Int.ofNat t == Int.ofNat (p + 2)) with
      | true => some (out (.ret (.d .none)) (tuR (.lst ds) (natD p) (.set ks) (.d (Row.cond c a t).D)) [])
      | false => match ks.contains (Int.ofNat (p + 1)) with
        | true => some (out (.ret (.d .none)) (tuR (.lst ds) (natD p) (.set ks) (.d (Row.cond c a t).D)) [])
        | false => some (out .next (tuR (.lst ds) (natD p) (.set ks) (.d (Row.cond c a t).D)) []) := by
  induction c with
  | iff => kernel_rfl
  | «unless» => kernel_rfl
  | _ => cases h
theorem tu_2 (k : Nat) (ds : List D) (p : Nat) (known : D) (v : VV) :
    ((ast P H (k + 20)).ex (scOf "turned") (tuR (.lst ds) (natD p) known v) [] (bs "turned" 2)).run =
      match decide ((ds.length : Int) ≤ Int.ofNat (p + 1)) with
      | true => some (out (.ret (.d .none)) (tuR (.lst ds) (natD p) known v) [])
      | false => ((ds[p + 1]?).map VV.d).bind fun u => (itemOf u (.int 0) []).bind fun o => (frz o []).bind fun q => ((pyEq q.1 (.str "jump")).map fun b => !b).bind fun b => match b with
        | true => some (out (.ret (.d .none)) (tuR (.lst ds) (natD p) known v) q.2)
        | false => some (out .next (tuR (.lst ds) (natD p) known v) q.2) := by kernel_rfl
theorem tu_3 (k : Nat) (ds : List D) (p : Nat) (known : D) (c c' : Cnd) (a : Opd) (t : Nat) (h : c.other = some c') :
    ((ast P H (k + 20)).ex (scOf "turned") (tuR (.lst ds) (natD p) known (.d (Row.cond c a t).D)) [] (bs "turned" 3)).run = some (out .next (rcons (tuR (.lst ds) (natD p) known (.d (Row.cond c a t).D)) "op" (.d (.str c'.op))) []) := by
  induction c with
  | iff => cases h; kernel_rfl
  | «unless» => cases h; kernel_rfl
  | _ => cases h
theorem tu_4 (k : Nat) (ds : List D) (p : Nat) (known : D) (c c' : Cnd) (a : Opd) (t : Nat) :
    ((ast P H (k + 20)).ex (scOf "turned") (rcons (tuR (.lst ds) (natD p) known (.d (Row.cond c a t).D)) "op" (.d (.str c'.op))) [] (bs "turned" 4)).run =
      ((ds[p + 1]?).map VV.d).bind fun u => (itemOf u (.int 3) []).bind fun o => (frz o []).bind fun q => some (out (.ret (.d (.tup [.str c'.op, .none, a.D, q.1]))) (rcons (tuR (.lst ds) (natD p) known (.d (Row.cond c a t).D)) "op" (.d (.str c'.op))) q.2) := by kernel_rfl
end
theorem op_not_jump (r : Row) (F1 F2 : Eta → Fl × Rho × Eta) : ((itemOf (.d r.D) (.int 0) []).bind fun o => (frz o []).bind fun q => ((pyEq q.1 (.str "jump")).map fun b => !b).bind fun b => match b with
      | true => some (F1 q.2)
      | false => some (F2 q.2)) = match r.isJump with
      | true => some (F2 [])
      | false => some (F1 []) := by
  induction r with
  | cond c a t => cases c <;> kernel_rfl
  | _ => kernel_rfl

theorem turned_spec (n : Nat) (rows : List Row) (p : Nat) (ks : List Int) (known : Nat → Bool) (hk : ∀ i : Nat, ks.contains (Int.ofNat i) = known i) (hp : p < rows.length) :
    pcl FT (n + 1) "turned" [rowsD rows, natD p, .set ks] = some (match turnedRow rows known p with | some r => r.D | none => .none) := by
  refine pcl_is (x := "turned") (ρ0 := [("rows", .d (rowsD rows)), ("at", .d (natD p)), ("known", .d (.set ks))]) (ss := [bs "turned" 0, bs "turned" 1, bs "turned" 2, bs "turned" 3, bs "turned" 4])
    (by kernel_rfl) (by kernel_rfl) (by kernel_rfl) (by kernel_rfl) ?_
  obtain ⟨r, hr⟩ : ∃ r, rows[p]? = some r := ⟨_, List.getElem?_eq_getElem hp⟩
  have e0 : (rows.map Row.D)[p]? = some r.D := by rw [List.getElem?_map, hr]; rfl
  have h0 := tu_0 (P := pcl FT n) (H := hcl FT n) 39 (rows.map Row.D) p (.set ks)
  rw [e0] at h0
  refine nx h0 ?_
  unfold turnedRow
  rw [hr]
  by_cases hc : ∀ c a t, r = .cond c a t → c.other = none
  · refine nret (tu_1 38 (rows.map Row.D) p (.set ks) r hc) ?_
    induction r with
    | cond c a t => simp only [hc c a t rfl]; rfl
    | _ => rfl
  · obtain ⟨c, a, t, rfl, c', hc'⟩ : ∃ c a t, r = .cond c a t ∧ ∃ c', c.other = some c' := by
      induction r with
      | cond c a t =>
        refine ⟨c, a, t, rfl, ?_⟩
        induction q : c.other with
        | some c' => exact ⟨c', rfl⟩
        | none => exact (hc fun _ _ _ e => by cases e; exact q).elim
      | _ => exact (hc fun _ _ _ e => by cases e).elim
    have h1 := tu_1c (P := pcl FT n) (H := hcl FT n) 38 (rows.map Row.D) p ks c a t (by rw [hc']; rfl)
    rw [hk] at h1
    have e1 : (Int.ofNat t == Int.ofNat (p + 2)) = (t == p + 2) := by
      rw [Bool.eq_iff_iff, beq_iff_eq, beq_iff_eq]
      exact ⟨Int.ofNat.inj, fun e => by rw [e]⟩
    rw [e1] at h1
    simp only [hc']
    by_cases ht : t = p + 2
    · have e2 : (t == p + 2) = true := beq_iff_eq.mpr ht
      rw [e2] at h1
      induction hkn : known (p + 1) with
      | true =>
        rw [hkn] at h1
        refine nret h1 ?_
        rw [if_neg (by simp)]; rfl
      | false =>
        rw [hkn] at h1
        rw [if_pos ⟨ht, rfl⟩]
        refine nx h1 ?_
        have h2 := tu_2 (P := pcl FT n) (H := hcl FT n) 37 (rows.map Row.D) p (.set ks) (.d (Row.cond c a t).D)
        induction hu : rows[p + 1]? with
        | none =>
          have hlen : rows.length ≤ p + 1 := List.getElem?_eq_none_iff.mp hu
          have e3 : decide (((rows.map Row.D).length : Int) ≤ Int.ofNat (p + 1)) = true := by
            rw [decide_eq_true_iff, List.length_map]
            show _ ≤ ((p + 1 : Nat) : Int)
            omega
          rw [e3] at h2
          exact nret h2 rfl
        | some r2 =>
          have hlen : p + 1 < rows.length := (List.getElem?_eq_some_iff.mp hu).1
          have e3 : decide (((rows.map Row.D).length : Int) ≤ Int.ofNat (p + 1)) = false := by
            rw [decide_eq_false_iff_not, List.length_map]
            show ¬ (_ ≤ ((p + 1 : Nat) : Int))
            omega
          have e4 : (rows.map Row.D)[p + 1]? = some r2.D := by rw [List.getElem?_map, hu]; rfl
          rw [e3, e4] at h2
          have h2' := h2.trans ((Option.bind_some _ _).trans (op_not_jump r2 (fun η => out (.ret (.d .none)) (tuR (rowsD rows) (natD p) (.set ks) (.d (Row.cond c a t).D)) η) (fun η => out .next (tuR (rowsD rows) (natD p) (.set ks) (.d (Row.cond c a t).D)) η)))
          induction r2 with
          | jump u =>
            refine nx h2' (nx (tu_3 36 (rows.map Row.D) p (.set ks) c c' a t hc') ?_)
            have h4 := tu_4 (P := pcl FT n) (H := hcl FT n) 35 (rows.map Row.D) p (.set ks) c c' a t
            rw [e4] at h4
            exact nret h4 rfl
          | _ => exact nret h2' rfl
    · have e2 : (t == p + 2) = false := beq_eq_false_iff_ne.mpr ht
      rw [e2] at h1
      refine nret h1 ?_
      rw [if_neg (fun z => ht z.1)]; rfl
end Mine
end
section
namespace Mine
set_option tactic.hygienic false
open PySem

/-! ### targets -/
noncomputable abbrev tgR (c : D) : Rho := [("code", .d c), ("found", .h 0)]
noncomputable abbrev tgR1 (c a : D) : Rho := [("code", .d c), ("found", .h 0), ("at", .d a)]
noncomputable abbrev tgR2 (c a t : D) : Rho := [("code", .d c), ("found", .h 0), ("at", .d a), ("target", .d t)]
noncomputable def insOk (ks : List Int) (k : Int) : Option Eta := if ks.length ≤ 1000 then some [.hs (insKey ks k)] else none
section
variable {P : Str → List D → Option D} {H : Str → List VV → Eta → Option (D × Eta)}
/-- the turn's first statement: ρ ends as tgR2 -/
theorem tg_0 (k : Nat) (ds : List D) (nm tp ty lv : D) (p : Nat) (η : Eta) : ((ast P H (k + 20)).ex (scOf "targets") (tgR1 (.code (.lst ds) nm tp ty lv) (natD p)) η (stAt (forB (bs "targets" 1)) 0)).run =
    ((ds[p]?).map VV.d).bind fun v => match allPure [v] with
      | true => (pureArgs [v]).bind fun as => (P "target_of" as).bind fun d => some (out .next (tgR2 (.code (.lst ds) nm tp ty lv) (natD p) d) η)
      | false => (H "target_of" [v] η).bind fun r => some (out .next (tgR2 (.code (.lst ds) nm tp ty lv) (natD p) r.1) r.2) := by kernel_rfl
theorem tg_0' (k : Nat) (ds : List D) (nm tp ty lv : D) (p : Nat) (t : D) (η : Eta) : ((ast P H (k + 20)).ex (scOf "targets") (tgR2 (.code (.lst ds) nm tp ty lv) (natD p) t) η (stAt (forB (bs "targets" 1)) 0)).run =
    ((ds[p]?).map VV.d).bind fun v => match allPure [v] with
      | true => (pureArgs [v]).bind fun as => (P "target_of" as).bind fun d => some (out .next (tgR2 (.code (.lst ds) nm tp ty lv) (natD p) d) η)
      | false => (H "target_of" [v] η).bind fun r => some (out .next (tgR2 (.code (.lst ds) nm tp ty lv) (natD p) r.1) r.2) := by kernel_rfl
theorem tg_1n (k : Nat) (c p : D) (η : Eta) : ((ast P H (k + 20)).ex (scOf "targets") (tgR2 c p .none) η (stAt (forB (bs "targets" 1)) 1)).run = some (out .next (tgR2 c p .none) η) := by kernel_rfl
theorem tg_1 (k : Nat) (c p : D) (u : Nat) (ks : List Int) : ((ast P H (k + 20)).ex (scOf "targets") (tgR2 c p (natD u)) [.hs ks] (stAt (forB (bs "targets" 1)) 1)).run =
    (insOk ks (Int.ofNat u)).bind fun η => some (out .next (tgR2 c p (natD u)) η) := by kernel_rfl
theorem tg_2 (k : Nat) (ds : List D) (nm tp ty lv : D) (p : Nat) (t : D) (ks : List Int) : ((ast P H (k + 20)).ex (scOf "targets") (tgR2 (.code (.lst ds) nm tp ty lv) (natD p) t) [.hs ks] (stAt (forB (bs "targets" 1)) 2)).run =
    ((ds[p]?).map VV.d).bind fun v => (itemOf v (.int 0) [.hs ks]).bind fun o => (frz o [.hs ks]).bind fun q => (pyEq q.1 (.str "call_finally")).bind fun b => match b with
      | true => (setItem (.h 0) (natD (p + 1)) (.bool true) q.2).bind fun η => some (out .next (tgR2 (.code (.lst ds) nm tp ty lv) (natD p) t) η)
      | false => some (out .next (tgR2 (.code (.lst ds) nm tp ty lv) (natD p) t) q.2) := by kernel_rfl
theorem op_not_call (r : Row) (η : Eta) (F1 F2 : Eta → Option (Fl × Rho × Eta)) : ((itemOf (.d r.D) (.int 0) η).bind fun o => (frz o η).bind fun q => (pyEq q.1 (.str "call_finally")).bind fun b => match b with
      | true => F1 q.2
      | false => F2 q.2) = F2 η := by
  induction r with
  | cond c a t => cases c <;> kernel_rfl
  | _ => kernel_rfl

/-- what the first loop's turn does -/
theorem tg_turn (k : Nat) (rows : List Row) (nm tp ty lv : D) (p : Nat) (ρ : Rho) (ks : List Int) (r : Row) (hr : rows[p]? = some r) (h1 : ∀ r : Row, P "target_of" [r.D] = some (match r.target with | some t => natD t | none => .none)) (hk : ks.length ≤ 1000)
    (hρ : ρ = tgR1 (.code (rowsD rows) nm tp ty lv) (natD p) ∨ ∃ t, ρ = tgR2 (.code (rowsD rows) nm tp ty lv) (natD p) t) :
    ∃ t, ((ast P H (k + 24)).exs (scOf "targets") ρ [.hs ks] (forB (bs "targets" 1))).run = some (out .next (tgR2 (.code (rowsD rows) nm tp ty lv) (natD p) t) [.hs (match r.target with | some u => insKey ks (Int.ofNat u) | none => ks)]) := by
  have e0 : (rows.map Row.D)[p]? = some r.D := by rw [List.getElem?_map, hr]; rfl
  have hb : forB (bs "targets" 1) = [stAt (forB (bs "targets" 1)) 0, stAt (forB (bs "targets" 1)) 1, stAt (forB (bs "targets" 1)) 2] := by kernel_rfl
  have f0 : ((ast P H (k + 23)).ex (scOf "targets") ρ [.hs ks] (stAt (forB (bs "targets" 1)) 0)).run = some (out .next (tgR2 (.code (rowsD rows) nm tp ty lv) (natD p) (match r.target with | some t => natD t | none => .none)) [.hs ks]) := by
    rcases hρ with rfl | ⟨t, rfl⟩
    · have := tg_0 (P := P) (H := H) (k + 3) (rows.map Row.D) nm tp ty lv p [.hs ks]
      rw [e0] at this
      refine this.trans ?_
      show (P "target_of" [r.D]).bind _ = _
      rw [h1]; rfl
    · have := tg_0' (P := P) (H := H) (k + 3) (rows.map Row.D) nm tp ty lv p t [.hs ks]
      rw [e0] at this
      refine this.trans ?_
      show (P "target_of" [r.D]).bind _ = _
      rw [h1]; rfl
  have f2 : ∀ t ks', ((ast P H (k + 21)).ex (scOf "targets") (tgR2 (.code (rowsD rows) nm tp ty lv) (natD p) t) [.hs ks'] (stAt (forB (bs "targets" 1)) 2)).run = some (out .next (tgR2 (.code (rowsD rows) nm tp ty lv) (natD p) t) [.hs ks']) := by
    intro t ks'
    have := tg_2 (P := P) (H := H) (k + 1) (rows.map Row.D) nm tp ty lv p t ks'
    rw [e0] at this
    exact this.trans ((Option.bind_some _ _).trans (op_not_call r _ (fun η => (setItem (.h 0) (natD (p + 1)) (.bool true) η).bind fun η => some (out .next (tgR2 (.code (rowsD rows) nm tp ty lv) (natD p) t) η)) (fun η => some (out .next (tgR2 (.code (rowsD rows) nm tp ty lv) (natD p) t) η))))
  rw [hb]
  refine ⟨(match r.target with | some t => natD t | none => .none), (exs_next f0).trans ?_⟩
  induction q : r.target with
  | none => exact (exs_next (tg_1n (k + 2) _ _ _)).trans ((exs_next (f2 _ _)).trans rfl)
  | some u =>
    have f1 := tg_1 (P := P) (H := H) (k + 2) (.code (rowsD rows) nm tp ty lv) (natD p) u ks
    unfold insOk at f1
    rw [if_pos hk] at f1
    exact (exs_next f1).trans ((exs_next (f2 _ _)).trans rfl)

set_option tactic.hygienic true in
theorem ins_contains (ks : List Int) (k j : Int) : (insKey ks k).contains j = (ks.contains j || j == k) := by
  unfold insKey
  split
  · rename_i h
    induction q : j == k with
    | true => rw [beq_iff_eq.mp q, h]; rfl
    | false => rw [Bool.or_false]
  · rw [Bool.eq_iff_iff]
    simp
theorem ins_length (ks : List Int) (k : Int) : (insKey ks k).length ≤ ks.length + 1 := by
  unfold insKey
  split
  · omega
  · simp

theorem natCast_D (k : Nat) : D.int (k : Int) = natD k := rfl

theorem tg_loop1 (k : Nat) (rows : List Row) (nm tp ty lv : D) (h1 : ∀ r : Row, P "target_of" [r.D] = some (match r.target with | some t => natD t | none => .none)) (hl : rows.length ≤ 900) :
    ∃ fl ρ η, (forGo (ast P H (k + 24)) (scOf "targets") (forT (bs "targets" 1)) (forB (bs "targets" 1)) (tgR (.code (rowsD rows) nm tp ty lv)) [.hs []] ((List.range rows.length).map fun (k : Nat) => D.int (k : Int))).run = some (out fl ρ η) ∧
      (fl = .next ∧ ∃ ks, η = [.hs ks] ∧ ks.length ≤ rows.length ∧ (∀ i : Nat, ks.contains (Int.ofNat i) = rows.any fun r => r.target == some i) ∧
        (ρ = tgR (.code (rowsD rows) nm tp ty lv) ∨ ∃ a t, ρ = tgR2 (.code (rowsD rows) nm tp ty lv) a t)) := by
  refine forGo_inv (fun ds ρ η => ∃ p ks, p ≤ rows.length ∧ ds = ((List.range rows.length).map fun (k : Nat) => D.int (k : Int)).drop p ∧ η = [.hs ks] ∧ ks.length ≤ p ∧ (∀ i : Nat, ks.contains (Int.ofNat i) = (rows.take p).any fun r => r.target == some i) ∧
      (ρ = tgR (.code (rowsD rows) nm tp ty lv) ∨ ∃ a t, ρ = tgR2 (.code (rowsD rows) nm tp ty lv) a t)) _ ?_ ?_ _ _ _ ⟨0, [], Nat.zero_le _, rfl, rfl, Nat.le_refl _, fun i => by simp, .inl rfl⟩
  · rintro d ds ρ η ⟨p, ks, hp, hd, rfl, hk, hc, hρ⟩
    have hlt : p < rows.length := by
      rcases Nat.lt_or_ge p rows.length with h | h
      · exact h
      · rw [List.drop_of_length_le (by simpa using h)] at hd; cases hd
    rw [List.drop_eq_getElem_cons (by simpa using hlt)] at hd
    simp only [List.getElem_map, List.getElem_range, List.cons.injEq] at hd
    obtain ⟨rfl, rfl⟩ := hd
    obtain ⟨r, hr⟩ : ∃ r, rows[p]? = some r := ⟨_, List.getElem?_eq_getElem hlt⟩
    have hb : ∃ ρ1, bindT (scOf "targets") ρ (forT (bs "targets" 1)) (.d (natD p)) = some ρ1 ∧ (ρ1 = tgR1 (.code (rowsD rows) nm tp ty lv) (natD p) ∨ ∃ t, ρ1 = tgR2 (.code (rowsD rows) nm tp ty lv) (natD p) t) := by
      rcases hρ with rfl | ⟨a, t, rfl⟩
      · exact ⟨_, by kernel_rfl, .inl rfl⟩
      · exact ⟨tgR2 (.code (rowsD rows) nm tp ty lv) (natD p) t, by kernel_rfl, .inr ⟨t, rfl⟩⟩
    obtain ⟨ρ1, hb1, hb2⟩ := hb
    obtain ⟨t, ht⟩ := tg_turn (P := P) (H := H) k rows nm tp ty lv p ρ1 ks r hr h1 (by omega) hb2
    refine ⟨ρ1, _, _, _, hb1, ht, p + 1, _, hlt, rfl, rfl, ?_, fun i => ?_, .inr ⟨_, _, rfl⟩⟩
    · cases r.target with
      | none => dsimp only; omega
      | some u => have := ins_length ks (Int.ofNat u); dsimp only; omega
    · rw [List.take_add_one, hr, List.any_append, ← hc]
      induction q : r.target with
      | none => simp [q]
      | some u =>
        dsimp only
        rw [ins_contains]
        have e : (Int.ofNat i == Int.ofNat u) = (u == i) := by
          rw [Bool.eq_iff_iff, beq_iff_eq, beq_iff_eq]
          exact ⟨fun e => (Int.ofNat.inj e).symm, fun e => by rw [e]⟩
        rw [e]
        simp [q]
  · rintro ρ η ⟨p, ks, hp, hd, rfl, hk, hc, hρ⟩
    have : p = rows.length := by
      have := congrArg List.length hd
      rw [List.length_drop, List.length_map, List.length_range] at this
      simp at this
      omega
    subst this
    rw [List.take_length] at hc
    exact ⟨rfl, ks, rfl, hk, hc, hρ⟩
end
end Mine
end
section
namespace Mine
set_option tactic.hygienic false
open PySem

noncomputable def TgB (c : D) (b : Rho) : Prop := b = tgR c ∨ ∃ a t, b = tgR2 c a t
noncomputable abbrev rapp (ρ τ : Rho) : Rho := ρ ++ τ
noncomputable abbrev tyR (b : Rho) (y : Try) : Rho := rapp b [("first", .d (natD y.first)), ("catch", .d (natD y.catch_)), ("final", .d .none), ("end", .d (natD y.stop)), ("ret", .d .none)]
noncomputable abbrev tyR1 (b : Rho) (y : Try) (pl : D) : Rho := rapp b [("first", .d (natD y.first)), ("catch", .d (natD y.catch_)), ("final", .d .none), ("end", .d (natD y.stop)), ("ret", .d .none), ("place", .d pl)]
section
variable {P : Str → List D → Option D} {H : Str → List VV → Eta → Option (D × Eta)}
theorem tg_body2 (k : Nat) (c : D) (b : Rho) (hb : TgB c b) (y : Try) (ρ : Rho) (hρ : ρ = tyR b y ∨ ∃ pl, ρ = tyR1 b y pl) (ks : List Int) :
    ((ast P H (k + 24)).exs (scOf "targets") ρ [.hs ks] (forB (bs "targets" 2))).run =
      (insOk ks (Int.ofNat y.first)).bind fun η => (setItem (.h 0) (natD y.catch_) (.bool true) η).bind fun η => (setItem (.h 0) (natD y.stop) (.bool true) η).bind fun η => some (out .next (tyR1 b y (natD y.stop)) η) := by
  rcases hb with rfl | ⟨a, t, rfl⟩ <;> rcases hρ with rfl | ⟨pl, rfl⟩ <;> kernel_rfl
theorem tg_bind2 (c : D) (b : Rho) (hb : TgB c b) (y : Try) (ρ : Rho) (hρ : ρ = b ∨ ∃ y' pl, ρ = tyR1 b y' pl) :
    ∃ ρ1, bindT (scOf "targets") ρ (forT (bs "targets" 2)) (.d y.D) = some ρ1 ∧ (ρ1 = tyR b y ∨ ∃ pl, ρ1 = tyR1 b y pl) := by
  rcases hb with rfl | ⟨a, t, rfl⟩
  · rcases hρ with rfl | ⟨y', pl, rfl⟩
    · exact ⟨tyR (tgR c) y, by kernel_rfl, .inl rfl⟩
    · exact ⟨tyR1 (tgR c) y pl, by kernel_rfl, .inr ⟨pl, rfl⟩⟩
  · rcases hρ with rfl | ⟨y', pl, rfl⟩
    · exact ⟨tyR (tgR2 c a t) y, by kernel_rfl, .inl rfl⟩
    · exact ⟨tyR1 (tgR2 c a t) y pl, by kernel_rfl, .inr ⟨pl, rfl⟩⟩
theorem ins_run (ks : List Int) (i : Nat) (hl : ks.length ≤ 1000) : setItem (.h 0) (natD i) (.bool true) [.hs ks] = some [.hs (insKey ks (Int.ofNat i))] := by
  show (if ks.length ≤ 1000 then some [HO.hs (insKey ks (Int.ofNat i))] else none) = _
  rw [if_pos hl]
noncomputable def Try.has (y : Try) (i : Nat) : Bool := y.first == i || y.catch_ == i || y.stop == i
theorem nat_beq (i u : Nat) : (Int.ofNat i == Int.ofNat u) = (u == i) := by
  rw [Bool.eq_iff_iff, beq_iff_eq, beq_iff_eq]
  exact ⟨fun e => (Int.ofNat.inj e).symm, fun e => by rw [e]⟩

theorem tg_loop2 (k : Nat) (c : D) (b : Rho) (hb : TgB c b) (trys : List Try) (ks : List Int) (hl : ks.length + 3 * trys.length ≤ 1000) :
    ∃ fl ρ η, (forGo (ast P H (k + 24)) (scOf "targets") (forT (bs "targets" 2)) (forB (bs "targets" 2)) b [.hs ks] (trys.map Try.D)).run = some (out fl ρ η) ∧
      (fl = .next ∧ ∃ ks', η = [.hs ks'] ∧ (∀ i : Nat, ks'.contains (Int.ofNat i) = (ks.contains (Int.ofNat i) || trys.any fun y => y.has i)) ∧ ∃ tl, ρ = tgR c ++ tl) := by
  refine forGo_inv (fun ds ρ η => ∃ done rest ks', trys = done ++ rest ∧ ds = rest.map Try.D ∧ η = [.hs ks'] ∧ ks'.length ≤ ks.length + 3 * done.length ∧ (∀ i : Nat, ks'.contains (Int.ofNat i) = (ks.contains (Int.ofNat i) || done.any fun y => y.has i)) ∧
      (ρ = b ∨ ∃ y' pl, ρ = tyR1 b y' pl)) _ ?_ ?_ _ _ _ ⟨[], trys, ks, rfl, rfl, rfl, by simp, fun i => by simp, .inl rfl⟩
  · rintro d ds ρ η ⟨done, rest, ks', hr, hd, rfl, hk, hc, hρ⟩
    cases rest with
    | nil => cases hd
    | cons y rest =>
      cases hd
      obtain ⟨ρ1, h1, h2⟩ := tg_bind2 c b hb y ρ hρ
      have hlen : done.length + 1 ≤ trys.length := by rw [hr, List.length_append, List.length_cons]; omega
      have hbd := tg_body2 (P := P) (H := H) k c b hb y ρ1 h2 ks'
      have l1 := ins_length ks' (Int.ofNat y.first)
      have l2 := ins_length (insKey ks' (Int.ofNat y.first)) (Int.ofNat y.catch_)
      have l3 := ins_length (insKey (insKey ks' (Int.ofNat y.first)) (Int.ofNat y.catch_)) (Int.ofNat y.stop)
      rw [show insOk ks' (Int.ofNat y.first) = some [.hs (insKey ks' (Int.ofNat y.first))] from by unfold insOk; rw [if_pos (by omega)], Option.bind_some, ins_run _ _ (by omega), Option.bind_some, ins_run _ _ (by omega), Option.bind_some] at hbd
      refine ⟨ρ1, _, _, _, h1, hbd, done ++ [y], rest, _, by rw [hr, List.append_assoc]; rfl, rfl, rfl, ?_, fun i => ?_, .inr ⟨y, _, rfl⟩⟩
      · rw [List.length_append, List.length_singleton]; omega
      · rw [ins_contains, ins_contains, ins_contains, hc, List.any_append, nat_beq, nat_beq, nat_beq]
        simp [Try.has, Bool.or_assoc]
  · rintro ρ η ⟨done, rest, ks', hr, hd, rfl, hk, hc, hρ⟩
    have : rest = [] := by induction rest with | nil => rfl | cons a b => cases hd
    subst this
    rw [List.append_nil] at hr
    subst hr
    refine ⟨rfl, ks', rfl, hc, ?_⟩
    rcases hb with rfl | ⟨a, t, rfl⟩ <;> rcases hρ with rfl | ⟨y', pl, rfl⟩
    · exact ⟨[], rfl⟩
    · exact ⟨_, rfl⟩
    · exact ⟨[("at", .d a), ("target", .d t)], rfl⟩
    · exact ⟨[("at", .d a), ("target", .d t), ("first", .d (natD y'.first)), ("catch", .d (natD y'.catch_)), ("final", .d .none), ("end", .d (natD y'.stop)), ("ret", .d .none), ("place", .d pl)], rfl⟩
end

theorem targets_spec (n : Nat) (rows : List Row) (trys : List Try) (nm tp lv : D) (h1 : ∀ r : Row, pcl FT n "target_of" [r.D] = some (match r.target with | some t => natD t | none => .none)) (hl : rows.length + 3 * trys.length ≤ 900) :
    ∃ ks, pcl FT (n + 1) "targets" [.code (rowsD rows) nm tp (trysD trys) lv] = some (.set ks) ∧ ∀ i : Nat, ks.contains (Int.ofNat i) = targetsOf rows trys i := by
  obtain ⟨fl, ρ, η, e1, rfl, ks, rfl, hk, hc, hρ⟩ := tg_loop1 (P := pcl FT n) (H := hcl FT n) 33 rows nm tp (trysD trys) lv h1 (by omega)
  obtain ⟨fl, ρ', η, e2, rfl, ks', rfl, hc', tl, rfl⟩ := tg_loop2 (P := pcl FT n) (H := hcl FT n) 32 (.code (rowsD rows) nm tp (trysD trys) lv) ρ hρ trys ks (by omega)
  have i1 : (itr (ast (pcl FT n) (hcl FT n) 57) (scOf "targets") (tgR (.code (rowsD rows) nm tp (trysD trys) lv)) [.hs []] (forI (bs "targets" 1))).run =
      (rangeD (.int ((rows.map Row.D).length : Int))).bind fun ds => some (ds, [.hs []]) := by kernel_rfl
  have i1' : (itr (ast (pcl FT n) (hcl FT n) 57) (scOf "targets") (tgR (.code (rowsD rows) nm tp (trysD trys) lv)) [.hs []] (forI (bs "targets" 1))).run = some ((List.range rows.length).map fun (k : Nat) => D.int (k : Int), [.hs []]) := by
    rw [i1]
    unfold rangeD
    dsimp only
    rw [List.length_map, if_pos (by omega), Int.toNat_natCast]; rfl
  have i2 : (itr (ast (pcl FT n) (hcl FT n) 56) (scOf "targets") ρ [.hs ks] (forI (bs "targets" 2))).run = some (trys.map Try.D, [.hs ks]) := by
    rcases hρ with rfl | ⟨a, t, rfl⟩ <;> kernel_rfl
  refine ⟨ks', ?_, fun i => by rw [hc', hc]; unfold targetsOf Try.has; rfl⟩
  exact pcl_is (x := "targets") (ρ0 := [("code", .d (.code (rowsD rows) nm tp (trysD trys) lv))]) (ss := [bs "targets" 0, sFor (bs "targets" 1), sFor (bs "targets" 2), bs "targets" 3])
    (by kernel_rfl) (by kernel_rfl) (by kernel_rfl) (by kernel_rfl)
    (nx (ρ1 := tgR (.code (rowsD rows) nm tp (trysD trys) lv)) (η1 := [.hs []]) (by kernel_rfl) (nx (ex_for_ok i1' e1) (nx (ex_for_ok i2 e2) (by kernel_rfl))))
end Mine
end
section
namespace Mine
set_option tactic.hygienic false
open PySem

/-! ### threaded -/
noncomputable def ifE : Stmt → List Stmt
  | .If _ _ b _ => b
  | _ => []
noncomputable def ifB : Stmt → List Stmt
  | .If _ b _ _ => b
  | _ => []
noncomputable abbrev thR (c l ks : D) : Rho := [("code", .d c), ("led", .d l), ("known", .d ks), ("rows", .h 0), ("keep", .h 1)]
noncomputable abbrev thR1 (c l ks : D) (p : Nat) : Rho := rapp (thR c l ks) [("at", .d (natD p))]
noncomputable abbrev thR2 (c l ks : D) (p : Nat) (m : D) : Rho := rapp (thR c l ks) [("at", .d (natD p)), ("made", .d m)]
noncomputable def ThF (c l ks : D) (p : Nat) (ρ : Rho) : Prop := ρ = thR1 c l ks p ∨ ∃ m, ρ = thR2 c l ks p m
noncomputable abbrev thC (ds : List D) (nm tp ty lv : D) : D := .code (.lst ds) nm tp ty lv
noncomputable abbrev thS : Stmt := stAt (forB (bs "threaded" 4)) 0
section
variable {P : Str → List D → Option D} {H : Str → List VV → Eta → Option (D × Eta)}
theorem th_if (k : Nat) (c : D) (ds : List D) (nm tp ty lv ks : D) (p : Nat) (ρ : Rho) (hρ : ThF c (thC ds nm tp ty lv) ks p ρ) (η : Eta) :
    ((ast P H (k + 24)).ex (scOf "threaded") ρ η thS).run = match decide ((0 : Int) < Int.ofNat p) with
      | true => (P "turned" [.lst ds, .int (Int.ofNat p - 1), ks]).bind fun d => ((isWhat d .none).map fun b => !b).bind fun b => match b with
        | true => ((ast P H (k + 23)).exs (scOf "threaded") ρ η (ifB thS)).run
        | false => ((ast P H (k + 23)).exs (scOf "threaded") ρ η (ifE thS)).run
      | false => ((ast P H (k + 23)).exs (scOf "threaded") ρ η (ifE thS)).run := by
  rcases hρ with rfl | ⟨m, rfl⟩ <;> kernel_rfl
theorem th_B (k : Nat) (c : D) (ds : List D) (nm tp ty lv ks : D) (p : Nat) (ρ : Rho) (hρ : ThF c (thC ds nm tp ty lv) ks p ρ) (a b : List D) :
    ((ast P H (k + 23)).exs (scOf "threaded") ρ [.hl a, .hl b] (ifB thS)).run =
      ((ds[p]?).map VV.d).bind fun v => (frz v [.hl a, .hl b]).bind fun q => (methD "append" (.h 0) q.1 q.2).bind fun η => (isHl (.h 1) η).bind fun _ => (methD "append" (.h 1) (.bool false) η).bind fun η => some (out .next ρ η) := by
  rcases hρ with rfl | ⟨m, rfl⟩ <;> kernel_rfl
theorem th_E0 (k : Nat) (c : D) (ds : List D) (nm tp ty lv ks : D) (p : Nat) (ρ : Rho) (hρ : ThF c (thC ds nm tp ty lv) ks p ρ) (η : Eta) :
    ((ast P H (k + 20)).ex (scOf "threaded") ρ η (stAt (ifE thS) 0)).run = (P "turned" [.lst ds, natD p, ks]).bind fun d => some (out .next (thR2 c (thC ds nm tp ty lv) ks p d) η) := by
  rcases hρ with rfl | ⟨m, rfl⟩ <;> kernel_rfl
theorem th_E1n (k : Nat) (c : D) (ds : List D) (nm tp ty lv ks : D) (p : Nat) (a b : List D) :
    ((ast P H (k + 20)).ex (scOf "threaded") (thR2 c (thC ds nm tp ty lv) ks p .none) [.hl a, .hl b] (stAt (ifE thS) 1)).run =
      ((ds[p]?).map VV.d).bind fun v => (frz v [.hl a, .hl b]).bind fun q => (methD "append" (.h 0) q.1 q.2).bind fun η => some (out .next (thR2 c (thC ds nm tp ty lv) ks p .none) η) := by kernel_rfl
theorem th_E1s (k : Nat) (c : D) (ds : List D) (nm tp ty lv ks : D) (p : Nat) (a b l : List D) :
    ((ast P H (k + 20)).ex (scOf "threaded") (thR2 c (thC ds nm tp ty lv) ks p (.tup l)) [.hl a, .hl b] (stAt (ifE thS) 1)).run =
      (methD "append" (.h 0) (.tup l) [.hl a, .hl b]).bind fun η => some (out .next (thR2 c (thC ds nm tp ty lv) ks p (.tup l)) η) := by kernel_rfl
theorem th_E2 (k : Nat) (c l ks : D) (p : Nat) (m : D) (a b : List D) :
    ((ast P H (k + 20)).ex (scOf "threaded") (thR2 c l ks p m) [.hl a, .hl b] (stAt (ifE thS) 2)).run =
      ((a[p]?).map VV.d).bind fun v => match allPure [v, .d (natD p)] with
        | true => (pureArgs [v, .d (natD p)]).bind fun as => (P "is_idle" as).bind fun d => (truD d).bind fun t => (methD "append" (.h 1) (.bool (!t)) [.hl a, .hl b]).bind fun η => some (out .next (thR2 c l ks p m) η)
        | false => (H "is_idle" [v, .d (natD p)] [.hl a, .hl b]).bind fun r => (truD r.1).bind fun t => (methD "append" (.h 1) (.bool (!t)) r.2).bind fun η => some (out .next (thR2 c l ks p m) η) := by kernel_rfl

noncomputable def turnedD (rows : List Row) (known : Nat → Bool) (p : Nat) : D := match turnedRow rows known p with
  | some r => r.D
  | none => .none
theorem isNone_row (rows : List Row) (known : Nat → Bool) (p : Nat) : (isWhat (turnedD rows known p) .none).map (fun b => !b) = some (turnedRow rows known p).isSome := by
  unfold turnedD
  cases turnedRow rows known p with
  | none => rfl
  | some r => cases r <;> rfl

theorem th_turn (k : Nat) (c : D) (rows : List Row) (nm tp ty lv : D) (kk : List Int) (known : Nat → Bool) (p : Nat) (hp : p < rows.length) (ρ : Rho) (hρ : ThF c (thC (rows.map Row.D) nm tp ty lv) (.set kk) p ρ) (acc : List Row) (keeps : List Bool)
    (ha : acc.length = p) (hl : rows.length ≤ 900) (hkl : keeps.length = p)
    (h1 : ∀ p, p < rows.length → P "turned" [.lst (rows.map Row.D), natD p, .set kk] = some (turnedD rows known p)) (h2 : ∀ (r : Row) p, P "is_idle" [r.D, natD p] = some (.bool (r.isIdle p))) (r : Row) (hr : rows[p]? = some r) :
    ∃ ρ', ((ast P H (k + 25)).exs (scOf "threaded") ρ [.hl (acc.map Row.D), .hl (keeps.map .bool)] (forB (bs "threaded" 4))).run =
      some (out .next ρ' [.hl ((acc ++ [newRow rows known p r]).map Row.D), .hl ((keeps ++ [keepRow rows known p r]).map .bool)]) ∧ ThF c (thC (rows.map Row.D) nm tp ty lv) (.set kk) p ρ' := by
  have e0 : (rows.map Row.D)[p]? = some r.D := by rw [List.getElem?_map, hr]; rfl
  have hb : forB (bs "threaded" 4) = [thS] := by kernel_rfl
  have hE : ifE thS = [stAt (ifE thS) 0, stAt (ifE thS) 1, stAt (ifE thS) 2] := by kernel_rfl
  have la : (acc.map Row.D).length ≤ 1000 := by rw [List.length_map]; omega
  have lk : (keeps.map D.bool).length ≤ 1000 := by rw [List.length_map]; omega
  have ov : over rows known p = (match decide ((0 : Int) < Int.ofNat p) with | true => (turnedRow rows known (p - 1)).isSome | false => false) := by
    induction p with
    | zero => rfl
    | succ q =>
      have : decide ((0 : Int) < Int.ofNat (q + 1)) = true := by rw [decide_eq_true_iff]; exact Int.natCast_pos.mpr (Nat.succ_pos q)
      rw [this]; rfl
  have fE : over rows known p = false → ∃ ρ', ((ast P H (k + 23)).exs (scOf "threaded") ρ [.hl (acc.map Row.D), .hl (keeps.map .bool)] (ifE thS)).run =
      some (out .next ρ' [.hl ((acc ++ [newRow rows known p r]).map Row.D), .hl ((keeps ++ [keepRow rows known p r]).map .bool)]) ∧ ThF c (thC (rows.map Row.D) nm tp ty lv) (.set kk) p ρ' := by
    intro ho
    refine ⟨thR2 c (thC (rows.map Row.D) nm tp ty lv) (.set kk) p (turnedD rows known p), ?_, .inr ⟨_, rfl⟩⟩
    rw [hE]
    have s0 := th_E0 (P := P) (H := H) (k + 2) c (rows.map Row.D) nm tp ty lv (.set kk) p ρ hρ [.hl (acc.map Row.D), .hl (keeps.map .bool)]
    rw [h1 p hp] at s0
    have nw : newRow rows known p r = (turnedRow rows known p).getD r := by unfold newRow; rw [ho]; rfl
    have s1 : ((ast P H (k + 21)).ex (scOf "threaded") (thR2 c (thC (rows.map Row.D) nm tp ty lv) (.set kk) p (turnedD rows known p)) [.hl (acc.map Row.D), .hl (keeps.map .bool)] (stAt (ifE thS) 1)).run =
        some (out .next (thR2 c (thC (rows.map Row.D) nm tp ty lv) (.set kk) p (turnedD rows known p)) [.hl ((acc ++ [newRow rows known p r]).map Row.D), .hl (keeps.map .bool)]) := by
      rw [nw]
      unfold turnedD
      induction hq : turnedRow rows known p with
      | none =>
        have := th_E1n (P := P) (H := H) (k + 1) c (rows.map Row.D) nm tp ty lv (.set kk) p (acc.map Row.D) (keeps.map .bool)
        rw [e0] at this
        refine this.trans ?_
        show (methD "append" (.h 0) r.D [.hl (acc.map Row.D), .hl (keeps.map .bool)]).bind _ = _
        rw [append_run rfl la, Option.bind_some, List.map_append]
        rfl
      | some r' =>
        obtain ⟨o1, b1, a1, t1, e, _⟩ := r'.D_tup
        have := th_E1s (P := P) (H := H) (k + 1) c (rows.map Row.D) nm tp ty lv (.set kk) p (acc.map Row.D) (keeps.map .bool) [o1, b1, a1, t1]
        rw [← e, append_run rfl la, Option.bind_some] at this
        refine this.trans ?_
        rw [List.map_append]
        rfl
    have s2 := th_E2 (P := P) (H := H) k c (thC (rows.map Row.D) nm tp ty lv) (.set kk) p (turnedD rows known p) ((acc ++ [newRow rows known p r]).map Row.D) (keeps.map .bool)
    have e1 : ((acc ++ [newRow rows known p r]).map Row.D)[p]? = some (newRow rows known p r).D := by
      rw [List.getElem?_map, List.getElem?_append_right (by omega), ha, Nat.sub_self]; rfl
    rw [e1] at s2
    have kr : keepRow rows known p r = !(newRow rows known p r).isIdle p := by unfold keepRow; rw [ho]; rfl
    refine (exs_next s0).trans ((exs_next s1).trans ((exs_next (s2.trans ?_)).trans exs_nil))
    show ((P "is_idle" [(newRow rows known p r).D, natD p]).bind _) = _
    rw [h2, Option.bind_some]
    show (methD "append" (.h 1) (.bool (!(newRow rows known p r).isIdle p)) [.hl ((acc ++ [newRow rows known p r]).map Row.D), .hl (keeps.map .bool)]).bind _ = _
    rw [append_run rfl lk, Option.bind_some, kr, List.map_append (l₁ := keeps)]
    rfl
  have hi := th_if (P := P) (H := H) k c (rows.map Row.D) nm tp ty lv (.set kk) p ρ hρ [.hl (acc.map Row.D), .hl (keeps.map .bool)]
  rw [hb]
  induction hd : decide ((0 : Int) < Int.ofNat p) with
  | false =>
    rw [hd] at hi ov
    obtain ⟨ρ', e, hρ'⟩ := fE ov
    exact ⟨ρ', (exs_next (hi.trans e)).trans exs_nil, hρ'⟩
  | true =>
    rw [hd] at hi ov
    have hp0 : 0 < p := by have := of_decide_eq_true hd; exact Int.natCast_pos.mp this
    have ep : Int.ofNat p - 1 = Int.ofNat (p - 1) := by
      show (p : Int) - 1 = ((p - 1 : Nat) : Int)
      omega
    rw [ep] at hi
    have hi2 := hi
    rw [show D.int (Int.ofNat (p - 1)) = natD (p - 1) from rfl, h1 (p - 1) (by omega)] at hi2
    simp only [Option.bind_some, isNone_row] at hi2
    dsimp only at ov
    induction hq : (turnedRow rows known (p - 1)).isSome with
    | false =>
      rw [hq] at hi2 ov
      obtain ⟨ρ', e, hρ'⟩ := fE ov
      exact ⟨ρ', (exs_next (hi2.trans e)).trans exs_nil, hρ'⟩
    | true =>
      rw [hq] at hi2 ov
      have hB := th_B (P := P) (H := H) k c (rows.map Row.D) nm tp ty lv (.set kk) p ρ hρ (acc.map Row.D) (keeps.map .bool)
      rw [e0] at hB
      refine ⟨ρ, (exs_next (hi2.trans (hB.trans ?_))).trans exs_nil, hρ⟩
      show (methD "append" (.h 0) r.D [.hl (acc.map Row.D), .hl (keeps.map .bool)]).bind _ = _
      rw [append_run rfl la, Option.bind_some]
      show (methD "append" (.h 1) (.bool false) [.hl (acc.map Row.D ++ [r.D]), .hl (keeps.map .bool)]).bind _ = _
      rw [append_run rfl lk, Option.bind_some]
      have n1 : newRow rows known p r = r := by unfold newRow; rw [ov]; rfl
      have n2 : keepRow rows known p r = false := by unfold keepRow; rw [ov]; rfl
      rw [n1, n2, List.map_append, List.map_append]
      rfl
end
end Mine
end
section
namespace Mine
set_option tactic.hygienic false
open PySem
section
variable {P : Str → List D → Option D} {H : Str → List VV → Eta → Option (D × Eta)}
noncomputable def newRows (rows : List Row) (known : Nat → Bool) : List Row := rows.mapIdx (newRow rows known)
noncomputable def keepRows (rows : List Row) (known : Nat → Bool) : List Bool := rows.mapIdx (keepRow rows known)
theorem th_loop (k : Nat) (c : D) (rows : List Row) (nm tp ty lv : D) (kk : List Int) (known : Nat → Bool) (hl : rows.length ≤ 900)
    (h1 : ∀ p, p < rows.length → P "turned" [.lst (rows.map Row.D), natD p, .set kk] = some (turnedD rows known p)) (h2 : ∀ (r : Row) p, P "is_idle" [r.D, natD p] = some (.bool (r.isIdle p))) :
    ∃ fl ρ η, (forGo (ast P H (k + 25)) (scOf "threaded") (forT (bs "threaded" 4)) (forB (bs "threaded" 4)) (thR c (thC (rows.map Row.D) nm tp ty lv) (.set kk)) [.hl [], .hl []] ((List.range rows.length).map fun (k : Nat) => D.int (k : Int))).run = some (out fl ρ η) ∧
      (fl = .next ∧ η = [.hl ((newRows rows known).map Row.D), .hl ((keepRows rows known).map .bool)] ∧ ∃ tl, ρ = rapp (thR c (thC (rows.map Row.D) nm tp ty lv) (.set kk)) tl) := by
  refine forGo_inv (fun ds ρ η => ∃ p, p ≤ rows.length ∧ ds = ((List.range rows.length).map fun (k : Nat) => D.int (k : Int)).drop p ∧ η = [.hl (((newRows rows known).take p).map Row.D), .hl (((keepRows rows known).take p).map .bool)] ∧
      (ρ = thR c (thC (rows.map Row.D) nm tp ty lv) (.set kk) ∨ ∃ q, ThF c (thC (rows.map Row.D) nm tp ty lv) (.set kk) q ρ)) _ ?_ ?_ _ _ _ ⟨0, Nat.zero_le _, rfl, rfl, .inl rfl⟩
  · rintro d ds ρ η ⟨p, hp, hd, rfl, hρ⟩
    have hlt : p < rows.length := by
      rcases Nat.lt_or_ge p rows.length with h | h
      · exact h
      · rw [List.drop_of_length_le (by simpa using h)] at hd; cases hd
    rw [List.drop_eq_getElem_cons (by simpa using hlt)] at hd
    simp only [List.getElem_map, List.getElem_range, List.cons.injEq] at hd
    obtain ⟨rfl, rfl⟩ := hd
    obtain ⟨r, hr⟩ : ∃ r, rows[p]? = some r := ⟨_, List.getElem?_eq_getElem hlt⟩
    have hb : ∃ ρ1, bindT (scOf "threaded") ρ (forT (bs "threaded" 4)) (.d (natD p)) = some ρ1 ∧ ThF c (thC (rows.map Row.D) nm tp ty lv) (.set kk) p ρ1 := by
      rcases hρ with rfl | ⟨q, rfl | ⟨m, rfl⟩⟩
      · exact ⟨_, by kernel_rfl, .inl rfl⟩
      · exact ⟨thR1 c (thC (rows.map Row.D) nm tp ty lv) (.set kk) p, by kernel_rfl, .inl rfl⟩
      · exact ⟨thR2 c (thC (rows.map Row.D) nm tp ty lv) (.set kk) p m, by kernel_rfl, .inr ⟨m, rfl⟩⟩
    obtain ⟨ρ1, hb1, hb2⟩ := hb
    have n1 : (newRows rows known)[p]? = some (newRow rows known p r) := by unfold newRows; rw [List.getElem?_mapIdx, hr]; rfl
    have n2 : (keepRows rows known)[p]? = some (keepRow rows known p r) := by unfold keepRows; rw [List.getElem?_mapIdx, hr]; rfl
    have l1 : ((newRows rows known).take p).length = p := by rw [List.length_take]; unfold newRows; rw [List.length_mapIdx]; omega
    have l2 : ((keepRows rows known).take p).length = p := by rw [List.length_take]; unfold keepRows; rw [List.length_mapIdx]; omega
    obtain ⟨ρ', e, h'⟩ := th_turn (P := P) (H := H) k c rows nm tp ty lv kk known p hlt ρ1 hb2 _ _ l1 hl l2 h1 h2 r hr
    refine ⟨ρ1, _, _, _, hb1, e, p + 1, hlt, rfl, ?_, .inr ⟨p, h'⟩⟩
    rw [List.take_add_one, List.take_add_one, n1, n2]
    rfl
  · rintro ρ η ⟨p, hp, hd, rfl, hρ⟩
    have : p = rows.length := by
      have := congrArg List.length hd
      rw [List.length_drop, List.length_map, List.length_range] at this
      simp at this
      omega
    subst this
    rw [List.take_of_length_le (by unfold newRows; rw [List.length_mapIdx]; exact Nat.le_refl _), List.take_of_length_le (by unfold keepRows; rw [List.length_mapIdx]; exact Nat.le_refl _)]
    refine ⟨rfl, rfl, ?_⟩
    rcases hρ with rfl | ⟨q, rfl | ⟨m, rfl⟩⟩
    · exact ⟨[], rfl⟩
    · exact ⟨[("at", .d (natD q))], rfl⟩
    · exact ⟨[("at", .d (natD q)), ("made", .d m)], rfl⟩
end

theorem range_itr (n : Nat) (hn : n ≤ 1000) : rangeD (.int (n : Int)) = some ((List.range n).map fun (k : Nat) => D.int (k : Int)) := by
  unfold rangeD
  dsimp only
  rw [if_pos (by omega), Int.toNat_natCast]

theorem threaded_spec (n : Nat) (rows : List Row) (trys : List Try) (nm tp lv d : D) (hl : rows.length + 3 * trys.length ≤ 900)
    (h1 : pcl FT n "led_on" [.code (rowsD rows) nm tp (trysD trys) lv] = some (.code (rowsD (ledOn rows)) nm tp (trysD trys) lv))
    (h2 : ∃ ks, pcl FT n "targets" [.code (rowsD (ledOn rows)) nm tp (trysD trys) lv] = some (.set ks) ∧ ∀ i : Nat, ks.contains (Int.ofNat i) = targetsOf (ledOn rows) trys i)
    (h3 : ∀ p ks, (∀ i : Nat, ks.contains (Int.ofNat i) = targetsOf (ledOn rows) trys i) → p < (ledOn rows).length → pcl FT n "turned" [rowsD (ledOn rows), natD p, .set ks] = some (turnedD (ledOn rows) (targetsOf (ledOn rows) trys) p))
    (h4 : ∀ (r : Row) p, pcl FT n "is_idle" [r.D, natD p] = some (.bool (r.isIdle p)))
    (h5 : ∃ η, hcl FT n "kept" [.d (.code (rowsD (newRows (ledOn rows) (targetsOf (ledOn rows) trys))) nm tp (trysD trys) lv), .h 1] [.fz (rowsD (newRows (ledOn rows) (targetsOf (ledOn rows) trys))), .hl ((keepRows (ledOn rows) (targetsOf (ledOn rows) trys)).map .bool)] = some (d, η)) :
    pcl FT (n + 1) "threaded" [.code (rowsD rows) nm tp (trysD trys) lv] = some d := by
  obtain ⟨ks, h2, hk⟩ := h2
  obtain ⟨η5, h5⟩ := h5
  have ll : (ledOn rows).length = rows.length := by unfold ledOn; rw [List.length_map]
  obtain ⟨fl, ρ, η, e1, rfl, rfl, tl, rfl⟩ := th_loop (P := pcl FT n) (H := hcl FT n) 29 (.code (rowsD rows) nm tp (trysD trys) lv) (ledOn rows) nm tp (trysD trys) lv ks (targetsOf (ledOn rows) trys) (by omega) (fun p hp => h3 p ks hk hp) h4
  have i1 : (itr (ast (pcl FT n) (hcl FT n) 54) (scOf "threaded") (thR (.code (rowsD rows) nm tp (trysD trys) lv) (thC ((ledOn rows).map Row.D) nm tp (trysD trys) lv) (.set ks)) [.hl [], .hl []] (forI (bs "threaded" 4))).run =
      (rangeD (.int (((ledOn rows).map Row.D).length : Int))).bind fun ds => some (ds, [.hl [], .hl []]) := by kernel_rfl
  rw [List.length_map, range_itr _ (by omega)] at i1
  have s0 : ((ast (pcl FT n) (hcl FT n) 59).ex (scOf "threaded") [("code", .d (.code (rowsD rows) nm tp (trysD trys) lv))] [] (bs "threaded" 0)).run =
      (pcl FT n "led_on" [.code (rowsD rows) nm tp (trysD trys) lv]).bind fun d => some (out .next [("code", .d (.code (rowsD rows) nm tp (trysD trys) lv)), ("led", .d d)] []) := by kernel_rfl
  rw [h1] at s0
  have s1 : ((ast (pcl FT n) (hcl FT n) 58).ex (scOf "threaded") [("code", .d (.code (rowsD rows) nm tp (trysD trys) lv)), ("led", .d (.code (rowsD (ledOn rows)) nm tp (trysD trys) lv))] [] (bs "threaded" 1)).run =
      (pcl FT n "targets" [.code (rowsD (ledOn rows)) nm tp (trysD trys) lv]).bind fun d => some (out .next [("code", .d (.code (rowsD rows) nm tp (trysD trys) lv)), ("led", .d (.code (rowsD (ledOn rows)) nm tp (trysD trys) lv)), ("known", .d d)] []) := by kernel_rfl
  rw [h2] at s1
  have s5 : ((ast (pcl FT n) (hcl FT n) 54).ex (scOf "threaded") (rapp (thR (.code (rowsD rows) nm tp (trysD trys) lv) (thC ((ledOn rows).map Row.D) nm tp (trysD trys) lv) (.set ks)) tl)
      [.hl ((newRows (ledOn rows) (targetsOf (ledOn rows) trys)).map Row.D), .hl ((keepRows (ledOn rows) (targetsOf (ledOn rows) trys)).map .bool)] (bs "threaded" 5)).run =
      (hcl FT n "kept" [.d (.code (rowsD (newRows (ledOn rows) (targetsOf (ledOn rows) trys))) nm tp (trysD trys) lv), .h 1] [.fz (rowsD (newRows (ledOn rows) (targetsOf (ledOn rows) trys))), .hl ((keepRows (ledOn rows) (targetsOf (ledOn rows) trys)).map .bool)]).bind
        fun r => some (out (.ret (.d r.1)) (rapp (thR (.code (rowsD rows) nm tp (trysD trys) lv) (thC ((ledOn rows).map Row.D) nm tp (trysD trys) lv) (.set ks)) tl) r.2) := by kernel_rfl
  rw [h5] at s5
  exact pcl_is (x := "threaded") (ρ0 := [("code", .d (.code (rowsD rows) nm tp (trysD trys) lv))]) (ss := [bs "threaded" 0, bs "threaded" 1, bs "threaded" 2, bs "threaded" 3, sFor (bs "threaded" 4), bs "threaded" 5])
    (by kernel_rfl) (by kernel_rfl) (by kernel_rfl) (by kernel_rfl)
    (nx s0 (nx s1 (nx (ρ1 := [("code", .d (.code (rowsD rows) nm tp (trysD trys) lv)), ("led", .d (.code (rowsD (ledOn rows)) nm tp (trysD trys) lv)), ("known", .d (.set ks)), ("rows", .h 0)]) (η1 := [.hl []]) (by kernel_rfl)
      (nx (ρ1 := thR (.code (rowsD rows) nm tp (trysD trys) lv) (thC ((ledOn rows).map Row.D) nm tp (trysD trys) lv) (.set ks)) (η1 := [.hl [], .hl []]) (by kernel_rfl) (nx (ex_for_ok i1 e1) (nret s5 rfl))))))
end Mine
end
section
namespace Mine
set_option tactic.hygienic false
open PySem

/-! ### kept -/
noncomputable abbrev kpR (c : D) : Rho := [("code", .d c), ("keep", .h 1), ("numbers", .h 2), ("rows", .h 3)]
noncomputable def K1 (c : D) (ρ : Rho) : Prop := ρ = kpR c ∨ ∃ a, ρ = rapp (kpR c) [("at", .d a)]
noncomputable def K2 (c : D) (ρ : Rho) : Prop := ∃ ρ1, K1 c ρ1 ∧ ρ = rapp ρ1 [("made", .h 4)]
noncomputable def K3 (c : D) (ρ : Rho) : Prop := ∃ ρ1, K2 c ρ1 ∧ (ρ = ρ1 ∨ ∃ r t, ρ = rapp ρ1 [("row", .d r), ("target", .d t)])
noncomputable def K4 (c : D) (ρ : Rho) : Prop := ∃ ρ1, K3 c ρ1 ∧ ρ = rapp ρ1 [("trys", .h 5)]
noncomputable def K5 (c : D) (ρ : Rho) : Prop := ∃ ρ1, K4 c ρ1 ∧ (ρ = ρ1 ∨ ∃ p, ρ = rapp ρ1 [("places", .d p)])
noncomputable def K6 (c : D) (ρ : Rho) : Prop := ∃ ρ1, K5 c ρ1 ∧ ρ = rapp ρ1 [("lives", .h 6)]
noncomputable abbrev kS (i : Nat) : Stmt := bs "kept" i
noncomputable abbrev kSb (i j : Nat) : Stmt := stAt (forB (kS i)) j
section
variable {P : Str → List D → Option D} {H : Str → List VV → Eta → Option (D × Eta)}
theorem kp_10 (k : Nat) (c : D) (a : D) (x0 : HO) (kd ns rs : List D) :
    ((ast P H (k + 20)).ex (scOf "kept") (rapp (kpR c) [("at", .d a)]) [x0, .hl kd, .hl ns, .hl rs] (kSb 2 0)).run =
      (methD "append" (.h 2) (.int (rs.length : Int)) [x0, .hl kd, .hl ns, .hl rs]).bind fun η => some (out .next (rapp (kpR c) [("at", .d a)]) η) := by kernel_rfl
theorem kp_11 (k : Nat) (c : D) (p : Nat) (x0 : HO) (kd ns rs : List D) :
    ((ast P H (k + 20)).ex (scOf "kept") (rapp (kpR c) [("at", .d (natD p))]) [x0, .hl kd, .hl ns, .hl rs] (kSb 2 1)).run =
      ((kd[p]?).map VV.d).bind fun v => (frz v [x0, .hl kd, .hl ns, .hl rs]).bind fun q => (truD q.1).bind fun b => match b with
        | true => ((ast P H (k + 19)).exs (scOf "kept") (rapp (kpR c) [("at", .d (natD p))]) q.2 (ifB (kSb 2 1))).run
        | false => some (out .next (rapp (kpR c) [("at", .d (natD p))]) q.2) := by kernel_rfl
theorem kp_11b (k : Nat) (ds : List D) (nm tp ty lv : D) (p : Nat) (x0 : HO) (kd ns rs : List D) :
    ((ast P H (k + 19)).exs (scOf "kept") (rapp (kpR (.code (.lst ds) nm tp ty lv)) [("at", .d (natD p))]) [x0, .hl kd, .hl ns, .hl rs] (ifB (kSb 2 1))).run =
      ((ds[p]?).map VV.d).bind fun v => (frz v [x0, .hl kd, .hl ns, .hl rs]).bind fun q => (methD "append" (.h 3) q.1 q.2).bind fun η => some (out .next (rapp (kpR (.code (.lst ds) nm tp ty lv)) [("at", .d (natD p))]) η) := by kernel_rfl
theorem kp_3 (k : Nat) (c : D) (ρ : Rho) (hρ : K1 c ρ) (x0 : HO) (kd ns rs : List D) :
    ((ast P H (k + 20)).ex (scOf "kept") ρ [x0, .hl kd, .hl ns, .hl rs] (kS 3)).run = (methD "append" (.h 2) (.int (rs.length : Int)) [x0, .hl kd, .hl ns, .hl rs]).bind fun η => some (out .next ρ η) := by
  rcases hρ with rfl | ⟨a, rfl⟩ <;> kernel_rfl
theorem kp_4 (k : Nat) (c : D) (ρ : Rho) (hρ : K1 c ρ) (x0 x1 x2 x3 : HO) :
    ((ast P H (k + 20)).ex (scOf "kept") ρ [x0, x1, x2, x3] (kS 4)).run = some (out .next (rapp ρ [("made", .h 4)]) [x0, x1, x2, x3, .hl []]) := by
  rcases hρ with rfl | ⟨a, rfl⟩ <;> kernel_rfl
/-- the second loop -/
theorem kp_5i (k : Nat) (c : D) (ρ : Rho) (hρ : K2 c ρ) (x0 x1 x2 x4 : HO) (rs : List D) :
    (itr (ast P H (k + 20)) (scOf "kept") ρ [x0, x1, x2, .hl rs, x4] (forI (kS 5))).run = some (rs, [x0, x1, x2, .fz (.lst rs), x4]) := by
  obtain ⟨ρ1, rfl | ⟨a, rfl⟩, rfl⟩ := hρ <;> kernel_rfl
theorem kp_5b (c : D) (ρ ρ1 : Rho) (hρ : K2 c ρ1) (h : ρ = ρ1 ∨ ∃ r t, ρ = rapp ρ1 [("row", .d r), ("target", .d t)]) (r : D) :
    ∃ ρ2, bindT (scOf "kept") ρ (forT (kS 5)) (.d r) = some ρ2 ∧ (ρ2 = rapp ρ1 [("row", .d r)] ∨ ∃ t, ρ2 = rapp ρ1 [("row", .d r), ("target", .d t)]) := by
  rcases h with rfl | ⟨r', t, rfl⟩
  · refine ⟨rapp ρ [("row", .d r)], ?_, .inl rfl⟩
    obtain ⟨ρ1, rfl | ⟨a, rfl⟩, rfl⟩ := hρ <;> kernel_rfl
  · refine ⟨rapp ρ1 [("row", .d r), ("target", .d t)], ?_, .inr ⟨t, rfl⟩⟩
    obtain ⟨ρ1, rfl | ⟨a, rfl⟩, rfl⟩ := hρ <;> kernel_rfl
theorem kp_50 (k : Nat) (c : D) (ρ ρ1 : Rho) (hρ : K2 c ρ1) (r : D) (h : ρ = rapp ρ1 [("row", .d r)] ∨ ∃ t, ρ = rapp ρ1 [("row", .d r), ("target", .d t)]) (η : Eta) :
    ((ast P H (k + 20)).ex (scOf "kept") ρ η (kSb 5 0)).run = (P "target_of" [r]).bind fun d => some (out .next (rapp ρ1 [("row", .d r), ("target", .d d)]) η) := by
  rcases h with rfl | ⟨t, rfl⟩
  · obtain ⟨ρ1, rfl | ⟨a, rfl⟩, rfl⟩ := hρ <;> kernel_rfl
  · obtain ⟨ρ1, rfl | ⟨a, rfl⟩, rfl⟩ := hρ <;> kernel_rfl
theorem kp_51n (k : Nat) (c : D) (ρ1 : Rho) (hρ : K2 c ρ1) (r : D) (x0 x1 x2 x3 : HO) (ms : List D) :
    ((ast P H (k + 20)).ex (scOf "kept") (rapp ρ1 [("row", .d r), ("target", .d .none)]) [x0, x1, x2, x3, .hl ms] (kSb 5 1)).run =
      (methD "append" (.h 4) r [x0, x1, x2, x3, .hl ms]).bind fun η => some (out .next (rapp ρ1 [("row", .d r), ("target", .d .none)]) η) := by
  obtain ⟨ρ1, rfl | ⟨a, rfl⟩, rfl⟩ := hρ <;> kernel_rfl
theorem kp_51s (k : Nat) (c : D) (ρ1 : Rho) (hρ : K2 c ρ1) (r : D) (u : Nat) (x0 x1 x3 : HO) (ns ms : List D) :
    ((ast P H (k + 20)).ex (scOf "kept") (rapp ρ1 [("row", .d r), ("target", .d (natD u))]) [x0, x1, .hl ns, x3, .hl ms] (kSb 5 1)).run =
      ((ns[u]?).map VV.d).bind fun v => match allPure [.d r, v] with
        | true => (pureArgs [.d r, v]).bind fun as => (P "with_target" as).bind fun d => (methD "append" (.h 4) d [x0, x1, .hl ns, x3, .hl ms]).bind fun η => some (out .next (rapp ρ1 [("row", .d r), ("target", .d (natD u))]) η)
        | false => (H "with_target" [.d r, v] [x0, x1, .hl ns, x3, .hl ms]).bind fun q => (methD "append" (.h 4) q.1 q.2).bind fun η => some (out .next (rapp ρ1 [("row", .d r), ("target", .d (natD u))]) η) := by
  obtain ⟨ρ1, rfl | ⟨a, rfl⟩, rfl⟩ := hρ <;> kernel_rfl
theorem kp_6 (k : Nat) (c : D) (ρ : Rho) (hρ : K3 c ρ) (x0 x1 x2 x3 x4 : HO) :
    ((ast P H (k + 20)).ex (scOf "kept") ρ [x0, x1, x2, x3, x4] (kS 6)).run = some (out .next (rapp ρ [("trys", .h 5)]) [x0, x1, x2, x3, x4, .hl []]) := by
  obtain ⟨_, ⟨ρ1, rfl | ⟨a, rfl⟩, rfl⟩, rfl | ⟨r, t, rfl⟩⟩ := hρ <;> kernel_rfl
theorem kp_7i (k : Nat) (r nm tp lv : D) (ds : List D) (ρ : Rho) (hρ : K4 (.code r nm tp (.lst ds) lv) ρ) (η : Eta) :
    (itr (ast P H (k + 20)) (scOf "kept") ρ η (forI (kS 7))).run = some (ds, η) := by
  obtain ⟨_, ⟨_, ⟨ρ1, rfl | ⟨a, rfl⟩, rfl⟩, rfl | ⟨r, t, rfl⟩⟩, rfl⟩ := hρ <;> kernel_rfl
theorem kp_7b (c : D) (ρ ρ1 : Rho) (hρ : K4 c ρ1) (h : ρ = ρ1 ∨ ∃ p, ρ = rapp ρ1 [("places", .d p)]) (r : D) :
    bindT (scOf "kept") ρ (forT (kS 7)) (.d r) = some (rapp ρ1 [("places", .d r)]) := by
  rcases h with rfl | ⟨p, rfl⟩
  · obtain ⟨_, ⟨_, ⟨ρ1, rfl | ⟨a, rfl⟩, rfl⟩, rfl | ⟨r, t, rfl⟩⟩, rfl⟩ := hρ <;> kernel_rfl
  · obtain ⟨_, ⟨_, ⟨ρ1, rfl | ⟨a, rfl⟩, rfl⟩, rfl | ⟨r, t, rfl⟩⟩, rfl⟩ := hρ <;> kernel_rfl
theorem kp_70 (k : Nat) (c : D) (ρ1 : Rho) (hρ : K4 c ρ1) (y : Try) (x0 x1 x3 x4 : HO) (ns ts : List D) :
    ((ast P H (k + 20)).ex (scOf "kept") (rapp ρ1 [("places", .d y.D)]) [x0, x1, .hl ns, x3, x4, .hl ts] (kSb 7 0)).run =
      (H "moved" [.h 2, .d (natD y.first)] [x0, x1, .hl ns, x3, x4, .hl ts]).bind fun a => (H "moved" [.h 2, .d (natD y.catch_)] a.2).bind fun b => (H "moved" [.h 2, .d .none] b.2).bind fun c => (H "moved" [.h 2, .d (natD y.stop)] c.2).bind fun d =>
        (methD "append" (.h 5) (.tup [a.1, b.1, c.1, d.1, .none]) d.2).bind fun η => some (out .next (rapp ρ1 [("places", .d y.D)]) η) := by
  obtain ⟨_, ⟨_, ⟨ρ1, rfl | ⟨a, rfl⟩, rfl⟩, rfl | ⟨r, t, rfl⟩⟩, rfl⟩ := hρ <;> kernel_rfl
theorem kp_8 (k : Nat) (c : D) (ρ : Rho) (hρ : K5 c ρ) (x0 x1 x2 x3 x4 x5 : HO) :
    ((ast P H (k + 20)).ex (scOf "kept") ρ [x0, x1, x2, x3, x4, x5] (kS 8)).run = some (out .next (rapp ρ [("lives", .h 6)]) [x0, x1, x2, x3, x4, x5, .hl []]) := by
  obtain ⟨_, ⟨_, ⟨_, ⟨ρ1, rfl | ⟨a, rfl⟩, rfl⟩, rfl | ⟨r, t, rfl⟩⟩, rfl⟩, rfl | ⟨p, rfl⟩⟩ := hρ <;> kernel_rfl
theorem kp_9 (k : Nat) (r nm tp ty : D) (ρ : Rho) (hρ : K6 (.code r nm tp ty (.lst [])) ρ) (η : Eta) :
    ((ast P H (k + 20)).ex (scOf "kept") ρ η (kS 9)).run = some (out .next ρ η) := by
  obtain ⟨_, ⟨_, ⟨_, ⟨_, ⟨ρ1, rfl | ⟨a, rfl⟩, rfl⟩, rfl | ⟨r, t, rfl⟩⟩, rfl⟩, rfl | ⟨p, rfl⟩⟩, rfl⟩ := hρ <;> kernel_rfl
theorem kp_A (k : Nat) (r nm tp ty lv : D) (ρ : Rho) (hρ : K6 (.code r nm tp ty lv) ρ) (x0 x1 x2 x3 : HO) (ms ts : List D) :
    ((ast P H (k + 20)).ex (scOf "kept") ρ [x0, x1, x2, x3, .hl ms, .hl ts, .hl []] (kS 10)).run = some (out (.ret (.d (.code (.lst ms) nm tp (.lst ts) (.lst [])))) ρ [x0, x1, x2, x3, .fz (.lst ms), .fz (.lst ts), .fz (.lst [])]) := by
  obtain ⟨_, ⟨_, ⟨_, ⟨_, ⟨ρ1, rfl | ⟨a, rfl⟩, rfl⟩, rfl | ⟨r, t, rfl⟩⟩, rfl⟩, rfl | ⟨p, rfl⟩⟩, rfl⟩ := hρ <;> kernel_rfl
end
end Mine
end
section
namespace Mine
set_option tactic.hygienic false
open PySem

theorem pick_snoc : ∀ {l : List Row} {ks : List Bool} (r : Row) (b : Bool), l.length = ks.length → pick (l ++ [r]) (ks ++ [b]) = pick l ks ++ (if b then [r] else [])
  | [], [], r, b, _ => by cases b <;> rfl
  | [], _ :: _, _, _, h => by cases h
  | _ :: _, [], _, _, h => by cases h
  | x :: l, true :: ks, r, b, h => by
    have := pick_snoc (l := l) (ks := ks) r b (by simpa using h)
    simp only [List.cons_append, pick, this]
  | x :: l, false :: ks, r, b, h => by
    have := pick_snoc (l := l) (ks := ks) r b (by simpa using h)
    simp only [List.cons_append, pick, this]
theorem pick_length : ∀ {l : List Row} {ks : List Bool}, l.length = ks.length → (pick l ks).length = ks.countP id
  | [], [], _ => rfl
  | [], _ :: _, h => by cases h
  | _ :: _, [], h => by cases h
  | x :: l, true :: ks, h => by
    have := pick_length (l := l) (ks := ks) (by simpa using h)
    simp [pick, this]
  | x :: l, false :: ks, h => by
    have := pick_length (l := l) (ks := ks) (by simpa using h)
    simp [pick, this]
theorem pick_mem : ∀ {l : List Row} {ks : List Bool} {r : Row}, r ∈ pick l ks → r ∈ l
  | [], [], _, h => by cases h
  | [], _ :: _, _, h => by cases h
  | _ :: _, [], _, h => by cases h
  | x :: l, true :: ks, r, h => by
    rw [pick] at h
    rcases List.mem_cons.mp h with rfl | h
    · exact .head _
    · exact .tail _ (pick_mem h)
  | x :: l, false :: ks, r, h => by
    rw [pick] at h
    exact .tail _ (pick_mem h)
theorem numOf_le (keep : List Bool) (p : Nat) : numOf keep p ≤ keep.length := by
  unfold numOf
  exact Nat.le_trans List.countP_le_length (by rw [List.length_take]; omega)

noncomputable abbrev numsD (keep : List Bool) (m : Nat) : List D := (List.range m).map fun p => natD (numOf keep p)
section
variable {P : Str → List D → Option D} {H : Str → List VV → Eta → Option (D × Eta)}
theorem kp_loop1 (k : Nat) (rows : List Row) (keep : List Bool) (nm tp ty lv : D) (x0 : HO) (hk : keep.length = rows.length) (hl : rows.length ≤ 900) :
    ∃ fl ρ η, (forGo (ast P H (k + 23)) (scOf "kept") (forT (kS 2)) (forB (kS 2)) (kpR (.code (rowsD rows) nm tp ty lv)) [x0, .hl (keep.map .bool), .hl [], .hl []] ((List.range rows.length).map fun (k : Nat) => D.int (k : Int))).run = some (out fl ρ η) ∧
      (fl = .next ∧ η = [x0, .hl (keep.map .bool), .hl (numsD keep rows.length), .hl ((pick rows keep).map Row.D)] ∧ K1 (.code (rowsD rows) nm tp ty lv) ρ) := by
  have hb : forB (kS 2) = [kSb 2 0, kSb 2 1] := by kernel_rfl
  refine forGo_inv (fun ds ρ η => ∃ p, p ≤ rows.length ∧ ds = ((List.range rows.length).map fun (k : Nat) => D.int (k : Int)).drop p ∧ η = [x0, .hl (keep.map .bool), .hl (numsD keep p), .hl ((pick (rows.take p) (keep.take p)).map Row.D)] ∧ K1 (.code (rowsD rows) nm tp ty lv) ρ) _ ?_ ?_ _ _ _ ⟨0, Nat.zero_le _, rfl, rfl, .inl rfl⟩
  · rintro d ds ρ η ⟨p, hp, hd, rfl, hρ⟩
    have hlt : p < rows.length := by
      rcases Nat.lt_or_ge p rows.length with h | h
      · exact h
      · rw [List.drop_of_length_le (by simpa using h)] at hd; cases hd
    rw [List.drop_eq_getElem_cons (by simpa using hlt)] at hd
    simp only [List.getElem_map, List.getElem_range, List.cons.injEq] at hd
    obtain ⟨rfl, rfl⟩ := hd
    obtain ⟨r, hr⟩ : ∃ r, rows[p]? = some r := ⟨_, List.getElem?_eq_getElem hlt⟩
    obtain ⟨b, hbk⟩ : ∃ b, keep[p]? = some b := ⟨_, List.getElem?_eq_getElem (by omega)⟩
    have e0 : (rows.map Row.D)[p]? = some r.D := by rw [List.getElem?_map, hr]; rfl
    have e1 : (keep.map D.bool)[p]? = some (.bool b) := by rw [List.getElem?_map, hbk]; rfl
    have hb1 : bindT (scOf "kept") ρ (forT (kS 2)) (.d (natD p)) = some (rapp (kpR (.code (rowsD rows) nm tp ty lv)) [("at", .d (natD p))]) := by
      rcases hρ with rfl | ⟨a, rfl⟩ <;> kernel_rfl
    have ln : (numsD keep p).length ≤ 1000 := by rw [List.length_map, List.length_range]; omega
    have hlen : (rows.take p).length = (keep.take p).length := by rw [List.length_take, List.length_take, hk]
    have lp : (pick (rows.take p) (keep.take p)).length = numOf keep p := pick_length hlen
    have lr : ((pick (rows.take p) (keep.take p)).map Row.D).length ≤ 1000 := by rw [List.length_map, lp]; have := numOf_le keep p; omega
    have s0 := kp_10 (P := P) (H := H) (k + 2) (.code (rowsD rows) nm tp ty lv) (natD p) x0 (keep.map .bool) (numsD keep p) ((pick (rows.take p) (keep.take p)).map Row.D)
    rw [append_run rfl ln, Option.bind_some, List.length_map, lp] at s0
    have en : numsD keep p ++ [natD (numOf keep p)] = numsD keep (p + 1) := by unfold numsD; rw [List.range_succ, List.map_append]; rfl
    have s0' : ((ast P H (k + 22)).ex (scOf "kept") (rapp (kpR (.code (rowsD rows) nm tp ty lv)) [("at", .d (natD p))]) [x0, .hl (keep.map .bool), .hl (numsD keep p), .hl ((pick (rows.take p) (keep.take p)).map Row.D)] (kSb 2 0)).run =
        some (out .next (rapp (kpR (.code (rowsD rows) nm tp ty lv)) [("at", .d (natD p))]) [x0, .hl (keep.map .bool), .hl (numsD keep (p + 1)), .hl ((pick (rows.take p) (keep.take p)).map Row.D)]) := by
      rw [← en]; exact s0
    have s1 := kp_11 (P := P) (H := H) (k + 1) (.code (rowsD rows) nm tp ty lv) p x0 (keep.map .bool) (numsD keep (p + 1)) ((pick (rows.take p) (keep.take p)).map Row.D)
    rw [e1] at s1
    have pk : pick (rows.take (p + 1)) (keep.take (p + 1)) = pick (rows.take p) (keep.take p) ++ (if b then [r] else []) := by
      rw [List.take_add_one, List.take_add_one, hr, hbk]
      exact pick_snoc r b hlen
    induction b with
    | false =>
      have run := (exs_next (ss := [kSb 2 1]) s0').trans ((exs_next (ss := []) s1).trans exs_nil)
      rw [← hb] at run
      refine ⟨_, _, _, _, hb1, run, p + 1, hlt, rfl, ?_, .inr ⟨_, rfl⟩⟩
      rw [pk]
      simp
    | true =>
      have s1b := kp_11b (P := P) (H := H) (k + 1) (rows.map Row.D) nm tp ty lv p x0 (keep.map .bool) (numsD keep (p + 1)) ((pick (rows.take p) (keep.take p)).map Row.D)
      rw [e0] at s1b
      have s1b' := s1b.trans (show ((methD "append" (.h 3) r.D [x0, .hl (keep.map .bool), .hl (numsD keep (p + 1)), .hl ((pick (rows.take p) (keep.take p)).map Row.D)]).bind _) = _ by rw [append_run rfl lr, Option.bind_some])
      have run := (exs_next (ss := [kSb 2 1]) s0').trans ((exs_next (ss := []) (s1.trans s1b')).trans exs_nil)
      rw [← hb] at run
      refine ⟨_, _, _, _, hb1, run, p + 1, hlt, rfl, ?_, .inr ⟨_, rfl⟩⟩
      rw [pk]
      simp
  · rintro ρ η ⟨p, hp, hd, rfl, hρ⟩
    have : p = rows.length := by
      have := congrArg List.length hd
      rw [List.length_drop, List.length_map, List.length_range] at this
      simp at this
      omega
    subst this
    rw [List.take_length, ← hk, List.take_length]
    exact ⟨rfl, rfl, hρ⟩

noncomputable def keptRow (keep : List Bool) (r : Row) : Row := match r.target with
  | some t => r.with_ (numOf keep t)
  | none => r
theorem nums_at (keep : List Bool) (m u : Nat) (h : u < m) : (numsD keep m)[u]? = some (natD (numOf keep u)) := by
  unfold numsD
  rw [List.getElem?_map, List.getElem?_range h]; rfl

theorem kp_loop2 (k : Nat) (c : D) (keep : List Bool) (m : Nat) (rs : List Row) (ρ0 : Rho) (hρ0 : K2 c ρ0) (x0 x1 x3 : HO) (hl : rs.length ≤ 900) (ht : ∀ r ∈ rs, ∀ t, r.target = some t → t < m)
    (h1 : ∀ r : Row, P "target_of" [r.D] = some (match r.target with | some t => natD t | none => .none)) (h3 : ∀ (r : Row) t u, r.target = some u → P "with_target" [r.D, natD t] = some (r.with_ t).D) :
    ∃ fl ρ η, (forGo (ast P H (k + 23)) (scOf "kept") (forT (kS 5)) (forB (kS 5)) ρ0 [x0, x1, .hl (numsD keep m), x3, .hl []] (rs.map Row.D)).run = some (out fl ρ η) ∧
      (fl = .next ∧ η = [x0, x1, .hl (numsD keep m), x3, .hl ((rs.map (keptRow keep)).map Row.D)] ∧ K3 c ρ) := by
  have hb : forB (kS 5) = [kSb 5 0, kSb 5 1] := by kernel_rfl
  refine forGo_inv (fun ds ρ η => ∃ done rest, rs = done ++ rest ∧ ds = rest.map Row.D ∧ η = [x0, x1, .hl (numsD keep m), x3, .hl ((done.map (keptRow keep)).map Row.D)] ∧ (ρ = ρ0 ∨ ∃ r t, ρ = rapp ρ0 [("row", .d r), ("target", .d t)])) _ ?_ ?_ _ _ _ ⟨[], rs, rfl, rfl, rfl, .inl rfl⟩
  · rintro d ds ρ η ⟨done, rest, hr, hd, rfl, hρ⟩
    cases rest with
    | nil => cases hd
    | cons r rest =>
      cases hd
      obtain ⟨ρ2, hb1, hb2⟩ := kp_5b c ρ ρ0 hρ0 hρ r.D
      have s0 := kp_50 (P := P) (H := H) (k + 2) c ρ2 ρ0 hρ0 r.D hb2 [x0, x1, .hl (numsD keep m), x3, .hl ((done.map (keptRow keep)).map Row.D)]
      rw [h1, Option.bind_some] at s0
      have hlen : done.length ≤ 1000 := by
        have := congrArg List.length hr
        rw [List.length_append] at this
        omega
      have lm : ((done.map (keptRow keep)).map Row.D).length ≤ 1000 := by rw [List.length_map, List.length_map]; exact hlen
      have s1 : ∃ t, ((ast P H (k + 21)).ex (scOf "kept") (rapp ρ0 [("row", .d r.D), ("target", .d (match r.target with | some t => natD t | none => .none))]) [x0, x1, .hl (numsD keep m), x3, .hl ((done.map (keptRow keep)).map Row.D)] (kSb 5 1)).run =
          some (out .next (rapp ρ0 [("row", .d r.D), ("target", .d t)]) [x0, x1, .hl (numsD keep m), x3, .hl (((done ++ [r]).map (keptRow keep)).map Row.D)]) := by
        unfold keptRow at lm ⊢
        induction q : r.target with
        | none =>
          refine ⟨.none, ?_⟩
          have := kp_51n (P := P) (H := H) (k + 1) c ρ0 hρ0 r.D x0 x1 (.hl (numsD keep m)) x3 ((done.map (keptRow keep)).map Row.D)
          unfold keptRow at this
          rw [append_run rfl lm, Option.bind_some] at this
          refine this.trans ?_
          simp [q]
        | some u =>
          refine ⟨natD u, ?_⟩
          have := kp_51s (P := P) (H := H) (k + 1) c ρ0 hρ0 r.D u x0 x1 x3 (numsD keep m) ((done.map (keptRow keep)).map Row.D)
          rw [nums_at keep m u (ht r (by rw [hr]; simp) u q)] at this
          refine this.trans ?_
          show (P "with_target" [r.D, natD (numOf keep u)]).bind _ = _
          rw [h3 r _ u q, Option.bind_some]
          unfold keptRow
          rw [append_run rfl lm, Option.bind_some]
          simp [q]
      obtain ⟨t, s1⟩ := s1
      have run := (exs_next (ss := [kSb 5 1]) s0).trans ((exs_next (ss := []) s1).trans exs_nil)
      rw [← hb] at run
      exact ⟨ρ2, _, _, _, hb1, run, done ++ [r], rest, by rw [hr, List.append_assoc]; rfl, rfl, rfl, .inr ⟨_, _, rfl⟩⟩
  · rintro ρ η ⟨done, rest, hr, hd, rfl, hρ⟩
    have : rest = [] := by induction rest with | nil => rfl | cons a b => cases hd
    subst this
    rw [List.append_nil] at hr
    subst hr
    exact ⟨rfl, rfl, ρ0, hρ0, hρ⟩

noncomputable def keptTry (keep : List Bool) (y : Try) : Try := ⟨numOf keep y.first, numOf keep y.catch_, numOf keep y.stop⟩
theorem kp_loop3 (k : Nat) (c : D) (keep : List Bool) (m : Nat) (ys : List Try) (ρ0 : Rho) (hρ0 : K4 c ρ0) (d0 d3 : D) (kd ms : List D) (hl : ys.length ≤ 900) (ht : ∀ y ∈ ys, y.first < m ∧ y.catch_ < m ∧ y.stop < m)
    (h1 : ∀ d0 d3 kd ns ms ts (p : Nat) (d : D), ns[p]? = some d → H "moved" [.h 2, .d (natD p)] [.fz d0, .hl kd, .hl ns, .fz d3, .hl ms, .hl ts] = some (d, [.fz d0, .hl kd, .hl ns, .fz d3, .hl ms, .hl ts]))
    (h2 : ∀ d0 d3 kd ns ms ts, H "moved" [.h 2, .d .none] [.fz d0, .hl kd, .hl ns, .fz d3, .hl ms, .hl ts] = some (.none, [.fz d0, .hl kd, .hl ns, .fz d3, .hl ms, .hl ts])) :
    ∃ fl ρ η, (forGo (ast P H (k + 23)) (scOf "kept") (forT (kS 7)) (forB (kS 7)) ρ0 [.fz d0, .hl kd, .hl (numsD keep m), .fz d3, .hl ms, .hl []] (ys.map Try.D)).run = some (out fl ρ η) ∧
      (fl = .next ∧ η = [.fz d0, .hl kd, .hl (numsD keep m), .fz d3, .hl ms, .hl ((ys.map (keptTry keep)).map Try.D)] ∧ K5 c ρ) := by
  have hb : forB (kS 7) = [kSb 7 0] := by kernel_rfl
  refine forGo_inv (fun ds ρ η => ∃ done rest, ys = done ++ rest ∧ ds = rest.map Try.D ∧ η = [.fz d0, .hl kd, .hl (numsD keep m), .fz d3, .hl ms, .hl ((done.map (keptTry keep)).map Try.D)] ∧ (ρ = ρ0 ∨ ∃ p, ρ = rapp ρ0 [("places", .d p)])) _ ?_ ?_ _ _ _ ⟨[], ys, rfl, rfl, rfl, .inl rfl⟩
  · rintro d ds ρ η ⟨done, rest, hr, hd, rfl, hρ⟩
    cases rest with
    | nil => cases hd
    | cons y rest =>
      cases hd
      have hb1 := kp_7b c ρ ρ0 hρ0 hρ y.D
      have hlen : done.length ≤ 1000 := by
        have := congrArg List.length hr
        rw [List.length_append] at this
        omega
      have lm : ((done.map (keptTry keep)).map Try.D).length ≤ 1000 := by rw [List.length_map, List.length_map]; exact hlen
      have s0 := kp_70 (P := P) (H := H) (k + 2) c ρ0 hρ0 y (.fz d0) (.hl kd) (.fz d3) (.hl ms) (numsD keep m) ((done.map (keptTry keep)).map Try.D)
      obtain ⟨t1, t2, t3⟩ := ht y (by rw [hr]; simp)
      rw [h1 _ _ _ _ _ _ _ _ (nums_at keep m _ t1), Option.bind_some, h1 _ _ _ _ _ _ _ _ (nums_at keep m _ t2), Option.bind_some, h2, Option.bind_some, h1 _ _ _ _ _ _ _ _ (nums_at keep m _ t3), Option.bind_some, append_run rfl lm, Option.bind_some] at s0
      have run := (exs_next (ss := []) s0).trans exs_nil
      rw [← hb] at run
      refine ⟨_, _, _, _, hb1, run, done ++ [y], rest, by rw [hr, List.append_assoc]; rfl, rfl, ?_, .inr ⟨_, rfl⟩⟩
      simp [keptTry, Try.D]
  · rintro ρ η ⟨done, rest, hr, hd, rfl, hρ⟩
    have : rest = [] := by induction rest with | nil => rfl | cons a b => cases hd
    subst this
    rw [List.append_nil] at hr
    subst hr
    exact ⟨rfl, rfl, ρ0, hρ0, hρ⟩
end

theorem moved_h (n : Nat) (d0 d3 : D) (kd ns ms ts : List D) (p : Nat) (d : D) (h : ns[p]? = some d) : hcl FT (n + 1) "moved" [.h 2, .d (natD p)] [.fz d0, .hl kd, .hl ns, .fz d3, .hl ms, .hl ts] = some (d, [.fz d0, .hl kd, .hl ns, .fz d3, .hl ms, .hl ts]) := by
  have : hcl FT (n + 1) "moved" [.h 2, .d (natD p)] [.fz d0, .hl kd, .hl ns, .fz d3, .hl ms, .hl ts] =
    ((ns[p]?).map VV.d).bind fun v => (backH 6 (out (.ret v) [("numbers", .h 2), ("place", .d (natD p))] [.fz d0, .hl kd, .hl ns, .fz d3, .hl ms, .hl ts])).bind fun x => some x := by kernel_rfl
  rw [this, h]; rfl
theorem moved_hn (n : Nat) (d0 d3 : D) (kd ns ms ts : List D) : hcl FT (n + 1) "moved" [.h 2, .d .none] [.fz d0, .hl kd, .hl ns, .fz d3, .hl ms, .hl ts] = some (.none, [.fz d0, .hl kd, .hl ns, .fz d3, .hl ms, .hl ts]) := by kernel_rfl

theorem kept_spec (n : Nat) (c : Cod) (keep : List Bool) (nm tp d0 : D) (hk : keep.length = c.rows.length) (hl : c.rows.length + 3 * c.trys.length ≤ 900) (ht : ∀ r ∈ c.rows, ∀ t, r.target = some t → t ≤ c.rows.length)
    (hy : ∀ y ∈ c.trys, y.first ≤ c.rows.length ∧ y.catch_ ≤ c.rows.length ∧ y.stop ≤ c.rows.length) :
    hcl FT (n + 2) "kept" [.d (.code (rowsD c.rows) nm tp (trysD c.trys) (.lst [])), .h 1] [.fz d0, .hl (keep.map .bool)] = some (.code (rowsD (kept c keep).rows) nm tp (trysD (kept c keep).trys) (.lst []), [.fz d0, .hl (keep.map .bool)]) := by
  obtain ⟨fl, ρ1, η1, e1, rfl, rfl, k1⟩ := kp_loop1 (P := pcl FT (n + 1)) (H := hcl FT (n + 1)) 33 c.rows keep nm tp (trysD c.trys) (.lst []) (.fz d0) hk (by omega)
  have i1 : (itr (ast (pcl FT (n + 1)) (hcl FT (n + 1)) 56) (scOf "kept") (kpR (.code (rowsD c.rows) nm tp (trysD c.trys) (.lst []))) [.fz d0, .hl (keep.map .bool), .hl [], .hl []] (forI (kS 2))).run =
      (rangeD (.int ((c.rows.map Row.D).length : Int))).bind fun ds => some (ds, [.fz d0, .hl (keep.map .bool), .hl [], .hl []]) := by kernel_rfl
  rw [List.length_map, range_itr _ (by omega)] at i1
  have lp : (pick c.rows keep).length = numOf keep c.rows.length := by rw [pick_length hk.symm]; unfold numOf; rw [← hk, List.take_length]
  have s3 := kp_3 (P := pcl FT (n + 1)) (H := hcl FT (n + 1)) 36 _ ρ1 k1 (.fz d0) (keep.map .bool) (numsD keep c.rows.length) ((pick c.rows keep).map Row.D)
  rw [append_run rfl (by rw [List.length_map, List.length_range]; omega), Option.bind_some, List.length_map, lp] at s3
  have en : numsD keep c.rows.length ++ [natD (numOf keep c.rows.length)] = numsD keep (c.rows.length + 1) := by unfold numsD; rw [List.range_succ, List.map_append]; rfl
  have s3' : ((ast (pcl FT (n + 1)) (hcl FT (n + 1)) 56).ex (scOf "kept") ρ1 [.fz d0, .hl (keep.map .bool), .hl (numsD keep c.rows.length), .hl ((pick c.rows keep).map Row.D)] (kS 3)).run =
      some (out .next ρ1 [.fz d0, .hl (keep.map .bool), .hl (numsD keep (c.rows.length + 1)), .hl ((pick c.rows keep).map Row.D)]) := by rw [← en]; exact s3
  have s4 := kp_4 (P := pcl FT (n + 1)) (H := hcl FT (n + 1)) 35 _ ρ1 k1 (.fz d0) (.hl (keep.map .bool)) (.hl (numsD keep (c.rows.length + 1))) (.hl ((pick c.rows keep).map Row.D))
  have k2 : K2 (.code (rowsD c.rows) nm tp (trysD c.trys) (.lst [])) (rapp ρ1 [("made", .h 4)]) := ⟨ρ1, k1, rfl⟩
  have i5 := kp_5i (P := pcl FT (n + 1)) (H := hcl FT (n + 1)) 33 _ _ k2 (.fz d0) (.hl (keep.map .bool)) (.hl (numsD keep (c.rows.length + 1))) (.hl []) ((pick c.rows keep).map Row.D)
  obtain ⟨fl, ρ3, η3, e5, rfl, rfl, k3⟩ := kp_loop2 (P := pcl FT (n + 1)) (H := hcl FT (n + 1)) 30 _ keep (c.rows.length + 1) (pick c.rows keep) _ k2 (.fz d0) (.hl (keep.map .bool)) (.fz (rowsD (pick c.rows keep)))
    (by rw [lp]; have := numOf_le keep c.rows.length; omega) (fun r hr t e => Nat.lt_succ_of_le (ht r (pick_mem hr) t e)) (target_of_spec n) (with_target_spec n)
  have s6 := kp_6 (P := pcl FT (n + 1)) (H := hcl FT (n + 1)) 33 _ ρ3 k3 (.fz d0) (.hl (keep.map .bool)) (.hl (numsD keep (c.rows.length + 1))) (.fz (rowsD (pick c.rows keep))) (.hl (((pick c.rows keep).map (keptRow keep)).map Row.D))
  have k4 : K4 (.code (rowsD c.rows) nm tp (trysD c.trys) (.lst [])) (rapp ρ3 [("trys", .h 5)]) := ⟨ρ3, k3, rfl⟩
  have i7 := kp_7i (P := pcl FT (n + 1)) (H := hcl FT (n + 1)) 31 (rowsD c.rows) nm tp (.lst []) (c.trys.map Try.D) _ k4 [.fz d0, .hl (keep.map .bool), .hl (numsD keep (c.rows.length + 1)), .fz (rowsD (pick c.rows keep)), .hl (((pick c.rows keep).map (keptRow keep)).map Row.D), .hl []]
  obtain ⟨fl, ρ5, η5, e7, rfl, rfl, k5⟩ := kp_loop3 (P := pcl FT (n + 1)) (H := hcl FT (n + 1)) 28 _ keep (c.rows.length + 1) c.trys _ k4 d0 (rowsD (pick c.rows keep)) (keep.map .bool) (((pick c.rows keep).map (keptRow keep)).map Row.D)
    (by omega) (fun y h => by have := hy y h; omega) (fun d0 d3 kd ns ms ts p d h => moved_h n d0 d3 kd ns ms ts p d h) (fun d0 d3 kd ns ms ts => moved_hn n d0 d3 kd ns ms ts)
  have s8 := kp_8 (P := pcl FT (n + 1)) (H := hcl FT (n + 1)) 31 _ ρ5 k5 (.fz d0) (.hl (keep.map .bool)) (.hl (numsD keep (c.rows.length + 1))) (.fz (rowsD (pick c.rows keep))) (.hl (((pick c.rows keep).map (keptRow keep)).map Row.D)) (.hl ((c.trys.map (keptTry keep)).map Try.D))
  have k6 : K6 (.code (rowsD c.rows) nm tp (trysD c.trys) (.lst [])) (rapp ρ5 [("lives", .h 6)]) := ⟨ρ5, k5, rfl⟩
  have s9 := kp_9 (P := pcl FT (n + 1)) (H := hcl FT (n + 1)) 30 (rowsD c.rows) nm tp (trysD c.trys) _ k6 [.fz d0, .hl (keep.map .bool), .hl (numsD keep (c.rows.length + 1)), .fz (rowsD (pick c.rows keep)), .hl (((pick c.rows keep).map (keptRow keep)).map Row.D), .hl ((c.trys.map (keptTry keep)).map Try.D), .hl []]
  have sA := kp_A (P := pcl FT (n + 1)) (H := hcl FT (n + 1)) 29 (rowsD c.rows) nm tp (trysD c.trys) (.lst []) _ k6 (.fz d0) (.hl (keep.map .bool)) (.hl (numsD keep (c.rows.length + 1))) (.fz (rowsD (pick c.rows keep))) (((pick c.rows keep).map (keptRow keep)).map Row.D) ((c.trys.map (keptTry keep)).map Try.D)
  exact hcl_is (x := "kept") (ρ0 := [("code", .d (.code (rowsD c.rows) nm tp (trysD c.trys) (.lst []))), ("keep", .h 1)])
    (ss := [kS 0, kS 1, sFor (kS 2), kS 3, kS 4, sFor (kS 5), kS 6, sFor (kS 7), kS 8, kS 9, kS 10]) (by kernel_rfl) (by kernel_rfl) (by kernel_rfl) (by kernel_rfl)
    (nx (ρ1 := [("code", .d (.code (rowsD c.rows) nm tp (trysD c.trys) (.lst []))), ("keep", .h 1), ("numbers", .h 2)]) (η1 := [.fz d0, .hl (keep.map .bool), .hl []]) (by kernel_rfl)
      (nx (ρ1 := kpR (.code (rowsD c.rows) nm tp (trysD c.trys) (.lst []))) (η1 := [.fz d0, .hl (keep.map .bool), .hl [], .hl []]) (by kernel_rfl)
        (nx (ex_for_ok i1 e1) (nx s3' (nx s4 (nx (ex_for_ok i5 e5) (nx s6 (nx (ex_for_ok i7 e7) (nx s8 (nx s9 (nret sA rfl)))))))))))
end Mine
end
section
namespace Mine
set_option tactic.hygienic false
open PySem

/-! ## The law's machine -/
noncomputable def Val.repr : Val → Str
  | .none => "None"
  | .tru => "True"
  | .zero => "0"
  | .x => "'x'"
  | .e => "''"
  | .seven => "7"
  | .t => "'t'"
noncomputable def Val.so : Val → Bool
  | .tru => true
  | .x => true
  | .seven => true
  | .t => true
  | _ => false
inductive Say | echo | move | throw | ret
  deriving DecidableEq, Inhabited
noncomputable def Say.op : Say → Str
  | .echo => "echo"
  | .move => "move"
  | .throw => "throw"
  | .ret => "return"
inductive Word | read (i : Bool) (v : Val) | said (s : Say) (v : Val)
  deriving DecidableEq, Inhabited
noncomputable def Word.D : Word → D
  | .read i v => .tup [.str "read", bitD i, v.D]
  | .said s v => .tup [.str s.op, .str v.repr]
structure Wd where
  log : List Word
  t0 : Val
  t1 : Val
noncomputable def Wd.eta (w : Wd) (tape : List Val) : Eta := [.hl (w.log.map Word.D), .hl [w.t0.D, w.t1.D], .hw 0 1 (tape.map Val.D)]
noncomputable def Wd.temp (w : Wd) : Bool → Val
  | false => w.t0
  | true => w.t1
noncomputable def Wd.setTemp (w : Wd) (i : Bool) (v : Val) : Wd := match i with
  | false => { w with t0 := v }
  | true => { w with t1 := v }
noncomputable def tapeAt (tape : List Val) (n : Nat) : Val := tape.getD (n % 7) .none
noncomputable def opVal (tape : List Val) (w : Wd) : Opd → Val
  | .lit v => v
  | .tmp i => w.temp i
  | .cv _ => tapeAt tape w.log.length
noncomputable def opWd (tape : List Val) (w : Wd) : Opd → Wd
  | .cv i => { w with log := w.log ++ [.read i (tapeAt tape w.log.length)] }
  | _ => w
noncomputable def Cnd.goes (c : Cnd) (v : Val) : Bool := match c with
  | .iff => v.so
  | .unless => !v.so
  | .null => v == .none
  | .set => !(v == .none)
noncomputable def caught (trys : List Try) (p : Nat) : Option Nat := (trys.reverse.find? fun y => decide (y.first ≤ p) && decide (p < y.catch_)).map (·.catch_)

theorem is_so_spec (n : Nat) (v : Val) : pcl FT (n + 1) "_law_is_so" [v.D] = some (.bool v.so) := by cases v <;> kernel_rfl
theorem repr_val (v : Val) : reprD v.D = some v.repr := by cases v <;> kernel_rfl

/-! ### _law_value -/
theorem value_lit (n : Nat) (v : Val) (w : Wd) (tape : List Val) : hcl FT (n + 1) "_law_value" [.h 2, .d (Opd.lit v).D] (w.eta tape) = some (v.D, w.eta tape) := by kernel_rfl
theorem value_tmp (n : Nat) (i : Bool) (w : Wd) (tape : List Val) : hcl FT (n + 1) "_law_value" [.h 2, .d (Opd.tmp i).D] (w.eta tape) = some ((w.temp i).D, w.eta tape) := by cases i <;> kernel_rfl
theorem value_cv0 (k : Nat) {P : Str → List D → Option D} {H : Str → List VV → Eta → Option (D × Eta)} (lg tm tp : List D) (d : D) :
    ((ast P H (k + 20)).ex (scOf "_law_value") [("world", .h 2), ("x", .d (.tup [.str "cv", d])), ("sort", .d (.str "cv")), ("held", .d d)] [.hl lg, .hl tm, .hw 0 1 tp] (bs "_law_value" 3)).run =
      (modD (lg.length : Int) (tp.length : Int)).bind fun i => (itemOf (.d (.lst tp)) i [.hl lg, .hl tm, .hw 0 1 tp]).bind fun v => some (out .next [("world", .h 2), ("x", .d (.tup [.str "cv", d])), ("sort", .d (.str "cv")), ("held", .d d), ("found", v)] [.hl lg, .hl tm, .hw 0 1 tp]) := by kernel_rfl
theorem value_cv1 (k : Nat) {P : Str → List D → Option D} {H : Str → List VV → Eta → Option (D × Eta)} (lg tm tp : List D) (d f : D) :
    ((ast P H (k + 20)).ex (scOf "_law_value") [("world", .h 2), ("x", .d (.tup [.str "cv", d])), ("sort", .d (.str "cv")), ("held", .d d), ("found", .d f)] [.hl lg, .hl tm, .hw 0 1 tp] (bs "_law_value" 4)).run =
      (methD "append" (.h 0) (.tup [.str "read", d, f]) [.hl lg, .hl tm, .hw 0 1 tp]).bind fun η => some (out .next [("world", .h 2), ("x", .d (.tup [.str "cv", d])), ("sort", .d (.str "cv")), ("held", .d d), ("found", .d f)] η) := by kernel_rfl
theorem hwOk_eta (w : Wd) (tape : List Val) : ((w.eta tape).take 3).all (hwOk 3) = true := by kernel_rfl
theorem value_cv (n : Nat) (i : Bool) (w : Wd) (tape : List Val) (ht : tape.length = 7) (hl : w.log.length ≤ 900) :
    hcl FT (n + 1) "_law_value" [.h 2, .d (Opd.cv i).D] (w.eta tape) = some ((tapeAt tape w.log.length).D, (opWd tape w (.cv i)).eta tape) := by
  have e0 := value_cv0 36 (P := pcl FT n) (H := hcl FT n) (w.log.map Word.D) [w.t0.D, w.t1.D] (tape.map Val.D) (bitD i)
  rw [List.length_map, List.length_map, ht] at e0
  have m1 : modD (w.log.length : Int) (7 : Nat) = some (natD (w.log.length % 7)) := by
    unfold modD
    rw [if_pos (by decide)]
    rfl
  have hv : (tape.map Val.D)[w.log.length % 7]? = some (tapeAt tape w.log.length).D := by
    have hlt : w.log.length % 7 < tape.length := by rw [ht]; exact Nat.mod_lt _ (by decide)
    rw [List.getElem?_map, List.getElem?_eq_getElem hlt]
    unfold tapeAt
    rw [List.getD_eq_getElem?_getD, List.getElem?_eq_getElem hlt]; rfl
  rw [m1, Option.bind_some, show itemOf (.d (.lst (tape.map Val.D))) (natD (w.log.length % 7)) [.hl (w.log.map Word.D), .hl [w.t0.D, w.t1.D], .hw 0 1 (tape.map Val.D)] = ((tape.map Val.D)[w.log.length % 7]?).map VV.d from rfl, hv] at e0
  have e1 := value_cv1 35 (P := pcl FT n) (H := hcl FT n) (w.log.map Word.D) [w.t0.D, w.t1.D] (tape.map Val.D) (bitD i) (tapeAt tape w.log.length).D
  rw [append_run rfl (by rw [List.length_map]; omega), Option.bind_some] at e1
  refine hcl_is (x := "_law_value") (ρ0 := [("world", .h 2), ("x", .d (Opd.cv i).D)]) (ss := [bs "_law_value" 0, bs "_law_value" 1, bs "_law_value" 2, bs "_law_value" 3, bs "_law_value" 4, bs "_law_value" 5])
    (by kernel_rfl) (by kernel_rfl) (by kernel_rfl) (by kernel_rfl)
    (nx (ρ1 := [("world", .h 2), ("x", .d (Opd.cv i).D), ("sort", .d (.str "cv")), ("held", .d (bitD i))]) (η1 := w.eta tape) (by kernel_rfl)
      (nx (ρ1 := [("world", .h 2), ("x", .d (Opd.cv i).D), ("sort", .d (.str "cv")), ("held", .d (bitD i))]) (η1 := w.eta tape) (by kernel_rfl)
        (nx (ρ1 := [("world", .h 2), ("x", .d (Opd.cv i).D), ("sort", .d (.str "cv")), ("held", .d (bitD i))]) (η1 := w.eta tape) (by kernel_rfl)
          (nx e0 (nx e1 ?_)))))
  have e2 : (opWd tape w (.cv i)).eta tape = [.hl (w.log.map Word.D ++ [.tup [.str "read", bitD i, (tapeAt tape w.log.length).D]]), .hl [w.t0.D, w.t1.D], .hw 0 1 (tape.map Val.D)] := by
    unfold Wd.eta opWd
    simp [Word.D]
  rw [e2]
  kernel_rfl
theorem value_spec (n : Nat) (a : Opd) (w : Wd) (tape : List Val) (ht : tape.length = 7) (hl : w.log.length ≤ 900) :
    hcl FT (n + 1) "_law_value" [.h 2, .d a.D] (w.eta tape) = some ((opVal tape w a).D, (opWd tape w a).eta tape) := by
  induction a with
  | lit v => exact value_lit n v w tape
  | tmp i => exact value_tmp n i w tape
  | cv i => exact value_cv n i w tape ht hl

/-! ### _law_goes -/
theorem goes_jump (n : Nat) (t : Nat) (w : Wd) (tape : List Val) : hcl FT (n + 1) "_law_goes" [.h 2, .d (Row.jump t).D] (w.eta tape) = some (.bool true, w.eta tape) := by kernel_rfl
noncomputable abbrev goR (r : Row) (a : D) : Rho := [("world", .h 2), ("row", .d r.D), ("op", .d (match r with | .cond c _ _ => .str c.op | _ => .none)), ("to", .d .none), ("a", .d a), ("b", .d (match r with | .cond _ _ t => natD t | _ => .none))]
theorem go_2 (k : Nat) {P : Str → List D → Option D} {H : Str → List VV → Eta → Option (D × Eta)} (c : Cnd) (a : Opd) (t : Nat) (η : Eta) :
    ((ast P H (k + 20)).ex (scOf "_law_goes") (goR (.cond c a t) a.D) η (bs "_law_goes" 2)).run = (H "_law_value" [.h 2, .d a.D] η).bind fun q => some (out .next (rapp (goR (.cond c a t) a.D) [("found", .d q.1)]) q.2) := by kernel_rfl
theorem go_0 (k : Nat) {P : Str → List D → Option D} {H : Str → List VV → Eta → Option (D × Eta)} (c : Cnd) (a : Opd) (t : Nat) (η : Eta) :
    ((ast P H (k + 20)).ex (scOf "_law_goes") [("world", .h 2), ("row", .d (Row.cond c a t).D)] η (bs "_law_goes" 0)).run = some (out .next (goR (.cond c a t) a.D) η) := by kernel_rfl
theorem go_1 (k : Nat) {P : Str → List D → Option D} {H : Str → List VV → Eta → Option (D × Eta)} (c : Cnd) (a : Opd) (t : Nat) (η : Eta) :
    ((ast P H (k + 20)).ex (scOf "_law_goes") (goR (.cond c a t) a.D) η (bs "_law_goes" 1)).run = some (out .next (goR (.cond c a t) a.D) η) := by cases c <;> kernel_rfl
theorem go_34 (n : Nat) (c : Cnd) (a : Opd) (t : Nat) (v : Val) (w : Wd) (tape : List Val) :
    (((ast (pcl FT (n + 1)) (hcl FT (n + 1)) 57).exs (scOf "_law_goes") (rapp (goR (.cond c a t) a.D) [("found", .d v.D)]) (w.eta tape) [bs "_law_goes" 3, bs "_law_goes" 4]).run).bind (backH 3) = some (.bool (c.goes v), w.eta tape) := by
  cases c <;> cases v <;> kernel_rfl
theorem goes_spec (n : Nat) (c : Cnd) (a : Opd) (t : Nat) (w : Wd) (tape : List Val) (ht : tape.length = 7) (hl : w.log.length ≤ 900) :
    hcl FT (n + 2) "_law_goes" [.h 2, .d (Row.cond c a t).D] (w.eta tape) = some (.bool (c.goes (opVal tape w a)), (opWd tape w a).eta tape) := by
  have e2 := go_2 37 (P := pcl FT (n + 1)) (H := hcl FT (n + 1)) c a t (w.eta tape)
  rw [value_spec n a w tape ht hl, Option.bind_some] at e2
  exact hcl_is (x := "_law_goes") (ρ0 := [("world", .h 2), ("row", .d (Row.cond c a t).D)]) (ss := [bs "_law_goes" 0, bs "_law_goes" 1, bs "_law_goes" 2, bs "_law_goes" 3, bs "_law_goes" 4])
    (by kernel_rfl) (by kernel_rfl) (by kernel_rfl) (by kernel_rfl) (nx (go_0 39 c a t (w.eta tape)) (nx (go_1 38 c a t (w.eta tape)) (nx e2 (go_34 n c a t _ _ tape))))

/-! ### _law_caught -/
noncomputable abbrev caR (ys : D) (p : Nat) : Rho := [("trys", .d ys), ("place", .d (natD p))]
noncomputable abbrev caR1 (ys : D) (p : Nat) (y : Try) : Rho := [("trys", .d ys), ("place", .d (natD p)), ("first", .d (natD y.first)), ("catch", .d (natD y.catch_)), ("final", .d .none), ("end", .d (natD y.stop)), ("ret", .d .none)]
theorem ca_body (k : Nat) {P : Str → List D → Option D} {H : Str → List VV → Eta → Option (D × Eta)} (ys : D) (p : Nat) (y : Try) :
    ((ast P H (k + 20)).exs (scOf "_law_caught") (caR1 ys p y) [] (forB (bs "_law_caught" 0))).run =
      match decide (Int.ofNat y.first ≤ Int.ofNat p) with
      | true => match decide (Int.ofNat p < Int.ofNat y.catch_) with
        | true => some (out (.ret (.d (natD y.catch_))) (caR1 ys p y) [])
        | false => some (out .next (caR1 ys p y) [])
      | false => some (out .next (caR1 ys p y) []) := by kernel_rfl
theorem ca_loop (k : Nat) {P : Str → List D → Option D} {H : Str → List VV → Eta → Option (D × Eta)} (ys : D) (p : Nat) (rs : List Try) :
    ∃ fl ρ η, (forGo (ast P H (k + 20)) (scOf "_law_caught") (forT (bs "_law_caught" 0)) (forB (bs "_law_caught" 0)) (caR ys p) [] (rs.map Try.D)).run = some (out fl ρ η) ∧
      (η = [] ∧ match (rs.find? fun y => decide (y.first ≤ p) && decide (p < y.catch_)) with
        | some y => fl = .ret (.d (natD y.catch_))
        | none => fl = .next ∧ ∃ tl, ρ = rapp (caR ys p) tl) := by
  refine forGo_inv (fun ds ρ η => ∃ rest, ds = rest.map Try.D ∧ η = [] ∧ (rs.find? fun y => decide (y.first ≤ p) && decide (p < y.catch_)) = (rest.find? fun y => decide (y.first ≤ p) && decide (p < y.catch_)) ∧ (ρ = caR ys p ∨ ∃ y, ρ = caR1 ys p y)) _ ?_ ?_ _ _ _ ⟨rs, rfl, rfl, rfl, .inl rfl⟩
  · rintro d ds ρ η ⟨rest, hd, rfl, hf, hρ⟩
    cases rest with
    | nil => cases hd
    | cons y rest =>
      cases hd
      have hb1 : bindT (scOf "_law_caught") ρ (forT (bs "_law_caught" 0)) (.d y.D) = some (caR1 ys p y) := by
        rcases hρ with rfl | ⟨y', rfl⟩ <;> kernel_rfl
      have run := ca_body k (P := P) (H := H) ys p y
      have d1 : decide (Int.ofNat y.first ≤ Int.ofNat p) = decide (y.first ≤ p) := by
        rw [Bool.eq_iff_iff, decide_eq_true_iff, decide_eq_true_iff]; exact Int.ofNat_le
      have d2 : decide (Int.ofNat p < Int.ofNat y.catch_) = decide (p < y.catch_) := by
        rw [Bool.eq_iff_iff, decide_eq_true_iff, decide_eq_true_iff]; exact Int.ofNat_lt
      rw [d1, d2] at run
      rw [List.find?_cons] at hf
      induction h1 : decide (y.first ≤ p) with
      | false =>
        rw [h1] at run hf
        exact ⟨_, .next, _, _, hb1, run, rest, rfl, rfl, hf, .inr ⟨y, rfl⟩⟩
      | true =>
        induction h2 : decide (p < y.catch_) with
        | false =>
          rw [h1, h2] at run hf
          exact ⟨_, .next, _, _, hb1, run, rest, rfl, rfl, hf, .inr ⟨y, rfl⟩⟩
        | true =>
          rw [h1, h2] at run hf
          refine ⟨_, .ret _, _, _, hb1, run, rfl, ?_⟩
          rw [hf]
          rfl
  · rintro ρ η ⟨rest, hd, rfl, hf, hρ⟩
    have : rest = [] := by induction rest with | nil => rfl | cons a b => cases hd
    subst this
    rw [hf]
    refine ⟨rfl, rfl, ?_⟩
    rcases hρ with rfl | ⟨y, rfl⟩
    · exact ⟨[], rfl⟩
    · exact ⟨[("first", .d (natD y.first)), ("catch", .d (natD y.catch_)), ("final", .d .none), ("end", .d (natD y.stop)), ("ret", .d .none)], rfl⟩
theorem caught_spec (n : Nat) (trys : List Try) (p : Nat) : pcl FT (n + 1) "_law_caught" [trysD trys, natD p] = some (match caught trys p with | some q => natD q | none => .none) := by
  obtain ⟨fl, ρ, η, e, rfl, h⟩ := ca_loop 38 (P := pcl FT n) (H := hcl FT n) (trysD trys) p trys.reverse
  have i1 : (itr (ast (pcl FT n) (hcl FT n) 58) (scOf "_law_caught") (caR (trysD trys) p) [] (forI (bs "_law_caught" 0))).run = some ((trys.map Try.D).reverse, []) := by kernel_rfl
  rw [← List.map_reverse] at i1
  refine pcl_is (x := "_law_caught") (ρ0 := caR (trysD trys) p) (ss := [sFor (bs "_law_caught" 0), bs "_law_caught" 1]) (by kernel_rfl) (by kernel_rfl) (by kernel_rfl) (by kernel_rfl) ?_
  unfold caught
  induction q : (trys.reverse.find? fun y => decide (y.first ≤ p) && decide (p < y.catch_)) with
  | none =>
    rw [q] at h
    obtain ⟨rfl, tl, rfl⟩ := h
    exact nx (ex_for_ok i1 e) (by kernel_rfl)
  | some y =>
    rw [q] at h
    subst h
    exact nret (ex_for_ok i1 e) rfl
end Mine
end
section
namespace Mine
set_option tactic.hygienic false
open PySem

inductive Ended | fin | thrown (v : Val) | ret (v : Val) | cut | ever
  deriving DecidableEq, Inhabited
noncomputable def Ended.D : Ended → D
  | .fin => .tup [.str "end", .str ""]
  | .thrown v => .tup [.str "thrown", .str v.repr]
  | .ret v => .tup [.str "return", .str v.repr]
  | .cut => .tup [.str "cut", .str ""]
  | .ever => .tup [.str "for ever", .str ""]
noncomputable def Row.speaks : Row → Bool
  | .jump _ => false
  | .cond _ a _ => a.isCv
  | _ => true
structure St where
  here : Nat
  silent : Nat
  w : Wd
noncomputable def Wd.say (w : Wd) (s : Say) (v : Val) : Wd := { w with log := w.log ++ [.said s v] }
noncomputable def act (trys : List Try) (tape : List Val) (w : Wd) (here : Nat) : Row → (Ended × Wd) ⊕ (Nat × Wd)
  | .jump t => .inr (t, w)
  | .cond c a t => .inr (if c.goes (opVal tape w a) then t else here + 1, opWd tape w a)
  | .echo a => .inr (here + 1, (opWd tape w a).say .echo (opVal tape w a))
  | .move t a => .inr (here + 1, ((opWd tape w a).say .move (opVal tape w a)).setTemp t (opVal tape w a))
  | .throw a => match caught trys here with
    | some q => .inr (q, (opWd tape w a).say .throw (opVal tape w a))
    | none => .inl (.thrown (opVal tape w a), (opWd tape w a).say .throw (opVal tape w a))
  | .ret a => .inl (.ret (opVal tape w a), (opWd tape w a).say .ret (opVal tape w a))
noncomputable def step (c : Cod) (tape : List Val) (s : St) (r : Row) : (Ended × Wd) ⊕ St :=
  if 12 < s.w.log.length ∧ r.speaks = true then .inl (.cut, s.w)
  else match act c.trys tape s.w s.here r with
    | .inl e => .inl e
    | .inr (h, w) =>
      let sil := if w.log.length = s.w.log.length then s.silent + 1 else 0
      if c.rows.length + 1 < sil then .inl (.ever, w) else .inr ⟨h, sil, w⟩
noncomputable def runN (c : Cod) (tape : List Val) : Nat → St → Option (Ended × Wd)
  | 0, _ => none
  | k + 1, s => match c.rows[s.here]? with
    | none => some (.fin, s.w)
    | some r => match step c tape s r with
      | .inl e => some e
      | .inr s' => runN c tape k s'

noncomputable abbrev rnB (c h s : D) : Rho := [("code", .d c), ("world", .h 2), ("here", .d h), ("silent", .d s)]
noncomputable abbrev rn0 (c h s r sd : D) : Rho := [("code", .d c), ("world", .h 2), ("here", .d h), ("silent", .d s), ("row", .d r), ("said", .d sd)]
noncomputable abbrev rn1 (c h s r sd j : D) : Rho := [("code", .d c), ("world", .h 2), ("here", .d h), ("silent", .d s), ("row", .d r), ("said", .d sd), ("is_jump", .d j)]
noncomputable abbrev rnF (c h s r sd j f : D) : Rho := [("code", .d c), ("world", .h 2), ("here", .d h), ("silent", .d s), ("row", .d r), ("said", .d sd), ("is_jump", .d j), ("found", .d f)]
noncomputable abbrev rn2 (c h s r sd j f p : D) : Rho := [("code", .d c), ("world", .h 2), ("here", .d h), ("silent", .d s), ("row", .d r), ("said", .d sd), ("is_jump", .d j), ("found", .d f), ("place", .d p)]
noncomputable def RN (c h s : D) (ρ : Rho) : Prop := ρ = rnB c h s ∨ (∃ r sd j, ρ = rn1 c h s r sd j) ∨ ∃ r sd j f p, ρ = rn2 c h s r sd j f p
noncomputable def RS (c h s r sd : D) (ρ : Rho) : Prop := ρ = rn0 c h s r sd ∨ (∃ j, ρ = rn1 c h s r sd j) ∨ ∃ j f p, ρ = rn2 c h s r sd j f p
noncomputable def RJ (c h s r sd j : D) (ρ : Rho) : Prop := ρ = rn1 c h s r sd j ∨ ∃ f p, ρ = rn2 c h s r sd j f p
noncomputable def RF (c h s r sd j f : D) (ρ : Rho) : Prop := ρ = rnF c h s r sd j f ∨ ∃ p, ρ = rn2 c h s r sd j f p
noncomputable abbrev wS (i : Nat) : Stmt := stAt (whB (bs "_law_run" 1)) i
noncomputable abbrev wT : Expr := whT (bs "_law_run" 1)
noncomputable abbrev wE (i : Nat) : Stmt := stAt (ifE (wS 3)) i
noncomputable abbrev run0 (ds : List D) (ty nm tp lv : D) : D := .code (.lst ds) nm tp ty lv
section
variable {P : Str → List D → Option D} {H : Str → List VV → Eta → Option (D × Eta)}
theorem rn_t (k : Nat) (ds : List D) (ty nm tp lv : D) (h : Nat) (s : D) (ρ : Rho) (hρ : RN (run0 ds ty nm tp lv) (natD h) s ρ) (η : Eta) :
    ((ast P H (k + 20)).tr (scOf "_law_run") ρ η wT).run = some (decide (Int.ofNat h < (ds.length : Int)), η) := by
  rcases hρ with rfl | ⟨r, sd, j, rfl⟩ | ⟨r, sd, j, f, p, rfl⟩ <;> kernel_rfl
noncomputable abbrev rn0X (f : D → D → Rho) (ds : List D) (h : Nat) (η : Eta) : Option (Fl × Rho × Eta) := ((ds[h]?).map VV.d).bind fun v => (frz v η).bind fun q => (itemOf (.h 2) (.str "log") q.2).bind fun l => (lenOf l q.2).bind fun m => some (out .next (f q.1 (.int (m : Int))) q.2)
theorem rn_0a (k : Nat) (ds : List D) (ty nm tp lv : D) (h : Nat) (s : D) (η : Eta) :
    ((ast P H (k + 20)).ex (scOf "_law_run") (rnB (run0 ds ty nm tp lv) (natD h) s) η (wS 0)).run = rn0X (fun r sd => rn0 (run0 ds ty nm tp lv) (natD h) s r sd) ds h η := by kernel_rfl
theorem rn_0b (k : Nat) (ds : List D) (ty nm tp lv : D) (h : Nat) (s r sd j : D) (η : Eta) :
    ((ast P H (k + 20)).ex (scOf "_law_run") (rn1 (run0 ds ty nm tp lv) (natD h) s r sd j) η (wS 0)).run = rn0X (fun r sd => rn1 (run0 ds ty nm tp lv) (natD h) s r sd j) ds h η := by kernel_rfl
theorem rn_0c (k : Nat) (ds : List D) (ty nm tp lv : D) (h : Nat) (s r sd j f p : D) (η : Eta) :
    ((ast P H (k + 20)).ex (scOf "_law_run") (rn2 (run0 ds ty nm tp lv) (natD h) s r sd j f p) η (wS 0)).run = rn0X (fun r sd => rn2 (run0 ds ty nm tp lv) (natD h) s r sd j f p) ds h η := by kernel_rfl
theorem rn_0 (k : Nat) (rows : List Row) (ty nm tp lv : D) (h : Nat) (s : D) (ρ : Rho) (hρ : RN (run0 (rows.map Row.D) ty nm tp lv) (natD h) s ρ) (w : Wd) (tape : List Val) (r : Row) (hr : rows[h]? = some r) :
    ∃ ρ', ((ast P H (k + 20)).ex (scOf "_law_run") ρ (w.eta tape) (wS 0)).run = some (out .next ρ' (w.eta tape)) ∧ RS (run0 (rows.map Row.D) ty nm tp lv) (natD h) s r.D (natD w.log.length) ρ' := by
  have e0 : (rows.map Row.D)[h]? = some r.D := by rw [List.getElem?_map, hr]; rfl
  have key : ∀ f : D → D → Rho, rn0X f (rows.map Row.D) h (w.eta tape) = some (out .next (f r.D (natD w.log.length)) (w.eta tape)) := by
    intro f
    unfold rn0X
    rw [e0]
    have e1 : itemOf (.h 2) (.str "log") (w.eta tape) = some (.h 0) := by kernel_rfl
    have e2 : lenOf (.h 0) (w.eta tape) = some w.log.length := by
      show some (w.log.map Word.D).length = _
      rw [List.length_map]
    show ((itemOf (.h 2) (.str "log") (w.eta tape)).bind fun l => (lenOf l (w.eta tape)).bind fun m => some (out .next (f r.D (.int (m : Int))) (w.eta tape))) = _
    rw [e1, Option.bind_some, e2]
    rfl
  rcases hρ with rfl | ⟨r', sd, j, rfl⟩ | ⟨r', sd, j, f, p, rfl⟩
  · exact ⟨_, (rn_0a k _ ty nm tp lv h s _).trans (key _), .inl rfl⟩
  · exact ⟨_, (rn_0b k _ ty nm tp lv h s r' sd j _).trans (key _), .inr (.inl ⟨j, rfl⟩)⟩
  · exact ⟨_, (rn_0c k _ ty nm tp lv h s r' sd j f p _).trans (key _), .inr (.inr ⟨j, f, p, rfl⟩)⟩
theorem rn_1 (k : Nat) (c h s sd : D) (r : Row) (ρ : Rho) (hρ : RS c h s r.D sd ρ) (η : Eta) :
    ∃ ρ', ((ast P H (k + 20)).ex (scOf "_law_run") ρ η (wS 1)).run = some (out .next ρ' η) ∧ RJ c h s r.D sd (.bool r.isLed) ρ' := by
  rcases hρ with rfl | ⟨j, rfl⟩ | ⟨j, f, p, rfl⟩
  · refine ⟨rn1 c h s r.D sd (.bool r.isLed), ?_, .inl rfl⟩
    induction r with
    | cond c a t => cases c <;> kernel_rfl
    | _ => kernel_rfl
  · refine ⟨rn1 c h s r.D sd (.bool r.isLed), ?_, .inl rfl⟩
    induction r with
    | cond c a t => cases c <;> kernel_rfl
    | _ => kernel_rfl
  · refine ⟨rn2 c h s r.D sd (.bool r.isLed) f p, ?_, .inr ⟨f, p, rfl⟩⟩
    induction r with
    | cond c a t => cases c <;> kernel_rfl
    | _ => kernel_rfl
/-- the cut -/
theorem rn_2 (k : Nat) (c h s : D) (sd : Nat) (r : Row) (ρ : Rho) (hρ : RJ c h s r.D (natD sd) (.bool r.isLed) ρ) (η : Eta) :
    ((ast P H (k + 20)).ex (scOf "_law_run") ρ η (wS 2)).run = match decide ((12 : Int) < Int.ofNat sd) with
      | true => (if r.speaks then some (out (.ret (.d Ended.cut.D)) ρ η) else some (out .next ρ η))
      | false => some (out .next ρ η) := by
  rcases hρ with rfl | ⟨f, p, rfl⟩
  · cases r with
    | cond c a t => cases c <;> cases a <;> kernel_rfl
    | _ => kernel_rfl
  · cases r with
    | cond c a t => cases c <;> cases a <;> kernel_rfl
    | _ => kernel_rfl
/-- a jump -/
theorem rn_3j (k : Nat) (c s sd : D) (h : Nat) (t : Nat) (r : Row) (hr : r.target = some t) (ρ : Rho) (hρ : RJ c (natD h) s r.D sd (.bool r.isLed) ρ) (η : Eta) (b : Bool) (η' : Eta) (hg : H "_law_goes" [.h 2, .d r.D] η = some (.bool b, η')) :
    ∃ ρ', ((ast P H (k + 20)).ex (scOf "_law_run") ρ η (wS 3)).run = some (out .next ρ' η') ∧ RJ c (natD (if b then t else h + 1)) s r.D sd (.bool r.isLed) ρ' := by
  have a1 : ∀ (r : Row) (t : Nat), r.target = some t → ((ast P H (k + 20)).ex (scOf "_law_run") (rn1 c (natD h) s r.D sd (.bool r.isLed)) η (wS 3)).run =
      (H "_law_goes" [.h 2, .d r.D] η).bind fun q => (truD q.1).bind fun b => match b with
        | true => some (out .next (rn1 c (natD t) s r.D sd (.bool r.isLed)) q.2)
        | false => some (out .next (rn1 c (natD (h + 1)) s r.D sd (.bool r.isLed)) q.2) := by
    intro r t hr
    cases r with
    | cond c a t => cases hr; kernel_rfl
    | jump t => cases hr; kernel_rfl
    | _ => cases hr
  have a2 : ∀ (r : Row) (t : Nat) (f p : D), r.target = some t → ((ast P H (k + 20)).ex (scOf "_law_run") (rn2 c (natD h) s r.D sd (.bool r.isLed) f p) η (wS 3)).run =
      (H "_law_goes" [.h 2, .d r.D] η).bind fun q => (truD q.1).bind fun b => match b with
        | true => some (out .next (rn2 c (natD t) s r.D sd (.bool r.isLed) f p) q.2)
        | false => some (out .next (rn2 c (natD (h + 1)) s r.D sd (.bool r.isLed) f p) q.2) := by
    intro r t f p hr
    induction r with
    | cond c a t => cases hr; kernel_rfl
    | jump t => cases hr; kernel_rfl
    | _ => cases hr
  rcases hρ with rfl | ⟨f, p, rfl⟩
  · have := a1 r t hr
    rw [hg] at this
    cases b
    · exact ⟨_, this, .inl rfl⟩
    · exact ⟨_, this, .inl rfl⟩
  · have := a2 r t f p hr
    rw [hg] at this
    cases b
    · exact ⟨_, this, .inr ⟨f, p, rfl⟩⟩
    · exact ⟨_, this, .inr ⟨f, p, rfl⟩⟩
/-- the other rows -/
theorem rn_3s (k : Nat) (c h s sd : D) (r : Row) (hr : r.target = none) (ρ : Rho) (hρ : RJ c h s r.D sd (.bool r.isLed) ρ) (η : Eta) :
    ((ast P H (k + 20)).ex (scOf "_law_run") ρ η (wS 3)).run = ((ast P H (k + 19)).exs (scOf "_law_run") ρ η (ifE (wS 3))).run := by
  rcases hρ with rfl | ⟨f, p, rfl⟩
  · induction r with
    | cond c a t => cases hr
    | jump t => cases hr
    | _ => kernel_rfl
  · induction r with
    | cond c a t => cases hr
    | jump t => cases hr
    | _ => kernel_rfl
noncomputable def Row.opd : Row → Opd
  | .echo a => a
  | .move _ a => a
  | .throw a => a
  | .ret a => a
  | .cond _ a _ => a
  | .jump _ => default
noncomputable def Row.say : Row → Say
  | .move _ _ => .move
  | .throw _ => .throw
  | .ret _ => .ret
  | _ => .echo
theorem rn_e0 (k : Nat) (c h s sd j : D) (r : Row) (hr : r.target = none) (ρ : Rho) (hρ : RJ c h s r.D sd j ρ) (η : Eta) (v : D) (η' : Eta) (hv : H "_law_value" [.h 2, .d r.opd.D] η = some (v, η')) :
    ∃ ρ', ((ast P H (k + 20)).ex (scOf "_law_run") ρ η (wE 0)).run = some (out .next ρ' η') ∧ RF c h s r.D sd j v ρ' := by
  have a1 : ∀ (r : Row), r.target = none → ((ast P H (k + 20)).ex (scOf "_law_run") (rn1 c h s r.D sd j) η (wE 0)).run = (H "_law_value" [.h 2, .d r.opd.D] η).bind fun q => some (out .next (rnF c h s r.D sd j q.1) q.2) := by
    intro r hr
    induction r with
    | cond c a t => cases hr
    | jump t => cases hr
    | _ => kernel_rfl
  have a2 : ∀ (r : Row) (f p : D), r.target = none → ((ast P H (k + 20)).ex (scOf "_law_run") (rn2 c h s r.D sd j f p) η (wE 0)).run = (H "_law_value" [.h 2, .d r.opd.D] η).bind fun q => some (out .next (rn2 c h s r.D sd j q.1 p) q.2) := by
    intro r f p hr
    induction r with
    | cond c a t => cases hr
    | jump t => cases hr
    | _ => kernel_rfl
  rcases hρ with rfl | ⟨f, p, rfl⟩
  · have := a1 r hr
    rw [hv] at this
    exact ⟨_, this, .inl rfl⟩
  · have := a2 r f p hr
    rw [hv] at this
    exact ⟨_, this, .inr ⟨p, rfl⟩⟩
theorem D_of {r : Row} (hr : r.target = none) : ∃ x y z, r.D = .tup [.str r.say.op, x, y, z] := by
  induction r with
  | cond c a t => cases hr
  | jump t => cases hr
  | _ => exact ⟨_, _, _, rfl⟩
theorem rn_e1 (k : Nat) (c h s sd j : D) (r : Row) (hr : r.target = none) (v : Val) (ρ : Rho) (hρ : RF c h s r.D sd j v.D ρ) (w : Wd) (tape : List Val) (hl : w.log.length ≤ 900) :
    ((ast P H (k + 20)).ex (scOf "_law_run") ρ (w.eta tape) (wE 1)).run = some (out .next ρ ((w.say r.say v).eta tape)) := by
  have a1 : ((ast P H (k + 20)).ex (scOf "_law_run") ρ (w.eta tape) (wE 1)).run = (methD "append" (.h 0) (.tup [.str r.say.op, .str v.repr]) (w.eta tape)).bind fun η => some (out .next ρ η) := by
    obtain ⟨x, y, z, e⟩ := D_of hr
    rw [e] at hρ
    generalize r.say.op = o at hρ
    generalize w.eta tape = η
    rcases hρ with rfl | ⟨p, rfl⟩
    · cases v <;> kernel_rfl
    · cases v <;> kernel_rfl
  rw [a1, append_run (η := w.eta tape) rfl (by rw [List.length_map]; omega), Option.bind_some]
  unfold Wd.eta Wd.say
  simp [Word.D]
theorem rn_e2 (k : Nat) (c h s sd j : D) (r : Row) (hr : r.target = none) (v : Val) (ρ : Rho) (hρ : RF c h s r.D sd j v.D ρ) (η : Eta) :
    ((ast P H (k + 20)).ex (scOf "_law_run") ρ η (wE 2)).run = match r with
      | .ret _ => some (out (.ret (.d (Ended.ret v).D)) ρ η)
      | _ => some (out .next ρ η) := by
  rcases hρ with rfl | ⟨p, rfl⟩
  · induction r with
    | cond c a t => cases hr
    | jump t => cases hr
    | ret x => cases v <;> kernel_rfl
    | _ => kernel_rfl
  · induction r with
    | cond c a t => cases hr
    | jump t => cases hr
    | ret x => cases v <;> kernel_rfl
    | _ => kernel_rfl
theorem rn_e3 (k : Nat) (c h s sd j : D) (r : Row) (hr : r.target = none) (v : Val) (ρ : Rho) (hρ : RF c h s r.D sd j v.D ρ) (w : Wd) (tape : List Val) :
    ((ast P H (k + 20)).ex (scOf "_law_run") ρ (w.eta tape) (wE 3)).run = match r with
      | .move i _ => some (out .next ρ ((w.setTemp i v).eta tape))
      | _ => some (out .next ρ (w.eta tape)) := by
  rcases hρ with rfl | ⟨p, rfl⟩
  · induction r with
    | cond c a t => cases hr
    | jump t => cases hr
    | move i a => cases i <;> kernel_rfl
    | _ => kernel_rfl
  · induction r with
    | cond c a t => cases hr
    | jump t => cases hr
    | move i a => cases i <;> kernel_rfl
    | _ => kernel_rfl
theorem rn_e4 (k : Nat) (c h s sd j : D) (r v : D) (ρ : Rho) (hρ : RF c h s r sd j v ρ) (η : Eta) :
    ((ast P H (k + 20)).ex (scOf "_law_run") ρ η (wE 4)).run = some (out .next (rn2 c h s r sd j v h) η) := by
  rcases hρ with rfl | ⟨p, rfl⟩ <;> kernel_rfl
/-- where it goes on: behind a throw, at its catch -/
theorem rn_e5 (k : Nat) (ds : List D) (ty nm tp lv s sd j : D) (h : Nat) (r : Row) (hr : r.target = none) (v : D) (η : Eta) :
    ((ast P H (k + 20)).ex (scOf "_law_run") (rn2 (run0 ds ty nm tp lv) (natD h) s r.D sd j v (natD h)) η (wE 5)).run = match r with
      | .throw _ => (P "_law_caught" [ty, natD h]).bind fun d => some (out .next (rn2 (run0 ds ty nm tp lv) d s r.D sd j v (natD h)) η)
      | _ => some (out .next (rn2 (run0 ds ty nm tp lv) (natD (h + 1)) s r.D sd j v (natD h)) η) := by
  induction r with
  | cond c a t => cases hr
  | jump t => cases hr
  | _ => kernel_rfl
theorem rn_e6 (k : Nat) (c s sd j r : D) (v : D) (h p : Nat) (η : Eta) :
    ((ast P H (k + 20)).ex (scOf "_law_run") (rn2 c (natD h) s r sd j v (natD p)) η (wE 6)).run = some (out .next (rn2 c (natD h) s r sd j v (natD p)) η) := by kernel_rfl
theorem rn_e6n (k : Nat) (c s sd j r : D) (v : Val) (p : Nat) (η : Eta) :
    ((ast P H (k + 20)).ex (scOf "_law_run") (rn2 c .none s r sd j v.D (natD p)) η (wE 6)).run = some (out (.ret (.d (Ended.thrown v).D)) (rn2 c .none s r sd j v.D (natD p)) η) := by cases v <;> kernel_rfl
theorem rn_4 (k : Nat) (c h r j : D) (s sd : Nat) (ρ : Rho) (hρ : RJ c h (natD s) r (natD sd) j ρ) (w : Wd) (tape : List Val) :
    ∃ ρ', ((ast P H (k + 20)).ex (scOf "_law_run") ρ (w.eta tape) (wS 4)).run = some (out .next ρ' (w.eta tape)) ∧ RJ c h (natD (if w.log.length = sd then s + 1 else 0)) r (natD sd) j ρ' := by
  have a1 : ((ast P H (k + 20)).ex (scOf "_law_run") (rn1 c h (natD s) r (natD sd) j) (w.eta tape) (wS 4)).run = match (((w.log.map Word.D).length : Int) == Int.ofNat sd) with
      | true => some (out .next (rn1 c h (natD (s + 1)) r (natD sd) j) (w.eta tape))
      | false => some (out .next (rn1 c h (natD 0) r (natD sd) j) (w.eta tape)) := by kernel_rfl
  have a2 : ∀ f p, ((ast P H (k + 20)).ex (scOf "_law_run") (rn2 c h (natD s) r (natD sd) j f p) (w.eta tape) (wS 4)).run = match (((w.log.map Word.D).length : Int) == Int.ofNat sd) with
      | true => some (out .next (rn2 c h (natD (s + 1)) r (natD sd) j f p) (w.eta tape))
      | false => some (out .next (rn2 c h (natD 0) r (natD sd) j f p) (w.eta tape)) := by intro f p; kernel_rfl
  have e : (((w.log.map Word.D).length : Int) == Int.ofNat sd) = decide (w.log.length = sd) := by
    rw [List.length_map, Bool.eq_iff_iff, beq_iff_eq, decide_eq_true_iff]
    exact Int.ofNat_inj
  rw [e] at a1
  by_cases q : w.log.length = sd
  · rw [decide_eq_true q] at a1
    rw [if_pos q]
    rcases hρ with rfl | ⟨f, p, rfl⟩
    · exact ⟨_, a1, .inl rfl⟩
    · have := a2 f p
      rw [e, decide_eq_true q] at this
      exact ⟨_, this, .inr ⟨f, p, rfl⟩⟩
  · rw [decide_eq_false q] at a1
    rw [if_neg q]
    rcases hρ with rfl | ⟨f, p, rfl⟩
    · exact ⟨_, a1, .inl rfl⟩
    · have := a2 f p
      rw [e, decide_eq_false q] at this
      exact ⟨_, this, .inr ⟨f, p, rfl⟩⟩
theorem rn_5 (k : Nat) (ds : List D) (ty nm tp lv h r sd j : D) (s : Nat) (ρ : Rho) (hρ : RJ (run0 ds ty nm tp lv) h (natD s) r sd j ρ) (η : Eta) :
    ((ast P H (k + 20)).ex (scOf "_law_run") ρ η (wS 5)).run = match decide (((ds.length : Int) + 1) < Int.ofNat s) with
      | true => some (out (.ret (.d Ended.ever.D)) ρ η)
      | false => some (out .next ρ η) := by
  rcases hρ with rfl | ⟨f, p, rfl⟩ <;> kernel_rfl
end
end Mine
end
section
namespace Mine
set_option tactic.hygienic false
open PySem

theorem RJ.rn {c h s r sd j : D} {ρ : Rho} (x : RJ c h s r sd j ρ) : RN c h s ρ := by
  rcases x with rfl | ⟨f, p, rfl⟩
  · exact .inr (.inl ⟨r, sd, j, rfl⟩)
  · exact .inr (.inr ⟨r, sd, j, f, p, rfl⟩)
noncomputable abbrev codeD (rows : List Row) (trys : List Try) (nm tp lv : D) : D := run0 (rows.map Row.D) (trysD trys) nm tp lv

theorem opWd_log (tape : List Val) (w : Wd) (a : Opd) : (opWd tape w a).log.length ≤ w.log.length + 1 := by
  cases a <;> simp [opWd]

/-- what a turn of the run comes to -/
noncomputable def TurnTo (c : D) (tape : List Val) (X : Option (Fl × Rho × Eta)) (o : (Ended × Wd) ⊕ St) : Prop :=
  ∃ ρ' fl w', X = some (out fl ρ' (w'.eta tape)) ∧
      (match o with
        | .inl (e, w2) => fl = .ret (.d e.D) ∧ w' = w2
        | .inr s2 => fl = .next ∧ w' = s2.w ∧ RN c (natD s2.here) (natD s2.silent) ρ')
theorem TurnTo.ret {c : D} {tape : List Val} {X : Option (Fl × Rho × Eta)} {e : Ended} {w : Wd} {ρ' : Rho} (h : X = some (out (.ret (.d e.D)) ρ' (w.eta tape))) : TurnTo c tape X (.inl (e, w)) := ⟨ρ', _, w, h, rfl, rfl⟩
theorem TurnTo.next {c : D} {tape : List Val} {X : Option (Fl × Rho × Eta)} {w : Wd} {h s : Nat} {ρ' : Rho} (e : X = some (out .next ρ' (w.eta tape))) (k : RN c (natD h) (natD s) ρ') : TurnTo c tape X (.inr ⟨h, s, w⟩) := ⟨ρ', _, w, e, rfl, rfl, k⟩

section
variable {P : Str → List D → Option D} {H : Str → List VV → Eta → Option (D × Eta)} {k h s L S : Nat} {rows : List Row} {trys : List Try} {nm tp lv j : D} {tape : List Val} {ρ1 ρ3 ρF : Rho} {η : Eta} {w w3 : Wd} {r : Row}
theorem turn_tail {h3 : Nat} {rd : D} (hS : (if w3.log.length = L then s + 1 else 0) = S) (e3 : ((ast P H (k + 28)).ex (scOf "_law_run") ρ1 η (wS 3)).run = some (out .next ρ3 (w3.eta tape))) (k3 : RJ (codeD rows trys nm tp lv) (natD h3) (natD s) rd (natD L) j ρ3) :
    TurnTo (codeD rows trys nm tp lv) tape ((ast P H (k + 29)).exs (scOf "_law_run") ρ1 η [wS 3, wS 4, wS 5]).run (if rows.length + 1 < S then .inl (.ever, w3) else .inr ⟨h3, S, w3⟩) := by
  obtain ⟨ρ4, e4, k4⟩ := rn_4 (P := P) (H := H) (k + 7) _ _ _ _ _ _ ρ3 k3 w3 tape
  rw [hS] at k4
  have e5 := rn_5 (P := P) (H := H) (k + 6) _ _ _ _ _ _ _ _ _ _ ρ4 k4 (w3.eta tape)
  have d2 : decide ((((rows.map Row.D).length : Int) + 1) < Int.ofNat S) = decide (rows.length + 1 < S) := by
    rw [List.length_map, Bool.eq_iff_iff, decide_eq_true_iff, decide_eq_true_iff]
    show ((rows.length : Int) + 1) < (S : Int) ↔ _
    omega
  rw [d2] at e5
  have e34 := (exs_next e3).trans (exs_next (ss := [wS 5]) e4)
  by_cases q : rows.length + 1 < S
  · rw [decide_eq_true q] at e5
    rw [if_pos q]
    exact .ret (e34.trans (exs_ret e5))
  · rw [decide_eq_false q] at e5
    rw [if_neg q]
    exact .next (e34.trans ((exs_next e5).trans exs_nil)) k4.rn
/-- behind a row that is no jump -/
theorem quiet_next {h3 : Nat} {rd v sd : D} (f2 : ((ast P H (k + 24)).ex (scOf "_law_run") ρF η (wE 2)).run = some (out .next ρF η)) (f3 : ((ast P H (k + 23)).ex (scOf "_law_run") ρF η (wE 3)).run = some (out .next ρF (w3.eta tape)))
    (kF : RF (codeD rows trys nm tp lv) (natD h) (natD s) rd sd j v ρF)
    (f5 : ((ast P H (k + 21)).ex (scOf "_law_run") (rn2 (codeD rows trys nm tp lv) (natD h) (natD s) rd sd j v (natD h)) (w3.eta tape) (wE 5)).run = some (out .next (rn2 (codeD rows trys nm tp lv) (natD h3) (natD s) rd sd j v (natD h)) (w3.eta tape))) :
    ((ast P H (k + 25)).exs (scOf "_law_run") ρF η [wE 2, wE 3, wE 4, wE 5, wE 6]).run = some (out .next (rn2 (codeD rows trys nm tp lv) (natD h3) (natD s) rd sd j v (natD h)) (w3.eta tape)) :=
  (exs_next f2).trans ((exs_next f3).trans ((exs_next (rn_e4 (k + 2) _ _ _ _ _ _ _ ρF kF _)).trans ((exs_next f5).trans ((exs_next (rn_e6 k _ _ _ _ _ _ h3 h _)).trans exs_nil))))
end

section
variable {n k : Nat} {rows : List Row} {trys : List Try} {nm tp lv : D} {tape : List Val} {h s : Nat} {w : Wd} {ρ1 : Rho} {r : Row}
theorem turn_quiet (ht : tape.length = 7) (hl : w.log.length ≤ 800) (ht2 : r.target = none) (k1 : RJ (codeD rows trys nm tp lv) (natD h) (natD s) r.D (natD w.log.length) (.bool r.isLed) ρ1) :
    TurnTo (codeD rows trys nm tp lv) tape ((ast (pcl FT (n + 2)) (hcl FT (n + 2)) (k + 29)).exs (scOf "_law_run") ρ1 (w.eta tape) [wS 3, wS 4, wS 5]).run
      (match act trys tape w h r with
        | .inl e => .inl e
        | .inr (h, w') => if rows.length + 1 < (if w'.log.length = w.log.length then s + 1 else 0) then .inl (.ever, w') else .inr ⟨h, (if w'.log.length = w.log.length then s + 1 else 0), w'⟩) := by
  have eS := rn_3s (P := pcl FT (n + 2)) (H := hcl FT (n + 2)) (k + 8) _ _ _ _ r ht2 ρ1 k1 (w.eta tape)
  rw [show ifE (wS 3) = [wE 0, wE 1, wE 2, wE 3, wE 4, wE 5, wE 6] from by kernel_rfl] at eS
  obtain ⟨ρF, f0, kF⟩ := rn_e0 (P := pcl FT (n + 2)) (H := hcl FT (n + 2)) (k + 6) _ _ _ _ _ r ht2 ρ1 k1 (w.eta tape) _ _ (value_spec (n + 1) r.opd w tape ht (by omega))
  have f1 := rn_e1 (P := pcl FT (n + 2)) (H := hcl FT (n + 2)) (k + 5) _ _ _ _ _ r ht2 (opVal tape w r.opd) ρF kF (opWd tape w r.opd) tape (by have := opWd_log tape w r.opd; omega)
  have f01 := eS.trans ((exs_next f0).trans (exs_next (ss := [wE 2, wE 3, wE 4, wE 5, wE 6]) f1))
  have f2 := rn_e2 (P := pcl FT (n + 2)) (H := hcl FT (n + 2)) (k + 4) _ _ _ _ _ r ht2 (opVal tape w r.opd) ρF kF (((opWd tape w r.opd).say r.say (opVal tape w r.opd)).eta tape)
  have f3 := rn_e3 (P := pcl FT (n + 2)) (H := hcl FT (n + 2)) (k + 3) _ _ _ _ _ r ht2 (opVal tape w r.opd) ρF kF ((opWd tape w r.opd).say r.say (opVal tape w r.opd)) tape
  have f5 := fun η => rn_e5 (P := pcl FT (n + 2)) (H := hcl FT (n + 2)) (k + 1) (rows.map Row.D) (trysD trys) nm tp lv (natD s) (natD w.log.length) (.bool r.isLed) h r ht2 (opVal tape w r.opd).D η
  clear eS f0 f1 k1 hl ht
  induction r with
  | cond c a t => exact nomatch ht2
  | jump t => exact nomatch ht2
  | echo a => exact turn_tail rfl (f01.trans (quiet_next f2 f3 kF (f5 _))) (.inr ⟨_, _, rfl⟩)
  | move i a => exact turn_tail rfl (f01.trans (quiet_next f2 f3 kF (f5 _))) (.inr ⟨_, _, rfl⟩)
  | ret a => exact .ret (exs_ret (f01.trans (exs_ret f2)))
  | throw a =>
    replace f5 : ∀ η, _ = ((pcl FT (n + 2)) "_law_caught" [trysD trys, natD h]).bind _ := f5
    simp only [caught_spec (n + 1) trys h, Option.bind_some] at f5
    unfold act
    induction hq : caught trys h with
    | some q =>
      simp only [hq] at f5
      exact turn_tail rfl (f01.trans (quiet_next f2 f3 kF (f5 _))) (.inr ⟨_, _, rfl⟩)
    | none =>
      simp only [hq] at f5
      exact .ret (exs_ret (f01.trans ((exs_next f2).trans ((exs_next f3).trans ((exs_next (rn_e4 (k + 2) _ _ _ _ _ _ _ ρF kF _)).trans ((exs_next (f5 _)).trans (exs_ret (rn_e6n k _ _ _ _ _ _ h _))))))))
theorem turn_body (ht : tape.length = 7) (hl : w.log.length ≤ 800) (k1 : RJ (codeD rows trys nm tp lv) (natD h) (natD s) r.D (natD w.log.length) (.bool r.isLed) ρ1) (hc : ¬ (12 < w.log.length ∧ r.speaks = true)) :
    TurnTo (codeD rows trys nm tp lv) tape ((ast (pcl FT (n + 2)) (hcl FT (n + 2)) (k + 29)).exs (scOf "_law_run") ρ1 (w.eta tape) [wS 3, wS 4, wS 5]).run (step ⟨rows, trys⟩ tape ⟨h, s, w⟩ r) := by
  unfold step
  rw [if_neg hc]
  clear hc
  have q : r.target = none → _ := fun ht2 => turn_quiet (n := n) (k := k) ht hl ht2 k1
  induction r with
  | jump u =>
    clear q
    obtain ⟨ρ3, e3, k3⟩ := rn_3j (P := pcl FT (n + 2)) (H := hcl FT (n + 2)) (k + 8) _ _ _ h u (.jump u) rfl ρ1 k1 (w.eta tape) true (w.eta tape) (goes_jump (n + 1) u w tape)
    exact turn_tail rfl e3 k3
  | cond c a u =>
    clear q
    obtain ⟨ρ3, e3, k3⟩ := rn_3j (P := pcl FT (n + 2)) (H := hcl FT (n + 2)) (k + 8) _ _ _ h u (.cond c a u) rfl ρ1 k1 (w.eta tape) _ _ (goes_spec n c a u w tape ht (by omega))
    exact turn_tail rfl e3 k3
  | _ => exact q rfl
end

theorem run_turn (n k : Nat) (rows : List Row) (trys : List Try) (nm tp lv : D) (tape : List Val) (ht : tape.length = 7) (h s : Nat) (w : Wd) (hl : w.log.length ≤ 800) (ρ : Rho) (hρ : RN (codeD rows trys nm tp lv) (natD h) (natD s) ρ) (r : Row) (hr : rows[h]? = some r) :
    TurnTo (codeD rows trys nm tp lv) tape ((ast (pcl FT (n + 2)) (hcl FT (n + 2)) (k + 32)).exs (scOf "_law_run") ρ (w.eta tape) (whB (bs "_law_run" 1))).run (step ⟨rows, trys⟩ tape ⟨h, s, w⟩ r) := by
  rw [show whB (bs "_law_run" 1) = [wS 0, wS 1, wS 2, wS 3, wS 4, wS 5] from by kernel_rfl]
  obtain ⟨ρ0, e0, k0⟩ := rn_0 (P := pcl FT (n + 2)) (H := hcl FT (n + 2)) (k + 11) rows (trysD trys) nm tp lv h (natD s) ρ hρ w tape r hr
  obtain ⟨ρ1, e1, k1⟩ := rn_1 (P := pcl FT (n + 2)) (H := hcl FT (n + 2)) (k + 10) _ _ _ _ r ρ0 k0 (w.eta tape)
  have e2 := rn_2 (P := pcl FT (n + 2)) (H := hcl FT (n + 2)) (k + 9) _ _ _ _ r ρ1 k1 (w.eta tape)
  rw [show decide ((12 : Int) < Int.ofNat w.log.length) = decide (12 < w.log.length) from by
    rw [Bool.eq_iff_iff, decide_eq_true_iff, decide_eq_true_iff]
    show (12 : Int) < (w.log.length : Int) ↔ _
    omega] at e2
  have e01 := (exs_next e0).trans (exs_next (ss := [wS 2, wS 3, wS 4, wS 5]) e1)
  by_cases hc : 12 < w.log.length ∧ r.speaks = true
  · rw [decide_eq_true hc.1, hc.2] at e2
    unfold step
    rw [if_pos hc]
    exact .ret (e01.trans (exs_ret e2))
  · have e2' : ((ast (pcl FT (n + 2)) (hcl FT (n + 2)) (k + 29)).ex (scOf "_law_run") ρ1 (w.eta tape) (wS 2)).run = some (out .next ρ1 (w.eta tape)) := by
      refine e2.trans ?_
      by_cases hd : 12 < w.log.length
      · rw [decide_eq_true hd]
        exact if_neg fun z => hc ⟨hd, z⟩
      · rw [decide_eq_false hd]
    rw [e01.trans (exs_next e2')]
    exact turn_body ht hl k1 hc
end Mine
end
section
namespace Mine
set_option tactic.hygienic false
open PySem

theorem act_log {trys : List Try} {tape : List Val} {w w' : Wd} {h h' : Nat} {r : Row} (e : act trys tape w h r = .inr (h', w')) : w'.log.length ≤ w.log.length + 2 := by
  have key : ∀ a s v, ((opWd tape w a).say s v).log.length ≤ w.log.length + 2 := fun a s v => by
    have := opWd_log tape w a
    simp [Wd.say]; omega
  induction r with
  | jump t => cases e; omega
  | cond c a t => cases e; have := opWd_log tape w a; omega
  | echo a => cases e; exact key a _ _
  | move i a =>
    cases e
    have := key a .move (opVal tape w a)
    cases i <;> exact this
  | throw a =>
    simp only [act] at e
    split at e
    · cases e; exact key a _ _
    · cases e
  | ret a => cases e
set_option tactic.hygienic true in
theorem step_log {c : Cod} {tape : List Val} {s s' : St} {r : Row} (e : step c tape s r = .inr s') (hl : s.w.log.length ≤ 14) (h0 : ∀ w h, r.speaks = false → act c.trys tape s.w s.here r = .inr (h, w) → w = s.w) : s'.w.log.length ≤ 14 := by
  unfold step at e
  split at e
  · cases e
  · rename_i hc
    split at e
    · cases e
    · rename_i h w he
      dsimp only at e
      generalize (if w.log.length = s.w.log.length then s.silent + 1 else 0) = sil at e
      by_cases hsil : c.rows.length + 1 < sil
      · rw [if_pos hsil] at e; cases e
      · rw [if_neg hsil] at e
        cases e
        dsimp only
        by_cases hs : r.speaks = true
        · have h12 : ¬ 12 < s.w.log.length := fun z => hc ⟨z, hs⟩
          have := act_log he
          omega
        · have := h0 w h (by simpa using hs) he
          rw [this]; exact hl
theorem act_silent {trys : List Try} {tape : List Val} {w w' : Wd} {h h' : Nat} {r : Row} (hs : r.speaks = false) (e : act trys tape w h r = .inr (h', w')) : w' = w := by
  induction r with
  | jump t => cases e; rfl
  | cond c a t =>
    cases e
    induction a with
    | cv i => cases hs
    | _ => rfl
  | _ => cases hs

theorem run_spec (n : Nat) (rows : List Row) (trys : List Try) (nm tp lv : D) (tape : List Val) (ht : tape.length = 7) (w0 w' : Wd) (hl : w0.log.length ≤ 14) (e : Ended) (m : Nat) (hm : m < 1000) (hr : runN ⟨rows, trys⟩ tape m ⟨0, 0, w0⟩ = some (e, w')) :
    hcl FT (n + 3) "_law_run" [.d (codeD rows trys nm tp lv), .h 2] (w0.eta tape) = some (e.D, w'.eta tape) := by
  have loop : ∃ fl ρ η, (whileGo (ast (pcl FT (n + 2)) (hcl FT (n + 2)) 57) (scOf "_law_run") wT (whB (bs "_law_run" 1)) (rnB (codeD rows trys nm tp lv) (natD 0) (natD 0)) (w0.eta tape) 1000).run = some (out fl ρ η) ∧
      (η = w'.eta tape ∧ ((fl = .next ∧ e = .fin ∧ ∃ h s, RN (codeD rows trys nm tp lv) h s ρ) ∨ fl = .ret (.d e.D))) := by
    refine whileGo_inv (fun m ρ η => ∃ s : St, RN (codeD rows trys nm tp lv) (natD s.here) (natD s.silent) ρ ∧ η = s.w.eta tape ∧ s.w.log.length ≤ 14 ∧ runN ⟨rows, trys⟩ tape m s = some (e, w')) _ ?_ 1000 m _ _ ⟨⟨0, 0, w0⟩, .inl rfl, rfl, hl, hr⟩ hm
    rintro m ρ η ⟨s, hρ, rfl, hl, hrun⟩
    have e1 := rn_t (P := pcl FT (n + 2)) (H := hcl FT (n + 2)) 37 (rows.map Row.D) (trysD trys) nm tp lv s.here (natD s.silent) ρ hρ (s.w.eta tape)
    cases m with
    | zero => cases hrun
    | succ m =>
      rw [runN] at hrun
      induction hq : rows[s.here]? with
      | none =>
        have hlen : rows.length ≤ s.here := List.getElem?_eq_none_iff.mp hq
        have d : decide (Int.ofNat s.here < ((rows.map Row.D).length : Int)) = false := by
          rw [decide_eq_false_iff_not, List.length_map]
          show ¬ ((s.here : Int) < _)
          omega
        rw [d] at e1
        dsimp only at hrun
        rw [hq] at hrun
        cases hrun
        exact ⟨false, _, e1, rfl, .inl ⟨rfl, rfl, _, _, hρ⟩⟩
      | some r =>
        have hlen : s.here < rows.length := (List.getElem?_eq_some_iff.mp hq).1
        have d : decide (Int.ofNat s.here < ((rows.map Row.D).length : Int)) = true := by
          rw [decide_eq_true_iff, List.length_map]
          show (s.here : Int) < _
          omega
        rw [d] at e1
        dsimp only at hrun
        rw [hq] at hrun
        dsimp only at hrun
        obtain ⟨ρ', fl, w2, hrun2, hm2⟩ := run_turn n 25 rows trys nm tp lv tape ht s.here s.silent s.w (by omega) ρ hρ r hq
        have es : (⟨s.here, s.silent, s.w⟩ : St) = s := rfl
        rw [es] at hm2
        induction hst : step ⟨rows, trys⟩ tape s r with
        | inl q =>
          obtain ⟨e2, w3⟩ := q
          rw [hst] at hm2 hrun
          obtain ⟨rfl, rfl⟩ := hm2
          cases hrun
          refine ⟨true, _, e1, ?_⟩
          refine ⟨_, _, _, hrun2, ?_⟩
          exact ⟨rfl, .inr rfl⟩
        | inr s2 =>
          rw [hst] at hm2 hrun
          obtain ⟨rfl, rfl, k2⟩ := hm2
          exact ⟨true, _, e1, .next, _, _, hrun2, m, Nat.lt_succ_self m, s2, k2, rfl, step_log hst hl (fun w h hs he => act_silent hs he), hrun⟩
  obtain ⟨fl, ρ, η, e1, rfl, h⟩ := loop
  refine hcl_is (x := "_law_run") (ρ0 := [("code", .d (codeD rows trys nm tp lv)), ("world", .h 2)]) (ss := [bs "_law_run" 0, sWhile (bs "_law_run" 1), bs "_law_run" 2]) (by kernel_rfl) (by kernel_rfl) (by kernel_rfl) (by kernel_rfl)
    (nx (ρ1 := rnB (codeD rows trys nm tp lv) (natD 0) (natD 0)) (η1 := w0.eta tape) (by kernel_rfl) ?_)
  rcases h with ⟨rfl, rfl, h, s, hρ⟩ | rfl
  · refine nx e1 ?_
    rcases hρ with rfl | ⟨r, sd, j, rfl⟩ | ⟨r, sd, j, f, p, rfl⟩ <;> kernel_rfl
  · refine nret e1 ?_
    induction e with
    | fin => kernel_rfl
    | cut => kernel_rfl
    | ever => kernel_rfl
    | thrown v => kernel_rfl
    | ret v => kernel_rfl

/-! ### _law_told -/
noncomputable def wd0 : Wd := ⟨[], .t, .none⟩
noncomputable def toldD (e : Ended) (w : Wd) : D := .tup [e.D, .lst (w.log.map Word.D)]
theorem told_spec (n : Nat) (rows : List Row) (trys : List Try) (nm tp lv : D) (tape : List Val) (ht : tape.length = 7) (w' : Wd) (e : Ended) (m : Nat) (hm : m < 1000) (hr : runN ⟨rows, trys⟩ tape m ⟨0, 0, wd0⟩ = some (e, w')) :
    pcl FT (n + 4) "_law_told" [codeD rows trys nm tp lv, .lst (tape.map Val.D)] = some (toldD e w') := by
  have e1 : ((ast (pcl FT (n + 3)) (hcl FT (n + 3)) 58).ex (scOf "_law_told") [("code", .d (codeD rows trys nm tp lv)), ("tape", .d (.lst (tape.map Val.D))), ("world", .h 2)] (wd0.eta tape) (bs "_law_told" 1)).run =
      (hcl FT (n + 3) "_law_run" [.d (codeD rows trys nm tp lv), .h 2] (wd0.eta tape)).bind fun q => some (out .next [("code", .d (codeD rows trys nm tp lv)), ("tape", .d (.lst (tape.map Val.D))), ("world", .h 2), ("ended", .d q.1)] q.2) := by kernel_rfl
  rw [run_spec n rows trys nm tp lv tape ht wd0 w' (Nat.zero_le _) e m hm hr] at e1
  exact pcl_is (x := "_law_told") (ρ0 := [("code", .d (codeD rows trys nm tp lv)), ("tape", .d (.lst (tape.map Val.D)))]) (ss := [bs "_law_told" 0, bs "_law_told" 1, bs "_law_told" 2]) (by kernel_rfl) (by kernel_rfl) (by kernel_rfl) (by kernel_rfl)
    (nx (ρ1 := [("code", .d (codeD rows trys nm tp lv)), ("tape", .d (.lst (tape.map Val.D))), ("world", .h 2)]) (η1 := wd0.eta tape) (by kernel_rfl) (nx e1 (by kernel_rfl)))
end Mine
end
section
namespace Mine
set_option tactic.hygienic false
open PySem

/-! ### _law_leaves -/
noncomputable abbrev lvR (rows : D) (p : Nat) : Rho := [("rows", .d rows), ("place", .d (natD p))]
noncomputable abbrev lvR1 (rows : D) (p : D) (t : D) : Rho := [("rows", .d rows), ("place", .d p), ("turn", .d t)]
noncomputable abbrev lvS (i : Nat) : Stmt := stAt (forB (bs "_law_leaves" 0)) i
section
variable {P : Str → List D → Option D} {H : Str → List VV → Eta → Option (D × Eta)}
theorem lv_0 (k : Nat) (ds : List D) (p : Nat) (t : D) : ((ast P H (k + 20)).ex (scOf "_law_leaves") (lvR1 (.lst ds) (natD p) t) [] (lvS 0)).run =
    match decide ((ds.length : Int) ≤ Int.ofNat p) with
    | true => some (out (.ret (.d (.bool true))) (lvR1 (.lst ds) (natD p) t) [])
    | false => ((ds[p]?).map VV.d).bind fun u => (itemOf u (.int 0) []).bind fun o => (frz o []).bind fun q => ((pyEq q.1 (.str "jump")).map fun b => !b).bind fun b => match b with
      | true => some (out (.ret (.d (.bool true))) (lvR1 (.lst ds) (natD p) t) q.2)
      | false => some (out .next (lvR1 (.lst ds) (natD p) t) q.2) := by kernel_rfl
theorem lv_1 (k : Nat) (ds : List D) (p : Nat) (t : D) : ((ast P H (k + 20)).ex (scOf "_law_leaves") (lvR1 (.lst ds) (natD p) t) [] (lvS 1)).run =
    ((ds[p]?).map VV.d).bind fun u => (itemOf u (.int 3) []).bind fun o => (bindT (scOf "_law_leaves") (lvR1 (.lst ds) (natD p) t) (.Name "place" default) o).bind fun ρ => some (out .next ρ []) := by kernel_rfl
theorem lv_loop (k : Nat) (rows : List Row) (p : Nat) (ds : List D) :
    ∃ fl ρ η, (forGo (ast P H (k + 22)) (scOf "_law_leaves") (forT (bs "_law_leaves" 0)) (forB (bs "_law_leaves" 0)) (lvR (rowsD rows) p) [] ds).run = some (out fl ρ η) ∧
      (η = [] ∧ match (chain rows ds.length p) with
        | some _ => fl = .ret (.d (.bool true))
        | none => fl = .next ∧ ∃ tl, ρ = rapp [("rows", .d (rowsD rows))] tl) := by
  have hb : forB (bs "_law_leaves" 0) = [lvS 0, lvS 1] := by kernel_rfl
  refine forGo_inv (fun ds' ρ η => ∃ q, η = [] ∧ chain rows ds.length p = chain rows ds'.length q ∧ (ρ = lvR (rowsD rows) q ∨ ∃ t, ρ = lvR1 (rowsD rows) (natD q) t)) _ ?_ ?_ _ _ _ ⟨p, rfl, rfl, .inl rfl⟩
  · rintro d ds' ρ η ⟨q, rfl, hc, hρ⟩
    have hb1 : bindT (scOf "_law_leaves") ρ (forT (bs "_law_leaves" 0)) (.d d) = some (lvR1 (rowsD rows) (natD q) d) := by
      rcases hρ with rfl | ⟨t, rfl⟩ <;> kernel_rfl
    rw [List.length_cons, chain] at hc
    have e0 := lv_0 (P := P) (H := H) (k + 1) (rows.map Row.D) q d
    have e1 := lv_1 (P := P) (H := H) k (rows.map Row.D) q d
    induction hu : rows[q]? with
    | none =>
      have hlen : rows.length ≤ q := List.getElem?_eq_none_iff.mp hu
      have dd : decide (((rows.map Row.D).length : Int) ≤ Int.ofNat q) = true := by
        rw [decide_eq_true_iff, List.length_map]
        show _ ≤ ((q : Nat) : Int)
        omega
      rw [dd] at e0
      have run := exs_ret (ss := [lvS 1]) e0
      rw [← hb] at run
      refine ⟨_, .ret _, _, _, hb1, run, rfl, ?_⟩
      rw [hc, hu]
    | some r =>
      have hlen : q < rows.length := (List.getElem?_eq_some_iff.mp hu).1
      have dd : decide (((rows.map Row.D).length : Int) ≤ Int.ofNat q) = false := by
        rw [decide_eq_false_iff_not, List.length_map]
        show ¬ (_ ≤ ((q : Nat) : Int))
        omega
      have e2 : (rows.map Row.D)[q]? = some r.D := by rw [List.getElem?_map, hu]; rfl
      rw [dd, e2] at e0
      rw [e2] at e1
      have e0' := e0.trans ((Option.bind_some _ _).trans (op_not_jump r (fun η => out (.ret (.d (.bool true))) (lvR1 (rowsD rows) (natD q) d) η) (fun η => out .next (lvR1 (rowsD rows) (natD q) d) η)))
      induction r with
      | jump u =>
        have e1' : ((ast P H (k + 20)).ex (scOf "_law_leaves") (lvR1 (rowsD rows) (natD q) d) [] (lvS 1)).run = some (out .next (lvR1 (rowsD rows) (natD u) d) []) := e1.trans (by kernel_rfl)
        have run := (exs_next (ss := [lvS 1]) e0').trans ((exs_next (ss := []) e1').trans exs_nil)
        rw [← hb] at run
        refine ⟨_, .next, _, _, hb1, run, u, rfl, ?_, .inr ⟨d, rfl⟩⟩
        rw [hc, hu]
      | _ =>
        have run := exs_ret (ss := [lvS 1]) e0'
        rw [← hb] at run
        refine ⟨_, .ret _, _, _, hb1, run, rfl, ?_⟩
        rw [hc, hu]
  · rintro ρ η ⟨q, rfl, hc, hρ⟩
    rw [hc]
    refine ⟨rfl, rfl, ?_⟩
    rcases hρ with rfl | ⟨t, rfl⟩
    · exact ⟨[("place", .d (natD q))], rfl⟩
    · exact ⟨[("place", .d (natD q)), ("turn", .d t)], rfl⟩
end
theorem leaves_spec (n : Nat) (rows : List Row) (p : Nat) (hl : rows.length ≤ 900) : pcl FT (n + 1) "_law_leaves" [rowsD rows, natD p] = some (.bool (chain rows (rows.length + 1) p).isSome) := by
  obtain ⟨fl, ρ, η, e, rfl, h⟩ := lv_loop 36 (P := pcl FT n) (H := hcl FT n) rows p ((List.range (rows.length + 1)).map fun (k : Nat) => D.int (k : Int))
  rw [List.length_map, List.length_range] at h
  have i1 : (itr (ast (pcl FT n) (hcl FT n) 58) (scOf "_law_leaves") (lvR (rowsD rows) p) [] (forI (bs "_law_leaves" 0))).run = (rangeD (.int (((rows.map Row.D).length : Int) + 1))).bind fun ds => some (ds, []) := by kernel_rfl
  rw [List.length_map, show ((rows.length : Int) + 1) = ((rows.length + 1 : Nat) : Int) from rfl, range_itr _ (by omega)] at i1
  refine pcl_is (x := "_law_leaves") (ρ0 := lvR (rowsD rows) p) (ss := [sFor (bs "_law_leaves" 0), bs "_law_leaves" 1]) (by kernel_rfl) (by kernel_rfl) (by kernel_rfl) (by kernel_rfl) ?_
  induction q : chain rows (rows.length + 1) p with
  | none =>
    rw [q] at h
    obtain ⟨rfl, tl, rfl⟩ := h
    exact nx (ex_for_ok i1 e) (by kernel_rfl)
  | some y =>
    rw [q] at h
    subst h
    exact nret (ex_for_ok i1 e) rfl

/-! ### comprehensions -/
theorem comp_map {I : Interp} {sc : Sc} {ρ : Rho} {x : Str} {elt : Expr} {η : Eta} {f : D → D} : ∀ {ds : List D}, (∀ d ∈ ds, (evD I sc ((x, .d d) :: ρ) η elt).run = some (f d, η)) → (compGo I sc ρ x [] elt η ds).run = some (ds.map f, η)
  | [], _ => rfl
  | d :: ds, h => by
    have h1 := h d (.head _)
    have ih := comp_map (ds := ds) fun e he => h e (.tail _ he)
    have : (compGo I sc ρ x [] elt η (d :: ds)).run = ((evD I sc ((x, .d d) :: ρ) η elt).bind fun r => (compGo I sc ρ x [] elt r.2 ds).bind fun q => .pure (r.1 :: q.1, q.2)).run := rfl
    rw [this, B.run_bind, h1, Option.bind_some, B.run_bind, ih]
    rfl
theorem comp_filter {I : Interp} {sc : Sc} {ρ : Rho} {x : Str} {t elt : Expr} {η : Eta} {p : D → Bool} {f : D → D} : ∀ {ds : List D}, (∀ d ∈ ds, (I.tr sc ((x, .d d) :: ρ) η t).run = some (p d, η)) → (∀ d ∈ ds, p d = true → (evD I sc ((x, .d d) :: ρ) η elt).run = some (f d, η)) →
    (compGo I sc ρ x [t] elt η ds).run = some ((ds.filter p).map f, η)
  | [], _, _ => rfl
  | d :: ds, h0, h => by
    have h1 := h0 d (.head _)
    have ih := comp_filter (p := p) (ds := ds) (fun e he => h0 e (.tail _ he)) fun e he => h e (.tail _ he)
    rw [compGo, B.run_bind, testAll, B.run_bind, h1, Option.bind_some, B.run_br]
    induction q : p d with
    | false =>
      show (B.br false ((evD I sc ((x, .d d) :: ρ) η elt).bind fun r => (compGo I sc ρ x [t] elt r.2 ds).bind fun q => .pure (r.1 :: q.1, q.2)) (compGo I sc ρ x [t] elt η ds)).run = _
      rw [B.run_br]
      simp only [Bool.false_eq_true, if_false]
      rw [ih, List.filter_cons, q]
      rfl
    | true =>
      show (B.br true ((evD I sc ((x, .d d) :: ρ) η elt).bind fun r => (compGo I sc ρ x [t] elt r.2 ds).bind fun q => .pure (r.1 :: q.1, q.2)) (compGo I sc ρ x [t] elt η ds)).run = _
      rw [B.run_br]
      simp only [if_true]
      rw [B.run_bind, h d (.head _) q, Option.bind_some, B.run_bind, ih, List.filter_cons, q]
      rfl

noncomputable def cmpElt : Expr → Expr
  | .ListComp e _ _ _ => e
  | _ => default
noncomputable def cmpSc : Expr → Scope
  | .ListComp _ _ s _ => s
  | _ => default
noncomputable def cmpIt : Expr → Expr
  | .ListComp _ [⟨_, i, _, _⟩] _ _ => i
  | _ => default
noncomputable def cmpIfs : Expr → List Expr
  | .ListComp _ [⟨_, _, i, _⟩] _ _ => i
  | _ => default
noncomputable def cmpX : Expr → Str
  | .ListComp _ [⟨.Name x _, _, _, _⟩] _ _ => x
  | _ => default
noncomputable def cmpXp : Expr → Pos
  | .ListComp _ [⟨.Name _ p, _, _, _⟩] _ _ => p
  | _ => default
noncomputable def cmpP : Expr → Pos
  | .ListComp _ _ _ p => p
  | _ => default
noncomputable def asgE : Stmt → Expr
  | .Assign _ e _ => e
  | .Return (some e) _ => e
  | _ => default
noncomputable def asgN : Stmt → Str
  | .Assign [.Name x _] _ _ => x
  | _ => default
noncomputable def asgNp : Stmt → Pos
  | .Assign [.Name _ p] _ _ => p
  | _ => default
noncomputable def asgP : Stmt → Pos
  | .Assign _ _ p => p
  | .Return _ p => p
  | _ => default
noncomputable abbrev cmpE (e : Expr) : Expr := .ListComp (cmpElt e) [⟨.Name (cmpX e) (cmpXp e), cmpIt e, cmpIfs e, 0⟩] (cmpSc e) (cmpP e)
noncomputable abbrev sAsgC (s : Stmt) : Stmt := .Assign [.Name (asgN s) (asgNp s)] (cmpE (asgE s)) (asgP s)
noncomputable abbrev sRetC (s : Stmt) : Stmt := .Return (some (cmpE (asgE s))) (asgP s)
noncomputable abbrev scopeOk (sc : Sc) (ρ : Rho) (x : Str) (scope : Scope) : Prop := scope.kind = .function ∧ scope.names.lookup x = some .local ∧ scope.names.lookup (Str.ofString "__debug__") = none ∧ scope.names.lookup (Str.ofString "__classdict__") = none ∧ scope.names.all (nameOk sc ρ scope.names) = true
section
variable {P : Str → List D → Option D} {H : Str → List VV → Eta → Option (D × Eta)} {sc : Sc} {ρ : Rho} {η η1 η2 : Eta} {I : Interp}
theorem evComp_run {x : Str} {px : Pos} {it elt : Expr} {ifs : List Expr} {scope : Scope} {ds : List D} {r : List D × Eta} (hs : scopeOk sc ρ x scope) (h1 : (itr I sc ρ η it).run = some (ds, η1)) (hl : ds.length ≤ 1000)
    (h2 : (compGo I scope.names (freeOf scope.names ρ) x ifs elt η1 ds).run = some r) : (evComp I sc ρ η elt [⟨.Name x px, it, ifs, 0⟩] scope).run = some r := by
  have : evComp I sc ρ η elt [⟨.Name x px, it, ifs, 0⟩] scope = (itr I sc ρ η it).bind fun q =>
      if scopeOk sc ρ x scope then .br (decide (q.1.length ≤ 1000)) (compGo I scope.names (freeOf scope.names ρ) x ifs elt q.2 q.1) .fail else .fail := rfl
  rw [this, B.run_bind, h1, Option.bind_some, if_pos hs, B.run_br, if_pos (decide_eq_true hl)]
  exact h2
theorem asgC_run {k : Nat} {y x : Str} {yp px cp ap : Pos} {it elt : Expr} {ifs : List Expr} {scope : Scope} {qs : List D} {ρ1 : Rho} (h : (evComp (ast P H k) sc ρ η elt [⟨.Name x px, it, ifs, 0⟩] scope).run = some (qs, η1)) (hy : y ≠ "led") (hb : bindT sc ρ (.Name y yp) (.d (.lst qs)) = some ρ1) :
    ((ast P H (k + 1)).ex sc ρ η (.Assign [.Name y yp] (.ListComp elt [⟨.Name x px, it, ifs, 0⟩] scope cp) ap)).run = some (out .next ρ1 η1) := by
  show (((evComp (ast P H k) sc ρ η elt [⟨.Name x px, it, ifs, 0⟩] scope).bind fun q => if y = "led" then B.pure (VV.h q.2.length, q.2 ++ [HO.hl q.1]) else .pure (.d (.lst q.1), q.2)).bind fun r => (B.lift (bindT sc ρ (.Name y yp) r.1)).bind fun ρ => B.pure (Fl.next, ρ, r.2)).run = _
  rw [B.run_bind, B.run_bind, h, Option.bind_some, if_neg hy]
  show ((B.lift (bindT sc ρ (.Name y yp) (.d (.lst qs)))).bind fun ρ => B.pure (Fl.next, ρ, η1)).run = _
  rw [B.run_bind, B.run_lift, hb]; rfl
theorem asgCh_run {k : Nat} {y x : Str} {yp px cp ap : Pos} {it elt : Expr} {ifs : List Expr} {scope : Scope} {qs : List D} {ρ1 : Rho} (h : (evComp (ast P H k) sc ρ η elt [⟨.Name x px, it, ifs, 0⟩] scope).run = some (qs, η1)) (hy : y = "led") (hb : bindT sc ρ (.Name y yp) (.h η1.length) = some ρ1) :
    ((ast P H (k + 1)).ex sc ρ η (.Assign [.Name y yp] (.ListComp elt [⟨.Name x px, it, ifs, 0⟩] scope cp) ap)).run = some (out .next ρ1 (η1 ++ [.hl qs])) := by
  show (((evComp (ast P H k) sc ρ η elt [⟨.Name x px, it, ifs, 0⟩] scope).bind fun q => if y = "led" then B.pure (VV.h q.2.length, q.2 ++ [HO.hl q.1]) else .pure (.d (.lst q.1), q.2)).bind fun r => (B.lift (bindT sc ρ (.Name y yp) r.1)).bind fun ρ => B.pure (Fl.next, ρ, r.2)).run = _
  rw [B.run_bind, B.run_bind, h, Option.bind_some, if_pos hy]
  show ((B.lift (bindT sc ρ (.Name y yp) (.h η1.length))).bind fun ρ => B.pure (Fl.next, ρ, η1 ++ [HO.hl qs])).run = _
  rw [B.run_bind, B.run_lift, hb]; rfl
theorem retC_run {k : Nat} {x : Str} {px cp ap : Pos} {it elt : Expr} {ifs : List Expr} {scope : Scope} {qs : List D} (h : (evComp (ast P H k) sc ρ η elt [⟨.Name x px, it, ifs, 0⟩] scope).run = some (qs, η1)) :
    ((ast P H (k + 2)).ex sc ρ η (.Return (some (.ListComp elt [⟨.Name x px, it, ifs, 0⟩] scope cp)) ap)).run = some (out (.ret (.d (.lst qs))) ρ η1) := by
  show (((evComp (ast P H k) sc ρ η elt [⟨.Name x px, it, ifs, 0⟩] scope).bind fun q => B.pure (VV.d (.lst q.1), q.2)).bind fun r => B.pure (Fl.ret r.1, ρ, r.2)).run = _
  rw [B.run_bind, B.run_bind, h]; rfl
end

/-! ### _law_ahead -/
noncomputable def bareOf (r : Row) : D := if r.isLed then .int 0 else .int 1
noncomputable def bareN (rows : List Row) (p : Nat) : Nat := (rows.take p).countP fun r => !r.isLed
noncomputable def aheadD (rows : List Row) (trys : List Try) : D := .lst (trys.map fun y => .lst [natD (bareN rows y.first), natD (bareN rows y.catch_), natD (bareN rows y.stop)])
theorem sum_bare : ∀ rows : List Row, sumI (rows.map bareOf) = some ((rows.countP fun r => !r.isLed : Nat) : Int)
  | [] => rfl
  | r :: rows => by
    have ih := sum_bare rows
    rw [List.map_cons, List.countP_cons]
    induction q : r.isLed with
    | true =>
      rw [show bareOf r = .int 0 from by unfold bareOf; rw [q]; rfl, sumI, ih]
      simp
    | false =>
      rw [show bareOf r = .int 1 from by unfold bareOf; rw [q]; rfl, sumI, ih]
      simp
      omega
theorem compGo_cons {I : Interp} {sc : Sc} {ρ : Rho} {x : Str} {elt : Expr} {η : Eta} {d : D} {ds : List D} : (compGo I sc ρ x [] elt η (d :: ds)).run = ((evD I sc ((x, .d d) :: ρ) η elt).bind fun r => (compGo I sc ρ x [] elt r.2 ds).bind fun q => .pure (r.1 :: q.1, q.2)).run := rfl
section
variable {P : Str → List D → Option D} {H : Str → List VV → Eta → Option (D × Eta)}
theorem ah_bare (k : Nat) (r : Row) (ρ : Rho) : (evD (ast P H (k + 20)) (cmpSc (asgE (bs "_law_ahead" 0))).names (("row", .d r.D) :: ρ) [] (cmpElt (asgE (bs "_law_ahead" 0)))).run = some (bareOf r, []) := by
  induction r with
  | cond c a t => cases c <;> kernel_rfl
  | _ => kernel_rfl
theorem ah_sum (k : Nat) (bl : List D) (y : Try) : (evD (ast P H (k + 20)) (cmpSc (asgE (bs "_law_ahead" 1))).names [("held", .d y.D), ("bare", .d (.lst bl))] [] (cmpElt (asgE (bs "_law_ahead" 1)))).run =
    ((sumI (bl.take y.first)).map fun s => D.int s).bind fun a => ((sumI (bl.take y.catch_)).map fun s => D.int s).bind fun b => ((sumI (bl.take y.stop)).map fun s => D.int s).bind fun c => some (.lst [a, b, c], []) := by kernel_rfl
theorem ah_0 (k : Nat) (rows : List Row) (nm tp ty lv : D) (hl : rows.length ≤ 900) : ((ast P H (k + 25)).ex (scOf "_law_ahead") [("code", .d (.code (rowsD rows) nm tp ty lv))] [] (sAsgC (bs "_law_ahead" 0))).run =
    some (out .next [("code", .d (.code (rowsD rows) nm tp ty lv)), ("bare", .d (.lst (rows.map bareOf)))] []) := by
  have hf : freeOf (cmpSc (asgE (bs "_law_ahead" 0))).names [("code", .d (.code (rowsD rows) nm tp ty lv))] = [] := by kernel_rfl
  have key : ∀ rs : List Row, (compGo (ast P H (k + 24)) (cmpSc (asgE (bs "_law_ahead" 0))).names [] (cmpX (asgE (bs "_law_ahead" 0))) (cmpIfs (asgE (bs "_law_ahead" 0))) (cmpElt (asgE (bs "_law_ahead" 0))) [] (rs.map Row.D)).run = some (rs.map bareOf, []) := by
    intro rs
    rw [show cmpIfs (asgE (bs "_law_ahead" 0)) = [] from by kernel_rfl, show cmpX (asgE (bs "_law_ahead" 0)) = "row" from by kernel_rfl]
    induction rs with
    | nil => rfl
    | cons r rs ih =>
      have h1 := ah_bare (P := P) (H := H) (k + 4) r []
      rw [List.map_cons, compGo_cons, B.run_bind, h1, Option.bind_some, B.run_bind, ih]
      rfl
  refine asgC_run (evComp_run (ds := rows.map Row.D) (η1 := []) ⟨by kernel_rfl, by kernel_rfl, by kernel_rfl, by kernel_rfl, by kernel_rfl⟩ (by kernel_rfl) (by rw [List.length_map]; omega) (by rw [hf]; exact key rows)) (by rw [show asgN (bs "_law_ahead" 0) = "bare" from by kernel_rfl]; decide) (by kernel_rfl)
theorem take_bare (rows : List Row) (p : Nat) : sumI ((rows.map bareOf).take p) = some ((bareN rows p : Nat) : Int) := by
  rw [← List.map_take, sum_bare]; rfl
theorem ah_1 (k : Nat) (rows : List Row) (trys : List Try) (nm tp lv : D) (hl : trys.length ≤ 900) : ((ast P H (k + 30)).ex (scOf "_law_ahead") [("code", .d (.code (rowsD rows) nm tp (trysD trys) lv)), ("bare", .d (.lst (rows.map bareOf)))] [] (sRetC (bs "_law_ahead" 1))).run =
    some (out (.ret (.d (aheadD rows trys))) [("code", .d (.code (rowsD rows) nm tp (trysD trys) lv)), ("bare", .d (.lst (rows.map bareOf)))] []) := by
  have hf : freeOf (cmpSc (asgE (bs "_law_ahead" 1))).names [("code", .d (.code (rowsD rows) nm tp (trysD trys) lv)), ("bare", .d (.lst (rows.map bareOf)))] = ([("bare", .d (.lst (rows.map bareOf)))] : Rho) := by kernel_rfl
  have key : ∀ rs : List Try, (compGo (ast P H (k + 28)) (cmpSc (asgE (bs "_law_ahead" 1))).names [("bare", .d (.lst (rows.map bareOf)))] (cmpX (asgE (bs "_law_ahead" 1))) (cmpIfs (asgE (bs "_law_ahead" 1))) (cmpElt (asgE (bs "_law_ahead" 1))) [] (rs.map Try.D)).run =
      some (rs.map fun y => .lst [natD (bareN rows y.first), natD (bareN rows y.catch_), natD (bareN rows y.stop)], []) := by
    intro rs
    rw [show cmpIfs (asgE (bs "_law_ahead" 1)) = [] from by kernel_rfl, show cmpX (asgE (bs "_law_ahead" 1)) = "held" from by kernel_rfl]
    induction rs with
    | nil => rfl
    | cons y rs ih =>
      have h1 := ah_sum (P := P) (H := H) (k + 8) (rows.map bareOf) y
      rw [take_bare, take_bare, take_bare] at h1
      rw [List.map_cons, compGo_cons, B.run_bind, h1]
      show Option.bind (some _) _ = _
      rw [Option.bind_some, B.run_bind, ih]
      rfl
  exact retC_run (evComp_run (ds := trys.map Try.D) (η1 := []) ⟨by kernel_rfl, by kernel_rfl, by kernel_rfl, by kernel_rfl, by kernel_rfl⟩ (by kernel_rfl) (by rw [List.length_map]; omega) (by rw [hf]; exact key trys))
end
theorem ahead_spec (n : Nat) (rows : List Row) (trys : List Try) (nm tp lv : D) (hl : rows.length ≤ 900) (hy : trys.length ≤ 900) : pcl FT (n + 1) "_law_ahead" [.code (rowsD rows) nm tp (trysD trys) lv] = some (aheadD rows trys) :=
  pcl_is (x := "_law_ahead") (ρ0 := [("code", .d (.code (rowsD rows) nm tp (trysD trys) lv))]) (ss := [sAsgC (bs "_law_ahead" 0), sRetC (bs "_law_ahead" 1)]) (by kernel_rfl) (by kernel_rfl) (by kernel_rfl) (by kernel_rfl)
    (nx (ah_0 34 rows nm tp (trysD trys) lv hl) (nret (ah_1 28 rows trys nm tp lv hy) rfl))
end Mine
end
section
namespace Mine
set_option tactic.hygienic false
open PySem

/-! ## Equality of data -/
noncomputable def OkD (n : Nat) (d : D) : Prop := (toPy d).canLay0 = true ∧ (toPy d).depth ≤ n
noncomputable def OkDs (n : Nat) (ds : List D) : Prop := PyData.canLayAll0 (toPys ds) = true ∧ PyData.depthAll (toPys ds) ≤ n
theorem OkDs.nil {n : Nat} : OkDs n [] := ⟨by simp [toPys, PyData.canLayAll0], by simp [toPys, PyData.depthAll]⟩
theorem OkDs.cons {n : Nat} {d : D} {ds : List D} (h : OkD n d) (hs : OkDs n ds) : OkDs n (d :: ds) :=
  ⟨by rw [toPys, PyData.canLayAll0, h.1, hs.1]; rfl, by rw [toPys, PyData.depthAll]; exact Nat.max_le.mpr ⟨h.2, hs.2⟩⟩
theorem OkDs.all {n : Nat} : ∀ {ds : List D}, (∀ d ∈ ds, OkD n d) → OkDs n ds
  | [], _ => .nil
  | d :: ds, h => .cons (h d (.head _)) (OkDs.all fun e he => h e (.tail _ he))
theorem OkD.lst {n : Nat} {ds : List D} (h : OkDs n ds) : OkD (n + 1) (.lst ds) := ⟨by rw [toPy, PyData.canLay0]; exact h.1, by rw [toPy, PyData.depth]; exact Nat.succ_le_succ h.2⟩
theorem OkD.tup {n : Nat} {ds : List D} (h : OkDs n ds) : OkD (n + 1) (.tup ds) := ⟨by rw [toPy, PyData.canLay0]; exact h.1, by rw [toPy, PyData.depth]; exact Nat.succ_le_succ h.2⟩
theorem OkD.mono {n m : Nat} {d : D} (h : OkD n d) (hm : n ≤ m) : OkD m d := ⟨h.1, Nat.le_trans h.2 hm⟩
theorem OkD.ok {n : Nat} {d : D} (h : OkD n d) (hn : n ≤ 60) : okPy (toPy d) = true := by
  unfold okPy
  rw [h.1, decide_eq_true (Nat.le_trans h.2 hn)]; rfl
theorem pyEq_okD {n m : Nat} {x y : D} (hx : OkD n x) (hy : OkD m y) (hn : n ≤ 60) (hm : m ≤ 60) : pyEq x y = some (PyData.eqv (toPy x) (toPy y)) := by
  unfold pyEq
  rw [hx.ok hn, hy.ok hm]
theorem pyEq_self {n : Nat} {x : D} (hx : OkD n x) (hn : n ≤ 60) : pyEq x x = some true := by
  rw [pyEq_okD hx hx hn hn, SeqAt.eqv_refl _ hx.1]
theorem Val.ok (v : Val) : OkD 0 v.D := by cases v <;> exact ⟨by kernel_rfl, by decide⟩
theorem bit_ok (b : Bool) : OkD 0 (bitD b) := by cases b <;> exact ⟨by kernel_rfl, by decide⟩
theorem nat_ok (p : Nat) : OkD 0 (natD p) := ⟨by kernel_rfl, by simp [natD, toPy, PyData.depth]⟩
theorem none_ok : OkD 0 .none := ⟨by kernel_rfl, by simp [toPy, PyData.depth]⟩
theorem str_ok {s : Str} (h : PyData.strOk s = true) : OkD 0 (.str s) := ⟨by rw [toPy, PyData.canLay0]; exact h, by simp [toPy, PyData.depth]⟩
theorem Opd.ok (a : Opd) : OkD 1 a.D := by
  induction a with
  | lit v => exact .tup (.cons (str_ok (by kernel_rfl)) (.cons v.ok .nil))
  | tmp i => exact .tup (.cons (str_ok (by kernel_rfl)) (.cons (bit_ok i) .nil))
  | cv i => exact .tup (.cons (str_ok (by kernel_rfl)) (.cons (bit_ok i) .nil))
theorem Row.ok (r : Row) : OkD 2 r.D := by
  have z : ∀ {d : Mine.D}, OkD 0 d → OkD 1 d := fun h => h.mono (Nat.le_succ _)
  induction r with
  | echo a => exact .tup (.cons (z (str_ok (by kernel_rfl))) (.cons (z none_ok) (.cons a.ok (.cons (z none_ok) .nil))))
  | move t a => exact .tup (.cons (z (str_ok (by kernel_rfl))) (.cons (z (bit_ok t)) (.cons a.ok (.cons (z none_ok) .nil))))
  | throw a => exact .tup (.cons (z (str_ok (by kernel_rfl))) (.cons (z none_ok) (.cons a.ok (.cons (z none_ok) .nil))))
  | ret a => exact .tup (.cons (z (str_ok (by kernel_rfl))) (.cons (z none_ok) (.cons a.ok (.cons (z none_ok) .nil))))
  | jump t => exact .tup (.cons (z (str_ok (by kernel_rfl))) (.cons (z none_ok) (.cons (z none_ok) (.cons (z (nat_ok t)) .nil))))
  | cond c a t => exact .tup (.cons (z (str_ok (by cases c <;> kernel_rfl))) (.cons (z none_ok) (.cons a.ok (.cons (z (nat_ok t)) .nil))))
theorem rows_ok (rows : List Row) : OkD 3 (rowsD rows) := .lst (.all fun d hd => by
  obtain ⟨r, _, rfl⟩ := List.mem_map.mp hd
  exact r.ok)
theorem Try.ok (y : Try) : OkD 1 y.D := .tup (.cons (nat_ok _) (.cons (nat_ok _) (.cons none_ok (.cons (nat_ok _) (.cons none_ok .nil)))))
theorem trys_ok (trys : List Try) : OkD 2 (trysD trys) := .lst (.all fun d hd => by
  obtain ⟨r, _, rfl⟩ := List.mem_map.mp hd
  exact r.ok)
theorem Ended.ok (e : Ended) : OkD 1 e.D := by
  induction e with
  | fin => exact .tup (.cons (str_ok (by kernel_rfl)) (.cons (str_ok (by kernel_rfl)) .nil))
  | cut => exact .tup (.cons (str_ok (by kernel_rfl)) (.cons (str_ok (by kernel_rfl)) .nil))
  | ever => exact .tup (.cons (str_ok (by kernel_rfl)) (.cons (str_ok (by kernel_rfl)) .nil))
  | thrown v => exact .tup (.cons (str_ok (by kernel_rfl)) (.cons (str_ok (by cases v <;> kernel_rfl)) .nil))
  | ret v => exact .tup (.cons (str_ok (by kernel_rfl)) (.cons (str_ok (by cases v <;> kernel_rfl)) .nil))
theorem Word.ok (x : Word) : OkD 1 x.D := by
  induction x with
  | read i v => exact .tup (.cons (str_ok (by kernel_rfl)) (.cons (bit_ok i) (.cons v.ok .nil)))
  | said s v => exact .tup (.cons (str_ok (by cases s <;> kernel_rfl)) (.cons (str_ok (by cases v <;> kernel_rfl)) .nil))
theorem told_ok (e : Ended) (w : Wd) : OkD 3 (toldD e w) := .tup (.cons (e.ok.mono (by omega)) (.cons (.lst (.all fun d hd => by
  obtain ⟨r, _, rfl⟩ := List.mem_map.mp hd
  exact r.ok)) .nil))
theorem ahead_ok (rows : List Row) (trys : List Try) : OkD 2 (aheadD rows trys) := .lst (.all fun d hd => by
  obtain ⟨r, _, rfl⟩ := List.mem_map.mp hd
  exact .lst (.cons (nat_ok _) (.cons (nat_ok _) (.cons (nat_ok _) .nil))))
theorem inList_nat (p : Nat) (ks : List Nat) : inList (natD p) (ks.map natD) = some (ks.contains p) := by
  have h1 := (nat_ok p).ok (by omega)
  have h2 : okPy (.list (toPys (ks.map natD))) = true := (OkD.lst (.all fun d hd => by
    obtain ⟨r, _, rfl⟩ := List.mem_map.mp hd
    exact nat_ok r) : OkD 1 (.lst (ks.map natD))).ok (by omega)
  unfold inList
  rw [h1, h2]
  dsimp only
  congr 1
  clear h1 h2
  induction ks with
  | nil => rfl
  | cons k ks ih =>
    rw [List.map_cons, toPys, List.any_cons, ih, List.contains_cons]
    congr 1
    show (PyData.eqv (.int (Int.ofNat k)) (.int (Int.ofNat p))) = _
    rw [PyData.eqv, nat_beq]

/-! the rows are told apart -/
theorem eqv_nat {p q : Nat} (h : PyData.eqv (toPy (natD p)) (toPy (natD q)) = true) : p = q := by
  have : PyData.eqv (toPy (natD p)) (toPy (natD q)) = (q == p) := (show PyData.eqv (.int (Int.ofNat p)) (.int (Int.ofNat q)) = _ by rw [PyData.eqv, nat_beq])
  rw [this] at h
  exact (beq_iff_eq.mp h).symm
theorem eqvAll_cons {x y : D} {xs ys : List D} (h : PyData.eqvAll (toPys (x :: xs)) (toPys (y :: ys)) = true) : PyData.eqv (toPy x) (toPy y) = true ∧ PyData.eqvAll (toPys xs) (toPys ys) = true := by
  rw [toPys, toPys, PyData.eqvAll, Bool.and_eq_true] at h
  exact h
theorem eqv_tup {xs ys : List D} (h : PyData.eqv (toPy (.tup xs)) (toPy (.tup ys)) = true) : PyData.eqvAll (toPys xs) (toPys ys) = true := by
  rw [toPy, toPy, PyData.eqv] at h; exact h
theorem eqv_val {v w : Val} (h : PyData.eqv (toPy v.D) (toPy w.D) = true) : v = w := by
  revert h
  cases v <;> cases w <;> first | (intro _; rfl) | (intro h; exact absurd h (by rw [show PyData.eqv _ _ = false from by kernel_rfl]; decide))
theorem eqv_bit {v w : Bool} (h : PyData.eqv (toPy (bitD v)) (toPy (bitD w)) = true) : v = w := by
  revert h
  cases v <;> cases w <;> first | (intro _; rfl) | (intro h; exact absurd h (by rw [show PyData.eqv _ _ = false from by kernel_rfl]; decide))
set_option tactic.hygienic true in
theorem eqv_opd {a b : Opd} (h : PyData.eqv (toPy a.D) (toPy b.D) = true) : a = b := by
  have no : ∀ {x : Bool}, x = true → x = false → a = b := fun h g => by rw [h] at g; cases g
  cases a <;> cases b
  case lit.lit v w => rw [eqv_val (eqvAll_cons (eqvAll_cons (eqv_tup h)).2).1]
  case tmp.tmp v w => rw [eqv_bit (eqvAll_cons (eqvAll_cons (eqv_tup h)).2).1]
  case cv.cv v w => rw [eqv_bit (eqvAll_cons (eqvAll_cons (eqv_tup h)).2).1]
  all_goals exact no (eqvAll_cons (eqv_tup h)).1 (by kernel_rfl)
set_option tactic.hygienic true in
theorem eqv_row {r s : Row} (h : PyData.eqv (toPy r.D) (toPy s.D) = true) : r = s := by
  have no : ∀ {x : Bool}, x = true → x = false → r = s := fun h g => by rw [h] at g; cases g
  cases r <;> cases s
  case echo.echo a b => rw [eqv_opd (eqvAll_cons (eqvAll_cons (eqvAll_cons (eqv_tup h)).2).2).1]
  case throw.throw a b => rw [eqv_opd (eqvAll_cons (eqvAll_cons (eqvAll_cons (eqv_tup h)).2).2).1]
  case ret.ret a b => rw [eqv_opd (eqvAll_cons (eqvAll_cons (eqvAll_cons (eqv_tup h)).2).2).1]
  case move.move t a u b => rw [eqv_bit (eqvAll_cons (eqvAll_cons (eqv_tup h)).2).1, eqv_opd (eqvAll_cons (eqvAll_cons (eqvAll_cons (eqv_tup h)).2).2).1]
  case jump.jump a b => rw [eqv_nat (eqvAll_cons (eqvAll_cons (eqvAll_cons (eqvAll_cons (eqv_tup h)).2).2).2).1]
  case cond.cond c a t c' b u =>
    have h1 := (eqvAll_cons (eqv_tup h)).1
    rw [eqv_opd (eqvAll_cons (eqvAll_cons (eqvAll_cons (eqv_tup h)).2).2).1, eqv_nat (eqvAll_cons (eqvAll_cons (eqvAll_cons (eqvAll_cons (eqv_tup h)).2).2).2).1]
    cases c <;> cases c' <;> first | rfl | exact absurd h1 (by rw [show PyData.eqv _ _ = false from by kernel_rfl]; decide)
  case jump.cond a c b u => cases c <;> exact no (eqvAll_cons (eqv_tup h)).1 (by kernel_rfl)
  case cond.jump c b u a => cases c <;> exact no (eqvAll_cons (eqv_tup h)).1 (by kernel_rfl)
  case cond.echo c b u a => cases c <;> exact no (eqvAll_cons (eqv_tup h)).1 (by kernel_rfl)
  case cond.move c b u i a => cases c <;> exact no (eqvAll_cons (eqv_tup h)).1 (by kernel_rfl)
  case cond.throw c b u a => cases c <;> exact no (eqvAll_cons (eqv_tup h)).1 (by kernel_rfl)
  case cond.ret c b u a => cases c <;> exact no (eqvAll_cons (eqv_tup h)).1 (by kernel_rfl)
  case echo.cond a c b u => cases c <;> exact no (eqvAll_cons (eqv_tup h)).1 (by kernel_rfl)
  case move.cond i a c b u => cases c <;> exact no (eqvAll_cons (eqv_tup h)).1 (by kernel_rfl)
  case throw.cond a c b u => cases c <;> exact no (eqvAll_cons (eqv_tup h)).1 (by kernel_rfl)
  case ret.cond a c b u => cases c <;> exact no (eqvAll_cons (eqv_tup h)).1 (by kernel_rfl)
  all_goals exact no (eqvAll_cons (eqv_tup h)).1 (by kernel_rfl)
theorem eqv_lst {α : Type} {f : α → D} (hf : ∀ {x y}, PyData.eqv (toPy (f x)) (toPy (f y)) = true → x = y) : ∀ {xs ys : List α}, PyData.eqvAll (toPys (xs.map f)) (toPys (ys.map f)) = true → xs = ys
  | [], [], _ => rfl
  | [], _ :: _, h => by simp [toPys, PyData.eqvAll] at h
  | _ :: _, [], h => by simp [toPys, PyData.eqvAll] at h
  | x :: xs, y :: ys, h => by
    obtain ⟨h1, h2⟩ := eqvAll_cons h
    rw [hf h1, eqv_lst hf h2]
theorem rows_eq (a b : List Row) : pyEq (rowsD a) (rowsD b) = some (decide (a = b)) := by
  rw [pyEq_okD (rows_ok a) (rows_ok b) (by omega) (by omega)]
  congr 1
  by_cases h : a = b
  · rw [h, SeqAt.eqv_refl _ (rows_ok b).1]; simp
  · rw [decide_eq_false h]
    refine Bool.eq_false_iff.mpr fun z => h (eqv_lst eqv_row ?_)
    rw [rowsD, rowsD, toPy, toPy, PyData.eqv] at z
    exact z
theorem trys_refl (a : List Try) : pyEq (trysD a) (trysD a) = some true := pyEq_self (trys_ok a) (by omega)
end Mine
end
section
namespace Mine
set_option tactic.hygienic false
open PySem

theorem compGo_no {I : Interp} {sc : Sc} {ρ : Rho} {x : Str} {t elt : Expr} {η : Eta} {d : D} {ds : List D} (h : (I.tr sc ((x, .d d) :: ρ) η t).run = some (false, η)) : (compGo I sc ρ x [t] elt η (d :: ds)).run = (compGo I sc ρ x [t] elt η ds).run := by
  have e : compGo I sc ρ x [t] elt η (d :: ds) = ((I.tr sc ((x, .d d) :: ρ) η t).bind fun r => .br r.1 (.pure (true, r.2)) (.pure (false, r.2))).bind fun t2 => .br t2.1 ((evD I sc ((x, .d d) :: ρ) t2.2 elt).bind fun r => (compGo I sc ρ x [t] elt r.2 ds).bind fun q => .pure (r.1 :: q.1, q.2)) (compGo I sc ρ x [t] elt t2.2 ds) := rfl
  rw [e, B.run_bind, B.run_bind, h]; rfl
theorem compGo_yes {I : Interp} {sc : Sc} {ρ : Rho} {x : Str} {t elt : Expr} {η : Eta} {d : D} {ds : List D} (h : (I.tr sc ((x, .d d) :: ρ) η t).run = some (true, η)) : (compGo I sc ρ x [t] elt η (d :: ds)).run = ((evD I sc ((x, .d d) :: ρ) η elt).bind fun r => (compGo I sc ρ x [t] elt r.2 ds).bind fun q => .pure (r.1 :: q.1, q.2)).run := by
  have e : compGo I sc ρ x [t] elt η (d :: ds) = ((I.tr sc ((x, .d d) :: ρ) η t).bind fun r => .br r.1 (.pure (true, r.2)) (.pure (false, r.2))).bind fun t2 => .br t2.1 ((evD I sc ((x, .d d) :: ρ) t2.2 elt).bind fun r => (compGo I sc ρ x [t] elt r.2 ds).bind fun q => .pure (r.1 :: q.1, q.2)) (compGo I sc ρ x [t] elt t2.2 ds) := rfl
  rw [e, B.run_bind, B.run_bind, h]; rfl

/-! ### _law_is_at_rest -/
noncomputable abbrev rsB (c rows : D) (b : Option (D × D × D)) : Rho := match b with
  | none => [("code", .d c), ("rows", .d rows), ("led", .h 0)]
  | some (x, y, z) => [("code", .d c), ("rows", .d rows), ("led", .h 0), ("first", .d x), ("catch", .d y), ("final", .d .none), ("end", .d z), ("ret", .d .none)]
noncomputable abbrev codeE (rs ys nm tp lv : D) : D := .code rs nm tp ys lv
noncomputable def Row.tgt (r : Row) : Nat := r.target.getD 0
noncomputable def rsS (i : Nat) : Stmt := stAt (forB (bs "_law_is_at_rest" 3)) i
noncomputable def rsI (i : Nat) : Stmt := stAt (ifB (rsS 1)) i
noncomputable def rsJ (i : Nat) : Stmt := stAt (ifB (rsI 2)) i
section
variable {P : Str → List D → Option D} {H : Str → List VV → Eta → Option (D × Eta)}
theorem rs_test (k : Nat) (r : Row) (ρ : Rho) : ((ast P H (k + 20)).tr (cmpSc (asgE (bs "_law_is_at_rest" 1))).names (("row", .d r.D) :: ρ) [] (Option.get! ((cmpIfs (asgE (bs "_law_is_at_rest" 1)))[0]?))).run = some (r.isLed, []) := by
  induction r with
  | cond c a t => cases c <;> kernel_rfl
  | _ => kernel_rfl
theorem rs_elt (k : Nat) (r : Row) (ρ : Rho) (h : r.isLed = true) : (evD (ast P H (k + 20)) (cmpSc (asgE (bs "_law_is_at_rest" 1))).names (("row", .d r.D) :: ρ) [] (cmpElt (asgE (bs "_law_is_at_rest" 1)))).run = some (natD r.tgt, []) := by
  induction r with
  | cond c a t => kernel_rfl
  | jump t => kernel_rfl
  | _ => cases h
theorem rs_1 (k : Nat) (rows : List Row) (ys nm tp lv : D) (hl : rows.length ≤ 900) : ((ast P H (k + 25)).ex (scOf "_law_is_at_rest") [("code", .d (codeE (rowsD rows) ys nm tp lv)), ("rows", .d (rowsD rows))] [] (sAsgC (bs "_law_is_at_rest" 1))).run =
    some (out .next (rsB (codeE (rowsD rows) ys nm tp lv) (rowsD rows) none) [.hl (((rows.filter Row.isLed).map Row.tgt).map natD)]) := by
  have hf : freeOf (cmpSc (asgE (bs "_law_is_at_rest" 1))).names [("code", .d (codeE (rowsD rows) ys nm tp lv)), ("rows", .d (rowsD rows))] = [] := by kernel_rfl
  have key : ∀ rs : List Row, (compGo (ast P H (k + 24)) (cmpSc (asgE (bs "_law_is_at_rest" 1))).names [] (cmpX (asgE (bs "_law_is_at_rest" 1))) (cmpIfs (asgE (bs "_law_is_at_rest" 1))) (cmpElt (asgE (bs "_law_is_at_rest" 1))) [] (rs.map Row.D)).run = some (((rs.filter Row.isLed).map Row.tgt).map natD, []) := by
    intro rs
    rw [show cmpIfs (asgE (bs "_law_is_at_rest" 1)) = [Option.get! ((cmpIfs (asgE (bs "_law_is_at_rest" 1)))[0]?)] from by kernel_rfl, show cmpX (asgE (bs "_law_is_at_rest" 1)) = "row" from by kernel_rfl]
    induction rs with
    | nil => rfl
    | cons r rs ih =>
      have h0 := rs_test (P := P) (H := H) (k + 4) r []
      rw [List.map_cons]
      induction q : r.isLed with
      | false =>
        rw [q] at h0
        rw [compGo_no h0, ih, List.filter_cons, q]
        rfl
      | true =>
        rw [q] at h0
        have h1 := rs_elt (P := P) (H := H) (k + 4) r [] q
        rw [compGo_yes h0, B.run_bind, h1, Option.bind_some, B.run_bind, ih, List.filter_cons, q]
        rfl
  refine asgCh_run (evComp_run (ds := rows.map Row.D) (η1 := []) ⟨by kernel_rfl, by kernel_rfl, by kernel_rfl, by kernel_rfl, by kernel_rfl⟩ (by kernel_rfl) (by rw [List.length_map]; omega) (by rw [hf]; exact key rows)) (by kernel_rfl) (by kernel_rfl)

theorem rs_2b (k : Nat) (c rows : D) (y : Try) (ks : List D) :
    ((ast P H (k + 20)).exs (scOf "_law_is_at_rest") (rsB c rows (some (natD y.first, natD y.catch_, natD y.stop))) [.hl ks] (forB (bs "_law_is_at_rest" 2))).run =
      (methD "extend" (.h 0) (.lst [natD y.first, natD y.catch_, natD y.stop]) [.hl ks]).bind fun η => some (out .next (rsB c rows (some (natD y.first, natD y.catch_, natD y.stop))) η) := by kernel_rfl
noncomputable def trysK (trys : List Try) : List Nat := trys.flatMap fun y => [y.first, y.catch_, y.stop]
theorem rs_2 (k : Nat) (c rows : D) (trys : List Try) (ks : List Nat) (hl : ks.length + 3 * trys.length ≤ 1000) :
    ∃ fl ρ η, (forGo (ast P H (k + 20)) (scOf "_law_is_at_rest") (forT (bs "_law_is_at_rest" 2)) (forB (bs "_law_is_at_rest" 2)) (rsB c rows none) [.hl (ks.map natD)] (trys.map Try.D)).run = some (out fl ρ η) ∧
      (fl = .next ∧ η = [.hl ((ks ++ trysK trys).map natD)] ∧ ∃ b, ρ = rsB c rows b) := by
  refine forGo_inv (fun ds ρ η => ∃ rest ks', ds = rest.map Try.D ∧ ks'.length + 3 * rest.length ≤ 1000 ∧ ks ++ trysK trys = ks' ++ trysK rest ∧ η = [.hl (ks'.map natD)] ∧ ∃ b, ρ = rsB c rows b) _ ?_ ?_ _ _ _ ⟨trys, ks, rfl, hl, rfl, rfl, none, rfl⟩
  · rintro d ds ρ η ⟨rest, ks', hd, hl, hk, rfl, b, rfl⟩
    cases rest with
    | nil => cases hd
    | cons y rest =>
      cases hd
      have hb1 : bindT (scOf "_law_is_at_rest") (rsB c rows b) (forT (bs "_law_is_at_rest" 2)) (.d y.D) = some (rsB c rows (some (natD y.first, natD y.catch_, natD y.stop))) := by
        rcases b with _ | ⟨x, y', z⟩ <;> kernel_rfl
      have run := rs_2b (P := P) (H := H) k c rows y (ks'.map natD)
      have hm : methD "extend" (.h 0) (.lst [natD y.first, natD y.catch_, natD y.stop]) [.hl (ks'.map natD)] = some [.hl (ks'.map natD ++ [natD y.first, natD y.catch_, natD y.stop])] := by
        have h1 : (ks'.map natD).length ≤ 1000 := by
          rw [List.length_map]
          rw [List.length_cons] at hl
          omega
        have : methD "extend" (.h 0) (.lst [natD y.first, natD y.catch_, natD y.stop]) [.hl (ks'.map natD)] = if (ks'.map natD).length ≤ 1000 then some [.hl (ks'.map natD ++ [natD y.first, natD y.catch_, natD y.stop])] else none := by kernel_rfl
        rw [this, if_pos h1]
      rw [hm, Option.bind_some] at run
      refine ⟨_, .next, _, _, hb1, run, rest, ks' ++ [y.first, y.catch_, y.stop], rfl, ?_, ?_, ?_, _, rfl⟩
      · rw [List.length_append]
        simp only [List.length_cons, List.length_nil] at hl ⊢
        omega
      · rw [hk, List.append_assoc]; rfl
      · rw [List.map_append]; rfl
  · rintro ρ η ⟨rest, ks', hd, hl, hk, rfl, b, rfl⟩
    have : rest = [] := by induction rest with | nil => rfl | cons a b => cases hd
    subst this
    have : trysK [] = [] := rfl
    rw [this, List.append_nil] at hk
    exact ⟨rfl, by rw [hk], b, rfl⟩

/-! the rows -/
noncomputable abbrev rsP (c rows : D) (b : Option (D × D × D)) (p : D) (q : Option (D × D × D × D)) : Rho := rapp (rsB c rows b) (match q with
  | none => [("place", .d p)]
  | some (o, t, a, g) => [("place", .d p), ("op", .d o), ("to", .d t), ("a", .d a), ("target", .d g)])
theorem rs_s0 (k : Nat) (c : D) (ds : List D) (b : Option (D × D × D)) (p : Nat) (q : Option (D × D × D × D)) (η : Eta) :
    ((ast P H (k + 20)).ex (scOf "_law_is_at_rest") (rsP c (.lst ds) b (natD p) q) η (rsS 0)).run =
      ((ds[p]?).map VV.d).bind fun u => (bindT (scOf "_law_is_at_rest") (rsP c (.lst ds) b (natD p) q) (match rsS 0 with | .Assign [t] _ _ => t | _ => default) u).bind fun ρ => some (out .next ρ η) := by
  rcases b with _ | ⟨x, y', z⟩ <;> rcases q with _ | ⟨o, t, a, g⟩ <;> kernel_rfl
theorem rs_s0b (c rows : D) (b : Option (D × D × D)) (p : D) (q : Option (D × D × D × D)) (o t a g : D) :
    bindT (scOf "_law_is_at_rest") (rsP c rows b p q) (match rsS 0 with | .Assign [t] _ _ => t | _ => default) (.d (.tup [o, t, a, g])) = some (rsP c rows b p (some (o, t, a, g))) := by
  rcases b with _ | ⟨x, y', z⟩ <;> rcases q with _ | ⟨o', t', a', g'⟩ <;> kernel_rfl
/-- a row that is no jump -/
theorem rs_s1n (k : Nat) (c rows : D) (b : Option (D × D × D)) (p : D) (r : Row) (hr : r.target = none) (η : Eta) :
    ∀ o t a g, r.D = .tup [o, t, a, g] → ((ast P H (k + 20)).ex (scOf "_law_is_at_rest") (rsP c rows b p (some (o, t, a, g))) η (rsS 1)).run = some (out .next (rsP c rows b p (some (o, t, a, g))) η) := by
  intro o t a g h
  induction r with
  | cond c a t => cases hr
  | jump t => cases hr
  | _ => cases h; rcases b with _ | ⟨x, y', z⟩ <;> kernel_rfl
theorem rs_s1j (k : Nat) (c rows : D) (b : Option (D × D × D)) (p g : D) (η : Eta) :
    ((ast P H (k + 20)).ex (scOf "_law_is_at_rest") (rsP c rows b p (some (.str "jump", .none, .none, g))) η (rsS 1)).run = ((ast P H (k + 19)).exs (scOf "_law_is_at_rest") (rsP c rows b p (some (.str "jump", .none, .none, g))) η [rsI 0, rsI 1, rsI 2]).run := by
  rcases b with _ | ⟨x, y', z⟩ <;> kernel_rfl
theorem rs_s1c (k : Nat) (c rows : D) (b : Option (D × D × D)) (p g a : D) (cn : Cnd) (η : Eta) :
    ((ast P H (k + 20)).ex (scOf "_law_is_at_rest") (rsP c rows b p (some (.str cn.op, .none, a, g))) η (rsS 1)).run = ((ast P H (k + 19)).exs (scOf "_law_is_at_rest") (rsP c rows b p (some (.str cn.op, .none, a, g))) η [rsI 0, rsI 1, rsI 2]).run := by
  rcases b with _ | ⟨x, y', z⟩ <;> cases cn <;> kernel_rfl
/-- the target is no jump that leads out -/
theorem rs_i0 (k : Nat) (c : D) (ds : List D) (b : Option (D × D × D)) (p : D) (o a : D) (t : Nat) (η : Eta) :
    ((ast P H (k + 20)).ex (scOf "_law_is_at_rest") (rsP c (.lst ds) b p (some (o, .none, a, natD t))) η (rsI 0)).run =
      match decide (Int.ofNat t < (ds.length : Int)) with
      | true => ((ds[t]?).map VV.d).bind fun u => (itemOf u (.int 0) η).bind fun o' => (frz o' η).bind fun q => (pyEq q.1 (.str "jump")).bind fun bb => match bb with
        | true => (P "_law_leaves" [.lst ds, natD t]).bind fun d => (frz (.d d) q.2).bind fun w => (truD w.1).bind fun bb => match bb with
          | true => some (out (.ret (.d (.bool false))) (rsP c (.lst ds) b p (some (o, .none, a, natD t))) w.2)
          | false => some (out .next (rsP c (.lst ds) b p (some (o, .none, a, natD t))) w.2)
        | false => some (out .next (rsP c (.lst ds) b p (some (o, .none, a, natD t))) q.2)
      | false => some (out .next (rsP c (.lst ds) b p (some (o, .none, a, natD t))) η) := by
  rcases b with _ | ⟨x, y', z⟩ <;> kernel_rfl
theorem rs_i1j (k : Nat) (c rows : D) (b : Option (D × D × D)) (p t : Nat) (η : Eta) :
    ((ast P H (k + 20)).ex (scOf "_law_is_at_rest") (rsP c rows b (natD p) (some (.str "jump", .none, .none, natD t))) η (rsI 1)).run =
      match ((Int.ofNat t : Int) == Int.ofNat p + 1) with
      | true => some (out (.ret (.d (.bool false))) (rsP c rows b (natD p) (some (.str "jump", .none, .none, natD t))) η)
      | false => some (out .next (rsP c rows b (natD p) (some (.str "jump", .none, .none, natD t))) η) := by
  rcases b with _ | ⟨x, y', z⟩ <;> kernel_rfl
theorem rs_i1c (k : Nat) (c rows : D) (b : Option (D × D × D)) (p t : Nat) (cn : Cnd) (a : Opd) (η : Eta) :
    ((ast P H (k + 20)).ex (scOf "_law_is_at_rest") (rsP c rows b (natD p) (some (.str cn.op, .none, a.D, natD t))) η (rsI 1)).run =
      match ((Int.ofNat t : Int) == Int.ofNat p + 1) with
      | true => match a.isCv with
        | true => some (out .next (rsP c rows b (natD p) (some (.str cn.op, .none, a.D, natD t))) η)
        | false => some (out (.ret (.d (.bool false))) (rsP c rows b (natD p) (some (.str cn.op, .none, a.D, natD t))) η)
      | false => some (out .next (rsP c rows b (natD p) (some (.str cn.op, .none, a.D, natD t))) η) := by
  rcases b with _ | ⟨x, y', z⟩ <;> cases cn <;> cases a <;> kernel_rfl
theorem rs_i2j (k : Nat) (c rows : D) (b : Option (D × D × D)) (p t : Nat) (η : Eta) :
    ((ast P H (k + 20)).ex (scOf "_law_is_at_rest") (rsP c rows b (natD p) (some (.str "jump", .none, .none, natD t))) η (rsI 2)).run = some (out .next (rsP c rows b (natD p) (some (.str "jump", .none, .none, natD t))) η) := by
  rcases b with _ | ⟨x, y', z⟩ <;> kernel_rfl
theorem rs_i2o (k : Nat) (c rows : D) (b : Option (D × D × D)) (p t : Nat) (cn : Cnd) (a : Opd) (h : cn.other = none) (η : Eta) :
    ((ast P H (k + 20)).ex (scOf "_law_is_at_rest") (rsP c rows b (natD p) (some (.str cn.op, .none, a.D, natD t))) η (rsI 2)).run = some (out .next (rsP c rows b (natD p) (some (.str cn.op, .none, a.D, natD t))) η) := by
  rcases b with _ | ⟨x, y', z⟩ <;> cases cn <;> first | (cases h; done) | kernel_rfl
theorem rs_i2c (k : Nat) (c : D) (ds : List D) (b : Option (D × D × D)) (p t : Nat) (cn cn' : Cnd) (a : Opd) (h : cn.other = some cn') (ks : List D) :
    ((ast P H (k + 20)).ex (scOf "_law_is_at_rest") (rsP c (.lst ds) b (natD p) (some (.str cn.op, .none, a.D, natD t))) [.hl ks] (rsI 2)).run =
      match ((Int.ofNat t : Int) == Int.ofNat p + 2) with
      | true => match decide (Int.ofNat p + 1 < (ds.length : Int)) with
        | true => ((ds[p + 1]?).map VV.d).bind fun u => (itemOf u (.int 0) [.hl ks]).bind fun o' => (frz o' [.hl ks]).bind fun q => (pyEq q.1 (.str "jump")).bind fun bb => match bb with
          | true => (inWhat (.h 0) q.2 (natD (p + 1))).bind fun bb => match !bb with
            | true => some (out (.ret (.d (.bool false))) (rsP c (.lst ds) b (natD p) (some (.str cn.op, .none, a.D, natD t))) q.2)
            | false => some (out .next (rsP c (.lst ds) b (natD p) (some (.str cn.op, .none, a.D, natD t))) q.2)
          | false => some (out .next (rsP c (.lst ds) b (natD p) (some (.str cn.op, .none, a.D, natD t))) q.2)
        | false => some (out .next (rsP c (.lst ds) b (natD p) (some (.str cn.op, .none, a.D, natD t))) [.hl ks])
      | false => some (out .next (rsP c (.lst ds) b (natD p) (some (.str cn.op, .none, a.D, natD t))) [.hl ks]) := by
  rcases b with _ | ⟨x, y', z⟩ <;> cases cn <;> first | (cases h; done) | kernel_rfl
end
end Mine
end
section
namespace Mine
set_option tactic.hygienic false
open PySem

/-- what a code at rest is -/
structure Rest (rows : List Row) (trys : List Try) : Prop where
  ring : ∀ (p : Nat) (r : Row) (t u : Nat), rows[p]? = some r → r.target = some t → rows[t]? = some (.jump u) → chain rows (rows.length + 1) t = none
  idle : ∀ (p : Nat) (r : Row), rows[p]? = some r → r.isIdle p = false
  over : ∀ p : Nat, turnedRow rows (targetsOf rows trys) p = none

theorem op_jumpX (r : Row) (η : Eta) (F1 F2 : Eta → Option (Fl × Rho × Eta)) : ((itemOf (.d r.D) (.int 0) η).bind fun o => (frz o η).bind fun q => (pyEq q.1 (.str "jump")).bind fun b => match b with
      | true => F1 q.2
      | false => F2 q.2) = if r.isJump then F1 η else F2 η := by
  induction r with
  | cond c a t => cases c <;> kernel_rfl
  | _ => kernel_rfl
theorem isJump_iff (r : Row) : r.isJump = true ↔ ∃ u, r = .jump u := by
  cases r <;> simp [Row.isJump]
theorem led_contains (rows : List Row) (trys : List Try) (i : Nat) : (((rows.filter Row.isLed).map Row.tgt) ++ trysK trys).contains i = targetsOf rows trys i := by
  rw [Bool.eq_iff_iff]
  unfold targetsOf trysK
  simp only [List.contains_iff_mem, List.mem_append, List.mem_map, List.mem_filter, List.mem_flatMap, Bool.or_eq_true, List.any_eq_true, beq_iff_eq]
  refine or_congr ?_ ?_
  · constructor
    · rintro ⟨r, ⟨h1, h2⟩, h3⟩
      refine ⟨r, h1, ?_⟩
      unfold Row.isLed at h2
      unfold Row.tgt at h3
      induction q : r.target with
      | none => rw [q] at h2; cases h2
      | some t => rw [q] at h3; rw [← h3]; rfl
    · rintro ⟨r, h1, h2⟩
      refine ⟨r, ⟨h1, ?_⟩, ?_⟩
      · unfold Row.isLed; rw [h2]; rfl
      · unfold Row.tgt; rw [h2]; rfl
  · constructor
    · rintro ⟨y, h1, h2⟩
      refine ⟨y, h1, ?_⟩
      simp only [List.mem_cons, List.not_mem_nil, or_false] at h2
      rcases h2 with h | h | h <;> simp [h]
    · rintro ⟨y, h1, h2⟩
      refine ⟨y, h1, ?_⟩
      simp only [List.mem_cons, List.not_mem_nil, or_false]
      rcases h2 with (h | h) | h <;> simp [h]
theorem int_eq1 (t p k : Nat) : ((Int.ofNat t : Int) == Int.ofNat p + (k : Int)) = (t == p + k) := by
  rw [Bool.eq_iff_iff, beq_iff_eq, beq_iff_eq]
  show (t : Int) = (p : Int) + (k : Int) ↔ _
  omega

section
variable {P : Str → List D → Option D} {H : Str → List VV → Eta → Option (D × Eta)}
theorem rest_row (k : Nat) (c : D) (rows : List Row) (trys : List Try) (b : Option (D × D × D)) (p : Nat) (q : Option (D × D × D × D)) (r : Row) (hr : rows[p]? = some r) (R : Rest rows trys)
    (hP : ∀ t, P "_law_leaves" [rowsD rows, natD t] = some (.bool (chain rows (rows.length + 1) t).isSome)) :
    ∃ x, ((ast P H (k + 26)).exs (scOf "_law_is_at_rest") (rsP c (rowsD rows) b (natD p) q) [.hl ((((rows.filter Row.isLed).map Row.tgt) ++ trysK trys).map natD)] (forB (bs "_law_is_at_rest" 3))).run =
      some (out .next (rsP c (rowsD rows) b (natD p) (some x)) [.hl ((((rows.filter Row.isLed).map Row.tgt) ++ trysK trys).map natD)]) := by
  generalize hη : ([.hl ((((rows.filter Row.isLed).map Row.tgt) ++ trysK trys).map natD)] : Eta) = η
  have hb : forB (bs "_law_is_at_rest" 3) = [rsS 0, rsS 1] := by kernel_rfl
  rw [hb]
  have e0 : (rows.map Row.D)[p]? = some r.D := by rw [List.getElem?_map, hr]; rfl
  obtain ⟨o, tt, a, g, eD, hg⟩ := r.D_tup
  have s0 := rs_s0 (P := P) (H := H) (k + 5) c (rows.map Row.D) b p q η
  rw [e0, eD] at s0
  have s0' : ((ast P H (k + 25)).ex (scOf "_law_is_at_rest") (rsP c (rowsD rows) b (natD p) q) η (rsS 0)).run = some (out .next (rsP c (rowsD rows) b (natD p) (some (o, tt, a, g))) η) := by
    refine s0.trans ?_
    rw [Option.map_some, Option.bind_some]
    rw [show D.lst (rows.map Row.D) = rowsD rows from rfl, rs_s0b]; rfl
  induction ht : r.target with
  | none =>
    have s1 := rs_s1n (P := P) (H := H) (k + 4) c (rowsD rows) b (natD p) r ht η o tt a g eD
    exact ⟨_, (exs_next s0').trans ((exs_next s1).trans exs_nil)⟩
  | some t =>
    have eg := hg t ht
    subst eg
    have i0 : ∀ (o a : D), ((ast P H (k + 22)).ex (scOf "_law_is_at_rest") (rsP c (rowsD rows) b (natD p) (some (o, .none, a, natD t))) η (rsI 0)).run = some (out .next (rsP c (rowsD rows) b (natD p) (some (o, .none, a, natD t))) η) := by
      intro o a
      have i0 := rs_i0 (P := P) (H := H) (k + 2) c (rows.map Row.D) b (natD p) o a t η
      refine i0.trans ?_
      rw [List.length_map]
      induction hu : rows[t]? with
      | none =>
        have hlen : rows.length ≤ t := List.getElem?_eq_none_iff.mp hu
        rw [show decide (Int.ofNat t < (rows.length : Int)) = false from by
          rw [decide_eq_false_iff_not]
          show ¬ ((t : Int) < _)
          omega]
        rfl
      | some s =>
        have hlen : t < rows.length := (List.getElem?_eq_some_iff.mp hu).1
        rw [show decide (Int.ofNat t < (rows.length : Int)) = true from by
          rw [decide_eq_true_iff]
          show ((t : Int) < _)
          omega]
        have e2 : (rows.map Row.D)[t]? = some s.D := by rw [List.getElem?_map, hu]; rfl
        dsimp only
        rw [e2, Option.map_some, Option.bind_some]
        refine (op_jumpX s η (fun η => (P "_law_leaves" [.lst (rows.map Row.D), natD t]).bind fun d => (frz (.d d) η).bind fun w => (truD w.1).bind fun bb => match bb with
          | true => some (out (.ret (.d (.bool false))) (rsP c (.lst (rows.map Row.D)) b (natD p) (some (o, .none, a, natD t))) w.2)
          | false => some (out .next (rsP c (.lst (rows.map Row.D)) b (natD p) (some (o, .none, a, natD t))) w.2))
          (fun η => some (out .next (rsP c (.lst (rows.map Row.D)) b (natD p) (some (o, .none, a, natD t))) η))).trans ?_
        induction qj : s.isJump with
        | false => rfl
        | true =>
          obtain ⟨u, rfl⟩ := (isJump_iff s).mp qj
          have hc := R.ring p r t u hr ht hu
          rw [if_pos rfl]
          rw [show D.lst (rows.map Row.D) = rowsD rows from rfl, hP, hc]
          rfl
    have hidle := R.idle p r hr
    induction r with
    | jump t' =>
      cases ht
      cases eD
      have i1 := rs_i1j (P := P) (H := H) (k + 1) c (rowsD rows) b p t η
      have i2 := rs_i2j (P := P) (H := H) k c (rowsD rows) b p t η
      rw [show ((Int.ofNat t : Int) == Int.ofNat p + 1) = (t == p + 1) from int_eq1 t p 1, show (t == p + 1) = false from hidle] at i1
      have s1 := rs_s1j (P := P) (H := H) (k + 4) c (rowsD rows) b (natD p) (natD t) η
      have s1' := s1.trans ((exs_next (i0 (.str "jump") .none)).trans ((exs_next i1).trans ((exs_next i2).trans exs_nil)))
      exact ⟨_, (exs_next s0').trans ((exs_next s1').trans exs_nil)⟩
    | cond cn a' t' =>
      cases ht
      cases eD
      have i1 := rs_i1c (P := P) (H := H) (k + 1) c (rowsD rows) b p t cn a' η
      have i1' : ((ast P H (k + 21)).ex (scOf "_law_is_at_rest") (rsP c (rowsD rows) b (natD p) (some (.str cn.op, .none, a'.D, natD t))) η (rsI 1)).run = some (out .next (rsP c (rowsD rows) b (natD p) (some (.str cn.op, .none, a'.D, natD t))) η) := by
        refine i1.trans ?_
        rw [show ((Int.ofNat t : Int) == Int.ofNat p + 1) = (t == p + 1) from int_eq1 t p 1]
        have hi : (t == p + 1 && !a'.isCv) = false := hidle
        induction q1 : (t == p + 1) with
        | false => rfl
        | true =>
          rw [q1] at hi
          induction q2 : a'.isCv with
          | true => rfl
          | false => rw [q2] at hi; cases hi
      have i2' : ((ast P H (k + 20)).ex (scOf "_law_is_at_rest") (rsP c (rowsD rows) b (natD p) (some (.str cn.op, .none, a'.D, natD t))) η (rsI 2)).run = some (out .next (rsP c (rowsD rows) b (natD p) (some (.str cn.op, .none, a'.D, natD t))) η) := by
        induction hcn : cn.other with
        | none => exact rs_i2o k c (rowsD rows) b p t cn a' hcn η
        | some cn' =>
          rw [← hη]
          refine (rs_i2c k c (rows.map Row.D) b p t cn cn' a' hcn _).trans ?_
          rw [show ((Int.ofNat t : Int) == Int.ofNat p + 2) = (t == p + 2) from int_eq1 t p 2, List.length_map]
          induction q1 : (t == p + 2) with
          | false => rfl
          | true =>
            have q1' : t = p + 2 := beq_iff_eq.mp q1
            induction hu : rows[p + 1]? with
            | none =>
              have hlen : rows.length ≤ p + 1 := List.getElem?_eq_none_iff.mp hu
              rw [show decide (Int.ofNat p + 1 < (rows.length : Int)) = false from by
                rw [decide_eq_false_iff_not]
                show ¬ ((p : Int) + 1 < _)
                omega]
              rfl
            | some s =>
              have hlen : p + 1 < rows.length := (List.getElem?_eq_some_iff.mp hu).1
              rw [show decide (Int.ofNat p + 1 < (rows.length : Int)) = true from by
                rw [decide_eq_true_iff]
                show ((p : Int) + 1 < _)
                omega]
              have e2 : (rows.map Row.D)[p + 1]? = some s.D := by rw [List.getElem?_map, hu]; rfl
              dsimp only
              rw [e2, Option.map_some, Option.bind_some]
              refine (op_jumpX s _ (fun η => (inWhat (.h 0) η (natD (p + 1))).bind fun bb => match !bb with
                | true => some (out (.ret (.d (.bool false))) (rsP c (.lst (rows.map Row.D)) b (natD p) (some (.str cn.op, .none, a'.D, natD t))) η)
                | false => some (out .next (rsP c (.lst (rows.map Row.D)) b (natD p) (some (.str cn.op, .none, a'.D, natD t))) η))
                (fun η => some (out .next (rsP c (.lst (rows.map Row.D)) b (natD p) (some (.str cn.op, .none, a'.D, natD t))) η))).trans ?_
              induction qj : s.isJump with
              | false => rfl
              | true =>
                obtain ⟨u, rfl⟩ := (isJump_iff s).mp qj
                rw [if_pos rfl]
                have e3 : inWhat (.h 0) [.hl ((((rows.filter Row.isLed).map Row.tgt) ++ trysK trys).map natD)] (natD (p + 1)) = inList (natD (p + 1)) ((((rows.filter Row.isLed).map Row.tgt) ++ trysK trys).map natD) := rfl
                have ho := R.over p
                have hk : targetsOf rows trys (p + 1) = true := by
                  induction hk : targetsOf rows trys (p + 1) with
                  | true => rfl
                  | false =>
                    unfold turnedRow at ho
                    rw [hr] at ho
                    dsimp only at ho
                    rw [hcn] at ho
                    dsimp only at ho
                    rw [if_pos ⟨q1', hk⟩, hu] at ho
                    cases ho
                rw [e3, inList_nat, led_contains, hk]
                rfl
      have s1 := rs_s1c (P := P) (H := H) (k + 4) c (rowsD rows) b (natD p) (natD t) a'.D cn η
      have s1' := s1.trans ((exs_next (i0 (.str cn.op) a'.D)).trans ((exs_next i1').trans ((exs_next i2').trans exs_nil)))
      exact ⟨_, (exs_next s0').trans ((exs_next s1').trans exs_nil)⟩
    | _ => cases ht
end

theorem rest_spec (n : Nat) (rows : List Row) (trys : List Try) (nm tp lv : D) (hl : rows.length + 3 * trys.length ≤ 900) (R : Rest rows trys) :
    pcl FT (n + 2) "_law_is_at_rest" [codeE (rowsD rows) (trysD trys) nm tp lv] = some (.bool true) := by
  have s1 := rs_1 (P := pcl FT (n + 1)) (H := hcl FT (n + 1)) 33 rows (trysD trys) nm tp lv (by omega)
  obtain ⟨fl, ρ, η, e2, rfl, rfl, b, rfl⟩ := rs_2 (P := pcl FT (n + 1)) (H := hcl FT (n + 1)) 36 (codeE (rowsD rows) (trysD trys) nm tp lv) (rowsD rows) trys ((rows.filter Row.isLed).map Row.tgt)
    (by rw [List.length_map]; have := List.length_filter_le Row.isLed rows; omega)
  have i2 : (itr (ast (pcl FT (n + 1)) (hcl FT (n + 1)) 56) (scOf "_law_is_at_rest") (rsB (codeE (rowsD rows) (trysD trys) nm tp lv) (rowsD rows) none) [.hl (((rows.filter Row.isLed).map Row.tgt).map natD)] (forI (bs "_law_is_at_rest" 2))).run =
      some (trys.map Try.D, [.hl (((rows.filter Row.isLed).map Row.tgt).map natD)]) := by kernel_rfl
  have i3 : (itr (ast (pcl FT (n + 1)) (hcl FT (n + 1)) 55) (scOf "_law_is_at_rest") (rsB (codeE (rowsD rows) (trysD trys) nm tp lv) (rowsD rows) b) [.hl ((((rows.filter Row.isLed).map Row.tgt) ++ trysK trys).map natD)] (forI (bs "_law_is_at_rest" 3))).run =
      (rangeD (.int ((rows.map Row.D).length : Int))).bind fun ds => some (ds, [.hl ((((rows.filter Row.isLed).map Row.tgt) ++ trysK trys).map natD)]) := by
    rcases b with _ | ⟨x, y, z⟩ <;> kernel_rfl
  rw [List.length_map, range_itr _ (by omega)] at i3
  have loop : ∃ fl ρ η, (forGo (ast (pcl FT (n + 1)) (hcl FT (n + 1)) 55) (scOf "_law_is_at_rest") (forT (bs "_law_is_at_rest" 3)) (forB (bs "_law_is_at_rest" 3)) (rsB (codeE (rowsD rows) (trysD trys) nm tp lv) (rowsD rows) b) [.hl ((((rows.filter Row.isLed).map Row.tgt) ++ trysK trys).map natD)]
      ((List.range rows.length).map fun (k : Nat) => D.int (k : Int))).run = some (out fl ρ η) ∧ (fl = .next ∧ ∃ tl, ρ = rapp [("code", .d (codeE (rowsD rows) (trysD trys) nm tp lv)), ("rows", .d (rowsD rows)), ("led", .h 0)] tl) := by
    refine forGo_inv (fun ds ρ η => ∃ rest : List Nat, ds = rest.map (fun (k : Nat) => D.int (k : Int)) ∧ (∀ p ∈ rest, p < rows.length) ∧ η = [.hl ((((rows.filter Row.isLed).map Row.tgt) ++ trysK trys).map natD)] ∧
      (ρ = rsB (codeE (rowsD rows) (trysD trys) nm tp lv) (rowsD rows) b ∨ ∃ p q, ρ = rsP (codeE (rowsD rows) (trysD trys) nm tp lv) (rowsD rows) b (natD p) q)) _ ?_ ?_ _ _ _ ⟨List.range rows.length, rfl, fun p hp => List.mem_range.mp hp, rfl, .inl rfl⟩
    · rintro d ds ρ η ⟨rest, hd, hlt, rfl, hρ⟩
      cases rest with
      | nil => cases hd
      | cons p rest =>
        cases hd
        have hb1 : ∃ q, bindT (scOf "_law_is_at_rest") ρ (forT (bs "_law_is_at_rest" 3)) (.d (natD p)) = some (rsP (codeE (rowsD rows) (trysD trys) nm tp lv) (rowsD rows) b (natD p) q) := by
          rcases hρ with rfl | ⟨p', q, rfl⟩
          · exact ⟨none, by rcases b with _ | ⟨x, y, z⟩ <;> kernel_rfl⟩
          · exact ⟨q, by rcases b with _ | ⟨x, y, z⟩ <;> rcases q with _ | ⟨o, t, a, g⟩ <;> kernel_rfl⟩
        obtain ⟨q, hb1⟩ := hb1
        have hp := hlt p (.head _)
        obtain ⟨x, run⟩ := rest_row (P := pcl FT (n + 1)) (H := hcl FT (n + 1)) 29 (codeE (rowsD rows) (trysD trys) nm tp lv) rows trys b p q rows[p] (List.getElem?_eq_getElem hp) R (fun t => leaves_spec n rows t (by omega))
        exact ⟨_, .next, _, _, hb1, run, rest, rfl, fun p hp => hlt p (.tail _ hp), rfl, .inr ⟨_, _, rfl⟩⟩
    · rintro ρ η ⟨rest, hd, hlt, rfl, hρ⟩
      refine ⟨rfl, ?_⟩
      rcases hρ with rfl | ⟨p, q, rfl⟩
      · rcases b with _ | ⟨x, y, z⟩
        · exact ⟨[], rfl⟩
        · exact ⟨_, rfl⟩
      · rcases b with _ | ⟨x, y, z⟩ <;> rcases q with _ | ⟨o, t, a, g⟩ <;> exact ⟨_, rfl⟩
  obtain ⟨fl, ρ, η, e3, rfl, tl, rfl⟩ := loop
  exact pcl_is (x := "_law_is_at_rest") (ρ0 := [("code", .d (codeE (rowsD rows) (trysD trys) nm tp lv))]) (ss := [bs "_law_is_at_rest" 0, sAsgC (bs "_law_is_at_rest" 1), sFor (bs "_law_is_at_rest" 2), sFor (bs "_law_is_at_rest" 3), bs "_law_is_at_rest" 4])
    (by kernel_rfl) (by kernel_rfl) (by kernel_rfl) (by kernel_rfl)
    (nx (ρ1 := [("code", .d (codeE (rowsD rows) (trysD trys) nm tp lv)), ("rows", .d (rowsD rows))]) (η1 := []) (by kernel_rfl) (nx s1 (nx (ex_for_ok i2 e2) (nx (ex_for_ok i3 e3) (by kernel_rfl)))))
end Mine
end
section
namespace Mine
set_option tactic.hygienic false
open PySem

/-! ### what the law draws -/
noncomputable def drawI (ns : List Int) (p : Nat) : Int := match ns[p]? with
  | some i => i
  | none => 3 ^ p % 1009
noncomputable def drawV (ns : List Int) (p m : Nat) : Nat := (drawI ns p % (m : Int)).toNat
theorem drawV_lt (ns : List Int) (p m : Nat) (h : 0 < m) : drawV ns p m < m := by
  unfold drawV
  have h1 := Int.emod_nonneg (drawI ns p) (show (m : Int) ≠ 0 by omega)
  have h2 := Int.emod_lt_of_pos (drawI ns p) (show (0 : Int) < (m : Int) by omega)
  omega
noncomputable abbrev eta1 (p : Nat) (b : Option (List D)) : Eta := match b with
  | none => [.hl [natD p]]
  | some xs => [.hl [natD p], .hl xs]
noncomputable def intsD (ns : List Int) : D := .lst (ns.map D.int)
section
variable {P : Str → List D → Option D} {H : Str → List VV → Eta → Option (D × Eta)}
noncomputable abbrev dwR (s m : D) (tl : Rho) : Rho := rapp [("script", .d s), ("at", .h 0), ("many", .d m)] tl
theorem dw_0 (k : Nat) (s m : D) (p : Nat) (b : Option (List D)) : ((ast P H (k + 20)).ex (scOf "_law_draw") (dwR s m []) (eta1 p b) (bs "_law_draw" 0)).run = some (out .next (dwR s m [("place", .d (natD p))]) (eta1 p b)) := by
  rcases b with _ | xs <;> kernel_rfl
theorem dw_1 (k : Nat) (s m : D) (p : Nat) (b : Option (List D)) : ((ast P H (k + 20)).ex (scOf "_law_draw") (dwR s m [("place", .d (natD p))]) (eta1 p b) (bs "_law_draw" 1)).run = some (out .next (dwR s m [("place", .d (natD p))]) (eta1 (p + 1) b)) := by
  rcases b with _ | xs <;> kernel_rfl
theorem dw_2 (k : Nat) (ds : List D) (m : D) (p : Nat) (η : Eta) : ((ast P H (k + 20)).ex (scOf "_law_draw") (dwR (.lst ds) m [("place", .d (natD p))]) η (bs "_law_draw" 2)).run =
    match decide (Int.ofNat p < (ds.length : Int)) with
    | true => ((ds[p]?).map VV.d).bind fun v => some (out .next (dwR (.lst ds) m [("place", .d (natD p)), ("number", v)]) η)
    | false => (powD 3 (Int.ofNat p)).bind fun a => (binop .Mod a (.int 1009)).bind fun d => some (out .next (dwR (.lst ds) m [("place", .d (natD p)), ("number", .d d)]) η) := by kernel_rfl
theorem dw_3 (k : Nat) (s : D) (m p : Nat) (i : Int) (η : Eta) : ((ast P H (k + 20)).ex (scOf "_law_draw") (dwR s (natD m) [("place", .d (natD p)), ("number", .d (.int i))]) η (bs "_law_draw" 3)).run =
    (modD i (Int.ofNat m)).bind fun d => some (out (.ret (.d d)) (dwR s (natD m) [("place", .d (natD p)), ("number", .d (.int i))]) η) := by kernel_rfl
end
theorem draw_spec (n : Nat) (ns : List Int) (p m : Nat) (hm : 0 < m) (hp : p ≤ 200) (b : Option (List D)) :
    hcl FT (n + 1) "_law_draw" [.d (intsD ns), .h 0, .d (natD m)] (eta1 p b) = some (natD (drawV ns p m), eta1 (p + 1) b) := by
  have e2 := dw_2 (P := pcl FT n) (H := hcl FT n) 37 (ns.map D.int) (natD m) p (eta1 (p + 1) b)
  have e2' : ((ast (pcl FT n) (hcl FT n) 57).ex (scOf "_law_draw") (dwR (intsD ns) (natD m) [("place", .d (natD p))]) (eta1 (p + 1) b) (bs "_law_draw" 2)).run =
      some (out .next (dwR (intsD ns) (natD m) [("place", .d (natD p)), ("number", .d (.int (drawI ns p)))]) (eta1 (p + 1) b)) := by
    refine e2.trans ?_
    rw [List.length_map]
    induction hq : ns[p]? with
    | some i =>
      have hlen : p < ns.length := (List.getElem?_eq_some_iff.mp hq).1
      rw [show decide (Int.ofNat p < (ns.length : Int)) = true from by
        rw [decide_eq_true_iff]
        show ((p : Int) < _)
        omega]
      have : (ns.map D.int)[p]? = some (.int i) := by rw [List.getElem?_map, hq]; rfl
      dsimp only
      rw [this]
      unfold drawI
      rw [hq]; rfl
    | none =>
      have hlen : ns.length ≤ p := List.getElem?_eq_none_iff.mp hq
      rw [show decide (Int.ofNat p < (ns.length : Int)) = false from by
        rw [decide_eq_false_iff_not]
        show ¬ ((p : Int) < _)
        omega]
      dsimp only
      have e3 : powD 3 (Int.ofNat p) = some (.int (3 ^ p)) := by
        unfold powD
        rw [if_pos ⟨rfl, Int.natCast_nonneg p, by show (p : Int) ≤ 200; omega⟩]; rfl
      rw [e3, Option.bind_some]
      have e4 : binop .Mod (.int (3 ^ p)) (.int 1009) = some (.int (3 ^ p % 1009)) := rfl
      rw [e4, Option.bind_some]
      unfold drawI
      rw [hq]; rfl
  have e3 := dw_3 (P := pcl FT n) (H := hcl FT n) 36 (intsD ns) m p (drawI ns p) (eta1 (p + 1) b)
  have e4 : modD (drawI ns p) (Int.ofNat m) = some (natD (drawV ns p m)) := by
    unfold modD
    rw [if_pos (show (0 : Int) < Int.ofNat m from by show (0 : Int) < (m : Int); omega)]
    unfold natD drawV
    have h1 := Int.emod_nonneg (drawI ns p) (show (m : Int) ≠ 0 by omega)
    congr 2
    show _ = ((Int.toNat _ : Nat) : Int)
    rw [Int.toNat_of_nonneg h1]; rfl
  rw [e4, Option.bind_some] at e3
  refine hcl_is (x := "_law_draw") (ρ0 := dwR (intsD ns) (natD m) []) (ss := [bs "_law_draw" 0, bs "_law_draw" 1, bs "_law_draw" 2, bs "_law_draw" 3]) (by kernel_rfl) (by kernel_rfl) (by kernel_rfl) (by kernel_rfl)
    (nx (dw_0 39 _ _ p b) (nx (dw_1 38 _ _ p b) (nx e2' (nret e3 ?_))))
  rcases b with _ | xs <;> kernel_rfl

noncomputable def opdOf : Nat → Opd
  | 0 => .lit .none
  | 1 => .lit .tru
  | 2 => .lit .zero
  | 3 => .lit .x
  | 4 => .tmp false
  | 5 => .tmp true
  | 6 => .cv false
  | _ => .cv true
section
variable {P : Str → List D → Option D} {H : Str → List VV → Eta → Option (D × Eta)}
theorem opd_0 (k : Nat) (s : D) (η : Eta) : ((ast P H (k + 20)).ex (scOf "_law_operand") [("script", .d s), ("at", .h 0)] η (bs "_law_operand" 0)).run =
    (H "_law_draw" [.d s, .h 0, .d (natD 8)] η).bind fun q => (itemOf (.d (.lst [(opdOf 0).D, (opdOf 1).D, (opdOf 2).D, (opdOf 3).D, (opdOf 4).D, (opdOf 5).D, (opdOf 6).D, (opdOf 7).D])) q.1 q.2).bind fun v => some (out (.ret v) [("script", .d s), ("at", .h 0)] q.2) := by kernel_rfl
end
theorem opd_item (v : Nat) (h : v < 8) (η : Eta) : itemOf (.d (.lst [(opdOf 0).D, (opdOf 1).D, (opdOf 2).D, (opdOf 3).D, (opdOf 4).D, (opdOf 5).D, (opdOf 6).D, (opdOf 7).D])) (natD v) η = some (.d (opdOf v).D) := by
  match v, h with
  | 0, _ => rfl
  | 1, _ => rfl
  | 2, _ => rfl
  | 3, _ => rfl
  | 4, _ => rfl
  | 5, _ => rfl
  | 6, _ => rfl
  | 7, _ => rfl
theorem operand_spec (n : Nat) (ns : List Int) (p : Nat) (hp : p ≤ 200) (b : Option (List D)) :
    hcl FT (n + 2) "_law_operand" [.d (intsD ns), .h 0] (eta1 p b) = some ((opdOf (drawV ns p 8)).D, eta1 (p + 1) b) := by
  have e0 := opd_0 (P := pcl FT (n + 1)) (H := hcl FT (n + 1)) 39 (intsD ns) (eta1 p b)
  rw [draw_spec n ns p 8 (by omega) hp b, Option.bind_some, opd_item _ (drawV_lt ns p 8 (by omega)), Option.bind_some] at e0
  refine hcl_is (x := "_law_operand") (ρ0 := [("script", .d (intsD ns)), ("at", .h 0)]) (ss := [bs "_law_operand" 0]) (by kernel_rfl) (by kernel_rfl) (by kernel_rfl) (by kernel_rfl) (nret e0 ?_)
  rcases b with _ | xs <;> kernel_rfl

/-! ### _law_row -/
section
variable {P : Str → List D → Option D} {H : Str → List VV → Eta → Option (D × Eta)}
noncomputable abbrev rwR (s pl m : D) (tl : Rho) : Rho := rapp [("script", .d s), ("at", .h 0), ("place", .d pl), ("many", .d m)] tl
theorem rw_0 (k : Nat) (s pl m : D) (η : Eta) : ((ast P H (k + 20)).ex (scOf "_law_row") (rwR s pl m []) η (bs "_law_row" 0)).run =
    (H "_law_draw" [.d s, .h 0, .d (natD 16)] η).bind fun q => some (out .next (rwR s pl m [("sort", .d q.1)]) q.2) := by kernel_rfl
theorem rw_1 (k : Nat) (s pl m : D) (v : Nat) (η : Eta) : ((ast P H (k + 20)).ex (scOf "_law_row") (rwR s pl m [("sort", .d (natD v))]) η (bs "_law_row" 1)).run =
    match decide (Int.ofNat v < 3) with
    | true => (H "_law_operand" [.d s, .h 0] η).bind fun q => some (out (.ret (.d (.tup [.str "echo", .none, q.1, .none]))) (rwR s pl m [("sort", .d (natD v))]) q.2)
    | false => some (out .next (rwR s pl m [("sort", .d (natD v))]) η) := by kernel_rfl
theorem rw_2 (k : Nat) (s pl m : D) (v : Nat) (η : Eta) : ((ast P H (k + 20)).ex (scOf "_law_row") (rwR s pl m [("sort", .d (natD v))]) η (bs "_law_row" 2)).run =
    match (Int.ofNat v == (13 : Int)) with
    | true => (H "_law_draw" [.d s, .h 0, .d (natD 2)] η).bind fun q => (H "_law_operand" [.d s, .h 0] q.2).bind fun r => some (out (.ret (.d (.tup [.str "move", q.1, r.1, .none]))) (rwR s pl m [("sort", .d (natD v))]) r.2)
    | false => some (out .next (rwR s pl m [("sort", .d (natD v))]) η) := by kernel_rfl
theorem rw_3 (k : Nat) (s pl m : D) (v : Nat) (η : Eta) : ((ast P H (k + 20)).ex (scOf "_law_row") (rwR s pl m [("sort", .d (natD v))]) η (bs "_law_row" 3)).run =
    match (Int.ofNat v == (14 : Int)) with
    | true => (H "_law_operand" [.d s, .h 0] η).bind fun q => some (out (.ret (.d (.tup [.str "throw", .none, q.1, .none]))) (rwR s pl m [("sort", .d (natD v))]) q.2)
    | false => some (out .next (rwR s pl m [("sort", .d (natD v))]) η) := by kernel_rfl
theorem rw_4 (k : Nat) (s pl m : D) (v : Nat) (η : Eta) : ((ast P H (k + 20)).ex (scOf "_law_row") (rwR s pl m [("sort", .d (natD v))]) η (bs "_law_row" 4)).run =
    match (Int.ofNat v == (15 : Int)) with
    | true => (H "_law_operand" [.d s, .h 0] η).bind fun q => some (out (.ret (.d (.tup [.str "return", .none, q.1, .none]))) (rwR s pl m [("sort", .d (natD v))]) q.2)
    | false => some (out .next (rwR s pl m [("sort", .d (natD v))]) η) := by kernel_rfl
theorem rw_5 (k : Nat) (s pl m v : D) (η : Eta) : ((ast P H (k + 20)).ex (scOf "_law_row") (rwR s pl m [("sort", .d v)]) η (bs "_law_row" 5)).run =
    (H "_law_draw" [.d s, .h 0, .d (natD 4)] η).bind fun q => some (out .next (rwR s pl m [("sort", .d v), ("way", .d q.1)]) q.2) := by kernel_rfl
theorem rw_6 (k : Nat) (s v : D) (pl m w : Nat) (η : Eta) : ((ast P H (k + 20)).ex (scOf "_law_row") (rwR s (natD pl) (natD m) [("sort", .d v), ("way", .d (natD w))]) η (bs "_law_row" 6)).run =
    (inList (natD w) [natD 1, natD 2]).bind fun bb => match bb with
      | true => some (out .next (rwR s (natD pl) (natD m) [("sort", .d v), ("way", .d (natD w)), ("target", .d (.int (if Int.ofNat m < Int.ofNat (pl + w) then Int.ofNat m else Int.ofNat (pl + w))))]) η)
      | false => (H "_law_draw" [.d s, .h 0, .d (natD (m + 1))] η).bind fun q => some (out .next (rwR s (natD pl) (natD m) [("sort", .d v), ("way", .d (natD w)), ("target", .d q.1)]) q.2) := by kernel_rfl
theorem rw_7 (k : Nat) (s pl m w t : D) (v : Nat) (η : Eta) : ((ast P H (k + 20)).ex (scOf "_law_row") (rwR s pl m [("sort", .d (natD v)), ("way", .d w), ("target", .d t)]) η (bs "_law_row" 7)).run =
    match decide ((9 : Int) < Int.ofNat v) with
    | true => some (out (.ret (.d (.tup [.str "jump", .none, .none, t]))) (rwR s pl m [("sort", .d (natD v)), ("way", .d w), ("target", .d t)]) η)
    | false => some (out .next (rwR s pl m [("sort", .d (natD v)), ("way", .d w), ("target", .d t)]) η) := by kernel_rfl
noncomputable def cndOf : Nat → Cnd
  | 0 => .iff
  | 1 => .unless
  | 2 => .null
  | _ => .set
theorem rw_8 (k : Nat) (s pl m w t v : D) (η : Eta) : ((ast P H (k + 20)).ex (scOf "_law_row") (rwR s pl m [("sort", .d v), ("way", .d w), ("target", .d t)]) η (bs "_law_row" 8)).run =
    (H "_law_draw" [.d s, .h 0, .d (natD 4)] η).bind fun q => (itemOf (.d (.lst [.str (cndOf 0).op, .str (cndOf 1).op, .str (cndOf 2).op, .str (cndOf 3).op])) q.1 q.2).bind fun o => some (out .next (rwR s pl m [("sort", .d v), ("way", .d w), ("target", .d t), ("op", o)]) q.2) := by kernel_rfl
theorem rw_9 (k : Nat) (s pl m w t v o : D) (η : Eta) : ((ast P H (k + 20)).ex (scOf "_law_row") (rwR s pl m [("sort", .d v), ("way", .d w), ("target", .d t), ("op", .d o)]) η (bs "_law_row" 9)).run =
    (H "_law_operand" [.d s, .h 0] η).bind fun q => some (out (.ret (.d (.tup [o, .none, q.1, t]))) (rwR s pl m [("sort", .d v), ("way", .d w), ("target", .d t), ("op", .d o)]) q.2) := by kernel_rfl
end
theorem cnd_item (v : Nat) (h : v < 4) (η : Eta) : itemOf (.d (.lst [.str (cndOf 0).op, .str (cndOf 1).op, .str (cndOf 2).op, .str (cndOf 3).op])) (natD v) η = some (.d (.str (cndOf v).op)) := by
  match v, h with
  | 0, _ => rfl
  | 1, _ => rfl
  | 2, _ => rfl
  | 3, _ => rfl
theorem bit_nat (v : Nat) (h : v < 2) : natD v = bitD (v == 1) := by
  match v, h with
  | 0, _ => rfl
  | 1, _ => rfl
theorem int_beq_false {v k : Nat} (h : v ≠ k) : (Int.ofNat v == (k : Int)) = false := by
  rw [beq_eq_false_iff_ne]
  show (v : Int) ≠ k
  omega
theorem int_beq_true {v k : Nat} (h : v = k) : (Int.ofNat v == (k : Int)) = true := by
  rw [beq_iff_eq]
  show (v : Int) = k
  omega
theorem row_spec (n : Nat) (ns : List Int) (p pl m : Nat) (hp : p ≤ 190) (b : Option (List D)) :
    ∃ r p', hcl FT (n + 3) "_law_row" [.d (intsD ns), .h 0, .d (natD pl), .d (natD m)] (eta1 p b) = some (Row.D r, eta1 p' b) ∧ p' ≤ p + 5 ∧ ∀ t, r.target = some t → t ≤ m := by
  have back : ∀ (d : D) ρ q, backH (eta1 p b).length (out (.ret (.d d)) ρ (eta1 q b)) = some (d, eta1 q b) := by
    intro d ρ q; rcases b with _ | xs <;> kernel_rfl
  have dr : ∀ q m, q ≤ 200 → 0 < m → hcl FT (n + 2) "_law_draw" [.d (intsD ns), .h 0, .d (natD m)] (eta1 q b) = some (natD (drawV ns q m), eta1 (q + 1) b) := fun q m h1 h2 => draw_spec (n + 1) ns q m h2 h1 b
  have op : ∀ q, q ≤ 200 → hcl FT (n + 2) "_law_operand" [.d (intsD ns), .h 0] (eta1 q b) = some ((opdOf (drawV ns q 8)).D, eta1 (q + 1) b) := fun q h1 => operand_spec n ns q h1 b
  have e0 := rw_0 (P := pcl FT (n + 2)) (H := hcl FT (n + 2)) 39 (intsD ns) (natD pl) (natD m) (eta1 p b)
  rw [dr p 16 (by omega) (by omega), Option.bind_some] at e0
  have hv := drawV_lt ns p 16 (by omega)
  have fin : ∀ (d : D) (p' : Nat), (((ast (pcl FT (n + 2)) (hcl FT (n + 2)) 60).exs (scOf "_law_row") (rwR (intsD ns) (natD pl) (natD m) []) (eta1 p b) [bs "_law_row" 0, bs "_law_row" 1, bs "_law_row" 2, bs "_law_row" 3, bs "_law_row" 4, bs "_law_row" 5, bs "_law_row" 6, bs "_law_row" 7, bs "_law_row" 8, bs "_law_row" 9]).run).bind (backH (eta1 p b).length) = some (d, eta1 p' b) →
      hcl FT (n + 3) "_law_row" [.d (intsD ns), .h 0, .d (natD pl), .d (natD m)] (eta1 p b) = some (d, eta1 p' b) := fun d p' h =>
    hcl_is (x := "_law_row") (ρ0 := rwR (intsD ns) (natD pl) (natD m) []) (ss := [bs "_law_row" 0, bs "_law_row" 1, bs "_law_row" 2, bs "_law_row" 3, bs "_law_row" 4, bs "_law_row" 5, bs "_law_row" 6, bs "_law_row" 7, bs "_law_row" 8, bs "_law_row" 9]) (by kernel_rfl) (by kernel_rfl) (by kernel_rfl) (by kernel_rfl) h
  generalize hvd : drawV ns p 16 = v at e0 hv
  clear hvd
  have e1 := rw_1 (P := pcl FT (n + 2)) (H := hcl FT (n + 2)) 38 (intsD ns) (natD pl) (natD m) v (eta1 (p + 1) b)
  by_cases h1 : v < 3
  · rw [show decide (Int.ofNat v < 3) = true from by rw [decide_eq_true_iff]; show (v : Int) < 3; omega, op _ (by omega)] at e1
    exact ⟨.echo _, p + 2, fin _ _ (nx e0 (nret e1 (back _ _ _))), by omega, fun t h => by cases h⟩
  rw [show decide (Int.ofNat v < 3) = false from by rw [decide_eq_false_iff_not]; show ¬ ((v : Int) < 3); omega] at e1
  have e2 := rw_2 (P := pcl FT (n + 2)) (H := hcl FT (n + 2)) 37 (intsD ns) (natD pl) (natD m) v (eta1 (p + 1) b)
  by_cases h2 : v = 13
  · rw [show (Int.ofNat v == (13 : Int)) = true from int_beq_true h2] at e2
    dsimp only at e2
    rw [dr _ 2 (by omega) (by omega), Option.bind_some, op _ (by omega), Option.bind_some, bit_nat _ (drawV_lt ns _ 2 (by omega))] at e2
    exact ⟨.move _ _, p + 3, fin _ _ (nx e0 (nx e1 (nret e2 (back _ _ _)))), by omega, fun t h => by cases h⟩
  rw [show (Int.ofNat v == (13 : Int)) = false from int_beq_false h2] at e2
  have e3 := rw_3 (P := pcl FT (n + 2)) (H := hcl FT (n + 2)) 36 (intsD ns) (natD pl) (natD m) v (eta1 (p + 1) b)
  by_cases h3 : v = 14
  · rw [show (Int.ofNat v == (14 : Int)) = true from int_beq_true h3] at e3
    dsimp only at e3
    rw [op _ (by omega)] at e3
    exact ⟨.throw _, p + 2, fin _ _ (nx e0 (nx e1 (nx e2 (nret e3 (back _ _ _))))), by omega, fun t h => by cases h⟩
  rw [show (Int.ofNat v == (14 : Int)) = false from int_beq_false h3] at e3
  have e4 := rw_4 (P := pcl FT (n + 2)) (H := hcl FT (n + 2)) 35 (intsD ns) (natD pl) (natD m) v (eta1 (p + 1) b)
  by_cases h4 : v = 15
  · rw [show (Int.ofNat v == (15 : Int)) = true from int_beq_true h4] at e4
    dsimp only at e4
    rw [op _ (by omega)] at e4
    exact ⟨.ret _, p + 2, fin _ _ (nx e0 (nx e1 (nx e2 (nx e3 (nret e4 (back _ _ _)))))), by omega, fun t h => by cases h⟩
  rw [show (Int.ofNat v == (15 : Int)) = false from int_beq_false h4] at e4
  have e5 := rw_5 (P := pcl FT (n + 2)) (H := hcl FT (n + 2)) 34 (intsD ns) (natD pl) (natD m) (natD v) (eta1 (p + 1) b)
  rw [dr _ 4 (by omega) (by omega), Option.bind_some] at e5
  have e6 := rw_6 (P := pcl FT (n + 2)) (H := hcl FT (n + 2)) 33 (intsD ns) (natD v) pl m (drawV ns (p + 1) 4) (eta1 (p + 1 + 1) b)
  rw [show inList (natD (drawV ns (p + 1) 4)) [natD 1, natD 2] = some _ from inList_nat _ [1, 2], Option.bind_some] at e6
  have e6' : ∃ t p', t ≤ m ∧ p' ≤ p + 3 ∧ ((ast (pcl FT (n + 2)) (hcl FT (n + 2)) 53).ex (scOf "_law_row") (rwR (intsD ns) (natD pl) (natD m) [("sort", .d (natD v)), ("way", .d (natD (drawV ns (p + 1) 4)))]) (eta1 (p + 1 + 1) b) (bs "_law_row" 6)).run =
      some (out .next (rwR (intsD ns) (natD pl) (natD m) [("sort", .d (natD v)), ("way", .d (natD (drawV ns (p + 1) 4))), ("target", .d (natD t))]) (eta1 p' b)) := by
    induction hw : ([1, 2] : List Nat).contains (drawV ns (p + 1) 4) with
    | true =>
      rw [hw] at e6
      refine ⟨min m (pl + drawV ns (p + 1) 4), p + 2, Nat.min_le_left _ _, by omega, e6.trans ?_⟩
      have : (D.int (if Int.ofNat m < Int.ofNat (pl + drawV ns (p + 1) 4) then Int.ofNat m else Int.ofNat (pl + drawV ns (p + 1) 4))) = natD (min m (pl + drawV ns (p + 1) 4)) := by
        unfold natD
        by_cases q : m < pl + drawV ns (p + 1) 4
        · rw [if_pos (show Int.ofNat m < Int.ofNat (pl + drawV ns (p + 1) 4) from by show (m : Int) < ((pl + drawV ns (p + 1) 4 : Nat) : Int); omega), Nat.min_eq_left (by omega)]
        · rw [if_neg (show ¬ Int.ofNat m < Int.ofNat (pl + drawV ns (p + 1) 4) from by show ¬ (m : Int) < ((pl + drawV ns (p + 1) 4 : Nat) : Int); omega), Nat.min_eq_right (by omega)]
      dsimp only
      rw [this]
    | false =>
      rw [hw] at e6
      dsimp only at e6
      rw [dr _ (m + 1) (by omega) (by omega)] at e6
      exact ⟨_, p + 3, Nat.le_of_lt_succ (drawV_lt ns _ (m + 1) (by omega)), by omega, e6⟩
  obtain ⟨t, p', ht, hp', e6'⟩ := e6'
  have e7 := rw_7 (P := pcl FT (n + 2)) (H := hcl FT (n + 2)) 32 (intsD ns) (natD pl) (natD m) (natD (drawV ns (p + 1) 4)) (natD t) v (eta1 p' b)
  by_cases h7 : 9 < v
  · rw [show decide ((9 : Int) < Int.ofNat v) = true from by rw [decide_eq_true_iff]; show (9 : Int) < (v : Int); omega] at e7
    exact ⟨.jump t, p', fin _ _ (nx e0 (nx e1 (nx e2 (nx e3 (nx e4 (nx e5 (nx e6' (nret e7 (back _ _ _))))))))), by omega, fun t h => by cases h; exact ht⟩
  rw [show decide ((9 : Int) < Int.ofNat v) = false from by rw [decide_eq_false_iff_not]; show ¬ ((9 : Int) < (v : Int)); omega] at e7
  have e8 := rw_8 (P := pcl FT (n + 2)) (H := hcl FT (n + 2)) 31 (intsD ns) (natD pl) (natD m) (natD (drawV ns (p + 1) 4)) (natD t) (natD v) (eta1 p' b)
  rw [dr _ 4 (by omega) (by omega), Option.bind_some, cnd_item _ (drawV_lt ns _ 4 (by omega)), Option.bind_some] at e8
  have e9 := rw_9 (P := pcl FT (n + 2)) (H := hcl FT (n + 2)) 30 (intsD ns) (natD pl) (natD m) (natD (drawV ns (p + 1) 4)) (natD t) (natD v) (.str (cndOf (drawV ns p' 4)).op) (eta1 (p' + 1) b)
  rw [op _ (by omega), Option.bind_some] at e9
  exact ⟨.cond (cndOf (drawV ns p' 4)) _ t, p' + 1 + 1, fin _ _ (nx e0 (nx e1 (nx e2 (nx e3 (nx e4 (nx e5 (nx e6' (nx e7 (nx e8 (nret e9 (back _ _ _))))))))))), by omega, fun t h => by cases h; exact ht⟩
end Mine
end
section
namespace Mine
set_option tactic.hygienic false
open PySem

noncomputable def Try.fine (m : Nat) (y : Try) : Prop := y.first < y.catch_ ∧ y.catch_ ≤ y.stop ∧ y.stop ≤ m
noncomputable abbrev tyQ (s m : D) (b : Option (D × Option (D × D))) : Rho := rapp [("script", .d s), ("at", .h 0), ("many", .d m), ("found", .h 1)] (match b with
  | none => []
  | some (k, none) => [("k", .d k)]
  | some (k, some (f, c)) => [("k", .d k), ("first", .d f), ("catch", .d c)])
noncomputable abbrev tyQ1 (s m : D) (b : D × Option (D × D)) (f : D) : Rho := rapp [("script", .d s), ("at", .h 0), ("many", .d m), ("found", .h 1)] (match b with
  | (k, none) => [("k", .d k), ("first", .d f)]
  | (k, some (_, c)) => [("k", .d k), ("first", .d f), ("catch", .d c)])
section
variable {P : Str → List D → Option D} {H : Str → List VV → Eta → Option (D × Eta)}
theorem ty_1i (k : Nat) (s m : D) (p : Nat) : (itr (ast P H (k + 20)) (scOf "_law_trys") (tyQ s m none) (eta1 p (some [])) (forI (bs "_law_trys" 1))).run =
    (H "_law_draw" [.d s, .h 0, .d (natD 3)] (eta1 p (some []))).bind fun q => (rangeD q.1).bind fun ds => some (ds, q.2) := by kernel_rfl
theorem ty_b (s m : D) (b : Option (D × Option (D × D))) (d : D) : bindT (scOf "_law_trys") (tyQ s m b) (forT (bs "_law_trys" 1)) (.d d) = some (tyQ s m (some (d, b.bind fun q => q.2))) := by
  rcases b with _ | ⟨k, _ | ⟨f, c⟩⟩ <;> kernel_rfl
theorem ty_10 (k : Nat) (s m : D) (b : D × Option (D × D)) (η : Eta) : ((ast P H (k + 20)).ex (scOf "_law_trys") (tyQ s m (some b)) η (stAt (forB (bs "_law_trys" 1)) 0)).run =
    (H "_law_draw" [.d s, .h 0, .d m] η).bind fun q => some (out .next (tyQ1 s m b q.1) q.2) := by
  rcases b with ⟨k, _ | ⟨f, c⟩⟩ <;> kernel_rfl
theorem ty_11 (k : Nat) (s : D) (m f : Nat) (b : D × Option (D × D)) (η : Eta) : ((ast P H (k + 20)).ex (scOf "_law_trys") (tyQ1 s (natD m) b (natD f)) η (stAt (forB (bs "_law_trys" 1)) 1)).run =
    (H "_law_draw" [.d s, .h 0, .d (.int (Int.ofNat m - Int.ofNat f))] η).bind fun q => (binop .Add (natD (f + 1)) q.1).bind fun c => some (out .next (tyQ s (natD m) (some (b.1, some (natD f, c)))) q.2) := by
  rcases b with ⟨k, _ | ⟨f, c⟩⟩ <;> kernel_rfl
theorem ty_12 (k : Nat) (s kk : D) (m f c : Nat) (p : Nat) (xs : List D) : ((ast P H (k + 20)).ex (scOf "_law_trys") (tyQ s (natD m) (some (kk, some (natD f, natD c)))) (eta1 p (some xs)) (stAt (forB (bs "_law_trys" 1)) 2)).run =
    (H "_law_draw" [.d s, .h 0, .d (.int (Int.ofNat m - Int.ofNat c + 1))] (eta1 p (some xs))).bind fun q => (binop .Add (natD c) q.1).bind fun e => (methD "append" (.h 1) (.tup [natD f, natD c, .none, e, .none]) q.2).bind fun η => some (out .next (tyQ s (natD m) (some (kk, some (natD f, natD c)))) η) := by kernel_rfl
end
theorem natD_sub (m f : Nat) (h : f ≤ m) : (D.int (Int.ofNat m - Int.ofNat f)) = natD (m - f) := by
  unfold natD
  congr 1
  show (m : Int) - (f : Int) = ((m - f : Nat) : Int)
  omega
theorem natD_sub1 (m f : Nat) (h : f ≤ m) : (D.int (Int.ofNat m - Int.ofNat f + 1)) = natD (m - f + 1) := by
  unfold natD
  congr 1
  show (m : Int) - (f : Int) + 1 = ((m - f + 1 : Nat) : Int)
  omega
theorem trys_spec (n : Nat) (ns : List Int) (p m : Nat) (hp : p ≤ 190) (hm : 0 < m) :
    ∃ (ys : List Try) (p' : Nat), hcl FT (n + 2) "_law_trys" [.d (intsD ns), .h 0, .d (natD m)] (eta1 p none) = some (trysD ys, eta1 p' none) ∧ p' ≤ p + 7 ∧ ys.length ≤ 2 ∧ ∀ y ∈ ys, y.fine m := by
  have dr : ∀ q m b, q ≤ 200 → 0 < m → hcl FT (n + 1) "_law_draw" [.d (intsD ns), .h 0, .d (natD m)] (eta1 q b) = some (natD (drawV ns q m), eta1 (q + 1) b) := fun q m b h1 h2 => draw_spec n ns q m h2 h1 b
  have i1 := ty_1i (P := pcl FT (n + 1)) (H := hcl FT (n + 1)) 37 (intsD ns) (natD m) p
  have hc := drawV_lt ns p 3 (by omega)
  rw [dr p 3 _ (by omega) (by omega), Option.bind_some] at i1
  generalize drawV ns p 3 = c at hc i1
  rw [show rangeD (natD c) = some _ from range_itr c (by omega), Option.bind_some] at i1
  have loop : ∃ fl ρ η, (forGo (ast (pcl FT (n + 1)) (hcl FT (n + 1)) 57) (scOf "_law_trys") (forT (bs "_law_trys" 1)) (forB (bs "_law_trys" 1)) (tyQ (intsD ns) (natD m) none) (eta1 (p + 1) (some [])) ((List.range c).map fun (k : Nat) => D.int (k : Int))).run = some (out fl ρ η) ∧
      (fl = .next ∧ (∃ b, ρ = tyQ (intsD ns) (natD m) b) ∧ ∃ (ys : List Try) (p' : Nat), η = eta1 p' (some (ys.map Try.D)) ∧ p' ≤ p + 7 ∧ ys.length ≤ 2 ∧ ∀ y ∈ ys, y.fine m) := by
    refine forGo_inv (fun ds ρ η => (∃ b, ρ = tyQ (intsD ns) (natD m) b) ∧ ∃ (ys : List Try) (p' : Nat), η = eta1 p' (some (ys.map Try.D)) ∧ p' + 3 * ds.length ≤ p + 7 ∧ ys.length + ds.length ≤ 2 ∧ ∀ y ∈ ys, y.fine m) _ ?_ ?_ _ _ _
      ⟨⟨none, rfl⟩, [], p + 1, rfl, by rw [List.length_map, List.length_range]; omega, by rw [List.length_map, List.length_range]; simp; omega, fun y h => by cases h⟩
    · rintro d ds ρ η ⟨⟨b, rfl⟩, ys, q, rfl, hq, hl, hf⟩
      rw [List.length_cons] at hq hl
      have h1 := drawV_lt ns q m hm
      have e0 := ty_10 (P := pcl FT (n + 1)) (H := hcl FT (n + 1)) 36 (intsD ns) (natD m) (d, b.bind fun q => q.2) (eta1 q (some (ys.map Try.D)))
      rw [dr q m _ (by omega) hm, Option.bind_some] at e0
      generalize drawV ns q m = f at h1 e0
      have e1 := ty_11 (P := pcl FT (n + 1)) (H := hcl FT (n + 1)) 35 (intsD ns) m f (d, b.bind fun q => q.2) (eta1 (q + 1) (some (ys.map Try.D)))
      rw [natD_sub m f (by omega), dr (q + 1) (m - f) _ (by omega) (by omega), Option.bind_some] at e1
      have h2 := drawV_lt ns (q + 1) (m - f) (by omega)
      generalize drawV ns (q + 1) (m - f) = g at h2 e1
      have e2 := ty_12 (P := pcl FT (n + 1)) (H := hcl FT (n + 1)) 34 (intsD ns) d m f (f + 1 + g) (q + 1 + 1) (ys.map Try.D)
      rw [natD_sub1 m (f + 1 + g) (by omega), dr (q + 1 + 1) (m - (f + 1 + g) + 1) _ (by omega) (by omega), Option.bind_some] at e2
      have h3 := drawV_lt ns (q + 1 + 1) (m - (f + 1 + g) + 1) (by omega)
      generalize drawV ns (q + 1 + 1) (m - (f + 1 + g) + 1) = s at h3 e2
      have e1' : ((ast (pcl FT (n + 1)) (hcl FT (n + 1)) 55).ex (scOf "_law_trys") (tyQ1 (intsD ns) (natD m) (d, b.bind fun q => q.2) (natD f)) (eta1 (q + 1) (some (ys.map Try.D))) (stAt (forB (bs "_law_trys" 1)) 1)).run =
        some (out .next (tyQ (intsD ns) (natD m) (some (d, some (natD f, natD (f + 1 + g))))) (eta1 (q + 1 + 1) (some (ys.map Try.D)))) := e1.trans (by kernel_rfl)
      have e2' : ((ast (pcl FT (n + 1)) (hcl FT (n + 1)) 54).ex (scOf "_law_trys") (tyQ (intsD ns) (natD m) (some (d, some (natD f, natD (f + 1 + g))))) (eta1 (q + 1 + 1) (some (ys.map Try.D))) (stAt (forB (bs "_law_trys" 1)) 2)).run =
        some (out .next (tyQ (intsD ns) (natD m) (some (d, some (natD f, natD (f + 1 + g))))) (eta1 (q + 1 + 1 + 1) (some ((ys ++ [(⟨f, f + 1 + g, f + 1 + g + s⟩ : Try)]).map Try.D)))) := by
        refine e2.trans ?_
        rw [show binop .Add (natD (f + 1 + g)) (natD s) = some (natD (f + 1 + g + s)) from by kernel_rfl, Option.bind_some]
        have hlen : (ys.map Try.D).length ≤ 1000 := by rw [List.length_map]; omega
        rw [show methD "append" (.h 1) (.tup [natD f, natD (f + 1 + g), .none, natD (f + 1 + g + s), .none]) (eta1 (q + 1 + 1 + 1) (some (ys.map Try.D))) = _ from append_run rfl hlen, Option.bind_some, List.map_append]
        rfl
      have hb : forB (bs "_law_trys" 1) = [stAt (forB (bs "_law_trys" 1)) 0, stAt (forB (bs "_law_trys" 1)) 1, stAt (forB (bs "_law_trys" 1)) 2] := by kernel_rfl
      have run := (exs_next e0).trans ((exs_next e1').trans ((exs_next e2').trans exs_nil))
      rw [← hb] at run
      refine ⟨_, .next, _, _, ty_b _ _ _ _, run, ⟨_, rfl⟩, _, _, rfl, by omega, by rw [List.length_append, List.length_singleton]; omega, ?_⟩
      intro y hy
      rcases List.mem_append.mp hy with hy | hy
      · exact hf y hy
      · rw [List.mem_singleton] at hy
        subst hy
        refine ⟨?_, ?_, ?_⟩ <;> dsimp only <;> omega
    · rintro ρ η ⟨hb, ys, q, rfl, hq, hl, hf⟩
      exact ⟨rfl, hb, ys, q, rfl, hq, hl, hf⟩
  obtain ⟨fl, ρ, η, e1, rfl, ⟨b, rfl⟩, ys, p', rfl, h1, h2, h3⟩ := loop
  refine ⟨ys, p', ?_, h1, h2, h3⟩
  exact hcl_is (x := "_law_trys") (ρ0 := [("script", .d (intsD ns)), ("at", .h 0), ("many", .d (natD m))]) (ss := [bs "_law_trys" 0, sFor (bs "_law_trys" 1), bs "_law_trys" 2]) (by kernel_rfl) (by kernel_rfl) (by kernel_rfl) (by kernel_rfl)
    (nx (ρ1 := tyQ (intsD ns) (natD m) none) (η1 := eta1 p (some [])) (by kernel_rfl) (nx (ex_for_ok i1 e1) (by rcases b with _ | ⟨k, _ | ⟨f, c⟩⟩ <;> kernel_rfl)))
end Mine
end
section
namespace Mine

set_option tactic.hygienic false
/-! ## The plain law: silent rows -/
/-- one silent row -/
noncomputable def nextOf (w : Wd) (tape : List Val) (h : Nat) (r : Row) : Nat := match r with
  | .jump t => t
  | .cond c a t => if c.goes (opVal tape w a) then t else h + 1
  | _ => h + 1
noncomputable def Step (rows : List Row) (tape : List Val) (w : Wd) (h h' : Nat) : Prop := ∃ r, rows[h]? = some r ∧ r.speaks = false ∧ h' = nextOf w tape h r
inductive Steps (rows : List Row) (tape : List Val) (w : Wd) : Nat → Nat → Nat → Prop
  | zero (h : Nat) : Steps rows tape w 0 h h
  | succ {k h h1 h2 : Nat} : Step rows tape w h h1 → Steps rows tape w k h1 h2 → Steps rows tape w (k + 1) h h2
noncomputable def Stop (rows : List Row) (q : Nat) : Prop := ∀ r, rows[q]? = some r → r.speaks = true
variable {rows : List Row} {tape : List Val} {w w' : Wd} {h h1 h2 q q' k j : Nat}
theorem Step.det (a : Step rows tape w h h1) (b : Step rows tape w h h2) : h1 = h2 := by
  obtain ⟨r, e, _, rfl⟩ := a
  obtain ⟨r', e', _, rfl⟩ := b
  rw [e] at e'; cases e'; rfl
theorem Stop.no (s : Stop rows h) (a : Step rows tape w h h1) : False := by
  obtain ⟨r, e, z, _⟩ := a
  rw [s r e] at z; cases z
theorem Steps.trans (a : Steps rows tape w k h h1) (b : Steps rows tape w j h1 h2) : Steps rows tape w (k + j) h h2 := by
  induction a with
  | zero h => rw [Nat.zero_add]; exact b
  | succ s _ ih => rw [Nat.add_right_comm]; exact .succ s (ih b)
theorem Steps.det (a : Steps rows tape w k h q) (sa : Stop rows q) (b : Steps rows tape w j h q') (sb : Stop rows q') : k = j ∧ q = q' := by
  induction a generalizing j with
  | zero h =>
    induction b with
    | zero => exact ⟨rfl, rfl⟩
    | succ s _ => exact (sa.no s).elim
  | succ s a ih =>
    induction b with
    | zero => exact (sb.no s).elim
    | succ s' b =>
      rw [s.det s'] at ih
      obtain ⟨rfl, rfl⟩ := ih sa b
      exact ⟨rfl, rfl⟩
/-- a way that goes on to a stop passes there -/
theorem Steps.split (a : Steps rows tape w k h h1) (b : Steps rows tape w j h q) (sb : Stop rows q) : k ≤ j ∧ Steps rows tape w (j - k) h1 q := by
  induction a generalizing j with
  | zero h => exact ⟨Nat.zero_le _, b⟩
  | succ s a ih =>
    induction b with
    | zero => exact (sb.no s).elim
    | succ s' b =>
      rw [s.det s'] at ih
      obtain ⟨h3, h4⟩ := ih b
      exact ⟨Nat.succ_le_succ h3, by rw [Nat.add_sub_add_right]; exact h4⟩
theorem Steps.visited (a : Steps rows tape w k h q) (sa : Stop rows q) : ∃ l : List Nat, l.length = k ∧ l.Nodup ∧ (∀ v ∈ l, v < rows.length) ∧ ∀ v ∈ l, ∃ j, 1 ≤ j ∧ j ≤ k ∧ Steps rows tape w j v q := by
  induction a with
  | zero h => exact ⟨[], rfl, List.nodup_nil, fun v hv => (by cases hv), fun v hv => (by cases hv)⟩
  | @succ k h h1 h2 s a ih =>
    obtain ⟨l, e1, e2, e3, e4⟩ := ih sa
    refine ⟨h :: l, by rw [List.length_cons, e1], ?_, ?_, ?_⟩
    · rw [List.nodup_cons]
      refine ⟨fun hm => ?_, e2⟩
      obtain ⟨j, z1, z2, z3⟩ := e4 h hm
      have := (Steps.succ s a).det sa z3 sa
      omega
    · intro v hv
      rcases List.mem_cons.mp hv with rfl | hv
      · obtain ⟨r, e, _, _⟩ := s
        exact (List.getElem?_eq_some_iff.mp e).1
      · exact e3 v hv
    · intro v hv
      rcases List.mem_cons.mp hv with rfl | hv
      · exact ⟨k + 1, by omega, Nat.le_refl _, .succ s a⟩
      · obtain ⟨j, z1, z2, z3⟩ := e4 v hv
        exact ⟨j, z1, by omega, z3⟩
theorem Steps.short (a : Steps rows tape w k h q) (sa : Stop rows q) : k ≤ rows.length := by
  obtain ⟨l, e1, e2, e3, _⟩ := a.visited sa
  rw [← e1]
  exact nodup_short _ _ e2 e3

/-- what a run comes to -/
inductive Big (c : Cod) (tape : List Val) : Nat → Wd → Ended × Wd → Prop
  | ever {h : Nat} {w : Wd} : (∀ k q, Steps c.rows tape w k h q → ¬ Stop c.rows q) → Big c tape h w (.ever, w)
  | fin {h k q : Nat} {w : Wd} : Steps c.rows tape w k h q → c.rows[q]? = none → Big c tape h w (.fin, w)
  | cut {h k q : Nat} {w : Wd} {r : Row} : Steps c.rows tape w k h q → c.rows[q]? = some r → r.speaks = true → 12 < w.log.length → Big c tape h w (.cut, w)
  | stop {h k q : Nat} {w : Wd} {r : Row} {e : Ended × Wd} : Steps c.rows tape w k h q → c.rows[q]? = some r → r.speaks = true → ¬ 12 < w.log.length → act c.trys tape w q r = .inl e → Big c tape h w e
  | go {h k q h' : Nat} {w w' : Wd} {r : Row} {e : Ended × Wd} : Steps c.rows tape w k h q → c.rows[q]? = some r → r.speaks = true → ¬ 12 < w.log.length → act c.trys tape w q r = .inr (h', w') → Big c tape h' w' e → Big c tape h w e

theorem opWd_ge (a : Opd) : w.log.length ≤ (opWd tape w a).log.length := by
  cases a <;> simp [opWd]
theorem act_speaks {trys : List Try} {r : Row} (hs : r.speaks = true) (e : act trys tape w q r = .inr (h', w')) : w.log.length < w'.log.length := by
  have key : ∀ a s v, w.log.length < ((opWd tape w a).say s v).log.length := fun a s v => by
    have := opWd_ge (tape := tape) (w := w) a
    simp [Wd.say]; omega
  induction r with
  | jump t => cases hs
  | cond c a t =>
    cases e
    induction a with
    | cv i => simp [opWd]
    | _ => cases hs
  | echo a => cases e; exact key a _ _
  | move i a =>
    cases e
    have := key a .move (opVal tape w a)
    cases i <;> exact this
  | throw a =>
    simp only [act] at e
    split at e
    · cases e; exact key a _ _
    · cases e
  | ret a => cases e
theorem Big.exists (c : Cod) (tape : List Val) : ∀ (n h : Nat) (w : Wd), 13 - w.log.length ≤ n → ∃ e, Big c tape h w e := by
  intro n
  induction n with
  | zero =>
    intro h w hn
    by_cases q : ∃ k q, Steps c.rows tape w k h q ∧ Stop c.rows q
    · obtain ⟨k, q, a, s⟩ := q
      induction hr : c.rows[q]? with
      | none => exact ⟨_, .fin a hr⟩
      | some r => exact ⟨_, .cut a hr (s r hr) (by omega)⟩
    · exact ⟨_, .ever fun k q' a s => q ⟨k, q', a, s⟩⟩
  | succ n ih =>
    intro h w hn
    by_cases q : ∃ k q, Steps c.rows tape w k h q ∧ Stop c.rows q
    · obtain ⟨k, q, a, s⟩ := q
      induction hr : c.rows[q]? with
      | none => exact ⟨_, .fin a hr⟩
      | some r =>
        by_cases h12 : 12 < w.log.length
        · exact ⟨_, .cut a hr (s r hr) h12⟩
        · induction ha : act c.trys tape w q r with
          | inl e => exact ⟨_, .stop a hr (s r hr) h12 ha⟩
          | inr x =>
            obtain ⟨h', w'⟩ := x
            have := act_speaks (s r hr) ha
            obtain ⟨e, he⟩ := ih h' w' (by omega)
            exact ⟨e, .go a hr (s r hr) h12 ha he⟩
    · exact ⟨_, .ever fun k q' a s => q ⟨k, q', a, s⟩⟩

/-! ### the run does so -/
theorem act_next {trys : List Try} {r : Row} (hs : r.speaks = false) : act trys tape w h r = .inr (nextOf w tape h r, w) := by
  induction r with
  | jump t => rfl
  | cond c a t =>
    induction a with
    | cv i => cases hs
    | _ => rfl
  | _ => cases hs
theorem run_silent {c : Cod} {s m : Nat} (a : Step c.rows tape w h h1) (hs : s + 1 ≤ c.rows.length + 1) : runN c tape (m + 1) ⟨h, s, w⟩ = runN c tape m ⟨h1, s + 1, w⟩ := by
  obtain ⟨r, e, z, rfl⟩ := a
  have hst : step c tape ⟨h, s, w⟩ r = .inr ⟨nextOf w tape h r, s + 1, w⟩ := by
    unfold step
    rw [z]
    simp only [Bool.false_eq_true, and_false, if_false]
    rw [act_next z]
    simp only [if_true]
    rw [if_neg (by omega)]
  rw [runN]
  dsimp only
  rw [e]
  dsimp only
  rw [hst]
theorem run_steps {c : Cod} (a : Steps c.rows tape w k h q) : ∀ {s m : Nat}, s + k ≤ c.rows.length + 1 → runN c tape (m + k) ⟨h, s, w⟩ = runN c tape m ⟨q, s + k, w⟩ := by
  induction a with
  | zero h => intro s m _; rfl
  | succ st a ih =>
    intro s m hs
    rw [← Nat.add_assoc, run_silent st (by omega), ih (by omega)]
    congr 2
    omega
theorem run_ever {c : Cod} : ∀ (d s h : Nat), s + d = c.rows.length + 1 → (∀ k q, Steps c.rows tape w k h q → ¬ Stop c.rows q) → runN c tape (d + 1) ⟨h, s, w⟩ = some (.ever, w) := by
  intro d
  induction d with
  | zero =>
    intro s h hs hn
    have : ∃ r, c.rows[h]? = some r ∧ r.speaks = false := by
      refine Classical.byContradiction fun q => hn 0 h (.zero h) fun r hr => ?_
      cases hz : r.speaks with
      | true => rfl
      | false => exact (q ⟨r, hr, hz⟩).elim
    obtain ⟨r, e, z⟩ := this
    have hst : step c tape ⟨h, s, w⟩ r = .inl (.ever, w) := by
      unfold step
      rw [z]
      simp only [Bool.false_eq_true, and_false, if_false]
      rw [act_next z]
      simp only [if_true]
      rw [if_pos (by omega)]
    rw [runN]
    dsimp only
    rw [e]
    dsimp only
    rw [hst]
  | succ d ih =>
    intro s h hs hn
    have : ∃ r, c.rows[h]? = some r ∧ r.speaks = false := by
      refine Classical.byContradiction fun q => hn 0 h (.zero h) fun r hr => ?_
      cases hz : r.speaks with
      | true => rfl
      | false => exact (q ⟨r, hr, hz⟩).elim
    obtain ⟨r, e, z⟩ := this
    have st : Step c.rows tape w h (nextOf w tape h r) := ⟨r, e, z, rfl⟩
    rw [run_silent st (by omega)]
    exact ih (s + 1) _ (by omega) fun k q a => hn (k + 1) q (.succ st a)
set_option tactic.hygienic true in
theorem run_big {c : Cod} {e : Ended × Wd} (b : Big c tape h w e) : ∃ m, m ≤ (14 - w.log.length) * (c.rows.length + 2) + c.rows.length + 2 ∧ runN c tape m ⟨h, 0, w⟩ = some e := by
  induction b with
  | ever hn => exact ⟨c.rows.length + 1 + 1, by omega, run_ever _ 0 _ (by omega) hn⟩
  | fin a hr =>
    have hk := a.short (fun r e => by rw [hr] at e; cases e)
    rename_i k q w
    refine ⟨1 + k, by omega, ?_⟩
    rw [run_steps a (by omega), runN]
    dsimp only
    rw [hr]
  | @cut h k q w r a hr hs hl =>
    have hk := a.short (fun r' e => by rw [hr] at e; cases e; exact hs)
    refine ⟨1 + k, by omega, ?_⟩
    rw [run_steps a (by omega), runN]
    dsimp only
    rw [hr]
    dsimp only
    unfold step
    rw [if_pos ⟨hl, hs⟩]
  | @stop h k q w r e a hr hs hl ha =>
    have hk := a.short (fun r' e => by rw [hr] at e; cases e; exact hs)
    refine ⟨1 + k, by omega, ?_⟩
    rw [run_steps a (by omega), runN]
    dsimp only
    rw [hr]
    dsimp only
    unfold step
    rw [if_neg (fun z => hl z.1), ha]
  | @go h k q h' w w' r e a hr hs hl ha b ih =>
    have hk := a.short (fun r' e => by rw [hr] at e; cases e; exact hs)
    obtain ⟨m, hm, ih⟩ := ih
    have hg := act_speaks hs ha
    refine ⟨m + 1 + k, ?_, ?_⟩
    · have h1 : 14 - w.log.length = (13 - w.log.length) + 1 := by omega
      have h2 : 14 - w'.log.length ≤ 13 - w.log.length := by omega
      have h3 := Nat.mul_le_mul_right (c.rows.length + 2) h2
      rw [h1, Nat.add_mul, Nat.one_mul]
      generalize (13 - w.log.length) * (c.rows.length + 2) = X at h3 ⊢
      generalize (14 - w'.log.length) * (c.rows.length + 2) = Y at h3 hm
      omega
    · rw [run_steps a (by omega), runN]
      dsimp only
      rw [hr]
      dsimp only
      have : step c tape ⟨q, 0 + k, w⟩ r = .inr ⟨h', 0, w'⟩ := by
        unfold step
        rw [if_neg (fun z => hl z.1), ha]
        dsimp only
        rw [if_neg (show ¬ w'.log.length = w.log.length by omega), if_neg (Nat.not_lt_zero _)]
      rw [this]
      exact ih
theorem big_run {c : Cod} {e : Ended × Wd} (hc : c.rows.length ≤ 10) (b : Big c tape 0 wd0 e) : ∃ m, m < 1000 ∧ runN c tape m ⟨0, 0, wd0⟩ = some e := by
  obtain ⟨m, hm, hr⟩ := run_big b
  refine ⟨m, ?_, hr⟩
  have h1 : (14 - wd0.log.length) * (c.rows.length + 2) ≤ 14 * 12 := Nat.mul_le_mul (Nat.sub_le _ _) (by omega)
  omega
end Mine
end
section
namespace Mine

set_option tactic.hygienic false
/-! ## One code does as the other -/
noncomputable def Match (c c' : Cod) (tape : List Val) (S : Nat → Nat → Prop) (w : Wd) (h h' : Nat) : Prop :=
  (c.rows[h]? = none ∧ c'.rows[h']? = none) ∨ ∃ r r', c.rows[h]? = some r ∧ c'.rows[h']? = some r' ∧ r.speaks = true ∧ r'.speaks = true ∧
    ((∃ e, act c.trys tape w h r = .inl e ∧ act c'.trys tape w h' r' = .inl e) ∨ ∃ g g' w', act c.trys tape w h r = .inr (g, w') ∧ act c'.trys tape w h' r' = .inr (g', w') ∧ S g g')
noncomputable def Sim (c c' : Cod) (tape : List Val) (S : Nat → Nat → Prop) : Prop := ∀ h h', S h h' → ∀ w, ∃ k h0, Steps c.rows tape w k h h0 ∧
  (Match c c' tape S w h0 h' ∨ ∃ k1 h1 h1', Steps c.rows tape w (k1 + 1) h0 h1 ∧ Step c'.rows tape w h' h1' ∧ S h1 h1')
variable {c c' : Cod} {tape : List Val} {S : Nat → Nat → Prop} {w w' : Wd} {h h' h1 h2 q q' k j : Nat}
theorem Match.stop (m : Match c c' tape S w h h') : Stop c.rows h ∧ Stop c'.rows h' := by
  rcases m with ⟨e1, e2⟩ | ⟨r, r', e1, e2, s1, s2, _⟩
  · exact ⟨fun r e => by rw [e1] at e; (cases e), fun r e => by rw [e2] at e; (cases e)⟩
  · exact ⟨fun r e => by rw [e1] at e; cases e; exact s1, fun r e => by rw [e2] at e; cases e; exact s2⟩
theorem Sim.fwd (s : Sim c c' tape S) : ∀ (n k : Nat), k ≤ n → ∀ h h' q, Steps c.rows tape w k h q → Stop c.rows q → S h h' → ∃ k' q', Steps c'.rows tape w k' h' q' ∧ Match c c' tape S w q q' := by
  intro n
  induction n with
  | zero =>
    intro k hk h h' q a sq hs
    obtain ⟨k0, h0, b, m⟩ := s h h' hs w
    obtain ⟨z1, z2⟩ := b.split a sq
    have : k0 = 0 := by omega
    rcases m with m | ⟨k1, h1, h1', b1, _, _⟩
    · have := z2.det sq (.zero h0) m.stop.1
      obtain ⟨_, rfl⟩ := this
      exact ⟨0, h', .zero h', m⟩
    · have := (b1.split z2 sq).1
      omega
  | succ n ih =>
    intro k hk h h' q a sq hs
    obtain ⟨k0, h0, b, m⟩ := s h h' hs w
    obtain ⟨z1, z2⟩ := b.split a sq
    rcases m with m | ⟨k1, h1, h1', b1, b2, hs1⟩
    · have := z2.det sq (.zero h0) m.stop.1
      obtain ⟨_, rfl⟩ := this
      exact ⟨0, h', .zero h', m⟩
    · obtain ⟨z3, z4⟩ := b1.split z2 sq
      obtain ⟨k', q', b3, m⟩ := ih _ (by omega) h1 h1' q z4 sq hs1
      exact ⟨k' + 1, q', .succ b2 b3, m⟩
theorem Sim.bwd (s : Sim c c' tape S) : ∀ (k' : Nat) (h h' q' : Nat), Steps c'.rows tape w k' h' q' → Stop c'.rows q' → S h h' → ∃ k q, Steps c.rows tape w k h q ∧ Stop c.rows q := by
  intro k'
  induction k' with
  | zero =>
    intro h h' q' a sq hs
    obtain ⟨k0, h0, b, m⟩ := s h h' hs w
    rcases m with m | ⟨k1, h1, h1', b1, b2, hs1⟩
    · exact ⟨k0, h0, b, m.stop.1⟩
    · cases a
      exact (sq.no b2).elim
  | succ k' ih =>
    intro h h' q' a sq hs
    obtain ⟨k0, h0, b, m⟩ := s h h' hs w
    rcases m with m | ⟨k1, h1, h1', b1, b2, hs1⟩
    · exact ⟨k0, h0, b, m.stop.1⟩
    · cases a with
      | succ b3 a =>
        rw [b3.det b2] at a
        obtain ⟨k, q, b4, sq'⟩ := ih h1 h1' q' a sq hs1
        exact ⟨_, q, (b.trans b1).trans b4, sq'⟩
theorem Sim.big (s : Sim c c' tape S) {e : Ended × Wd} (b : Big c tape h w e) : ∀ h', S h h' → Big c' tape h' w e := by
  induction b with
  | ever hn =>
    intro h' hs
    refine .ever fun k' q' a sq => ?_
    obtain ⟨k, q, a', sq'⟩ := s.bwd k' _ _ q' a sq hs
    exact hn k q a' sq'
  | fin a hr =>
    intro h' hs
    obtain ⟨k', q', a', m⟩ := s.fwd _ _ (Nat.le_refl _) _ _ _ a (fun r e => by rw [hr] at e; cases e) hs
    rcases m with ⟨_, e2⟩ | ⟨r, r', e1, _⟩
    · exact .fin a' e2
    · rw [hr] at e1; cases e1
  | cut a hr hs hl =>
    intro h' hss
    obtain ⟨k', q', a', m⟩ := s.fwd _ _ (Nat.le_refl _) _ _ _ a (fun r e => by rw [hr] at e; cases e; exact hs) hss
    rcases m with ⟨e1, _⟩ | ⟨r, r', e1, e2, s1, s2, _⟩
    · rw [hr] at e1; cases e1
    · exact .cut a' e2 s2 hl
  | stop a hr hs hl ha =>
    intro h' hss
    obtain ⟨k', q', a', m⟩ := s.fwd _ _ (Nat.le_refl _) _ _ _ a (fun r e => by rw [hr] at e; cases e; exact hs) hss
    rcases m with ⟨e1, _⟩ | ⟨r, r', e1, e2, s1, s2, m⟩
    · rw [hr] at e1; cases e1
    · rw [hr] at e1; cases e1
      rcases m with ⟨e, z1, z2⟩ | ⟨g, g', w', z1, z2, z3⟩
      · rw [ha] at z1; cases z1
        exact .stop a' e2 s2 hl z2
      · rw [ha] at z1; cases z1
  | go a hr hs hl ha b ih =>
    intro h' hss
    obtain ⟨k', q', a', m⟩ := s.fwd _ _ (Nat.le_refl _) _ _ _ a (fun r e => by rw [hr] at e; cases e; exact hs) hss
    rcases m with ⟨e1, _⟩ | ⟨r, r', e1, e2, s1, s2, m⟩
    · rw [hr] at e1; cases e1
    · rw [hr] at e1; cases e1
      rcases m with ⟨e, z1, z2⟩ | ⟨g, g', w', z1, z2, z3⟩
      · rw [ha] at z1; cases z1
      · rw [ha] at z1; cases z1
        exact .go a' e2 s2 hl z2 (ih g' z3)

/-! ### jumps led on -/
set_option tactic.hygienic true in
theorem chain_steps {rows : List Row} : ∀ {n t v : Nat}, chain rows n t = some v → ∃ k, ∀ w, Steps rows tape w k t v
  | 0, _, _, h => by cases h
  | n + 1, t, v, h => by
    rw [chain] at h
    split at h
    · rename_i u e
      obtain ⟨k, hk⟩ := chain_steps h
      exact ⟨k + 1, fun w => .succ ⟨_, e, rfl, rfl⟩ (hk w)⟩
    · cases h
      exact ⟨0, fun w => .zero _⟩
theorem last_steps (rows : List Row) (t : Nat) : ∃ k, ∀ w, Steps rows tape w k t (lastTarget rows t) := by
  unfold lastTarget
  induction q : chain rows (rows.length + 1) t with
  | none => exact ⟨0, fun w => .zero _⟩
  | some v => exact chain_steps q
theorem led_sim (rows : List Row) (trys : List Try) (tape : List Val) : Sim ⟨rows, trys⟩ ⟨ledOn rows, trys⟩ tape (fun h h' => ∀ w, ∃ k, Steps rows tape w k h h') := by
  intro h h' hs w
  obtain ⟨k, a⟩ := hs w
  refine ⟨k, h', a, ?_⟩
  have eL : (ledOn rows)[h']? = (rows[h']?).map (ledRow rows) := by unfold ledOn; rw [List.getElem?_map]
  have refl : ∀ g w, ∃ k, Steps rows tape w k g g := fun g w => ⟨0, .zero g⟩
  have last : ∀ t w, ∃ k, Steps rows tape w k t (lastTarget rows t) := fun t w => by
    obtain ⟨k, hk⟩ := last_steps (tape := tape) rows t
    exact ⟨k, hk w⟩
  have both : ∀ (b : Bool) t g w, ∃ k, Steps rows tape w k (if b then t else g) (if b then lastTarget rows t else g) := fun b t g w => by
    cases b
    · exact refl g w
    · exact last t w
  induction hr : rows[h']? with
  | none => exact .inl (.inl ⟨hr, by show (ledOn rows)[h']? = none; rw [eL, hr]; rfl⟩)
  | some r =>
    rw [hr] at eL
    induction hq : r.speaks with
    | false =>
      refine .inr ⟨0, nextOf w tape h' r, nextOf w tape h' (ledRow rows r), .succ ⟨r, hr, hq, rfl⟩ (.zero _), ⟨_, eL, ?_, rfl⟩, ?_⟩
      · cases r with
        | jump t => rfl
        | cond c a t => exact hq
        | _ => cases hq
      · intro w1
        induction r with
        | jump t => exact last t w1
        | cond c a t => exact both _ t _ w1
        | _ => cases hq
    | true =>
      refine .inl (.inr ⟨r, _, hr, eL, hq, ?_, ?_⟩)
      · induction r with
        | jump t => cases hq
        | cond c a t => exact hq
        | _ => rfl
      · induction r with
        | jump t => cases hq
        | cond c a t => exact .inr ⟨_, _, _, rfl, rfl, both _ t _⟩
        | echo a => exact .inr ⟨_, _, _, rfl, rfl, refl _⟩
        | move i a => exact .inr ⟨_, _, _, rfl, rfl, refl _⟩
        | throw a =>
          show (∃ e, act trys tape w h' (.throw a) = .inl e ∧ act trys tape w h' (.throw a) = .inl e) ∨ _
          induction hc : act trys tape w h' (.throw a) with
          | inl e => exact .inl ⟨e, rfl, rfl⟩
          | inr x => first | exact .inr ⟨x.1, x.1, x.2, rfl, hc, refl _⟩ | exact .inr ⟨x.1, x.1, x.2, rfl, rfl, refl _⟩
        | ret a => exact .inl ⟨_, rfl, rfl⟩
theorem led_big {rows : List Row} {trys : List Try} {e : Ended × Wd} (b : Big ⟨rows, trys⟩ tape 0 w e) : Big ⟨ledOn rows, trys⟩ tape 0 w e := (led_sim rows trys tape).big b 0 fun _ => ⟨0, .zero 0⟩
end Mine
end
section
namespace Mine

set_option tactic.hygienic false
/-! ## Numbers of the kept -/
theorem numOf_zero (ks : List Bool) : numOf ks 0 = 0 := by simp [numOf]
theorem numOf_succ {ks : List Bool} {p : Nat} {b : Bool} (h : ks[p]? = some b) : numOf ks (p + 1) = numOf ks p + (if b then 1 else 0) := by
  unfold numOf
  rw [List.take_succ, h, List.countP_append]
  cases b <;> rfl
theorem numOf_mono (ks : List Bool) {p q : Nat} (h : p ≤ q) : numOf ks p ≤ numOf ks q := by
  unfold numOf
  have : ks.take p = (ks.take q).take p := by rw [List.take_take, Nat.min_eq_left h]
  rw [this]
  exact List.Sublist.countP_le (List.take_sublist _ _)
theorem numOf_le_iff {ks : List Bool} {p : Nat} (h : ks[p]? = some true) (x : Nat) : numOf ks x ≤ numOf ks p ↔ x ≤ p := by
  constructor
  · intro hx
    refine Classical.byContradiction fun z => ?_
    have h1 := numOf_mono ks (show p + 1 ≤ x by omega)
    rw [numOf_succ h] at h1
    simp only [if_true] at h1
    omega
  · exact numOf_mono ks
theorem pick_get : ∀ {l : List Row} {ks : List Bool} {p : Nat} {r : Row}, l[p]? = some r → ks[p]? = some true → (pick l ks)[numOf ks p]? = some r
  | [], _, _, _, h, _ => by simp at h
  | _ :: _, [], _, _, _, h => by simp at h
  | x :: l, k :: ks, 0, r, h, h2 => by
    simp at h h2
    subst h; subst h2
    rw [numOf_zero, pick]; rfl
  | x :: l, k :: ks, p + 1, r, h, h2 => by
    rw [List.getElem?_cons_succ] at h h2
    have ih := pick_get h h2
    have e : numOf (k :: ks) (p + 1) = (if k then 1 else 0) + numOf ks p := by
      unfold numOf
      rw [List.take_succ_cons, List.countP_cons]
      cases k <;> simp [Nat.add_comm]
    rw [e]
    induction k with
    | true => rw [pick, if_pos rfl, Nat.add_comm, List.getElem?_cons_succ]; exact ih
    | false => rw [pick, if_neg (by decide), Nat.zero_add]; exact ih
theorem caught_kept {ks : List Bool} {p : Nat} (h : ks[p]? = some true) (trys : List Try) : caught (trys.map (keptTry ks)) (numOf ks p) = (caught trys p).map (numOf ks) := by
  unfold caught
  rw [← List.map_reverse, List.find?_map]
  have : ((fun y : Try => decide (y.first ≤ numOf ks p) && decide (numOf ks p < y.catch_)) ∘ keptTry ks) = fun y : Try => decide (y.first ≤ p) && decide (p < y.catch_) := by
    funext y
    have h1 := numOf_le_iff h y.first
    have h2 := numOf_le_iff h y.catch_
    show (decide (numOf ks y.first ≤ numOf ks p) && decide (numOf ks p < numOf ks y.catch_)) = _
    congr 1
    · exact decide_eq_decide.mpr h1
    · exact decide_eq_decide.mpr (by omega)
  rw [this, Option.map_map, Option.map_map]
  rfl

/-! ## A code's rows turned, idle ones dropped -/
structure Wf (c : Cod) : Prop where
  rows : ∀ r ∈ c.rows, ∀ t, r.target = some t → t ≤ c.rows.length
  trys : ∀ y ∈ c.trys, y.first ≤ y.catch_ ∧ y.catch_ ≤ y.stop ∧ y.stop ≤ c.rows.length
noncomputable def newsOf (R : List Row) (trys : List Try) : List Row := R.mapIdx (newRow R (targetsOf R trys))
noncomputable def keepsOf (R : List Row) (trys : List Try) : List Bool := R.mapIdx (keepRow R (targetsOf R trys))
noncomputable def dropped (c : Cod) : Cod := kept ⟨newsOf c.rows c.trys, c.trys⟩ (keepsOf c.rows c.trys)
theorem threaded_eq (c : Cod) : threaded c = dropped ⟨ledOn c.rows, c.trys⟩ := rfl
variable {R : List Row} {trys : List Try} {known : Nat → Bool} {p t u : Nat} {r : Row}
theorem known_target (hr : R[p]? = some r) (ht : r.target = some t) : targetsOf R trys t = true := by
  unfold targetsOf
  rw [Bool.or_eq_true]
  exact .inl (List.any_eq_true.mpr ⟨r, List.mem_of_getElem? hr, by rw [ht]; simp⟩)
theorem known_catch {y : Try} (hy : y ∈ trys) : targetsOf R trys y.catch_ = true := by
  unfold targetsOf
  rw [Bool.or_eq_true]
  exact .inr (List.any_eq_true.mpr ⟨y, hy, by simp⟩)
set_option tactic.hygienic true in
theorem turned_some (h : turnedRow R known p = some r) : ∃ c c' a u, R[p]? = some (.cond c a (p + 2)) ∧ c.other = some c' ∧ known (p + 1) = false ∧ R[p + 1]? = some (.jump u) ∧ r = .cond c' a u := by
  unfold turnedRow at h
  split at h
  · rename_i c a t e
    induction hc : c.other with
    | none => rw [hc] at h; cases h
    | some c' =>
      rw [hc] at h
      dsimp only at h
      split at h
      · rename_i q
        split at h
        · rename_i u e2
          cases h
          exact ⟨c, c', a, u, by rw [e, q.1], hc, q.2, e2, rfl⟩
        · cases h
      · cases h
  · cases h
theorem over_succ : over R known (p + 1) = (turnedRow R known p).isSome := rfl
theorem over_known (h : known t = true) : over R known t = false := by
  induction t with
  | zero => rfl
  | succ t =>
    rw [over_succ]
    induction q : turnedRow R known t with
    | none => rfl
    | some r =>
      obtain ⟨c, c', a, u, _, _, h3, _⟩ := turned_some q
      rw [h] at h3; cases h3
theorem news_get (hr : R[p]? = some r) : (newsOf R trys)[p]? = some (newRow R (targetsOf R trys) p r) := by
  unfold newsOf
  rw [List.getElem?_mapIdx, hr]; rfl
theorem keeps_get (hr : R[p]? = some r) : (keepsOf R trys)[p]? = some (keepRow R (targetsOf R trys) p r) := by
  unfold keepsOf
  rw [List.getElem?_mapIdx, hr]; rfl
theorem keeps_len : (keepsOf R trys).length = R.length := List.length_mapIdx
theorem news_len : (newsOf R trys).length = R.length := List.length_mapIdx
theorem dropped_get {r : Row} (hr : R[p]? = some r) (hk : keepRow R (targetsOf R trys) p r = true) : (dropped ⟨R, trys⟩).rows[numOf (keepsOf R trys) p]? = some (keptRow (keepsOf R trys) (newRow R (targetsOf R trys) p r)) := by
  have h1 := pick_get (news_get (trys := trys) hr) (by rw [keeps_get hr, hk])
  show ((pick (newsOf R trys) (keepsOf R trys)).map (keptRow (keepsOf R trys)))[numOf (keepsOf R trys) p]? = _
  rw [List.getElem?_map, h1]; rfl
theorem dropped_len : (dropped ⟨R, trys⟩).rows.length = numOf (keepsOf R trys) R.length := by
  show ((pick (newsOf R trys) (keepsOf R trys)).map (keptRow (keepsOf R trys))).length = _
  rw [List.length_map, pick_length (by rw [keeps_len, news_len])]
  unfold numOf
  rw [← keeps_len (trys := trys), List.take_length]
theorem dropped_end : (dropped ⟨R, trys⟩).rows[numOf (keepsOf R trys) R.length]? = none := by
  rw [List.getElem?_eq_none_iff, dropped_len]; exact Nat.le_refl _
/-- a row that is not kept: it leads to the next -/
theorem not_kept (hr : R[p]? = some r) (ho : over R (targetsOf R trys) p = false) (hk : keepRow R (targetsOf R trys) p r = false) : turnedRow R (targetsOf R trys) p = none ∧ r.isIdle p = true := by
  unfold keepRow at hk
  rw [ho] at hk
  simp only [Bool.false_eq_true, if_false, Bool.not_eq_false'] at hk
  unfold newRow at hk
  rw [ho] at hk
  simp only [Bool.false_eq_true, if_false] at hk
  induction q : turnedRow R (targetsOf R trys) p with
  | none => rw [q] at hk; exact ⟨rfl, hk⟩
  | some r' =>
    rw [q] at hk
    obtain ⟨c, c', a, u, _, _, h3, h4, rfl⟩ := turned_some q
    have h5 : (u == p + 1 && !a.isCv) = true := hk
    rw [Bool.and_eq_true, beq_iff_eq] at h5
    have h6 := known_target (trys := trys) h4 (t := u) rfl
    rw [h5.1, h3] at h6
    cases h6
theorem idle_step {tape : List Val} {w : Wd} (hr : R[p]? = some r) (hi : r.isIdle p = true) : Step R tape w p (p + 1) := by
  refine ⟨r, hr, ?_, ?_⟩
  · cases r with
    | jump t => rfl
    | cond c a t =>
      have h5 : (t == p + 1 && !a.isCv) = true := hi
      rw [Bool.and_eq_true] at h5
      have := h5.2
      show a.isCv = false
      induction q : a.isCv with
      | true => rw [q] at this; cases this
      | false => rfl
    | _ => cases hi
  · cases r with
    | jump t =>
      have h5 : (t == p + 1) = true := hi
      exact (beq_iff_eq.mp h5).symm
    | cond c a t =>
      have h5 : (t == p + 1 && !a.isCv) = true := hi
      rw [Bool.and_eq_true, beq_iff_eq] at h5
      show p + 1 = if _ then t else p + 1
      rw [h5.1]
      split <;> rfl
    | _ => cases hi
theorem to_kept {tape : List Val} {w : Wd} : ∀ (n p : Nat), R.length - p ≤ n → p ≤ R.length → over R (targetsOf R trys) p = false →
    ∃ k h0, Steps R tape w k p h0 ∧ over R (targetsOf R trys) h0 = false ∧ numOf (keepsOf R trys) h0 = numOf (keepsOf R trys) p ∧ (h0 = R.length ∨ ∃ r, R[h0]? = some r ∧ keepRow R (targetsOf R trys) h0 r = true) := by
  intro n
  induction n with
  | zero =>
    intro p hn hp ho
    exact ⟨0, p, .zero p, ho, rfl, .inl (by omega)⟩
  | succ n ih =>
    intro p hn hp ho
    by_cases he : p = R.length
    · exact ⟨0, p, .zero p, ho, rfl, .inl he⟩
    · have hr : R[p]? = some R[p] := List.getElem?_eq_getElem (by omega)
      induction hk : keepRow R (targetsOf R trys) p R[p] with
      | true => exact ⟨0, p, .zero p, ho, rfl, .inr ⟨_, hr, hk⟩⟩
      | false =>
        obtain ⟨h1, h2⟩ := not_kept hr ho hk
        obtain ⟨k, h0, a, z1, z2, z3⟩ := ih (p + 1) (by omega) (by omega) (by rw [over_succ, h1]; rfl)
        refine ⟨k + 1, h0, .succ (idle_step hr h2) a, z1, z2.trans ?_, z3⟩
        rw [numOf_succ (keeps_get hr), hk]; rfl
noncomputable def DropS (R : List Row) (trys : List Try) (h h' : Nat) : Prop := ∃ g, g ≤ R.length ∧ over R (targetsOf R trys) g = false ∧ h' = numOf (keepsOf R trys) g ∧ (h = g ∨ R[h]? = some (.jump g))
theorem other_goes {c c' : Cnd} (h : c.other = some c') (v : Val) : c'.goes v = !c.goes v := by
  induction c with
  | iff => cases h; rfl
  | «unless» => cases h; show v.so = !!v.so; rw [Bool.not_not]
  | null => cases h
  | set => cases h
theorem drop_sim (W : Wf ⟨R, trys⟩) (tape : List Val) : Sim ⟨R, trys⟩ (dropped ⟨R, trys⟩) tape (DropS R trys) := by
  rintro h h' ⟨g, hg, ho, rfl, hs⟩ w
  obtain ⟨k, h0, a, ho0, hn, hz⟩ := to_kept (tape := tape) (w := w) _ g (Nat.le_refl _) hg ho
  have a0 : ∃ k, Steps R tape w k h h0 := by
    rcases hs with rfl | hj
    · exact ⟨k, a⟩
    · exact ⟨k + 1, .succ ⟨_, hj, rfl, rfl⟩ a⟩
  obtain ⟨k', a0⟩ := a0
  refine ⟨k', h0, a0, ?_⟩
  rw [← hn]
  rcases hz with rfl | ⟨r, hr, hk⟩
  · exact .inl (.inl ⟨List.getElem?_eq_none_iff.mpr (Nat.le_refl _), dropped_end⟩)
  have hlt : h0 < R.length := (List.getElem?_eq_some_iff.mp hr).1
  have hd := dropped_get hr hk
  have hnew : newRow R (targetsOf R trys) h0 r = (turnedRow R (targetsOf R trys) h0).getD r := by
    unfold newRow; rw [ho0]; rfl
  rw [hnew] at hd
  have hsucc : numOf (keepsOf R trys) (h0 + 1) = numOf (keepsOf R trys) h0 + 1 := by rw [numOf_succ (keeps_get hr), hk]; rfl
  have tgt : ∀ {q : Nat} {r : Row} {t : Nat}, R[q]? = some r → r.target = some t → DropS R trys t (numOf (keepsOf R trys) t) := fun e ht =>
    ⟨_, W.rows _ (List.mem_of_getElem? e) _ ht, over_known (known_target e ht), rfl, .inl rfl⟩
  induction hT : turnedRow R (targetsOf R trys) h0 with
  | some r' =>
    rw [hT] at hd
    obtain ⟨c, c', x, u, e1, e2, e3, e4, rfl⟩ := turned_some hT
    rw [hr] at e1
    cases e1
    have hd' : (dropped ⟨R, trys⟩).rows[numOf (keepsOf R trys) h0]? = some (.cond c' x (numOf (keepsOf R trys) u)) := hd
    have hu := tgt e4 (t := u) rfl
    have hlt1 : h0 + 1 < R.length := (List.getElem?_eq_some_iff.mp e4).1
    have both : ∀ b : Bool, DropS R trys (if b then h0 + 2 else h0 + 1) (if (!b) then numOf (keepsOf R trys) u else numOf (keepsOf R trys) h0 + 1) := by
      intro b
      induction b with
      | true =>
        refine ⟨h0 + 2, by omega, ?_, ?_, .inl rfl⟩
        · rw [show h0 + 2 = (h0 + 1) + 1 from rfl, over_succ]
          induction q : turnedRow R (targetsOf R trys) (h0 + 1) with
          | none => rfl
          | some r2 =>
            obtain ⟨_, _, _, _, z, _⟩ := turned_some q
            rw [e4] at z; cases z
        · have : keepRow R (targetsOf R trys) (h0 + 1) (.jump u) = false := by
            unfold keepRow
            rw [over_succ, hT]; rfl
          show numOf (keepsOf R trys) h0 + 1 = numOf (keepsOf R trys) (h0 + 1 + 1)
          rw [numOf_succ (keeps_get e4), this, hsucc]; rfl
      | false =>
        obtain ⟨_, z1, z2, z3, _⟩ := hu
        exact ⟨u, W.rows _ (List.mem_of_getElem? e4) _ rfl, over_known (known_target e4 rfl), rfl, .inr e4⟩
    induction hcv : x.isCv with
    | true =>
      refine .inl (.inr ⟨_, _, hr, hd', hcv, hcv, .inr ⟨_, _, _, rfl, rfl, ?_⟩⟩)
      rw [other_goes e2]
      exact both _
    | false =>
      refine .inr ⟨0, _, _, .succ ⟨_, hr, hcv, rfl⟩ (.zero _), ⟨_, hd', hcv, rfl⟩, ?_⟩
      show DropS R trys (if c.goes (opVal tape w x) then h0 + 2 else h0 + 1) (if c'.goes (opVal tape w x) then numOf (keepsOf R trys) u else numOf (keepsOf R trys) h0 + 1)
      rw [other_goes e2]
      exact both _
  | none =>
    rw [hT] at hd
    have hd' : (dropped ⟨R, trys⟩).rows[numOf (keepsOf R trys) h0]? = some (keptRow (keepsOf R trys) r) := hd
    have nxt : DropS R trys (h0 + 1) (numOf (keepsOf R trys) h0 + 1) := ⟨h0 + 1, by omega, by rw [over_succ, hT]; rfl, hsucc.symm, .inl rfl⟩
    induction r with
    | jump t => exact .inr ⟨0, t, numOf (keepsOf R trys) t, .succ ⟨_, hr, rfl, rfl⟩ (.zero _), ⟨_, hd', rfl, rfl⟩, tgt hr rfl⟩
    | cond c x t =>
      have both : ∀ b : Bool, DropS R trys (if b then t else h0 + 1) (if b then numOf (keepsOf R trys) t else numOf (keepsOf R trys) h0 + 1) := by
        intro b
        cases b
        · exact nxt
        · exact tgt hr rfl
      induction hcv : x.isCv with
      | true => exact .inl (.inr ⟨_, _, hr, hd', hcv, hcv, .inr ⟨_, _, _, rfl, rfl, both _⟩⟩)
      | false => exact .inr ⟨0, _, _, .succ ⟨_, hr, hcv, rfl⟩ (.zero _), ⟨_, hd', hcv, rfl⟩, both _⟩
    | echo x => exact .inl (.inr ⟨_, _, hr, hd', rfl, rfl, .inr ⟨_, _, _, rfl, rfl, nxt⟩⟩)
    | move i x => exact .inl (.inr ⟨_, _, hr, hd', rfl, rfl, .inr ⟨_, _, _, rfl, rfl, nxt⟩⟩)
    | ret x => exact .inl (.inr ⟨_, _, hr, hd', rfl, rfl, .inl ⟨_, rfl, rfl⟩⟩)
    | throw x =>
      have hc : caught (dropped ⟨R, trys⟩).trys (numOf (keepsOf R trys) h0) = (caught trys h0).map (numOf (keepsOf R trys)) := caught_kept (by rw [keeps_get hr, hk]) trys
      have aR : act trys tape w h0 (.throw x) = match caught trys h0 with
        | some q => .inr (q, (opWd tape w x).say .throw (opVal tape w x))
        | none => .inl (.thrown (opVal tape w x), (opWd tape w x).say .throw (opVal tape w x)) := rfl
      have aN : act (dropped ⟨R, trys⟩).trys tape w (numOf (keepsOf R trys) h0) (.throw x) = match caught (dropped ⟨R, trys⟩).trys (numOf (keepsOf R trys) h0) with
        | some q => .inr (q, (opWd tape w x).say .throw (opVal tape w x))
        | none => .inl (.thrown (opVal tape w x), (opWd tape w x).say .throw (opVal tape w x)) := rfl
      refine .inl (.inr ⟨.throw x, .throw x, hr, hd', rfl, rfl, ?_⟩)
      rw [hc] at aN
      induction hq : caught trys h0 with
      | none =>
        rw [hq] at aR aN
        exact .inl ⟨_, aR, aN⟩
      | some q =>
        rw [hq] at aR aN
        refine .inr ⟨_, _, _, aR, aN, ?_⟩
        unfold caught at hq
        rw [Option.map_eq_some_iff] at hq
        obtain ⟨y, hy, rfl⟩ := hq
        have hy := List.mem_reverse.mp (List.mem_of_find?_eq_some hy)
        have := W.trys y hy
        exact ⟨y.catch_, Nat.le_trans this.2.1 this.2.2, over_known (known_catch hy), rfl, .inl rfl⟩
theorem drop_big {tape : List Val} {w : Wd} {e : Ended × Wd} (W : Wf ⟨R, trys⟩) (b : Big ⟨R, trys⟩ tape 0 w e) : Big (dropped ⟨R, trys⟩) tape 0 w e :=
  (drop_sim W tape).big b 0 ⟨0, Nat.zero_le _, rfl, (numOf_zero _).symm, .inl rfl⟩
end Mine
end
section
namespace Mine

set_option tactic.hygienic false
variable {R : List Row} {trys : List Try} {known : Nat → Bool} {p t u : Nat} {r : Row}
/-! ## Well-formed codes stay so -/
set_option tactic.hygienic true in
theorem chain_le {rows : List Row} (W : ∀ r ∈ rows, ∀ t, r.target = some t → t ≤ rows.length) : ∀ {n t v : Nat}, t ≤ rows.length → chain rows n t = some v → v ≤ rows.length
  | 0, _, _, _, h => by cases h
  | n + 1, t, v, ht, h => by
    rw [chain] at h
    split at h
    · rename_i u e
      exact chain_le W (W _ (List.mem_of_getElem? e) u rfl) h
    · cases h; exact ht
theorem last_le {rows : List Row} (W : ∀ r ∈ rows, ∀ t, r.target = some t → t ≤ rows.length) {t : Nat} (ht : t ≤ rows.length) : lastTarget rows t ≤ rows.length := by
  unfold lastTarget
  induction q : chain rows (rows.length + 1) t with
  | none => exact ht
  | some v => exact chain_le W ht q
theorem led_len (rows : List Row) : (ledOn rows).length = rows.length := by unfold ledOn; rw [List.length_map]
theorem led_target {rows : List Row} {r : Row} {t : Nat} (h : (ledRow rows r).target = some t) : ∃ u, r.target = some u ∧ t = lastTarget rows u := by
  unfold ledRow at h
  cases r with
  | jump u => cases h; exact ⟨u, rfl, rfl⟩
  | cond c a u => cases h; exact ⟨u, rfl, rfl⟩
  | _ => cases h
theorem Wf.led {rows : List Row} (W : Wf ⟨rows, trys⟩) : Wf ⟨ledOn rows, trys⟩ := by
  refine ⟨fun r hr t ht => ?_, fun y hy => ?_⟩
  · obtain ⟨r0, h0, rfl⟩ := List.mem_map.mp hr
    obtain ⟨u, hu, rfl⟩ := led_target ht
    show _ ≤ (ledOn rows).length
    rw [led_len]
    exact last_le W.rows (W.rows r0 h0 u hu)
  · have := W.trys y hy
    show _ ∧ _ ∧ _ ≤ (ledOn rows).length
    rw [led_len]
    exact this
theorem new_target {t : Nat} (W : ∀ r ∈ R, ∀ t, r.target = some t → t ≤ R.length) (hr : R[p]? = some r) (ht : (newRow R known p r).target = some t) : t ≤ R.length := by
  unfold newRow at ht
  split at ht
  · exact W r (List.mem_of_getElem? hr) t ht
  · induction q : turnedRow R known p with
    | none => rw [q] at ht; exact W r (List.mem_of_getElem? hr) t ht
    | some r' =>
      rw [q] at ht
      obtain ⟨c, c', a, u, _, _, _, h4, rfl⟩ := turned_some q
      cases ht
      exact W _ (List.mem_of_getElem? h4) _ rfl
theorem news_mem (hr : r ∈ newsOf R trys) : ∃ p r0, R[p]? = some r0 ∧ r = newRow R (targetsOf R trys) p r0 := by
  obtain ⟨p, hp⟩ := List.mem_iff_getElem?.mp hr
  unfold newsOf at hp
  rw [List.getElem?_mapIdx] at hp
  induction q : R[p]? with
  | none => rw [q] at hp; cases hp
  | some r0 => rw [q] at hp; cases hp; exact ⟨p, r0, q, rfl⟩
theorem kept_target {ks : List Bool} {r : Row} {t : Nat} (h : (keptRow ks r).target = some t) : ∃ u, r.target = some u ∧ t = numOf ks u := by
  unfold keptRow at h
  cases r with
  | jump u => cases h; exact ⟨u, rfl, rfl⟩
  | cond c a u => cases h; exact ⟨u, rfl, rfl⟩
  | _ => cases h
theorem Wf.drop (W : Wf ⟨R, trys⟩) : Wf (dropped ⟨R, trys⟩) := by
  refine ⟨fun r hr t ht => ?_, fun y hy => ?_⟩
  · obtain ⟨r0, h0, rfl⟩ := List.mem_map.mp hr
    obtain ⟨u, hu, rfl⟩ := kept_target ht
    obtain ⟨p, r1, h1, rfl⟩ := news_mem (pick_mem h0)
    rw [dropped_len]
    exact numOf_mono _ (new_target W.rows h1 hu)
  · obtain ⟨y0, h0, rfl⟩ := List.mem_map.mp hy
    have := W.trys y0 h0
    rw [dropped_len]
    exact ⟨numOf_mono _ this.1, numOf_mono _ this.2.1, numOf_mono _ this.2.2⟩
theorem Wf.threaded {c : Cod} (W : Wf c) : Wf (threaded c) := W.led.drop
theorem threaded_big {c : Cod} {tape : List Val} {w : Wd} {e : Ended × Wd} (W : Wf c) (b : Big c tape 0 w e) : Big (threaded c) tape 0 w e := drop_big W.led (led_big b)
theorem dropped_le : (dropped ⟨R, trys⟩).rows.length ≤ R.length := by
  rw [dropped_len]
  exact Nat.le_trans (numOf_le _ _) (Nat.le_of_eq keeps_len)
theorem threaded_le (c : Cod) : (threaded c).rows.length ≤ c.rows.length := by
  have := dropped_le (R := ledOn c.rows) (trys := c.trys)
  rw [led_len] at this
  exact this
theorem threaded_trys (c : Cod) : (threaded c).trys.length = c.trys.length := by
  show (c.trys.map _).length = _
  rw [List.length_map]

/-! ## As many rows ahead -/
theorem bareN_succ {rows : List Row} {p : Nat} {r : Row} (h : rows[p]? = some r) : bareN rows (p + 1) = bareN rows p + (if r.isLed then 0 else 1) := by
  unfold bareN
  rw [List.take_succ, h, List.countP_append]
  cases q : r.isLed <;> simp [q]
theorem led_bare (rows : List Row) (p : Nat) : bareN (ledOn rows) p = bareN rows p := by
  unfold bareN ledOn
  rw [← List.map_take, List.countP_map]
  congr 1
  funext r
  show (!(ledRow rows r).isLed) = _
  cases r <;> rfl
theorem new_led (hr : R[p]? = some r) (ks : List Bool) : (keptRow ks (newRow R known p r)).isLed = r.isLed := by
  have k : ∀ r : Row, (keptRow ks r).isLed = r.isLed := fun r => by cases r <;> rfl
  rw [k]
  unfold newRow
  split
  · rfl
  · cases q : turnedRow R known p with
    | none => rfl
    | some r' =>
      obtain ⟨c, c', a, u, h1, _, _, _, rfl⟩ := turned_some q
      rw [hr] at h1
      cases h1; rfl
theorem lost_led (hr : R[p]? = some r) (hk : keepRow R (targetsOf R trys) p r = false) : r.isLed = true := by
  induction ho : over R (targetsOf R trys) p with
  | false =>
    have := (not_kept hr ho hk).2
    induction r with
    | jump t => rfl
    | cond c a t => rfl
    | _ => cases this
  | true =>
    cases p with
    | zero => cases ho
    | succ p =>
      rw [over_succ] at ho
      obtain ⟨r', q⟩ := Option.isSome_iff_exists.mp ho
      obtain ⟨c, c', a, u, _, _, _, h4, rfl⟩ := turned_some q
      rw [hr] at h4
      cases h4; rfl
theorem drop_bare : ∀ p, p ≤ R.length → bareN (dropped ⟨R, trys⟩).rows (numOf (keepsOf R trys) p) = bareN R p
  | 0, _ => by rw [numOf_zero]; rfl
  | p + 1, hp => by
    have hr : R[p]? = some R[p] := List.getElem?_eq_getElem (by omega)
    have ih := drop_bare p (by omega)
    rw [bareN_succ hr, ← ih, numOf_succ (keeps_get hr)]
    induction hk : keepRow R (targetsOf R trys) p R[p] with
    | true =>
      simp only [if_true]
      rw [bareN_succ (dropped_get hr hk), new_led hr]
    | false =>
      rw [lost_led hr hk]
      rfl
theorem drop_ahead (W : Wf ⟨R, trys⟩) : aheadD (dropped ⟨R, trys⟩).rows (dropped ⟨R, trys⟩).trys = aheadD R trys := by
  unfold aheadD
  congr 1
  show (trys.map (keptTry (keepsOf R trys))).map _ = _
  rw [List.map_map]
  refine List.map_congr_left fun y hy => ?_
  have := W.trys y hy
  have h3 : y.stop ≤ R.length := this.2.2
  show D.lst [natD (bareN _ (numOf _ y.first)), natD (bareN _ (numOf _ y.catch_)), natD (bareN _ (numOf _ y.stop))] = _
  rw [drop_bare _ (by omega), drop_bare _ (by omega), drop_bare _ h3]
theorem threaded_ahead {c : Cod} (W : Wf c) : aheadD (threaded c).rows (threaded c).trys = aheadD c.rows c.trys := by
  refine (drop_ahead W.led).trans ?_
  unfold aheadD
  congr 1
  refine List.map_congr_left fun y _ => ?_
  rw [led_bare, led_bare, led_bare]

/-! ## Where nothing is dropped -/
theorem numOf_self (ks : List Bool) (p : Nat) : numOf ks p ≤ p := by
  unfold numOf
  exact Nat.le_trans List.countP_le_length (by rw [List.length_take]; omega)
theorem numOf_next (ks : List Bool) (p : Nat) : numOf ks (p + 1) ≤ numOf ks p + 1 := by
  induction h : ks[p]? with
  | none =>
    unfold numOf
    rw [List.take_succ, h]
    simp
  | some b =>
    rw [numOf_succ h]
    cases b <;> simp
theorem numOf_far (ks : List Bool) (p : Nat) : ∀ d, numOf ks (p + d) ≤ numOf ks p + d
  | 0 => Nat.le_refl _
  | d + 1 => by
    have := numOf_far ks p d
    have := numOf_next ks (p + d)
    rw [← Nat.add_assoc]; omega
theorem pick_all : ∀ {l : List Row} {ks : List Bool}, l.length = ks.length → (∀ p : Nat, p < l.length → ks[p]? = some true) → pick l ks = l
  | [], [], _, _ => rfl
  | [], _ :: _, h, _ => by cases h
  | _ :: _, [], h, _ => by cases h
  | x :: l, k :: ks, h, hk => by
    have h0 := hk 0 (by simp)
    simp at h0
    subst h0
    rw [pick, pick_all (by simpa using h) fun p hp => ?_]
    have := hk (p + 1) (by simp; omega)
    rw [List.getElem?_cons_succ] at this
    exact this
theorem nothing_lost (h : (dropped ⟨R, trys⟩).rows.length = R.length) : (∀ p, p ≤ R.length → numOf (keepsOf R trys) p = p) ∧ ∀ p r, R[p]? = some r → keepRow R (targetsOf R trys) p r = true := by
  rw [dropped_len] at h
  have h1 : ∀ p, p ≤ R.length → numOf (keepsOf R trys) p = p := fun p hp => by
    have h2 := numOf_far (keepsOf R trys) p (R.length - p)
    rw [show p + (R.length - p) = R.length by omega, h] at h2
    have h3 := numOf_self (keepsOf R trys) p
    omega
  refine ⟨h1, fun p r hr => ?_⟩
  induction hk : keepRow R (targetsOf R trys) p r with
  | true => rfl
  | false =>
    have hlt := (List.getElem?_eq_some_iff.mp hr).1
    have h2 := numOf_succ (keeps_get (trys := trys) hr)
    rw [hk, h1 _ (by omega), h1 _ (by omega)] at h2
    simp at h2
theorem none_turned (h : ∀ p r, R[p]? = some r → keepRow R (targetsOf R trys) p r = true) (p : Nat) : turnedRow R (targetsOf R trys) p = none := by
  induction q : turnedRow R (targetsOf R trys) p with
  | none => rfl
  | some r' =>
    obtain ⟨c, c', a, u, _, _, _, h4, rfl⟩ := turned_some q
    have := h _ _ h4
    unfold keepRow at this
    rw [over_succ, q] at this
    cases this
theorem none_over (h : ∀ p r, R[p]? = some r → keepRow R (targetsOf R trys) p r = true) (p : Nat) : over R (targetsOf R trys) p = false := by
  induction p with
  | zero => rfl
  | succ p => rw [over_succ, none_turned h]; rfl
theorem with_same {r : Row} {t : Nat} (h : r.target = some t) : r.with_ t = r := by
  induction r with
  | jump u => cases h; rfl
  | cond c a u => cases h; rfl
  | _ => cases h
theorem nothing_new (W : Wf ⟨R, trys⟩) (h : (dropped ⟨R, trys⟩).rows.length = R.length) : dropped ⟨R, trys⟩ = ⟨R, trys⟩ := by
  obtain ⟨h1, h2⟩ := nothing_lost h
  have e1 : newsOf R trys = R := by
    refine List.ext_getElem? fun p => ?_
    unfold newsOf
    rw [List.getElem?_mapIdx]
    induction q : R[p]? with
    | none => rfl
    | some r =>
      show some (newRow R (targetsOf R trys) p r) = _
      unfold newRow
      rw [none_over h2, none_turned h2]; rfl
  have e2 : pick R (keepsOf R trys) = R := pick_all keeps_len.symm fun p hp => by
    have hr : R[p]? = some R[p] := List.getElem?_eq_getElem hp
    rw [keeps_get hr, h2 p _ hr]
  have e3 : (pick (newsOf R trys) (keepsOf R trys)).map (keptRow (keepsOf R trys)) = R := by
    rw [e1, e2]
    refine (List.map_congr_left fun r hr => ?_).trans (List.map_id R)
    unfold keptRow
    induction ht : r.target with
    | none => rfl
    | some t =>
      dsimp only
      rw [h1 t (W.rows r hr t ht), with_same ht]; rfl
  have e4 : trys.map (keptTry (keepsOf R trys)) = trys := by
    refine (List.map_congr_left fun y hy => ?_).trans (List.map_id trys)
    have := W.trys y hy
    have h5 : y.stop ≤ R.length := this.2.2
    unfold keptTry
    rw [h1 _ (by omega), h1 _ (by omega), h1 _ h5]; rfl
  show (⟨(pick (newsOf R trys) (keepsOf R trys)).map (keptRow (keepsOf R trys)), trys.map (keptTry (keepsOf R trys))⟩ : Cod) = _
  rw [e3, e4]
theorem same_len {c : Cod} (W : Wf c) (h : (threaded c).rows.length = c.rows.length) : threaded c = ⟨ledOn c.rows, c.trys⟩ :=
  nothing_new W.led (h.trans (led_len _).symm)
set_option tactic.hygienic true in
theorem at_rest {c : Cod} (W : Wf c) (h : (threaded c).rows = c.rows) : threaded c = c ∧ Rest c.rows c.trys := by
  have hl : (threaded c).rows.length = c.rows.length := by rw [h]
  have e := same_len W hl
  have e2 : ledOn c.rows = c.rows := by rw [e] at h; exact h
  have e3 : threaded c = c := by rw [e, e2]
  refine ⟨e3, ?_⟩
  have hz : (dropped ⟨ledOn c.rows, c.trys⟩).rows.length = (ledOn c.rows).length := hl.trans (led_len _).symm
  rw [e2] at hz
  obtain ⟨h1, h2⟩ := nothing_lost hz
  refine ⟨fun p r t u hr ht hu => ?_, fun p r hr => ?_, fun p => none_turned h2 p⟩
  · have h3 : (ledOn c.rows)[p]? = some (ledRow c.rows r) := by unfold ledOn; rw [List.getElem?_map, hr]; rfl
    rw [e2, hr] at h3
    have h4 : ledRow c.rows r = r := (Option.some.inj h3).symm
    have h5 : lastTarget c.rows t = t := by
      have := congrArg Row.target h4
      unfold ledRow at this
      rw [ht] at this
      induction r with
      | jump v => cases ht; exact Option.some.inj this
      | cond c a v => cases ht; exact Option.some.inj this
      | _ => cases ht
    induction q : chain c.rows (c.rows.length + 1) t with
    | none => rfl
    | some v =>
      unfold lastTarget at h5
      rw [q] at h5
      have h6 : v = t := h5
      have key : ∀ n t v, chain c.rows n t = some v → ∀ u, c.rows[v]? ≠ some (.jump u) := by
        intro n
        induction n with
        | zero => intro t v h; cases h
        | succ n ih =>
          intro t v h
          rw [chain] at h
          split at h
          · exact ih _ _ h
          · rename_i hn
            cases h
            exact fun u e => hn u e
      exact (key _ _ _ q u (by rw [h6]; exact hu)).elim
  · have h3 := h2 p r hr
    unfold keepRow newRow at h3
    rw [none_over h2, none_turned h2] at h3
    have h4 : (!r.isIdle p) = true := h3
    induction q : r.isIdle p with
    | false => rfl
    | true => rw [q] at h4; cases h4

/-! ## It comes to rest -/
set_option tactic.hygienic true in
theorem chain_end {rows : List Row} : ∀ {n t v : Nat}, chain rows n t = some v → ∀ u, rows[v]? ≠ some (.jump u)
  | 0, _, _, h => by cases h
  | n + 1, t, v, h => by
    rw [chain] at h
    split at h
    · exact chain_end h
    · rename_i hn
      cases h
      exact fun u e => hn u e
theorem led_get {rows : List Row} (p : Nat) : (ledOn rows)[p]? = (rows[p]?).map (ledRow rows) := by unfold ledOn; rw [List.getElem?_map]
theorem led_no_jump {rows : List Row} {v : Nat} (h : ∀ u, rows[v]? ≠ some (.jump u)) : ∀ u, (ledOn rows)[v]? ≠ some (.jump u) := by
  intro u e
  rw [led_get] at e
  induction q : rows[v]? with
  | none => rw [q] at e; cases e
  | some r =>
    rw [q] at e
    induction r with
    | jump t => exact h t q
    | _ => cases e
set_option tactic.hygienic true in
theorem chain_now {rows : List Row} {v : Nat} (h : ∀ u, rows[v]? ≠ some (.jump u)) (n : Nat) : chain rows (n + 1) v = some v := by
  rw [chain]
  split
  · rename_i u e; exact (h u e).elim
  · rfl
/-- that a chain does not end, shows within as many steps as there are rows -/
theorem chain_path {rows : List Row} : ∀ (n t : Nat), (∃ v, chain rows n t = some v) ∨ ∃ k, k ≤ n ∧ ∃ vs u, Path rows t vs u ∧ ((vs.length = n ∧ k = n) ∨ u ∈ vs) := by
  intro n t
  induction n with
  | zero => exact .inr ⟨0, Nat.le_refl _, [], t, .nil, .inl ⟨rfl, rfl⟩⟩
  | succ n ih =>
    rcases ih with ⟨v, h⟩ | ⟨k, hk, vs, u, p, h | h⟩
    · exact .inl ⟨v, chain_mono h 1⟩
    · by_cases hu : u ∈ vs
      · exact .inr ⟨k, by omega, vs, u, p, .inr hu⟩
      · induction q : rows[u]? with
        | none =>
          have := (p.chain 1).trans (chain_now (v := u) (fun w e => by rw [q] at e; cases e) 0)
          rw [h.1] at this
          exact .inl ⟨u, this⟩
        | some r =>
          by_cases hj : ∃ w, r = .jump w
          · obtain ⟨w, rfl⟩ := hj
            exact .inr ⟨n + 1, Nat.le_refl _, vs ++ [u], w, .snoc p q hu, .inl ⟨by rw [List.length_append, h.1]; rfl, rfl⟩⟩
          · have := (p.chain 1).trans (chain_now (v := u) (fun w e => by rw [q] at e; exact hj ⟨w, Option.some.inj e⟩) 0)
            rw [h.1] at this
            exact .inl ⟨u, this⟩
    · exact .inr ⟨k, by omega, vs, u, p, .inr h⟩
theorem chain_none {rows : List Row} {t : Nat} (h : chain rows (rows.length + 1) t = none) (n : Nat) : chain rows n t = none := by
  rcases chain_path (rows := rows) (rows.length + 1) t with ⟨v, e⟩ | ⟨k, _, vs, u, p, e | e⟩
  · rw [h] at e; cases e
  · have := p.short
    omega
  · exact p.cycle e n
theorem last_jump {rows : List Row} {t u : Nat} (h : chain rows (rows.length + 1) t = none) (e : rows[t]? = some (.jump u)) : lastTarget rows u = u ∧ chain rows (rows.length + 1) u = none := by
  have h1 := chain_none h (rows.length + 2)
  rw [chain, e] at h1
  have h2 : chain rows (rows.length + 1) u = none := h1
  exact ⟨by unfold lastTarget; rw [h2]; rfl, h2⟩
theorem chain_jump {rows : List Row} {t : Nat} (h : chain rows (rows.length + 1) t = none) : ∃ u, rows[t]? = some (.jump u) := by
  refine Classical.byContradiction fun z => ?_
  rw [chain_now (fun u e => z ⟨u, e⟩)] at h
  cases h
theorem led_chain {rows : List Row} : ∀ (n t : Nat), chain rows (rows.length + 1) t = none → chain (ledOn rows) n t = none
  | 0, _, _ => rfl
  | n + 1, t, h => by
    obtain ⟨u, e⟩ := chain_jump h
    obtain ⟨h1, h2⟩ := last_jump h e
    have e2 : (ledOn rows)[t]? = some (.jump u) := by
      rw [led_get, e]
      show some (Row.jump (lastTarget rows u)) = _
      rw [h1]
    rw [chain, e2]
    exact led_chain n u h2
theorem led_last (rows : List Row) (t : Nat) : lastTarget (ledOn rows) (lastTarget rows t) = lastTarget rows t := by
  induction q : chain rows (rows.length + 1) t with
  | none =>
    have e : lastTarget rows t = t := by unfold lastTarget; rw [q]; rfl
    rw [e]
    unfold lastTarget
    rw [led_chain _ _ q]; rfl
  | some v =>
    have e : lastTarget rows t = v := by unfold lastTarget; rw [q]; rfl
    rw [e]
    unfold lastTarget
    rw [chain_now (led_no_jump (chain_end q))]; rfl
theorem led_twice (rows : List Row) : ledOn (ledOn rows) = ledOn rows := by
  unfold ledOn
  rw [List.map_map]
  refine List.map_congr_left fun r hr => ?_
  show ledRow (ledOn rows) (ledRow rows r) = ledRow rows r
  induction r with
  | jump t => exact congrArg Row.jump (led_last rows t)
  | cond c a t => exact congrArg (Row.cond c a) (led_last rows t)
  | _ => rfl
/-- so many turns at most -/
noncomputable def rest (c : Cod) : Nat := 2 * c.rows.length + (if ledOn c.rows = c.rows then 0 else 1)
theorem rest_less {c : Cod} (W : Wf c) (h : (threaded c).rows ≠ c.rows) : rest (threaded c) < rest c := by
  have hl := threaded_le c
  by_cases e : (threaded c).rows.length = c.rows.length
  · have e2 := same_len W e
    have e3 : ledOn c.rows ≠ c.rows := fun z => h (by rw [e2]; exact z)
    rw [e2]
    unfold rest
    rw [if_neg e3]
    show 2 * (ledOn c.rows).length + (if ledOn (ledOn c.rows) = ledOn c.rows then 0 else 1) < _
    rw [led_twice, if_pos rfl, led_len]; omega
  · unfold rest
    split <;> split <;> omega
end Mine
end
section
namespace Mine
set_option tactic.hygienic false
open PySem

theorem threaded_full (n : Nat) (c : Cod) (W : Wf c) (hl : c.rows.length + 3 * c.trys.length ≤ 900) : pcl FT (n + 3) "threaded" [c.D] = some (threaded c).D := by
  have h1 := led_on_spec (n + 1) c.rows namesD (.int 2) (trysD c.trys) (.lst []) (is_led_spec n) (fun t => last_target_spec n c.rows t (by omega)) (with_target_spec n) (by omega)
  have h2 := targets_spec (n + 1) (ledOn c.rows) c.trys namesD (.int 2) (.lst []) (target_of_spec n) (by rw [led_len]; exact hl)
  have W2 := W.led (rows := c.rows) (trys := c.trys)
  have h5 := kept_spec n ⟨newsOf (ledOn c.rows) c.trys, c.trys⟩ (keepsOf (ledOn c.rows) c.trys) namesD (.int 2) (rowsD (newsOf (ledOn c.rows) c.trys)) (by rw [keeps_len]; exact news_len.symm) (by show (newsOf (ledOn c.rows) c.trys).length + _ ≤ _; rw [news_len, led_len]; exact hl)
    (fun r hr t ht => by
      show t ≤ (newsOf (ledOn c.rows) c.trys).length
      obtain ⟨p, r0, e, rfl⟩ := news_mem hr
      rw [news_len]
      exact new_target W2.rows e ht)
    (fun y hy => by
      show _ ≤ (newsOf (ledOn c.rows) c.trys).length ∧ _ ≤ (newsOf (ledOn c.rows) c.trys).length ∧ _ ≤ (newsOf (ledOn c.rows) c.trys).length
      rw [news_len]
      have := W2.trys y hy
      have h3 : y.stop ≤ (ledOn c.rows).length := this.2.2
      exact ⟨by omega, by omega, h3⟩)
  exact threaded_spec (n + 2) c.rows c.trys namesD (.int 2) (.lst []) _ hl h1 h2 (fun p ks hk hp => turned_spec (n + 1) (ledOn c.rows) p ks _ hk hp) (is_idle_spec (n + 1)) ⟨_, h5⟩

/-! ### law -/
noncomputable def asV : Nat → Val
  | 0 => .none
  | 1 => .tru
  | 2 => .zero
  | 3 => .x
  | 4 => .e
  | _ => .seven
noncomputable abbrev lw0 (s : D) : Rho := [("script", .d s)]
noncomputable abbrev lw1 (s : D) (tl : Rho) : Rho := rapp [("script", .d s), ("at", .h 0)] tl
section
variable {P : Str → List D → Option D} {H : Str → List VV → Eta → Option (D × Eta)}
theorem lw_0 (k : Nat) (ds : List D) : ((ast P H (k + 20)).ex (scOf "law") (lw0 (.lst ds)) [] (bs "law" 0)).run = some (out .next (lw0 (.lst (ds.take 63))) []) := by kernel_rfl
theorem lw_1 (k : Nat) (s : D) : ((ast P H (k + 20)).ex (scOf "law") (lw0 s) [] (bs "law" 1)).run = some (out .next (lw1 s []) (eta1 0 none)) := by kernel_rfl
theorem lw_2 (k : Nat) (s : D) : ((ast P H (k + 20)).ex (scOf "law") (lw1 s []) (eta1 0 none) (bs "law" 2)).run =
    (H "_law_draw" [.d s, .h 0, .d (natD 7)] (eta1 0 none)).bind fun q => (binop .Add (natD 4) q.1).bind fun d => some (out .next (lw1 s [("many", .d d)]) q.2) := by kernel_rfl
theorem lw_3i (k : Nat) (s : D) (m : Nat) (η : Eta) : (itr (ast P H (k + 20)) (scOf "law") (lw1 s [("many", .d (natD m))]) η (cmpIt (asgE (bs "law" 3)))).run = (rangeD (natD m)).bind fun ds => some (ds, η) := by kernel_rfl
theorem lw_3e (k : Nat) (s m pl : D) (η : Eta) : (evD (ast P H (k + 20)) (cmpSc (asgE (bs "law" 3))).names (("place", .d pl) :: (lw1 s [("many", .d m)])) η (cmpElt (asgE (bs "law" 3)))).run =
    (H "_law_row" [.d s, .h 0, .d pl, .d m] η).bind fun q => some (q.1, q.2) := by kernel_rfl
theorem lw_4 (k : Nat) (s m r : D) (η : Eta) : ((ast P H (k + 20)).ex (scOf "law") (lw1 s [("many", .d m), ("rows", .d r)]) η (bs "law" 4)).run =
    (H "_law_trys" [.d s, .h 0, .d m] η).bind fun q => some (out .next (lw1 s [("many", .d m), ("rows", .d r), ("trys", .d q.1)]) q.2) := by kernel_rfl
theorem lw_5i (k : Nat) (s m r y : D) (η : Eta) : (itr (ast P H (k + 20)) (scOf "law") (lw1 s [("many", .d m), ("rows", .d r), ("trys", .d y)]) η (cmpIt (asgE (bs "law" 5)))).run = some ((List.range 7).map fun (k : Nat) => D.int (k : Int), η) := by kernel_rfl
theorem lw_5e (k : Nat) (s x : D) (η : Eta) : (evD (ast P H (k + 20)) (cmpSc (asgE (bs "law" 5))).names (("k", .d x) :: (lw1 s [])) η (cmpElt (asgE (bs "law" 5)))).run =
    (H "_law_draw" [.d s, .h 0, .d (natD 6)] η).bind fun q => (itemOf (.d (.lst [(asV 0).D, (asV 1).D, (asV 2).D, (asV 3).D, (asV 4).D, (asV 5).D])) q.1 q.2).bind fun v => (frz v q.2).bind fun r => some r := by kernel_rfl
theorem lw_6 (k : Nat) (s m tp : D) (rs ys : List D) (η : Eta) : ((ast P H (k + 20)).ex (scOf "law") (lw1 s [("many", .d m), ("rows", .d (.lst rs)), ("trys", .d (.lst ys)), ("tape", .d tp)]) η (bs "law" 6)).run =
    (short rs (.lst rs)).bind fun a => (short ys (.lst ys)).bind fun b => some (out .next (lw1 s [("many", .d m), ("rows", .d (.lst rs)), ("trys", .d (.lst ys)), ("tape", .d tp), ("code", .d (.code a namesD (.int 2) b (.lst [])))]) η) := by kernel_rfl
theorem lw_7 (k : Nat) (s m tp rs ys c : D) (η : Eta) : ((ast P H (k + 20)).ex (scOf "law") (lw1 s [("many", .d m), ("rows", .d rs), ("trys", .d ys), ("tape", .d tp), ("code", .d c)]) η (bs "law" 7)).run =
    (P "_law_told" [c, tp]).bind fun d => some (out .next (lw1 s [("many", .d m), ("rows", .d rs), ("trys", .d ys), ("tape", .d tp), ("code", .d c), ("due", .d d)]) η) := by kernel_rfl
end
noncomputable abbrev lwE (s m rs ys tp c du : D) (tl : Rho) : Rho := rapp [("script", .d s), ("at", .h 0), ("many", .d m), ("rows", .d rs), ("trys", .d ys), ("tape", .d tp), ("code", .d c), ("due", .d du)] tl
noncomputable abbrev lwM (s m rs ys tp c du a : D) (b : Option (D × D)) : Rho := lwE s m rs ys tp c du (match b with
  | none => [("made", .d a)]
  | some (t, g) => [("made", .d a), ("turn", .d t), ("again", .d g)])
noncomputable def lwS (i : Nat) : Stmt := stAt (forB (bs "law" 9)) i
section
variable {P : Str → List D → Option D} {H : Str → List VV → Eta → Option (D × Eta)}
theorem lw_8 (k : Nat) (s m rs ys tp c du : D) (η : Eta) : ((ast P H (k + 20)).ex (scOf "law") (lwE s m rs ys tp c du []) η (bs "law" 8)).run = some (out .next (lwM s m rs ys tp c du c none) η) := by kernel_rfl
theorem lw_9i (k : Nat) (s rs ys tp c du a : D) (m : Nat) (η : Eta) : (itr (ast P H (k + 20)) (scOf "law") (lwM s (natD m) rs ys tp c du a none) η (forI (bs "law" 9))).run = (binop .Mult (.int 2) (natD m)).bind fun a => (binop .Add a (.int 4)).bind fun d => (rangeD d).bind fun ds => some (ds, η) := by kernel_rfl
end
end Mine
end
section
namespace Mine
set_option tactic.hygienic false
open PySem

noncomputable abbrev lwN (s m rs ys tp c du a t : D) (g : Option D) : Rho := lwE s m rs ys tp c du (match g with
  | none => [("made", .d a), ("turn", .d t)]
  | some g => [("made", .d a), ("turn", .d t), ("again", .d g)])
noncomputable abbrev lwX (s m rs ys tp c du a t g : D) : Rho := lwM s m rs ys tp c du a (some (t, g))
noncomputable abbrev lwK (s m rs ys tp c du a t g k : D) : Rho := lwE s m rs ys tp c du [("made", .d a), ("turn", .d t), ("again", .d g), ("is_kept", .d k)]
noncomputable def lwI (i : Nat) : Stmt := stAt (ifB (lwS 3)) i
section
variable {P : Str → List D → Option D} {H : Str → List VV → Eta → Option (D × Eta)}
theorem lw_b (s m rs ys tp c du a : D) (b : Option (D × D)) (d : D) : bindT (scOf "law") (lwM s m rs ys tp c du a b) (forT (bs "law" 9)) (.d d) = some (lwN s m rs ys tp c du a d (b.map fun q => q.2)) := by
  rcases b with _ | ⟨t, g⟩ <;> kernel_rfl
theorem lw_s0 (k : Nat) (s m rs ys tp c du a t : D) (g : Option D) (η : Eta) : ((ast P H (k + 20)).ex (scOf "law") (lwN s m rs ys tp c du a t g) η (lwS 0)).run =
    (P "threaded" [a]).bind fun d => some (out .next (lwX s m rs ys tp c du a t d) η) := by
  rcases g with _ | g <;> kernel_rfl
theorem lw_s1 (k : Nat) (s m rs ys tp c du : D) (ms gs : List D) (n1 t1 y1 l1 n2 t2 y2 l2 : D) (t : Nat) (η : Eta) :
    ((ast P H (k + 20)).ex (scOf "law") (lwX s m rs ys tp c du (.code (.lst ms) n1 t1 y1 l1) (natD t) (.code (.lst gs) n2 t2 y2 l2)) η (lwS 1)).run =
    match decide ((ms.length : Int) < (gs.length : Int)) with
    | true => some (out (.ret (.d (.bool false))) (lwX s m rs ys tp c du (.code (.lst ms) n1 t1 y1 l1) (natD t) (.code (.lst gs) n2 t2 y2 l2)) η)
    | false => match (Int.ofNat t == (0 : Int)) with
      | true => (P "_law_told" [.code (.lst gs) n2 t2 y2 l2, tp]).bind fun d => ((pyEq d du).map fun b => !b).bind fun b => match b with
        | true => some (out (.ret (.d (.bool false))) (lwX s m rs ys tp c du (.code (.lst ms) n1 t1 y1 l1) (natD t) (.code (.lst gs) n2 t2 y2 l2)) η)
        | false => some (out .next (lwX s m rs ys tp c du (.code (.lst ms) n1 t1 y1 l1) (natD t) (.code (.lst gs) n2 t2 y2 l2)) η)
      | false => some (out .next (lwX s m rs ys tp c du (.code (.lst ms) n1 t1 y1 l1) (natD t) (.code (.lst gs) n2 t2 y2 l2)) η) := by kernel_rfl
theorem lw_s2 (k : Nat) (s m rs ys tp c du a t gr gy : D) (η : Eta) :
    ((ast P H (k + 20)).ex (scOf "law") (lwX s m rs ys tp c du a t (.code gr namesD (.int 2) gy (.lst []))) η (lwS 2)).run =
    (P "_law_ahead" [.code gr namesD (.int 2) gy (.lst [])]).bind fun x => (P "_law_ahead" [c]).bind fun y => ((pyEq x y).map fun b => !b).bind fun b => match b with
      | true => some (out (.ret (.d (.bool false))) (lwX s m rs ys tp c du a t (.code gr namesD (.int 2) gy (.lst []))) η)
      | false => some (out .next (lwX s m rs ys tp c du a t (.code gr namesD (.int 2) gy (.lst []))) η) := by kernel_rfl
theorem lw_s3 (k : Nat) (s m rs ys tp c du t mr gr n1 t1 y1 l1 n2 t2 y2 l2 : D) (η : Eta) :
    ((ast P H (k + 20)).ex (scOf "law") (lwX s m rs ys tp c du (.code mr n1 t1 y1 l1) t (.code gr n2 t2 y2 l2)) η (lwS 3)).run =
    (pyEq gr mr).bind fun b => match b with
      | true => (pyEq y2 y1).bind fun b => match b with
        | true => ((ast P H (k + 19)).exs (scOf "law") (lwX s m rs ys tp c du (.code mr n1 t1 y1 l1) t (.code gr n2 t2 y2 l2)) η [lwI 0, lwI 1]).run
        | false => some (out .next (lwX s m rs ys tp c du (.code mr n1 t1 y1 l1) t (.code gr n2 t2 y2 l2)) η)
      | false => some (out .next (lwX s m rs ys tp c du (.code mr n1 t1 y1 l1) t (.code gr n2 t2 y2 l2)) η) := by kernel_rfl
theorem lw_i0 (k : Nat) (s m rs ys tp du a t g cr cy n1 t1 l1 : D) (η : Eta) :
    ((ast P H (k + 20)).ex (scOf "law") (lwX s m rs ys tp (.code cr n1 t1 cy l1) du a t g) η (lwI 0)).run =
    (pyEq cr rs).bind fun b => match b with
      | true => (pyEq cy ys).bind fun b => some (out .next (lwK s m rs ys tp (.code cr n1 t1 cy l1) du a t g (.bool b)) η)
      | false => some (out .next (lwK s m rs ys tp (.code cr n1 t1 cy l1) du a t g (.bool false)) η) := by kernel_rfl
theorem lw_i1 (k : Nat) (s m rs ys tp c du a t g : D) (η : Eta) :
    ((ast P H (k + 20)).ex (scOf "law") (lwK s m rs ys tp c du a t g (.bool true)) η (lwI 1)).run =
    (P "_law_is_at_rest" [g]).bind fun d => (truD d).bind fun b => match b with
      | true => (P "_law_told" [g, tp]).bind fun d => (pyEq d du).bind fun b => some (out (.ret (.d (.bool b))) (lwK s m rs ys tp c du a t g (.bool true)) η)
      | false => some (out (.ret (.d (.bool false))) (lwK s m rs ys tp c du a t g (.bool true)) η) := by kernel_rfl
theorem lw_s4 (k : Nat) (s m rs ys tp c du a t g : D) (η : Eta) : ((ast P H (k + 20)).ex (scOf "law") (lwX s m rs ys tp c du a t g) η (lwS 4)).run = some (out .next (lwX s m rs ys tp c du g t g) η) := by kernel_rfl
end
end Mine
end
section
namespace Mine
set_option tactic.hygienic false
open PySem

noncomputable def Told (c : Cod) (tape : List Val) (d : D) : Prop := ∃ e w, Big c tape 0 wd0 (e, w) ∧ d = toldD e w
theorem Told.self {c : Cod} {tape : List Val} {d : D} (h : Told c tape d) : pyEq d d = some true := by
  obtain ⟨e, w, _, rfl⟩ := h
  exact pyEq_self (told_ok e w) (by omega)
theorem Told.threaded {c : Cod} {tape : List Val} {d : D} (W : Wf c) (h : Told c tape d) : Told (threaded c) tape d := by
  obtain ⟨e, w, b, rfl⟩ := h
  exact ⟨e, w, threaded_big W b, rfl⟩
theorem Told.run (n : Nat) {c : Cod} {tape : List Val} {d : D} (hc : c.rows.length ≤ 10) (ht : tape.length = 7) (h : Told c tape d) : pcl FT (n + 4) "_law_told" [c.D, .lst (tape.map Val.D)] = some d := by
  obtain ⟨e, w, b, rfl⟩ := h
  obtain ⟨m, hm, hr⟩ := big_run hc b
  exact told_spec n c.rows c.trys namesD (.int 2) (.lst []) tape ht w e m hm hr
theorem Told.some (c : Cod) (tape : List Val) : ∃ d, Told c tape d := by
  obtain ⟨⟨e, w⟩, b⟩ := Big.exists c tape 13 0 wd0 (Nat.sub_le _ _)
  exact ⟨_, e, w, b, rfl⟩

theorem law_loop (n : Nat) (s m : D) (c0 : Cod) (tape : List Val) (ht : tape.length = 7) (du : D) (η : Eta) (W0 : Wf c0) (h10 : c0.rows.length ≤ 10) (h2 : c0.trys.length ≤ 2) (td : Told c0 tape du) (N : Nat) (hN : rest c0 < N) :
    ∃ fl ρ η', (forGo (ast (pcl FT (n + 4)) (hcl FT (n + 4)) 49) (scOf "law") (forT (bs "law" 9)) (forB (bs "law" 9)) (lwM s m (rowsD c0.rows) (trysD c0.trys) (.lst (tape.map Val.D)) c0.D du c0.D none) η ((List.range N).map fun (k : Nat) => D.int (k : Int))).run = some (out fl ρ η') ∧
      (fl = .ret (.d (.bool true)) ∧ η' = η) := by
  have hb : forB (bs "law" 9) = [lwS 0, lwS 1, lwS 2, lwS 3, lwS 4] := by kernel_rfl
  refine forGo_inv (fun ds ρ η' => ∃ (ts : List Nat) (c : Cod) (b : Option (D × D)), ds = ts.map (fun (k : Nat) => D.int (k : Int)) ∧ ρ = lwM s m (rowsD c0.rows) (trysD c0.trys) (.lst (tape.map Val.D)) c0.D du c.D b ∧ η' = η ∧
    Wf c ∧ c.rows.length ≤ 10 ∧ c.trys.length ≤ 2 ∧ Told c tape du ∧ aheadD c.rows c.trys = aheadD c0.rows c0.trys ∧ rest c < ts.length) _ ?_ ?_ _ _ _ ⟨List.range N, c0, none, rfl, rfl, rfl, W0, h10, h2, td, rfl, by rw [List.length_range]; exact hN⟩
  · rintro d ds ρ η' ⟨ts, c, b, hd, rfl, rfl, W, hl, hy, tc, ha, hr⟩
    cases ts with
    | nil => cases hd
    | cons t ts =>
      cases hd
      have hle := threaded_le c
      have hty := threaded_trys c
      have tg := tc.threaded W
      have s0 := lw_s0 (P := pcl FT (n + 4)) (H := hcl FT (n + 4)) 28 s m (rowsD c0.rows) (trysD c0.trys) (.lst (tape.map Val.D)) c0.D du c.D (natD t) (b.map fun q => q.2) η'
      rw [threaded_full (n + 1) c W (by omega), Option.bind_some] at s0
      have s1 := lw_s1 (P := pcl FT (n + 4)) (H := hcl FT (n + 4)) 27 s m (rowsD c0.rows) (trysD c0.trys) (.lst (tape.map Val.D)) c0.D du (c.rows.map Row.D) ((threaded c).rows.map Row.D) namesD (.int 2) (trysD c.trys) (.lst []) namesD (.int 2) (trysD (threaded c).trys) (.lst []) t η'
      have s1' : ((ast (pcl FT (n + 4)) (hcl FT (n + 4)) 47).ex (scOf "law") (lwX s m (rowsD c0.rows) (trysD c0.trys) (.lst (tape.map Val.D)) c0.D du c.D (natD t) (threaded c).D) η' (lwS 1)).run =
          some (out .next (lwX s m (rowsD c0.rows) (trysD c0.trys) (.lst (tape.map Val.D)) c0.D du c.D (natD t) (threaded c).D) η') := by
        refine s1.trans ?_
        rw [List.length_map, List.length_map, show decide ((c.rows.length : Int) < ((threaded c).rows.length : Int)) = false from by rw [decide_eq_false_iff_not]; omega]
        dsimp only
        rw [show D.code (.lst ((threaded c).rows.map Row.D)) namesD (.int 2) (trysD (threaded c).trys) (.lst []) = (threaded c).D from rfl, tg.run n (by omega) ht, Option.bind_some, tg.self]
        cases (Int.ofNat t == (0 : Int)) <;> rfl
      have s2 := lw_s2 (P := pcl FT (n + 4)) (H := hcl FT (n + 4)) 26 s m (rowsD c0.rows) (trysD c0.trys) (.lst (tape.map Val.D)) c0.D du c.D (natD t) (rowsD (threaded c).rows) (trysD (threaded c).trys) η'
      have s2' : ((ast (pcl FT (n + 4)) (hcl FT (n + 4)) 46).ex (scOf "law") (lwX s m (rowsD c0.rows) (trysD c0.trys) (.lst (tape.map Val.D)) c0.D du c.D (natD t) (threaded c).D) η' (lwS 2)).run =
          some (out .next (lwX s m (rowsD c0.rows) (trysD c0.trys) (.lst (tape.map Val.D)) c0.D du c.D (natD t) (threaded c).D) η') := by
        refine s2.trans ?_
        rw [ahead_spec (n + 3) (threaded c).rows (threaded c).trys namesD (.int 2) (.lst []) (by omega) (by omega), Option.bind_some,
          show c0.D = .code (rowsD c0.rows) namesD (.int 2) (trysD c0.trys) (.lst []) from rfl, ahead_spec (n + 3) c0.rows c0.trys namesD (.int 2) (.lst []) (by omega) (by omega), Option.bind_some, threaded_ahead W, ha,
          pyEq_self (ahead_ok c0.rows c0.trys) (by omega)]
        rfl
      have s3 := lw_s3 (P := pcl FT (n + 4)) (H := hcl FT (n + 4)) 25 s m (rowsD c0.rows) (trysD c0.trys) (.lst (tape.map Val.D)) c0.D du (natD t) (rowsD c.rows) (rowsD (threaded c).rows) namesD (.int 2) (trysD c.trys) (.lst []) namesD (.int 2) (trysD (threaded c).trys) (.lst []) η'
      rw [rows_eq, Option.bind_some] at s3
      by_cases he : (threaded c).rows = c.rows
      · obtain ⟨e1, R⟩ := at_rest W he
        rw [decide_eq_true he] at s3
        dsimp only at s3
        have s3' : ((ast (pcl FT (n + 4)) (hcl FT (n + 4)) 45).ex (scOf "law") (lwX s m (rowsD c0.rows) (trysD c0.trys) (.lst (tape.map Val.D)) c0.D du c.D (natD t) (threaded c).D) η' (lwS 3)).run =
            some (out (.ret (.d (.bool true))) (lwK s m (rowsD c0.rows) (trysD c0.trys) (.lst (tape.map Val.D)) c0.D du c.D (natD t) (threaded c).D (.bool true)) η') := by
          refine s3.trans ?_
          rw [show pyEq (trysD (threaded c).trys) (trysD c.trys) = some true from by rw [e1]; exact trys_refl _, Option.bind_some]
          dsimp only
          have i0 := lw_i0 (P := pcl FT (n + 4)) (H := hcl FT (n + 4)) 23 s m (rowsD c0.rows) (trysD c0.trys) (.lst (tape.map Val.D)) du c.D (natD t) (threaded c).D (rowsD c0.rows) (trysD c0.trys) namesD (.int 2) (.lst []) η'
          rw [show pyEq (rowsD c0.rows) (rowsD c0.rows) = some true from pyEq_self (rows_ok _) (by omega), Option.bind_some, trys_refl, Option.bind_some] at i0
          have i1 := lw_i1 (P := pcl FT (n + 4)) (H := hcl FT (n + 4)) 22 s m (rowsD c0.rows) (trysD c0.trys) (.lst (tape.map Val.D)) c0.D du c.D (natD t) (threaded c).D η'
          have R' : Rest (threaded c).rows (threaded c).trys := by rw [e1]; exact R
          rw [show pcl FT (n + 4) "_law_is_at_rest" [(threaded c).D] = some (.bool true) from rest_spec (n + 2) (threaded c).rows (threaded c).trys namesD (.int 2) (.lst []) (by omega) R', Option.bind_some] at i1
          rw [show truD (.bool true) = some true from rfl, Option.bind_some] at i1
          dsimp only at i1
          rw [tg.run n (by omega) ht, Option.bind_some, tg.self, Option.bind_some] at i1
          exact (exs_next i0).trans (exs_ret i1)
        have run := (exs_next s0).trans ((exs_next s1').trans ((exs_next s2').trans (exs_ret s3' (ss := [lwS 4]))))
        rw [← hb] at run
        exact ⟨_, .ret _, _, _, lw_b s m (rowsD c0.rows) (trysD c0.trys) (.lst (tape.map Val.D)) c0.D du c.D b (natD t), run, rfl, rfl⟩
      · rw [decide_eq_false he] at s3
        have s3' : ((ast (pcl FT (n + 4)) (hcl FT (n + 4)) 45).ex (scOf "law") (lwX s m (rowsD c0.rows) (trysD c0.trys) (.lst (tape.map Val.D)) c0.D du c.D (natD t) (threaded c).D) η' (lwS 3)).run =
            some (out .next (lwX s m (rowsD c0.rows) (trysD c0.trys) (.lst (tape.map Val.D)) c0.D du c.D (natD t) (threaded c).D) η') := s3
        have s4 := lw_s4 (P := pcl FT (n + 4)) (H := hcl FT (n + 4)) 24 s m (rowsD c0.rows) (trysD c0.trys) (.lst (tape.map Val.D)) c0.D du c.D (natD t) (threaded c).D η'
        have run := (exs_next s0).trans ((exs_next s1').trans ((exs_next s2').trans ((exs_next s3').trans ((exs_next s4).trans exs_nil))))
        rw [← hb] at run
        have hless := rest_less W he
        rw [List.length_cons] at hr
        exact ⟨_, .next, _, _, lw_b s m (rowsD c0.rows) (trysD c0.trys) (.lst (tape.map Val.D)) c0.D du c.D b (natD t), run, ts, threaded c, some (natD t, (threaded c).D), rfl, rfl, rfl, W.threaded, by omega, by omega, tg, (threaded_ahead W).trans ha, by omega⟩
  · rintro ρ η' ⟨ts, c, b, hd, rfl, rfl, W, hl, hy, tc, ha, hr⟩
    have : ts = [] := by induction ts with | nil => rfl | cons a b => cases hd
    subst this
    exact absurd hr (Nat.not_lt_zero _)

theorem asV_item (v : Nat) (h : v < 6) (η : Eta) : itemOf (.d (.lst [(asV 0).D, (asV 1).D, (asV 2).D, (asV 3).D, (asV 4).D, (asV 5).D])) (natD v) η = some (.d (asV v).D) := by
  match v, h with
  | 0, _ => rfl
  | 1, _ => rfl
  | 2, _ => rfl
  | 3, _ => rfl
  | 4, _ => rfl
  | 5, _ => rfl

theorem law_rows (n k : Nat) (ns : List Int) (m : Nat) : ∀ (ps : List Nat) (p : Nat), p + 5 * ps.length ≤ 190 →
    ∃ (rs : List Row) (p' : Nat), (compGo (ast (pcl FT (n + 4)) (hcl FT (n + 4)) (k + 20)) (cmpSc (asgE (bs "law" 3))).names (lw1 (intsD ns) [("many", .d (natD m))]) "place" [] (cmpElt (asgE (bs "law" 3))) (eta1 p none) (ps.map fun (k : Nat) => D.int (k : Int))).run =
      some (rs.map Row.D, eta1 p' none) ∧ rs.length = ps.length ∧ p' ≤ p + 5 * ps.length ∧ ∀ r ∈ rs, ∀ t, r.target = some t → t ≤ m
  | [], p, _ => ⟨[], p, rfl, rfl, Nat.le_refl _, fun r h => by cases h⟩
  | pl :: ps, p, hp => by
    rw [List.length_cons] at hp
    obtain ⟨r, p1, e1, h1, h2⟩ := row_spec (n + 1) ns p pl m (by omega) none
    obtain ⟨rs, p2, e2, h3, h4, h5⟩ := law_rows n k ns m ps p1 (by omega)
    have e0 := lw_3e (P := pcl FT (n + 4)) (H := hcl FT (n + 4)) k (intsD ns) (natD m) (natD pl) (eta1 p none)
    rw [e1, Option.bind_some] at e0
    refine ⟨r :: rs, p2, ?_, by rw [List.length_cons, List.length_cons, h3], by rw [List.length_cons]; omega, fun r' hr' => ?_⟩
    · rw [List.map_cons, compGo_cons, B.run_bind, show D.int ((pl : Nat) : Int) = natD pl from rfl, e0, Option.bind_some, B.run_bind, e2]
      rfl
    · rcases List.mem_cons.mp hr' with rfl | hr'
      · exact h2
      · exact h5 r' hr'
theorem law_tape (n k : Nat) (ns : List Int) : ∀ (ps : List D) (p : Nat), p + ps.length ≤ 190 →
    ∃ (vs : List Val) (p' : Nat), (compGo (ast (pcl FT (n + 4)) (hcl FT (n + 4)) (k + 20)) (cmpSc (asgE (bs "law" 5))).names (lw1 (intsD ns) []) "k" [] (cmpElt (asgE (bs "law" 5))) (eta1 p none) ps).run =
      some (vs.map Val.D, eta1 p' none) ∧ vs.length = ps.length
  | [], p, _ => ⟨[], p, rfl, rfl⟩
  | pl :: ps, p, hp => by
    rw [List.length_cons] at hp
    obtain ⟨rs, p2, e2, h3⟩ := law_tape n k ns ps (p + 1) (by omega)
    have e0 := lw_5e (P := pcl FT (n + 4)) (H := hcl FT (n + 4)) k (intsD ns) pl (eta1 p none)
    rw [draw_spec (n + 3) ns p 6 (by omega) (by omega) none, Option.bind_some, asV_item _ (drawV_lt ns p 6 (by omega)), Option.bind_some] at e0
    have e0' : (evD (ast (pcl FT (n + 4)) (hcl FT (n + 4)) (k + 20)) (cmpSc (asgE (bs "law" 5))).names (("k", .d pl) :: (lw1 (intsD ns) [])) (eta1 p none) (cmpElt (asgE (bs "law" 5)))).run = some ((asV (drawV ns p 6)).D, eta1 (p + 1) none) := e0
    refine ⟨asV (drawV ns p 6) :: rs, p2, ?_, by rw [List.length_cons, List.length_cons, h3]⟩
    rw [compGo_cons, B.run_bind, e0', Option.bind_some, B.run_bind, e2]
    rfl

theorem law_spec (n : Nat) (ms : List Int) : pcl FT (n + 5) "law" [intsD ms] = some (.bool true) := by
  have e0 := lw_0 (P := pcl FT (n + 4)) (H := hcl FT (n + 4)) 39 (ms.map D.int)
  rw [← List.map_take, show D.lst ((ms.take 63).map D.int) = intsD (ms.take 63) from rfl] at e0
  generalize ms.take 63 = ns at e0
  have e1 := lw_1 (P := pcl FT (n + 4)) (H := hcl FT (n + 4)) 38 (intsD ns)
  have e2 := lw_2 (P := pcl FT (n + 4)) (H := hcl FT (n + 4)) 37 (intsD ns)
  rw [draw_spec (n + 3) ns 0 7 (by omega) (by omega) none, Option.bind_some] at e2
  have hd := drawV_lt ns 0 7 (by omega)
  generalize drawV ns 0 7 = d at e2 hd
  have e2' : ((ast (pcl FT (n + 4)) (hcl FT (n + 4)) 57).ex (scOf "law") (lw1 (intsD ns) []) (eta1 0 none) (bs "law" 2)).run = some (out .next (lw1 (intsD ns) [("many", .d (natD (4 + d)))]) (eta1 1 none)) := e2.trans (by kernel_rfl)
  generalize hm : 4 + d = m at e2'
  obtain ⟨rs, p1, e3, h3, h3p, h3t⟩ := law_rows n 35 ns m (List.range m) 1 (by rw [List.length_range]; omega)
  rw [List.length_range] at h3 h3p
  have i3 := lw_3i (P := pcl FT (n + 4)) (H := hcl FT (n + 4)) 35 (intsD ns) m (eta1 1 none)
  rw [show rangeD (natD m) = some _ from range_itr m (by omega), Option.bind_some] at i3
  have s3 : ((ast (pcl FT (n + 4)) (hcl FT (n + 4)) 56).ex (scOf "law") (lw1 (intsD ns) [("many", .d (natD m))]) (eta1 1 none) (sAsgC (bs "law" 3))).run = some (out .next (lw1 (intsD ns) [("many", .d (natD m)), ("rows", .d (rowsD rs))]) (eta1 p1 none)) := by
    have hf : freeOf (cmpSc (asgE (bs "law" 3))).names (lw1 (intsD ns) [("many", .d (natD m))]) = lw1 (intsD ns) [("many", .d (natD m))] := by kernel_rfl
    have hx : cmpX (asgE (bs "law" 3)) = "place" := by kernel_rfl
    have hi : cmpIfs (asgE (bs "law" 3)) = [] := by kernel_rfl
    exact asgC_run (evComp_run ⟨by kernel_rfl, by kernel_rfl, by kernel_rfl, by kernel_rfl, by kernel_rfl⟩ i3 (by rw [List.length_map, List.length_range]; omega) (by rw [hf, hx, hi]; exact e3)) (by rw [show asgN (bs "law" 3) = "rows" from by kernel_rfl]; decide) (by kernel_rfl)
  obtain ⟨ys, p2, e4, h4p, h4l, h4f⟩ := trys_spec (n + 2) ns p1 m (by omega) (by omega)
  have s4 := lw_4 (P := pcl FT (n + 4)) (H := hcl FT (n + 4)) 35 (intsD ns) (natD m) (rowsD rs) (eta1 p1 none)
  rw [e4, Option.bind_some] at s4
  obtain ⟨tape, p3, e5, h5⟩ := law_tape n 33 ns ((List.range 7).map fun (k : Nat) => D.int (k : Int)) p2 (by rw [List.length_map, List.length_range]; omega)
  rw [List.length_map, List.length_range] at h5
  have i5 := lw_5i (P := pcl FT (n + 4)) (H := hcl FT (n + 4)) 33 (intsD ns) (natD m) (rowsD rs) (trysD ys) (eta1 p2 none)
  have s5 : ((ast (pcl FT (n + 4)) (hcl FT (n + 4)) 54).ex (scOf "law") (lw1 (intsD ns) [("many", .d (natD m)), ("rows", .d (rowsD rs)), ("trys", .d (trysD ys))]) (eta1 p2 none) (sAsgC (bs "law" 5))).run =
      some (out .next (lw1 (intsD ns) [("many", .d (natD m)), ("rows", .d (rowsD rs)), ("trys", .d (trysD ys)), ("tape", .d (.lst (tape.map Val.D)))]) (eta1 p3 none)) := by
    have hf : freeOf (cmpSc (asgE (bs "law" 5))).names (lw1 (intsD ns) [("many", .d (natD m)), ("rows", .d (rowsD rs)), ("trys", .d (trysD ys))]) = lw1 (intsD ns) [] := by kernel_rfl
    have hx : cmpX (asgE (bs "law" 5)) = "k" := by kernel_rfl
    have hi : cmpIfs (asgE (bs "law" 5)) = [] := by kernel_rfl
    exact asgC_run (evComp_run ⟨by kernel_rfl, by kernel_rfl, by kernel_rfl, by kernel_rfl, by kernel_rfl⟩ i5 (by rw [List.length_map, List.length_range]; omega) (by rw [hf, hx, hi]; exact e5)) (by rw [show asgN (bs "law" 5) = "tape" from by kernel_rfl]; decide) (by kernel_rfl)
  have W0 : Wf ⟨rs, ys⟩ := by
    refine ⟨fun r hr t ht => ?_, fun y hy => ?_⟩
    · show t ≤ rs.length
      rw [h3]; exact h3t r hr t ht
    · show _ ∧ _ ∧ _ ≤ rs.length
      rw [h3]
      obtain ⟨z1, z2, z3⟩ := h4f y hy
      exact ⟨Nat.le_of_lt z1, z2, z3⟩
  have h10 : rs.length ≤ 10 := by omega
  obtain ⟨du, td⟩ := Told.some ⟨rs, ys⟩ tape
  have s6 := lw_6 (P := pcl FT (n + 4)) (H := hcl FT (n + 4)) 33 (intsD ns) (natD m) (.lst (tape.map Val.D)) (rs.map Row.D) (ys.map Try.D) (eta1 p3 none)
  have z1 : short (rs.map Row.D) (.lst (rs.map Row.D)) = some (rowsD rs) := by
    unfold short
    rw [if_pos (by rw [List.length_map]; omega)]; rfl
  have z2 : short (ys.map Try.D) (.lst (ys.map Try.D)) = some (trysD ys) := by
    unfold short
    rw [if_pos (by rw [List.length_map]; omega)]; rfl
  rw [z1, Option.bind_some, z2, Option.bind_some] at s6
  have s7 := lw_7 (P := pcl FT (n + 4)) (H := hcl FT (n + 4)) 32 (intsD ns) (natD m) (.lst (tape.map Val.D)) (rowsD rs) (trysD ys) (Cod.D ⟨rs, ys⟩) (eta1 p3 none)
  rw [td.run n h10 h5, Option.bind_some] at s7
  have s8 := lw_8 (P := pcl FT (n + 4)) (H := hcl FT (n + 4)) 31 (intsD ns) (natD m) (rowsD rs) (trysD ys) (.lst (tape.map Val.D)) (Cod.D ⟨rs, ys⟩) du (eta1 p3 none)
  have i9 := lw_9i (P := pcl FT (n + 4)) (H := hcl FT (n + 4)) 29 (intsD ns) (rowsD rs) (trysD ys) (.lst (tape.map Val.D)) (Cod.D ⟨rs, ys⟩) du (Cod.D ⟨rs, ys⟩) m (eta1 p3 none)
  have hmul : binop .Mult (.int 2) (natD m) = some (natD (2 * m)) := by
    show mulD 2 (Int.ofNat m) = _
    unfold mulD
    rw [if_pos ⟨by decide, by show m ≤ 1000; omega⟩]
    rfl
  rw [hmul, Option.bind_some, show binop .Add (natD (2 * m)) (.int 4) = some (natD (2 * m + 4)) from by kernel_rfl, Option.bind_some, show rangeD (natD (2 * m + 4)) = some _ from range_itr (2 * m + 4) (by omega), Option.bind_some] at i9
  obtain ⟨fl, ρ, η, e9, rfl, rfl⟩ := law_loop n (intsD ns) (natD m) ⟨rs, ys⟩ tape h5 du (eta1 p3 none) W0 h10 h4l td (2 * m + 4) (by
    unfold rest
    have : (⟨rs, ys⟩ : Cod).rows.length = m := h3
    split <;> omega)
  exact pcl_is (x := "law") (ρ0 := lw0 (intsD ms)) (ss := [bs "law" 0, bs "law" 1, bs "law" 2, sAsgC (bs "law" 3), bs "law" 4, sAsgC (bs "law" 5), bs "law" 6, bs "law" 7, bs "law" 8, sFor (bs "law" 9), bs "law" 10])
    (by kernel_rfl) (by kernel_rfl) (by kernel_rfl) (by kernel_rfl)
    (nx e0 (nx e1 (nx e2' (nx s3 (nx s4 (nx s5 (nx s6 (nx s7 (nx s8 (nret (ex_for_ok i9 e9) (by kernel_rfl)))))))))))
end Mine
end
section
namespace Mine
set_option tactic.hygienic false
open PySem PySem.W PyProof.Rows PySem.Spec PySem.Calls

/-! ## The defs of the text -/
noncomputable def defNames : List Stmt → List Str
  | [] => []
  | .FunctionDef n _ _ _ _ _ _ _ _ _ :: r => n :: defNames r
  | _ :: r => defNames r
set_option tactic.hygienic true in
theorem findDef_name {x : Str} {f : FDef} : ∀ {l : List Stmt}, findDef x l = some f → x ∈ defNames l
  | [], h => by cases h
  | s :: l, h => by
    cases s with
    | FunctionDef n as b ds rs tc sc tps bind pos =>
      by_cases e : n = x
      · rw [e]; exact .head _
      · refine .tail _ (findDef_name (f := f) (l := l) ?_)
        unfold findDef at h
        split at h
        · rename_i q
          cases q
        · rename_i q
          cases q
          rw [if_neg e] at h
          exact h
        · rename_i q
          cases q
          exact h
    | _ => exact findDef_name (l := l) h
noncomputable def recAt (p : Program) (x : Str) : DefRec := ((recsOf p).find? fun d => decide (d.name = x)).getD ⟨x, default, [], default, default⟩
theorem fis_of {p : Program} {x : Str} (h1 : (recsOf p).find? (fun d => decide (d.name = x)) = some (recAt p x)) (h2 : (recAt p x).params = ⟨[], (recAt p x).params.args, none, [], [], none, []⟩) (h3 : (fdef x).params = (recAt p x).params.args.map (·.arg))
    (h4 : (recAt p x).body = (fdef x).body) (h5 : (recAt p x).scope.names = (fdef x).names) (h6 : (recAt p x).scope.kind = .function) (h7 : (recAt p x).scope.isCoroutine = false) (h8 : (recAt p x).scope.isGenerator = false)
    (h9 : distinct (fdef x).params = true) (h10 : (fdef x).params.all (storable (fdef x).names) = true) (h11 : (fdef x).names.lookup (Str.ofString "__debug__") = none) (h12 : (fdef x).names.lookup (Str.ofString "__classdict__") = none) : FIs p x (fdef x) where
  rec_ := ⟨recAt p x, List.mem_of_find?_eq_some h1, (recAt p x).params.args, by simpa using List.find?_some h1, h2, h3, h4, h5, h6, h7, h8⟩
  nd := by
    generalize (fdef x).params = l at h9
    clear h1 h2 h3 h4 h5 h6 h7 h8 h10 h11 h12
    induction l with
    | nil => exact List.nodup_nil
    | cons a l ih =>
      unfold distinct at h9
      rw [Bool.and_eq_true, Bool.not_eq_true'] at h9
      rw [List.nodup_cons]
      exact ⟨fun z => (by rw [List.contains_iff_mem.mpr z] at h9; cases h9.1), ih h9.2⟩
  st := fun y hy => List.all_eq_true.mp h10 y hy
  dbg := h11
  cdi := h12
theorem fis_all {p : Program} (h : ∀ x ∈ defNames PySem.Challenge.pw_pf0207_01.main.body, FIs p x (fdef x)) : ∀ x f, FT x = some f → FIs p x f := by
  intro x f e
  have : f = fdef x := by unfold fdef; rw [e]; rfl
  rw [this]
  exact h x (findDef_name e)

/-! ## The class -/
noncomputable def fdOf (o : Obj) : FuncData := match o.data with
  | .func fd => fd
  | _ => default
noncomputable def qOf : Stmt → Str × Pos × Pos × Pos × Pos
  | .Assign [.Attribute (.Name _ p1) a p2] (.Name _ p3) p4 => (a, p1, p2, p3, p4)
  | _ => default
noncomputable def qsOf : FuncBody → List (Str × Pos × Pos × Pos × Pos)
  | .stmts l => l.map qOf
  | _ => []
noncomputable def objAt (G : Frag) (a : Addr) : Obj := (G.lookup a).getD default
noncomputable def fdAt (G : Frag) (a : Addr) : FuncData := fdOf (objAt G a)

/-! ## The law's call -/
section
variable {prog p : Program} {w : World} {C₀ fI : Addr} {G : Frag} {loose : List Str} {mean : ExcName → Option Value} {mg mb : Str → Option Value} {h₀ : Heap}
theorem VA_of_well {P : Params} {h : Heap} : ∀ {ns : List Int} {vs : List Value}, WellAll P h vs (ofPys (ns.map PyData.int)) → VA prog w C₀ h.get? vs (ns.map D.int)
  | [], vs, x => by cases x; exact .nil
  | i :: ns, vs, x => by
    cases x with
    | cons a r =>
      cases a with
      | int _ t => exact .cons (.int i t) (VA_of_well r)
theorem V_of_well {P : Params} {h : Heap} {ns : List Int} {v : Value} (x : Well P h v (ofPy (.list (ns.map PyData.int)))) (hl : ns.length ≤ 4000) : V prog w C₀ h.get? v (intsD ns) := by
  rw [ofPy] at x
  cases x with
  | list e r => exact .lst e (VA_of_well r) (by rw [List.length_map]; exact hl)
theorem law_ends (X : Ctx p w G C₀ fI loose mean mg mb h₀ FT) {s : Shared} (hs : s.heap = h₀) {fa : Addr} (hf : mg (Str.ofString "law") = some (.ref fa)) {ns : List Int} {v : Value} (x : Well w.params h₀ v (ofPy (.list (ns.map PyData.int)))) (hl : ns.length ≤ 4000)
    {Q E : Value → Shared → Prop} (hQ : ∀ h' tk, (∀ b o, s.heap.get? b = some o → h'.get? b = some o) → Q (.bool true) { s with heap := h', toks := tk }) : wpAny (model prog w) callerA (call (.ref fa) [v]) Q E s := by
  subst hs
  obtain ⟨h1, _⟩ := pcl_ok (prog := prog) X 5
  obtain ⟨a, o, fd, e1, e2, e3, h⟩ := h1 (Str.ofString "law") [intsD ns] (.bool true) (law_spec 0 ns)
  rw [hf] at e1
  cases e1
  refine h callerA E s s.heap.get? [] [] [v] Q ⟨rfl, by decide, by decide⟩ ⟨fun _ _ e => e, rfl, List.nodup_nil, fun n a o e => by simp at e⟩ (fun _ _ e => e) (.cons (V_of_well x hl) .nil) fun v' K' h' tk g S z => ?_
  cases z
  exact hQ h' tk fun b o e => g.fr b o e (by simp) (by simp)
end
end Mine
end
section
open PySem PySem.W PyProof.Rows
namespace Mine

set_option tactic.hygienic false
/-! ## The head: the text's top, run once -/
noncomputable def view : Program := PySem.W.view PySem.Challenge.pw_pf0207_01 [1, 2, 3, 4, 5, 6, 8, 9, 10, 11, 12, 13, 15, 16, 17, 18, 19, 20, 21, 22, 23, 24, 25, 26, 27, 28]
noncomputable def ents (P : Params) (l : List (String × Nat × Value)) : Array DictEntry := (l.map fun x => (⟨PyData.keyHash P (Str.ofString x.1), .str (Str.ofString x.1) x.2.1, x.2.2⟩ : DictEntry)).toArray
noncomputable def dictOfEnts (P : Params) (l : List (String × Nat × Value)) : Obj := { cls := .type "dict", data := .dict (ents P l) l.length }
/-- the module's names -/
noncomputable def topEnts : List (String × Nat × Value) := [("__name__", 165, .str (Str.ofString "law_pf0207_01") 332), ("__doc__", 166, .none), ("__package__", 167, .none), ("__loader__", 168, .builtin "__main__.__loader__#opaque"), ("__spec__", 169, .none), ("__annotations__", 170, .ref 6), ("__builtins__", 171, .ref 4), ("__file__", 173, .str (Str.ofString "/claim/cut.py") 172), ("__cached__", 174, .none), ("Code", 225, .ref 31), ("target_of", 233, .ref 42), ("with_target", 241, .ref 49), ("targets", 257, .ref 56), ("moved", 265, .ref 63), ("kept", 271, .ref 68), ("last_target", 283, .ref 75), ("is_led", 290, .ref 82), ("led_on", 299, .ref 89), ("turned", 310, .ref 96), ("is_idle", 318, .ref 103), ("threaded", 331, .ref 110), ("_law_draw", 344, .ref 117), ("_law_operand", 352, .ref 124), ("_law_row", 366, .ref 131), ("_law_trys", 379, .ref 138), ("_law_value", 390, .ref 145), ("_law_is_so", 397, .ref 152), ("_law_goes", 410, .ref 159), ("_law_caught", 423, .ref 166), ("_law_run", 438, .ref 173), ("_law_told", 448, .ref 180), ("_law_leaves", 457, .ref 187), ("_law_is_at_rest", 463, .ref 192), ("_law_ahead", 469, .ref 197), ("law", 475, .ref 202)]
/-- the class's names -/
noncomputable def clsEnts : List (String × Nat × Value) := [("__module__", 196, .str (Str.ofString "phpcore.rows") 187), ("__firstlineno__", 200, .int 2 199), ("__init__", 212, .ref 28), ("__static_attributes__", 218, .ref 29), ("__dict__", 220, .ref 32), ("__weakref__", 222, .ref 33), ("__doc__", 223, .none)]
noncomputable def initDef : Stmt := match stAt PySem.Challenge.pw_pf0207_01.main.body 1 with
  | .ClassDef (body := b) .. => stAt b 0
  | _ => default
noncomputable def initFd : FuncData := match initDef with
  | .FunctionDef _ as b _ _ _ sc _ _ _ => { name := Str.ofString "__init__", qualname := Str.ofString "Code.__init__", params := as, body := .stmts b, scope := sc, globals := 3, closure := [], defaults := .none, kwdefaults := .none, pyModule := .str (Str.ofString "phpcore.rows") 187, code := .ref 27 }
  | _ => default
noncomputable def frag (P : Params) : Frag := [
  (3, { cls := .type "dict", data := .dict (ents P topEnts) 35 }),
  (27, { cls := .type "code", data := .fields #[.str (Str.ofString "__init__") 201, .str (Str.ofString "Code.__init__") 202, .str (Str.ofString "/claim/cut.py") 203, .int 4 0, .int 6 0, .int 0 0, .int 0 0, .int 3 0, .ref 22, .bool true, .int 181 0, .ref 23, .none, .ref 24, .ref 25, .ref 26, .int 210 0, .int 4 0, .str (Str.ofString "/claim/cut.py") 211] }),
  (28, { cls := .type "function", data := .func initFd }),
  (30, { cls := .type "dict", data := .dict (ents P clsEnts) 4 }),
  (31, { cls := .type "type", data := .cls { name := Str.ofString "Code", bases := [.type "object"], mro := [.ref 31, .type "object"], ns := 30, qualname := Str.ofString "Code" },
         slots := #[none, none, some (.str (Str.ofString "Code") 189), some (.str (Str.ofString "Code") 197), some (.builtin "object.__new__"), some (.bool true)] })]
theorem frag_as (P : Params) : ([3, 27, 28, 30, 31] : List Addr) = (frag P).map (·.1) := by kernel_rfl
noncomputable def hook : Hook := kHook frag [3, 27, 28, 30, 31] frag_as
set_option maxHeartbeats 4000000 in
theorem said : PySem.Challenge.rw_pf0207_01.wellSaid = true := by
  delta OpenLaw.wellSaid OpenRow.wellSaid OpenRow.partSaid looksOpen
  repeat' with_reducible refine look_both ?_ ?_
  all_goals decide +kernel
theorem left (w : World) : (openEnds treeTable PySem.Challenge.pw_pf0207_01 w 2216).map (fun s => (openSeen view [] (importedModules PySem.Challenge.pw_pf0207_01.main.body) (fun s => xlAt view [] s && recOk [] s) true s, Hook.obs hook s)) = some (openGood view [], Hook.val hook w) := by kernel_rfl
theorem head (call : WalkO view [] (XL view []) (Hook.says hook) PySem.Challenge.rw_pf0207_01.row.toRowW (recAt view (Str.ofString "law")) [] fun f vs => PySem.call f vs) : PySem.Challenge.rw_pf0207_01.Holds := by
  refine holds_law said fun said' => ?_
  refine holds_open (q := view) (loose := []) (Xt := fun s => xlAt view [] s && recOk [] s) (XP := XL view []) (Yf := Hook.obs hook) (Ya := Hook.val hook) (YP := Hook.says hook) (d := recAt view (Str.ofString "law")) (kwd := []) (N := 2216) left (Hook.of hook) (Hook.keeps hook)
    (fun s e => xl_of s (Bool.and_eq_true_iff.mp e).1) XL.keeps (by kernel_rfl) (by kernel_rfl) (by kernel_rfl) (fun s e => recFacts_of (Bool.and_eq_true_iff.mp e).2) (by rfl) said' (by kernel_rfl) ⟨rfl, rfl, rfl, rfl, rfl, by decide +kernel⟩ ?_ call
  w_witness2
end Mine
end
section
open PySem PySem.W PyProof.Rows
namespace Mine
set_option tactic.hygienic false
theorem names_are : defNames PySem.Challenge.pw_pf0207_01.main.body = [Str.ofString "target_of", Str.ofString "with_target", Str.ofString "targets", Str.ofString "moved", Str.ofString "kept", Str.ofString "last_target", Str.ofString "is_led", Str.ofString "led_on", Str.ofString "turned", Str.ofString "is_idle", Str.ofString "threaded", Str.ofString "_law_draw", Str.ofString "_law_operand", Str.ofString "_law_row", Str.ofString "_law_trys", Str.ofString "_law_value", Str.ofString "_law_is_so", Str.ofString "_law_goes", Str.ofString "_law_caught", Str.ofString "_law_run", Str.ofString "_law_told", Str.ofString "_law_leaves", Str.ofString "_law_is_at_rest", Str.ofString "_law_ahead", Str.ofString "law"] := by kernel_rfl
theorem fis_target_of : FIs view (Str.ofString "target_of") (fdef (Str.ofString "target_of")) := fis_of (by kernel_rfl) (by kernel_rfl) (by kernel_rfl) (by kernel_rfl) (by kernel_rfl) (by kernel_rfl) (by kernel_rfl) (by kernel_rfl) (by kernel_rfl) (by kernel_rfl) (by kernel_rfl) (by kernel_rfl)
theorem fis_with_target : FIs view (Str.ofString "with_target") (fdef (Str.ofString "with_target")) := fis_of (by kernel_rfl) (by kernel_rfl) (by kernel_rfl) (by kernel_rfl) (by kernel_rfl) (by kernel_rfl) (by kernel_rfl) (by kernel_rfl) (by kernel_rfl) (by kernel_rfl) (by kernel_rfl) (by kernel_rfl)
theorem fis_targets : FIs view (Str.ofString "targets") (fdef (Str.ofString "targets")) := fis_of (by kernel_rfl) (by kernel_rfl) (by kernel_rfl) (by kernel_rfl) (by kernel_rfl) (by kernel_rfl) (by kernel_rfl) (by kernel_rfl) (by kernel_rfl) (by kernel_rfl) (by kernel_rfl) (by kernel_rfl)
theorem fis_moved : FIs view (Str.ofString "moved") (fdef (Str.ofString "moved")) := fis_of (by kernel_rfl) (by kernel_rfl) (by kernel_rfl) (by kernel_rfl) (by kernel_rfl) (by kernel_rfl) (by kernel_rfl) (by kernel_rfl) (by kernel_rfl) (by kernel_rfl) (by kernel_rfl) (by kernel_rfl)
theorem fis_kept : FIs view (Str.ofString "kept") (fdef (Str.ofString "kept")) := fis_of (by kernel_rfl) (by kernel_rfl) (by kernel_rfl) (by kernel_rfl) (by kernel_rfl) (by kernel_rfl) (by kernel_rfl) (by kernel_rfl) (by kernel_rfl) (by kernel_rfl) (by kernel_rfl) (by kernel_rfl)
theorem fis_last_target : FIs view (Str.ofString "last_target") (fdef (Str.ofString "last_target")) := fis_of (by kernel_rfl) (by kernel_rfl) (by kernel_rfl) (by kernel_rfl) (by kernel_rfl) (by kernel_rfl) (by kernel_rfl) (by kernel_rfl) (by kernel_rfl) (by kernel_rfl) (by kernel_rfl) (by kernel_rfl)
theorem fis_is_led : FIs view (Str.ofString "is_led") (fdef (Str.ofString "is_led")) := fis_of (by kernel_rfl) (by kernel_rfl) (by kernel_rfl) (by kernel_rfl) (by kernel_rfl) (by kernel_rfl) (by kernel_rfl) (by kernel_rfl) (by kernel_rfl) (by kernel_rfl) (by kernel_rfl) (by kernel_rfl)
theorem fis_led_on : FIs view (Str.ofString "led_on") (fdef (Str.ofString "led_on")) := fis_of (by kernel_rfl) (by kernel_rfl) (by kernel_rfl) (by kernel_rfl) (by kernel_rfl) (by kernel_rfl) (by kernel_rfl) (by kernel_rfl) (by kernel_rfl) (by kernel_rfl) (by kernel_rfl) (by kernel_rfl)
theorem fis_turned : FIs view (Str.ofString "turned") (fdef (Str.ofString "turned")) := fis_of (by kernel_rfl) (by kernel_rfl) (by kernel_rfl) (by kernel_rfl) (by kernel_rfl) (by kernel_rfl) (by kernel_rfl) (by kernel_rfl) (by kernel_rfl) (by kernel_rfl) (by kernel_rfl) (by kernel_rfl)
theorem fis_is_idle : FIs view (Str.ofString "is_idle") (fdef (Str.ofString "is_idle")) := fis_of (by kernel_rfl) (by kernel_rfl) (by kernel_rfl) (by kernel_rfl) (by kernel_rfl) (by kernel_rfl) (by kernel_rfl) (by kernel_rfl) (by kernel_rfl) (by kernel_rfl) (by kernel_rfl) (by kernel_rfl)
theorem fis_threaded : FIs view (Str.ofString "threaded") (fdef (Str.ofString "threaded")) := fis_of (by kernel_rfl) (by kernel_rfl) (by kernel_rfl) (by kernel_rfl) (by kernel_rfl) (by kernel_rfl) (by kernel_rfl) (by kernel_rfl) (by kernel_rfl) (by kernel_rfl) (by kernel_rfl) (by kernel_rfl)
theorem fis_law_draw : FIs view (Str.ofString "_law_draw") (fdef (Str.ofString "_law_draw")) := fis_of (by kernel_rfl) (by kernel_rfl) (by kernel_rfl) (by kernel_rfl) (by kernel_rfl) (by kernel_rfl) (by kernel_rfl) (by kernel_rfl) (by kernel_rfl) (by kernel_rfl) (by kernel_rfl) (by kernel_rfl)
theorem fis_law_operand : FIs view (Str.ofString "_law_operand") (fdef (Str.ofString "_law_operand")) := fis_of (by kernel_rfl) (by kernel_rfl) (by kernel_rfl) (by kernel_rfl) (by kernel_rfl) (by kernel_rfl) (by kernel_rfl) (by kernel_rfl) (by kernel_rfl) (by kernel_rfl) (by kernel_rfl) (by kernel_rfl)
theorem fis_law_row : FIs view (Str.ofString "_law_row") (fdef (Str.ofString "_law_row")) := fis_of (by kernel_rfl) (by kernel_rfl) (by kernel_rfl) (by kernel_rfl) (by kernel_rfl) (by kernel_rfl) (by kernel_rfl) (by kernel_rfl) (by kernel_rfl) (by kernel_rfl) (by kernel_rfl) (by kernel_rfl)
theorem fis_law_trys : FIs view (Str.ofString "_law_trys") (fdef (Str.ofString "_law_trys")) := fis_of (by kernel_rfl) (by kernel_rfl) (by kernel_rfl) (by kernel_rfl) (by kernel_rfl) (by kernel_rfl) (by kernel_rfl) (by kernel_rfl) (by kernel_rfl) (by kernel_rfl) (by kernel_rfl) (by kernel_rfl)
theorem fis_law_value : FIs view (Str.ofString "_law_value") (fdef (Str.ofString "_law_value")) := fis_of (by kernel_rfl) (by kernel_rfl) (by kernel_rfl) (by kernel_rfl) (by kernel_rfl) (by kernel_rfl) (by kernel_rfl) (by kernel_rfl) (by kernel_rfl) (by kernel_rfl) (by kernel_rfl) (by kernel_rfl)
theorem fis_law_is_so : FIs view (Str.ofString "_law_is_so") (fdef (Str.ofString "_law_is_so")) := fis_of (by kernel_rfl) (by kernel_rfl) (by kernel_rfl) (by kernel_rfl) (by kernel_rfl) (by kernel_rfl) (by kernel_rfl) (by kernel_rfl) (by kernel_rfl) (by kernel_rfl) (by kernel_rfl) (by kernel_rfl)
theorem fis_law_goes : FIs view (Str.ofString "_law_goes") (fdef (Str.ofString "_law_goes")) := fis_of (by kernel_rfl) (by kernel_rfl) (by kernel_rfl) (by kernel_rfl) (by kernel_rfl) (by kernel_rfl) (by kernel_rfl) (by kernel_rfl) (by kernel_rfl) (by kernel_rfl) (by kernel_rfl) (by kernel_rfl)
theorem fis_law_caught : FIs view (Str.ofString "_law_caught") (fdef (Str.ofString "_law_caught")) := fis_of (by kernel_rfl) (by kernel_rfl) (by kernel_rfl) (by kernel_rfl) (by kernel_rfl) (by kernel_rfl) (by kernel_rfl) (by kernel_rfl) (by kernel_rfl) (by kernel_rfl) (by kernel_rfl) (by kernel_rfl)
theorem fis_law_run : FIs view (Str.ofString "_law_run") (fdef (Str.ofString "_law_run")) := fis_of (by kernel_rfl) (by kernel_rfl) (by kernel_rfl) (by kernel_rfl) (by kernel_rfl) (by kernel_rfl) (by kernel_rfl) (by kernel_rfl) (by kernel_rfl) (by kernel_rfl) (by kernel_rfl) (by kernel_rfl)
theorem fis_law_told : FIs view (Str.ofString "_law_told") (fdef (Str.ofString "_law_told")) := fis_of (by kernel_rfl) (by kernel_rfl) (by kernel_rfl) (by kernel_rfl) (by kernel_rfl) (by kernel_rfl) (by kernel_rfl) (by kernel_rfl) (by kernel_rfl) (by kernel_rfl) (by kernel_rfl) (by kernel_rfl)
theorem fis_law_leaves : FIs view (Str.ofString "_law_leaves") (fdef (Str.ofString "_law_leaves")) := fis_of (by kernel_rfl) (by kernel_rfl) (by kernel_rfl) (by kernel_rfl) (by kernel_rfl) (by kernel_rfl) (by kernel_rfl) (by kernel_rfl) (by kernel_rfl) (by kernel_rfl) (by kernel_rfl) (by kernel_rfl)
theorem fis_law_is_at_rest : FIs view (Str.ofString "_law_is_at_rest") (fdef (Str.ofString "_law_is_at_rest")) := fis_of (by kernel_rfl) (by kernel_rfl) (by kernel_rfl) (by kernel_rfl) (by kernel_rfl) (by kernel_rfl) (by kernel_rfl) (by kernel_rfl) (by kernel_rfl) (by kernel_rfl) (by kernel_rfl) (by kernel_rfl)
theorem fis_law_ahead : FIs view (Str.ofString "_law_ahead") (fdef (Str.ofString "_law_ahead")) := fis_of (by kernel_rfl) (by kernel_rfl) (by kernel_rfl) (by kernel_rfl) (by kernel_rfl) (by kernel_rfl) (by kernel_rfl) (by kernel_rfl) (by kernel_rfl) (by kernel_rfl) (by kernel_rfl) (by kernel_rfl)
theorem fis_law : FIs view (Str.ofString "law") (fdef (Str.ofString "law")) := fis_of (by kernel_rfl) (by kernel_rfl) (by kernel_rfl) (by kernel_rfl) (by kernel_rfl) (by kernel_rfl) (by kernel_rfl) (by kernel_rfl) (by kernel_rfl) (by kernel_rfl) (by kernel_rfl) (by kernel_rfl)
theorem fis_at (x : Str) (f : FDef) (h : FT x = some f) : FIs view x f := by
  refine fis_all (fun x hx => ?_) x f h
  rw [names_are] at hx
  simp only [List.mem_cons, List.not_mem_nil, or_false] at hx
  rcases hx with rfl | rfl | rfl | rfl | rfl | rfl | rfl | rfl | rfl | rfl | rfl | rfl | rfl | rfl | rfl | rfl | rfl | rfl | rfl | rfl | rfl | rfl | rfl | rfl | rfl
  · exact fis_target_of
  · exact fis_with_target
  · exact fis_targets
  · exact fis_moved
  · exact fis_kept
  · exact fis_last_target
  · exact fis_is_led
  · exact fis_led_on
  · exact fis_turned
  · exact fis_is_idle
  · exact fis_threaded
  · exact fis_law_draw
  · exact fis_law_operand
  · exact fis_law_row
  · exact fis_law_trys
  · exact fis_law_value
  · exact fis_law_is_so
  · exact fis_law_goes
  · exact fis_law_caught
  · exact fis_law_run
  · exact fis_law_told
  · exact fis_law_leaves
  · exact fis_law_is_at_rest
  · exact fis_law_ahead
  · exact fis_law
theorem code_is (P : Params) : CodeIs (frag P) 31 28 where
  get := by kernel_rfl
  dict := by kernel_rfl
  rd := by
    intro x hx
    have : codeNames = [Str.ofString "rows", Str.ofString "names", Str.ofString "temps", Str.ofString "trys", Str.ofString "lives"] := rfl
    rw [this] at hx
    simp only [List.mem_cons, List.not_mem_nil, or_false] at hx
    rcases hx with rfl | rfl | rfl | rfl | rfl <;> kernel_rfl
  made := by kernel_rfl
  ini := by kernel_rfl
  fn := by kernel_rfl
  setr := by kernel_rfl
  over := by kernel_rfl
  clsAt := ⟨objAt (frag P) 31, by kernel_rfl⟩
  body := ⟨objAt (frag P) 28, fdAt (frag P) 28, (fdAt (frag P) 28).params.args, qsOf (fdAt (frag P) 28).body, by kernel_rfl, by kernel_rfl, by kernel_rfl, by kernel_rfl, by kernel_rfl, by kernel_rfl, by kernel_rfl, by kernel_rfl, by kernel_rfl, by kernel_rfl, by kernel_rfl,
    fun y hy => by
      have h : (Str.ofString "self" :: codeNames).all (fun y => (fdAt (frag P) 28).scope.names.lookup y == some .local) = true := by kernel_rfl
      exact beq_iff_eq.mp (List.all_eq_true.mp h y hy),
    fun y hy => by
      have h : (fdAt (frag P) 28).scope.names.all (fun y => decide (y.2 ≠ .cell)) = true := by kernel_rfl
      exact of_decide_eq_true (List.all_eq_true.mp h y hy)⟩
end Mine
end
open PySem PySem.W PyProof.Rows
namespace Mine
set_option tactic.hygienic false
theorem ctx_of {w : World} {loose : List Str} {mean : ExcName → Option Value} {mg mb : Str → Option Value} {h₀ : Heap} (KX : (frag w.params).In h₀) (T : Top view loose mean mg mb h₀) : Ctx view w (frag w.params) 31 28 loose mean mg mb h₀ FT where
  T := T
  gk := KX
  CI := code_is w.params
  code := mg_of KX T.g (by kernel_rfl)
  bi := by
    intro x v hx
    simp only [List.mem_cons, List.not_mem_nil, or_false, Prod.mk.injEq] at hx
    rcases hx with ⟨rfl, rfl⟩ | ⟨rfl, rfl⟩ | ⟨rfl, rfl⟩ | ⟨rfl, rfl⟩ | ⟨rfl, rfl⟩ | ⟨rfl, rfl⟩ | ⟨rfl, rfl⟩
    · exact ⟨mg_none_of KX T.g (by kernel_rfl), (T.builtins _ (by decide +kernel)).trans (by kernel_rfl)⟩
    · exact ⟨mg_none_of KX T.g (by kernel_rfl), (T.builtins _ (by decide +kernel)).trans (by kernel_rfl)⟩
    · exact ⟨mg_none_of KX T.g (by kernel_rfl), (T.builtins _ (by decide +kernel)).trans (by kernel_rfl)⟩
    · exact ⟨mg_none_of KX T.g (by kernel_rfl), (T.builtins _ (by decide +kernel)).trans (by kernel_rfl)⟩
    · exact ⟨mg_none_of KX T.g (by kernel_rfl), (T.builtins _ (by decide +kernel)).trans (by kernel_rfl)⟩
    · exact ⟨mg_none_of KX T.g (by kernel_rfl), (T.builtins _ (by decide +kernel)).trans (by kernel_rfl)⟩
    · exact ⟨mg_none_of KX T.g (by kernel_rfl), (T.builtins _ (by decide +kernel)).trans (by kernel_rfl)⟩
  fis := fis_at
end Mine
set_option maxHeartbeats 8000000 in
set_option tactic.hygienic true in
theorem PySem.Challenge.cw_pf0207_01_holds : PySem.Challenge.rw_pf0207_01.Holds := by
  refine Mine.head ?_
  intro w s₀ s₁ mg mb G Y fa o pm cd doc dV kV ho hd hcd hD hmg hg args vals as hpre hlay hrd hwl hlo
  have KX : (Mine.frag w.params).In s₁.heap := Y
  refine Ground.open G ?_
  intro T B D TE TW
  wrow_args hpre hlay hrd hwl hlo
  rename_i ns _ _ _ _ _ _ _ _ _ _ _ _ w1 _ _ _ hc _
  refine Mine.law_ends (Mine.ctx_of KX T) rfl hmg w1 (by omega) fun h' tk keep => ?_
  refine GoodW.toG ⟨.inl ⟨.bool true, .bool true, [], rfl, raisesW_false (by wrow_none_raised), .bool true, ?_, unshared_nil⟩, keep, rfl, hg⟩
  wrow_post
