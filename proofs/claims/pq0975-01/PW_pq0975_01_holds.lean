import PyProof.Rows.All
import Wide.All
import OpenK.AllK
import Wide.FinOn
import Lean
import PySem.Challenge.RW_pq0975_01
set_option linter.all false
set_option tactic.hygienic false
set_option genSizeOf false
set_option genInjectivity false
section
namespace Mine
open PySem

/-- a symbolic int -/
inductive SI where
  | lit (n : Int) | var (i : Nat)
  deriving Inhabited

/-- the built-ins that the text names -/
inductive BI where
  | len | range | bytes | bytearray | isinstance | str | int | exception
  deriving Inhabited

/-- an abstract value -/
inductive AV where
  | none
  | bool (b : Bool)
  | int (e : SI)
  | str (s : Str)
  | strU (n : Nat)
  | bytes (l : List SI)
  | ref (i : Nat)
  | old (a : Nat)
  | bi (b : BI)
  deriving Inhabited

inductive ItK where
  | seq (src : AV) (pos : Nat)
  | byt (l : List SI)
  | rng (cur step : Int) (left : Nat)
  | keys (d : Nat) (pos n ep : Nat)
  | dead
  deriving Inhabited

/-- an abstract object -/
inductive AO where
  | tup (vs : List AV)
  | lst (vs : List AV)
  | dict (es : List (Int × AV)) (ep : Option Nat)
  | vals (d : Nat)
  | inst (C : Nat) (d : Nat)
  | idict (m : List (Str × AV))
  | frame (m : List (Str × AV))
  | cell (v : Option AV)
  | barr (l : List SI)
  | rng (a b c : Int)
  | exc (C : Nat) (d : Option Nat) (tb : Option Nat) (ctx : Bool)
  | tb (fl : Option Nat)
  | fn (body : Expr) (scope : Scope) (cells : List (Str × Nat)) (qual : Str)
  | it (k : ItK)
  | tab (q : Str)
  | code (q : Str)
  deriving Inhabited

structure St where
  n : Nat
  l : List AO
  deriving Inhabited

inductive R (α : Type) where
  | ok (a : α) (s : St)
  | err (i : Nat) (s : St)
  | stuck

noncomputable def AM (α : Type) := St → R α
noncomputable def AM.pure (a : α) : AM α := fun s => .ok a s
noncomputable def AM.bind (m : AM α) (f : α → AM β) : AM β := fun s => match m s with
  | .ok a s' => f a s'
  | .err i s' => .err i s'
  | .stuck => .stuck
noncomputable instance : Monad AM where
  pure := AM.pure
  bind := AM.bind
noncomputable def stuck : AM α := fun _ => .stuck
noncomputable def raiseA (i : Nat) : AM α := fun s => .err i s
/-- what to do where the action raises -/
noncomputable def onErr (m : AM α) (f : Nat → AM Unit) : AM α := fun s => match m s with
  | .ok a s' => .ok a s'
  | .err i s' => (match f i s' with
    | .ok _ s'' => .err i s''
    | .err _ _ => .stuck
    | .stuck => .stuck)
  | .stuck => .stuck
/-- an action that must not raise -/
noncomputable def noErr (m : AM α) : AM α := fun s => match m s with
  | .ok a s' => .ok a s'
  | .err _ _ => .stuck
  | .stuck => .stuck
noncomputable def attemptA (m : AM α) : AM (Except Nat α) := fun s => match m s with
  | .ok a s' => .ok (.ok a) s'
  | .err i s' => .ok (.error i) s'
  | .stuck => .stuck
noncomputable def ofO (x : Option α) : AM α := fun s => match x with
  | some a => .ok a s
  | none => .stuck

/-- a size that the model's lines let pass -/
noncomputable def fit (n : Nat) : AM Unit := match Nat.ble n 4096 with
  | true => AM.pure ()
  | false => stuck

noncomputable def one (args : List α) (f : α → AM β) : AM β := match args with
  | [] => stuck
  | a :: r => (match r with
    | [] => f a
    | _ :: _ => stuck)
noncomputable def two (args : List α) (f : α → α → AM β) : AM β := match args with
  | [] => stuck
  | a :: r => one r (f a)
noncomputable def three (args : List α) (f : α → α → α → AM β) : AM β := match args with
  | [] => stuck
  | a :: r => two r (f a)
noncomputable def zero (args : List α) (m : AM β) : AM β := match args with
  | [] => m
  | _ :: _ => stuck
noncomputable def natsEq : List Nat → List Nat → Bool
  | [], [] => true
  | x :: xs, y :: ys => (match Nat.beq x y with | true => natsEq xs ys | false => false)
  | _, _ => false
noncomputable def strEq (x y : Str) : Bool := natsEq x.cps.toList y.cps.toList
noncomputable def fget (x : Str) : List (Str × α) → Option α
  | [] => none
  | p :: r => match strEq p.1 x with | true => some p.2 | false => fget x r
noncomputable def fput (x : Str) (v : α) : List (Str × α) → List (Str × α)
  | [] => [(x, v)]
  | p :: r => match strEq p.1 x with | true => (p.1, v) :: r | false => p :: fput x v r

noncomputable def nth : List α → Nat → Option α
  | [], _ => none
  | x :: r, k => match k with | 0 => some x | k + 1 => nth r k
noncomputable def setNth (v : α) : List α → Nat → List α
  | [], _ => []
  | x :: r, k => match k with | 0 => v :: r | k + 1 => x :: setNth v r k

noncomputable def St.get (s : St) (i : Nat) : Option AO := match Nat.blt i s.n with
  | true => nth s.l (s.n - 1 - i)
  | false => none
noncomputable def St.set (s : St) (i : Nat) (o : AO) : St := ⟨s.n, setNth o s.l (s.n - 1 - i)⟩

noncomputable def getO (i : Nat) : AM AO := fun s => match s.get i with
  | some o => .ok o s
  | none => .stuck
noncomputable def setO (i : Nat) (o : AO) : AM Unit := fun s => .ok () (s.set i o)
noncomputable def newO (o : AO) : AM Nat := fun s => .ok s.n ⟨s.n + 1, o :: s.l⟩

noncomputable def withLst (i : Nat) (k : List AV → AM α) : AM α := do
  match ← getO i with
  | .lst vs => k vs
  | _ => stuck
noncomputable def withDict (i : Nat) (k : List (Int × AV) → Option Nat → AM α) : AM α := do
  match ← getO i with
  | .dict es ep => k es ep
  | _ => stuck
noncomputable def withExc (i : Nat) (k : Nat → AM α) : AM α := do
  match ← getO i with
  | .exc C _ _ _ => k C
  | _ => stuck
/-- a written int -/
noncomputable def litOf : AV → AM Int
  | .int e => (match e with
    | .lit n => pure n
    | .var _ => stuck)
  | _ => stuck
/-- the iterator still goes -/
noncomputable def alive (i : Nat) : AM Unit := do
  match ← getO i with
  | .it k => (match k with
    | .dead => stuck
    | _ => pure ())
  | _ => stuck
/-- what the class of the draw says of the symbolic ints -/
inductive IOp where
  | add | sub | mul | fdiv | fmod | shl | shr | and | or
  deriving Inhabited
structure Orc where
  ops : List (IOp × SI × SI × SI)
  lts : List (SI × SI × Bool)
  eqs : List (SI × SI × Bool)

structure Fn where
  name : Str
  params : Arguments
  body : List Stmt
  scope : Scope
  tab : Option Nat
structure Cls where
  exc : Bool
  init : Nat
  attrs : List Str
  meths : List (Str × Nat)

structure Glob where
  names : List (Str × AV)
  fns : Nat → Option Fn
  cls : Nat → Option Cls
  tups : Nat → Option (List AV)
  orc : Orc

structure AEnv where
  scope : Scope
  loc : Nat
  fr : Nat
  cells : List (Str × Nat)
  qual : Str
  tab : Option Nat
  hd : Option Nat

inductive AFlow where
  | next
  | ret (v : AV)

/-- the recursion's record -/
structure Rec where
  eval : AEnv → Expr → AM AV
  isTrue : AEnv → Expr → AM Bool
  exec : AEnv → Stmt → AM AFlow
  assign : AEnv → Expr → AV → AM Unit
  call : Option Nat → AV → List AV → AM AV
  whileL : AEnv → Expr → List Stmt → AM AFlow
  forL : AEnv → Expr → Nat → List Stmt → AM AFlow
  comp : AEnv → Expr → Expr → Nat → Nat → AM Unit

noncomputable def Rec.none : Rec where
  eval _ _ := stuck
  isTrue _ _ := stuck
  exec _ _ := stuck
  assign _ _ _ := stuck
  call _ _ _ := stuck
  whileL _ _ _ := stuck
  forL _ _ _ _ := stuck
  comp _ _ _ _ _ := stuck

section sInts
noncomputable def siEq : SI → SI → Bool
  | .lit x, .lit y => decide (x = y)
  | .var i, .var j => Nat.beq i j
  | _, _ => false
noncomputable def opTag : IOp → Nat
  | .add => 0 | .sub => 1 | .mul => 2 | .fdiv => 3 | .fmod => 4 | .shl => 5 | .shr => 6 | .and => 7 | .or => 8
noncomputable def findOp (op : IOp) (x y : SI) : List (IOp × SI × SI × SI) → Option SI
  | [] => none
  | (o, a, b, c) :: r => match Nat.beq (opTag o) (opTag op) && (siEq a x && siEq b y) with | true => some c | false => findOp op x y r
noncomputable def findB (x y : SI) : List (SI × SI × Bool) → Option Bool
  | [] => none
  | (a, b, c) :: r => match siEq a x && siEq b y with | true => some c | false => findB x y r
noncomputable def small (n : Int) : Bool := decide (-4611686018427387904 < n) && decide (n < 4611686018427387904)
noncomputable def litOp (op : IOp) (x y : Int) : Option Int := match op with
  | .add => some (x + y)
  | .sub => some (x - y)
  | .mul => some (x * y)
  | .fdiv => match decide (0 < y) && decide (y < 1073741824) with | true => some (Int.fdiv x y) | false => none
  | .fmod => match decide (0 < y) && decide (y < 1073741824) with | true => some (Int.fmod x y) | false => none
  | .shl => match decide (0 ≤ y) && decide (y ≤ 60) with | true => some (x * 2 ^ y.toNat) | false => none
  | .shr => match decide (0 ≤ y) && decide (y ≤ 60) with | true => some (Int.fdiv x (2 ^ y.toNat)) | false => none
  | .and => some (Builtin.bitAnd x y)
  | .or => some (Builtin.bitOr x y)
noncomputable def intOp (G : Glob) (op : IOp) (x y : SI) : Option SI := match x, y with
  | .lit a, .lit b => (match litOp op a b with
    | some c => (match small c with | true => some (.lit c) | false => none)
    | none => none)
  | x, y => findOp op x y G.orc.ops
noncomputable def intLt (G : Glob) (x y : SI) : Option Bool := match x, y with
  | .lit a, .lit b => some (decide (a < b))
  | x, y => findB x y G.orc.lts
noncomputable def intEq (G : Glob) (x y : SI) : Option Bool := match siEq x y with
  | true => some true
  | false => match x, y with
    | .lit a, .lit b => some (decide (a = b))
    | x, y => findB x y G.orc.eqs
noncomputable def opOf : Operator → Option IOp
  | .Add => some .add | .Sub => some .sub | .Mult => some .mul | .FloorDiv => some .fdiv | .Mod => some .fmod
  | .LShift => some .shl | .RShift => some .shr | .BitAnd => some .and | .BitOr => some .or
  | _ => none
end sInts

section steps
variable (G : Glob) (r : Rec)

noncomputable def kindOf (Γ : AEnv) (x : Str) : Option NameKind := fget x Γ.scope.names

noncomputable def frameOf (i : Nat) : AM (List (Str × AV)) := do
  match ← getO i with
  | .frame m => pure m
  | _ => stuck

noncomputable def loadN (Γ : AEnv) (x : Str) : AM AV := match kindOf Γ x with
  | some .local => do
    match ← getO Γ.loc with
    | .frame m => ofO (fget x m)
    | _ => stuck
  | some .cell | some .free => do
    match ← getO (← ofO (fget x Γ.cells)) with
    | .cell (some v) => pure v
    | _ => stuck
  | some .globalImplicit => ofO (fget x G.names)
  | _ => stuck

noncomputable def storeN (Γ : AEnv) (x : Str) (v : AV) : AM Unit := match kindOf Γ x with
  | some .local => do
    match ← getO Γ.loc with
    | .frame m => setO Γ.loc (.frame (fput x v m))
    | _ => stuck
  | some .cell => do
    let c ← ofO (fget x Γ.cells)
    match ← getO c with
    | .cell _ => setO c (.cell (some v))
    | _ => stuck
  | _ => stuck

noncomputable def constV : Const → AM AV
  | .none => pure .none
  | .bool b => pure (.bool b)
  | .int i => (match small i with | true => pure (.int (.lit i)) | false => stuck)
  | .str s => pure (.str s)
  | .bytes b => pure (.bytes (b.map fun u => .lit u.toNat))
  | _ => stuck

/-- the items of a tuple or a list -/
noncomputable def itemsOf (v : AV) : AM (List AV) := match v with
  | .ref i => do
    match ← getO i with
    | .tup vs => pure vs
    | .lst vs => pure vs
    | _ => stuck
  | .old a => ofO (G.tups a)
  | _ => stuck

/-- the items of a tuple -/
noncomputable def itemsT (v : AV) : AM (List AV) := match v with
  | .ref i => do
    match ← getO i with
    | .tup vs => pure vs
    | _ => stuck
  | .old a => ofO (G.tups a)
  | _ => stuck

/-- neither a starred one nor a set's display -/
noncomputable def starE : Expr → Bool
  | .Starred _ _ => true
  | _ => false
noncomputable def setE : Expr → Bool
  | .Set _ _ _ => true
  | _ => false
noncomputable def plainE (e : Expr) : AM Unit := match starE e || setE e with
  | true => stuck
  | false => pure ()
noncomputable def noStar : List Expr → Bool
  | [] => true
  | e :: es => (match starE e with | true => false | false => noStar es)
/-- no call of a bare name without arguments (that of `super` has a road of its own) -/
noncomputable def baseE : Expr → AM Unit
  | .Call (.Name _ _) [] [] _ => stuck
  | _ => pure ()
noncomputable def evals (f : Expr → AM AV) : List Expr → AM (List AV)
  | [] => pure []
  | e :: es => do
    plainE e
    let v ← f e
    let vs ← evals f es
    pure (v :: vs)

noncomputable def execsW (f : Stmt → AM AFlow) : List Stmt → AM AFlow
  | [] => pure .next
  | s :: ss => do
    match ← f s with
    | .next => execsW f ss
    | .ret v => pure (.ret v)

noncomputable def truthyA : AV → AM Bool
  | .bool b => pure b
  | _ => stuck

noncomputable def binopA (op : Operator) (a b : AV) : AM AV := match a, b with
  | .int x, .int y => do pure (.int (← ofO (intOp G (← ofO (opOf op)) x y)))
  | .bytes x, .bytes y => (match op with
    | .Add => do
      fit (x.length + y.length)
      pure (.bytes (x ++ y))
    | _ => stuck)
  | .strU n, .str y => (match op with
    | .Add => do
      fit (n + y.cps.size)
      pure (.strU (n + y.cps.size))
    | _ => stuck)
  | .ref i, .ref j => (match op with
    | .Add => do
      match ← getO i, ← getO j with
      | .lst xs, .lst ys => do
        fit (xs.length + ys.length)
        pure (.ref (← newO (.lst (xs ++ ys))))
      | _, _ => stuck
    | _ => stuck)
  | _, _ => stuck

noncomputable def bytesEq : List SI → List SI → Option Bool
  | [], [] => some true
  | x :: xs, y :: ys => (match intEq G x y, bytesEq xs ys with
    | some a, some b => some (a && b)
    | _, _ => none)
  | _, _ => some false

noncomputable def allEqP (f : AV → AV → Option Bool) : List AV → List AV → Option Bool
  | x :: xs, y :: ys => (match f x y, allEqP f xs ys with
    | some a, some b => some (a && b)
    | _, _ => none)
  | [], [] => some true
  | _, _ => some false

/-- == of two values; nothing is written -/
noncomputable def eqvP (st : St) : Nat → AV → AV → Option Bool
  | 0, _, _ => none
  | n + 1, a, b => match a, b with
    | .none, .none => some true
    | .none, .int _ => some false
    | .int _, .none => some false
    | .str _, .none => some false
    | .bool x, .bool y => some (match x with | true => y | false => !y)
    | .int x, .int y => intEq G x y
    | .str x, .str y => some (strEq x y)
    | .bytes x, .bytes y => bytesEq G x y
    | .ref i, .ref j => (match Nat.beq i j with
      | true => none
      | false => (match st.get i, st.get j with
        | some (.tup xs), some (.tup ys) => (match Nat.beq xs.length ys.length with
          | true => allEqP (eqvP st n) xs ys
          | false => none)
        | some (.lst xs), some (.lst ys) => (match Nat.beq xs.length ys.length with
          | true => allEqP (eqvP st n) xs ys
          | false => some false)
        | _, _ => none))
    | _, _ => none

noncomputable def dictEqP (st : St) : List (Int × AV) → List (Int × AV) → Option Bool
  | [], [] => some true
  | [p], [q] => (match decide (p.1 = q.1) with
    | true => eqvP G st 6 p.2 q.2
    | false => some false)
  | [], _ :: _ => some false
  | _ :: _, [] => some false
  | _, _ => none

/-- == at the top -/
noncomputable def eqvA (a b : AV) : AM Bool := fun st => match a, b with
  | .ref i, .ref j => (match st.get i, st.get j with
    | some (.dict xs _), some (.dict ys _) => ofO (dictEqP G st xs ys) st
    | _, _ => ofO (eqvP G st 6 a b) st)
  | _, _ => ofO (eqvP G st 6 a b) st

/-- is the value among the items -/
noncomputable def anyEqP (st : St) (x : AV) : List AV → Option Bool
  | [] => some false
  | v :: vs => (match eqvP G st 6 v x, anyEqP st x vs with
    | some a, some b => some (a || b)
    | _, _ => none)
noncomputable def anyEq (x : AV) (vs : List AV) : AM Bool := fun st => ofO (anyEqP G st x vs) st

noncomputable def dfind (k : Int) : List (Int × AV) → Option AV
  | [] => none
  | p :: r => match decide (p.1 = k) with | true => some p.2 | false => dfind k r
noncomputable def dput (k : Int) (v : AV) : List (Int × AV) → List (Int × AV)
  | [] => [(k, v)]
  | p :: r => match decide (p.1 = k) with | true => (p.1, v) :: r | false => p :: dput k v r
/-- a dict's epoch after a store -/
noncomputable def epAfter (found : Option AV) (ep : Option Nat) : Option Nat := match found with
  | some _ => ep
  | none => (match ep with
    | some e => some (e + 1)
    | none => none)
noncomputable def ddel (k : Int) : List (Int × AV) → List (Int × AV)
  | [] => []
  | p :: r => match decide (p.1 = k) with | true => ddel k r | false => p :: ddel k r

noncomputable def inA (hd : Option Nat) (x c : AV) : AM Bool := match c with
  | .old a => do anyEq G x (← ofO (G.tups a))
  | .ref i => do
    match ← getO i with
    | .tup vs => anyEq G x vs
    | .lst vs => anyEq G x vs
    | .dict es _ => (match x with
      | .int (.lit k) => (match dfind k es with
        | some _ => pure true
        | none => pure false)
      | _ => stuck)
    | .vals d => (match hd with
      | none => do
        match ← getO d with
        | .dict es _ => anyEq G x (es.map (·.2))
        | _ => stuck
      | some _ => stuck)
    | _ => stuck
  | _ => stuck

noncomputable def isA (a b : AV) : AM Bool := match b with
  | .none => (match a with
    | .none => pure true
    | .int _ => pure false
    | .ref _ => pure false
    | .str _ => pure false
    | _ => stuck)
  | _ => stuck

noncomputable def cmpA (hd : Option Nat) (op : CmpOp) (a b : AV) : AM Bool := match op with
  | .Eq => eqvA G a b
  | .NotEq => do pure (!(← eqvA G a b))
  | .Lt => (match a, b with | .int x, .int y => ofO (intLt G x y) | _, _ => stuck)
  | .Gt => (match a, b with | .int x, .int y => ofO (intLt G y x) | _, _ => stuck)
  | .LtE => (match a, b with | .int x, .int y => do pure (!(← ofO (intLt G y x))) | _, _ => stuck)
  | .GtE => (match a, b with | .int x, .int y => do pure (!(← ofO (intLt G x y))) | _, _ => stuck)
  | .In => inA G hd a b
  | .NotIn => do pure (!(← inA G hd a b))
  | .Is => isA a b
  | .IsNot => do pure (!(← isA a b))

noncomputable def chainA (Γ : AEnv) (left : AV) : List CmpOp → List Expr → AM Bool
  | [op], [e] => do
    plainE e
    let rv ← r.eval Γ e
    cmpA G Γ.hd op left rv
  | op :: ops, e :: es => do
    plainE e
    let rv ← r.eval Γ e
    match ← cmpA G Γ.hd op left rv with
    | true => chainA Γ rv ops es
    | false => pure false
  | _, _ => stuck

noncomputable def boolA (Γ : AEnv) (op : BoolOp) : List Expr → AM AV
  | [] => stuck
  | [e] => r.eval Γ e
  | e :: es => do
    let v ← r.eval Γ e
    match op, ← truthyA v with
    | .And, false => pure v
    | .Or, true => pure v
    | _, _ => boolA Γ op es

noncomputable def allTrueA (Γ : AEnv) (op : BoolOp) : List Expr → AM Bool
  | [] => pure (match op with | .And => true | .Or => false)
  | e :: es => do
    match op, ← r.isTrue Γ e with
    | .And, false => pure false
    | .Or, true => pure true
    | _, _ => allTrueA Γ op es

noncomputable def memS (x : Str) : List Str → Bool
  | [] => false
  | y :: r => match strEq y x with | true => true | false => memS x r
/-- is this a field's name of the class's own -/
noncomputable def isField (C : Nat) (x : Str) : AM Unit := match G.cls C with
  | some c => (match memS x c.attrs with
    | true => pure ()
    | false => stuck)
  | none => stuck

noncomputable def getAttrA (v : AV) (x : Str) : AM AV := match v with
  | .ref i => do
    match ← getO i with
    | .inst C d => do
      isField G C x
      match ← getO d with
      | .idict m => ofO (fget x m)
      | _ => stuck
    | .exc C (some d) _ _ => do
      isField G C x
      match ← getO d with
      | .idict m => ofO (fget x m)
      | _ => stuck
    | _ => stuck
  | _ => stuck
noncomputable def setAttrA (o : AV) (x : Str) (v : AV) : AM Unit := match o with
  | .ref i => do
    match ← getO i with
    | .inst C d => do
      isField G C x
      match ← getO d with
      | .idict m => do
        fit m.length
        setO d (.idict (fput x v m))
      | _ => stuck
    | .exc C (some d) _ _ => do
      isField G C x
      match ← getO d with
      | .idict m => do
        fit m.length
        setO d (.idict (fput x v m))
      | _ => stuck
    | .exc C none tb ctx => do
      isField G C x
      let d ← newO (.idict [(x, v)])
      setO i (.exc C (some d) tb ctx)
    | _ => stuck
  | _ => stuck

noncomputable def clampI (i : Int) (n : Nat) : Nat := match decide (i < 0) with
  | true => (i + n).toNat
  | false => Nat.min i.toNat n
noncomputable def boundA (Γ : AEnv) (n : Nat) (dflt : Nat) : Option Expr → AM Nat
  | none => pure dflt
  | some e => do
    match ← r.eval Γ e with
    | .int (.lit k) => pure (clampI k n)
    | _ => stuck

noncomputable def sliceA (Γ : AEnv) (o : AV) (lo hi : Option Expr) : AM AV := match o with
  | .bytes l => do
    fit l.length
    let a ← boundA r Γ l.length 0 lo
    let b ← boundA r Γ l.length l.length hi
    pure (.bytes ((l.take b).drop a))
  | _ => stuck

noncomputable def itemA (o i : AV) : AM AV := match i with
  | .int (.lit k) => (match decide (0 ≤ k) with
    | false => stuck
    | true => (match o with
      | .bytes l => do
        fit l.length
        pure (.int (← ofO (nth l k.toNat)))
      | .old a => do ofO (nth (← ofO (G.tups a)) k.toNat)
      | .ref j => do
        match ← getO j with
        | .tup vs => ofO (nth vs k.toNat)
        | .lst vs => ofO (nth vs k.toNat)
        | .dict es _ => ofO (dfind k es)
        | _ => stuck
      | _ => stuck))
  | _ => stuck

noncomputable def setItemA (o i v : AV) : AM Unit := match o, i with
  | .ref j, .int (.lit k) => do
    match ← getO j with
    | .barr l => (match v with
      | .int e => (match decide (0 ≤ k) && decide (k < l.length) with
        | true => (match intLt G e (.lit 0), intLt G e (.lit 256) with
          | some false, some true => do
            fit l.length
            setO j (.barr (setNth e l k.toNat))
          | _, _ => stuck)
        | false => stuck)
      | _ => stuck)
    | .dict es ep => do
      fit es.length
      setO j (.dict (dput k v es) (epAfter (dfind k es) ep))
    | _ => stuck
  | _, _ => stuck

noncomputable def octets (l : List AV) : Option (List SI) := match l with
  | [] => some []
  | .int e :: r => (match intLt G e (.lit 0), intLt G e (.lit 256), octets r with
    | some false, some true, some es => some (e :: es)
    | _, _, _ => none)
  | _ => none

noncomputable def zeros : Nat → List SI
  | 0 => []
  | n + 1 => .lit 0 :: zeros n

noncomputable def len1 (a : AV) : AM AV := match a with
  | .bytes l => do
    fit l.length
    pure (.int (.lit l.length))
  | .ref i => do
    match ← getO i with
    | .tup vs => do
      fit vs.length
      pure (.int (.lit vs.length))
    | .lst vs => do
      fit vs.length
      pure (.int (.lit vs.length))
    | _ => stuck
  | _ => stuck
noncomputable def range3 (a b c : AV) : AM AV := do
  let x ← litOf a
  let y ← litOf b
  let z ← litOf c
  match decide (z = -1) with
  | true => do pure (.ref (← newO (.rng x y z)))
  | false => stuck
noncomputable def bytes1 (hd : Option Nat) (a : AV) : AM AV := match a with
  | .ref i => do
    match ← getO i with
    | .lst vs => (match hd with
      | none => do
        fit vs.length
        pure (.bytes (← ofO (octets G vs)))
      | some _ => stuck)
    | .barr l => do
      fit l.length
      pure (.bytes l)
    | _ => stuck
  | _ => stuck
noncomputable def bytearray1 (a : AV) : AM AV := do
  let n ← litOf a
  match decide (0 ≤ n) && decide (n ≤ 1000) with
  | true => do pure (.ref (← newO (.barr (zeros n.toNat))))
  | false => stuck
noncomputable def isinst2 (v c : AV) : AM AV := match c with
  | .bi b => (match b with
    | .int => (match v with
      | .int _ => pure (.bool true)
      | .ref i => do
        match ← getO i with
        | .tup _ => pure (.bool false)
        | _ => stuck
      | _ => stuck)
    | _ => stuck)
  | _ => stuck
noncomputable def str1 (a : AV) : AM AV := do
  let n ← litOf a
  match decide (0 ≤ n) && decide (n < 1000) with
  | true => pure (.strU 1002)
  | false => stuck
noncomputable def callB (hd : Option Nat) (b : BI) (args : List AV) : AM AV := match b with
  | .len => one args len1
  | .range => three args range3
  | .bytes => one args (bytes1 G hd)
  | .bytearray => one args bytearray1
  | .isinstance => two args isinst2
  | .str => one args str1
  | _ => stuck

/-- an exception that this frame has not noted yet gets an entry -/
noncomputable def noteA (fr : Nat) (i : Nat) : AM Unit := do
  match ← getO i with
  | .exc C d none ctx => do
    let t ← newO (.tb (some fr))
    setO i (.exc C d (some t) ctx)
  | .exc C d (some t) ctx => do
    match ← getO t with
    | .tb fl => (match fl with
      | some f => (match Nat.beq f fr with
        | true => pure ()
        | false => do
          setO t (.tb none)
          let t' ← newO (.tb (some fr))
          setO i (.exc C d (some t') ctx))
      | none => do
        let t' ← newO (.tb (some fr))
        setO i (.exc C d (some t') ctx))
    | _ => stuck
  | _ => stuck
noncomputable def flightA (i : Nat) (fl : Option Nat) : AM Unit := do
  match ← getO i with
  | .exc _ _ none _ => pure ()
  | .exc _ _ (some t) _ => do
    match ← getO t with
    | .tb _ => setO t (.tb fl)
    | _ => stuck
  | _ => stuck
noncomputable def leavingA (fr : Nat) (i : Nat) : AM Unit := do
  noteA fr i
  flightA i none
/-- an exception comes back from an own activation -/
noncomputable def backA (fr i : Nat) : AM Unit := do
  match ← getO i with
  | .exc _ _ (some t) _ => do
    match ← getO t with
    | .tb _ => setO t (.tb (some fr))
    | _ => stuck
  | _ => stuck
/-- an own activation of the frame's: a loop, a handler -/
noncomputable def ownA (Γ : AEnv) (m : AM α) : AM α := onErr m fun i => do
  noteA Γ.fr i
  backA Γ.fr i
noncomputable def fdel (x : Str) : List (Str × AV) → List (Str × AV)
  | [] => []
  | p :: r => match strEq p.1 x with | true => fdel x r | false => p :: fdel x r
/-- a local name goes -/
noncomputable def delN (Γ : AEnv) (x : Str) : AM Unit := match kindOf Γ x with
  | some .local => do
    match ← getO Γ.loc with
    | .frame m => setO Γ.loc (.frame (fdel x m))
    | _ => stuck
  | _ => stuck

noncomputable def cellsFor : List (Str × NameKind) → List (Str × Nat) → AM (List (Str × Nat))
  | [], cs => pure cs
  | (x, k) :: rest, cs => (match k with
    | .cell => do
      let c ← newO (.cell none)
      cellsFor rest ((x, c) :: cs)
    | _ => cellsFor rest cs)
noncomputable def bindAll (Γ : AEnv) : List Arg → List AV → AM Unit
  | [], [] => pure ()
  | a :: as, v :: vs => do
    storeN Γ a.arg v
    bindAll Γ as vs
  | _, _ => stuck

noncomputable def noCells : List (Str × NameKind) → AM Unit
  | [] => pure ()
  | (_, k) :: rest => (match k with
    | .cell => stuck
    | _ => noCells rest)
noncomputable def noFree : List (Str × NameKind) → AM Unit
  | [] => pure ()
  | (_, k) :: rest => (match k with
    | .free => stuck
    | _ => noFree rest)
/-- each local is one by its first entry -/
noncomputable def locOk (all : List (Str × NameKind)) : List (Str × NameKind) → AM Unit
  | [] => pure ()
  | (x, k) :: rest => (match k with
    | .local => (match fget x all with
      | some .local => locOk all rest
      | _ => stuck)
    | _ => locOk all rest)
/-- a plain function's scope without cells of its own -/
noncomputable def funScope (s : Scope) : AM Unit := match s.kind, s.isCoroutine, s.isGenerator with
  | .function, false, false => noCells s.names
  | _, _, _ => stuck
noncomputable def callFn (hd : Option Nat) (f : Fn) (args : List AV) : AM AV := match Nat.beq f.params.args.length args.length with
  | false => stuck
  | true => do
  let l ← newO (.frame [])
  let cs ← cellsFor f.scope.names []
  let Γ : AEnv := ⟨f.scope, l, l, cs, f.name ++ ".<locals>.", f.tab, hd⟩
  bindAll Γ f.params.args args
  match ← onErr (execsW (r.exec Γ) f.body) (leavingA l) with
  | .ret v => pure v
  | .next => pure .none

noncomputable def callA (hd : Option Nat) (f : AV) (args : List AV) : AM AV := match f with
  | .bi b => callB G hd b args
  | .old a => (match G.fns a with
    | some fn => callFn r hd fn args
    | none => (match G.cls a with
      | some c => do
        let x ← (match c.exc with
          | true => do
            fit args.length
            newO (.exc a none none true)
          | false => do
            let d ← newO (.idict [])
            newO (.inst a d))
        match ← r.call hd (.old c.init) (.ref x :: args) with
        | .none => pure (.ref x)
        | _ => stuck
      | none => stuck))
  | .ref i => do
    match ← getO i with
    | .fn body scope cells qual => (match args with
      | [] => do
        funScope scope
        let l ← newO (.frame [])
        onErr (r.eval ⟨scope, l, l, cells, qual, none, hd⟩ body) (leavingA l)
      | _ => stuck)
    | _ => stuck
  | _ => stuck

/-- what a method's name on a value stands for -/
inductive Callee where
  | fn (f : Nat) (self : AV)
  | append (i : Nat)
  | values (i : Nat)
  | get (i : Nat)
  | pop (i : Nat)
  | index (vs : List AV)
  | init

noncomputable def methA (o : AV) (x : Str) : AM Callee := match o with
  | .bi .exception => (match strEq x "__init__" with
    | true => pure .init
    | false => stuck)
  | .old a => do
    let vs ← ofO (G.tups a)
    match strEq x "index" with
    | true => pure (.index vs)
    | false => stuck
  | .ref i => do
    match ← getO i with
    | .inst C d => do
      match ← getO d with
      | .idict m => (match fget x m with
        | none => do
          let c ← ofO (G.cls C)
          let f ← ofO (fget x c.meths)
          match c.exc with
          | true => stuck
          | false => pure (.fn f o)
        | some _ => stuck)
      | _ => stuck
    | .lst _ => (match strEq x "append" with
      | true => pure (.append i)
      | false => stuck)
    | .dict _ _ => (match strEq x "values" with
      | true => pure (.values i)
      | false => (match strEq x "get" with
        | true => pure (.get i)
        | false => (match strEq x "pop" with
          | true => pure (.pop i)
          | false => stuck)))
    | _ => stuck
  | _ => stuck

/-- the place of the first item that equals the value -/
noncomputable def indexP (st : St) (v : AV) : List AV → Nat → Option Nat
  | [], _ => none
  | w :: ws, k => (match eqvP G st 6 w v with
    | some true => some k
    | some false => indexP st v ws (k + 1)
    | none => none)

noncomputable def appendM (i : Nat) (v : AV) : AM AV := withLst i fun vs => do
  fit (vs.length + 1)
  setO i (.lst (vs ++ [v]))
  pure .none
noncomputable def valuesM (i : Nat) : AM AV := withDict i fun _ _ => do pure (.ref (← newO (.vals i)))
noncomputable def getM (i : Nat) (x : AV) : AM AV := do
  let k ← litOf x
  withDict i fun es _ => (match dfind k es with
    | some v => pure v
    | none => pure .none)
noncomputable def popM (i : Nat) (x v : AV) : AM AV := do
  let k ← litOf x
  withDict i fun es _ => (match dfind k es with
    | some w => do
      fit es.length
      setO i (.dict (ddel k es) none)
      pure w
    | none => pure v)
noncomputable def indexM (vs : List AV) (v : AV) : AM AV := do
  fit vs.length
  fun st => (match indexP G st v vs 0 with
    | some k => .ok (.int (.lit k)) st
    | none => .stuck)
noncomputable def initM (x : AV) (_ : AV) : AM AV := match x with
  | .ref i => withExc i fun C => (match G.cls C with
    | some c => (match c.exc with
      | true => pure .none
      | false => stuck)
    | none => stuck)
  | _ => stuck
noncomputable def callM (hd : Option Nat) (c : Callee) (args : List AV) : AM AV := match c with
  | .fn f self => r.call hd (.old f) (self :: args)
  | .append i => one args (appendM i)
  | .values i => zero args (valuesM i)
  | .get i => one args (getM i)
  | .pop i => two args (popM i)
  | .index vs => one args (indexM G vs)
  | .init => two args (initM G)

noncomputable def rngLeft (a b c : Int) : Nat := match decide (0 < c) with
  | true => (match decide (a < b) with | true => ((b - a - 1) / c + 1).toNat | false => 0)
  | false => (match decide (b < a) with | true => ((a - b - 1) / (-c) + 1).toNat | false => 0)

noncomputable def iterA (v : AV) : AM Nat := match v with
  | .old a => do
    let _ ← ofO (G.tups a)
    newO (.it (.seq v 0))
  | .bytes l => newO (.it (.byt l))
  | .ref i => do
    match ← getO i with
    | .tup _ => newO (.it (.seq v 0))
    | .lst _ => newO (.it (.seq v 0))
    | .rng a b c => (match Builtin.Range.small a b c && !decide (c = 0) with
      | true => newO (.it (.rng a c (rngLeft a b c)))
      | false => stuck)
    | .dict es (some ep) => newO (.it (.keys i 0 es.length ep))
    | _ => stuck
  | _ => stuck

noncomputable def noneAt (hd : Option Nat) (i : Nat) : AM (Option AV) := match hd with
  | none => do
    setO i (.it .dead)
    pure none
  | some _ => stuck

noncomputable def nextA (hd : Option Nat) (i : Nat) : AM (Option AV) := do
  match ← getO i with
  | .it (.seq v k) => do
    let vs ← itemsOf G v
    match nth vs k with
    | some x => do
      setO i (.it (.seq v (k + 1)))
      pure (some x)
    | none => noneAt hd i
  | .it (.byt l) => (match l with
    | [] => noneAt hd i
    | e :: r => do
      setO i (.it (.byt r))
      pure (some (.int e)))
  | .it (.rng c s left) => (match left with
    | 0 => noneAt hd i
    | k + 1 => (match small c with
      | true => do
        setO i (.it (.rng (c + s) s k))
        pure (some (.int (.lit c)))
      | false => stuck))
  | .it (.keys d k n ep) => do
    match ← getO d with
    | .dict es (some ep') => (match Nat.beq es.length n && Nat.beq ep' ep with
      | true => (match nth es k with
        | some p => do
          setO i (.it (.keys d (k + 1) n ep))
          pure (some (.int (.lit p.1)))
        | none => noneAt hd i)
      | false => stuck)
    | _ => stuck
  | _ => stuck

noncomputable def assignEach (Γ : AEnv) : List Expr → List AV → AM Unit
  | [], [] => pure ()
  | t :: ts, v :: vs => do
    plainE t
    r.assign Γ t v
    assignEach Γ ts vs
  | _, _ => stuck

noncomputable def assignA (Γ : AEnv) (t : Expr) (v : AV) : AM Unit := match t with
  | .Name x _ => storeN Γ x v
  | .Attribute o x _ => do
    let ov ← r.eval Γ o
    setAttrA G ov x v
  | .Subscript o i _ => do
    let ov ← r.eval Γ o
    let iv ← r.eval Γ i
    setItemA G ov iv v
  | .Tuple ts _ _ => (match Γ.hd with
    | none => do
      let vs ← itemsT G v
      match Nat.beq vs.length ts.length && noStar ts with
      | true => assignEach r Γ ts vs
      | false => stuck
    | some _ => stuck)
  | _ => stuck

/-- is this something to call -/
noncomputable def calleeA (f : AV) : AM Unit := match f with
  | .bi _ => pure ()
  | .old a => (match G.fns a, G.cls a with
    | none, none => stuck
    | _, _ => pure ())
  | .ref i => do
    match ← getO i with
    | .fn _ _ _ _ => pure ()
    | _ => stuck
  | _ => stuck
noncomputable def closureA (Γ : AEnv) : List (Str × NameKind) → AM (List (Str × Nat))
  | [] => pure []
  | (x, k) :: rest => (match k with
    | .free => do
      let c ← ofO (fget x Γ.cells)
      let cs ← closureA Γ rest
      pure (cs ++ [(x, c)])
    | _ => closureA Γ rest)

/-- an iterator over a list -/
noncomputable def listIter (v : AV) : AM Nat := match v with
  | .ref i => do
    match ← getO i with
    | .lst _ => newO (.it (.seq v 0))
    | _ => stuck
  | _ => stuck
noncomputable def evalA (Γ : AEnv) : Expr → AM AV
  | .Constant c _ _ => constV c
  | .Name x _ => (match strEq x "__debug__" || strEq x "__classdict__" with
    | true => stuck
    | false => loadN G Γ x)
  | .BoolOp op es _ => boolA r Γ op es
  | .BinOp a op b _ => do
    let x ← r.eval Γ a
    let y ← r.eval Γ b
    binopA G op x y
  | .UnaryOp op e _ => do
    let v ← r.eval Γ e
    match op with
    | .Not => do pure (.bool (!(← truthyA v)))
    | .USub => (match v with
      | .int (.lit n) => (match small (-n) with | true => pure (.int (.lit (-n))) | false => stuck)
      | _ => stuck)
    | _ => stuck
  | .Lambda args body scope _ => (match args, Γ.tab with
    | ⟨[], [], none, [], [], none, []⟩, some t => do
      let cs ← closureA Γ scope.names
      match ← getO t with
      | .tab q => (match strEq q Γ.qual with
        | true => do pure (.ref (← newO (.fn body scope cs q)))
        | false => stuck)
      | _ => stuck
    | _, _ => stuck)
  | .IfExp t b o _ => do
    match ← r.isTrue Γ t with
    | true => r.eval Γ b
    | false => r.eval Γ o
  | .Dict ks vs _ => (match ks, vs with
    | [], [] => do pure (.ref (← newO (.dict [] (some 0))))
    | [some k], [v] => do
      let d ← newO (.dict [] (some 0))
      let kv ← r.eval Γ k
      let vv ← r.eval Γ v
      match kv with
      | .int (.lit n) => do
        match ← getO d with
        | .dict [] _ => do
          setO d (.dict [(n, vv)] none)
          pure (.ref d)
        | _ => stuck
      | _ => stuck
    | _, _ => stuck)
  | .List es _ => do
    let vs ← evals (r.eval Γ) es
    fit vs.length
    pure (.ref (← newO (.lst vs)))
  | .Tuple es _ _ => do
    let vs ← evals (r.eval Γ) es
    fit vs.length
    pure (.ref (← newO (.tup vs)))
  | .Compare l ops es _ => do
    let v ← r.eval Γ l
    pure (.bool (← chainA G r Γ v ops es))
  | .Call f args kws pos => (match kws with
    | [] => (match f with
      | .Attribute o x apos => (match Nat.beq apos.endLine pos.line && Nat.blt args.length 30 && noStar args with
        | false => stuck
        | true => do
          baseE o
          let ov ← r.eval Γ o
          let c ← methA G ov x
          let vs ← evals (r.eval Γ) args
          callM G r Γ.hd c vs)
      | f => (match noStar args with
        | false => stuck
        | true => do
          let fv ← r.eval Γ f
          let vs ← evals (r.eval Γ) args
          calleeA G fv
          r.call Γ.hd fv vs))
    | _ => stuck)
  | .Attribute o x _ => do
    baseE o
    let v ← r.eval Γ o
    getAttrA G v x
  | .Subscript o s _ => do
    let ov ← r.eval Γ o
    match s with
    | .Slice lo hi none _ => sliceA r Γ ov lo hi
    | .Slice _ _ (some _) _ => stuck
    | s => do
      let iv ← r.eval Γ s
      itemA G ov iv
  | .ListComp elt gens scope _ => (match gens with
    | [⟨target, iter, [], 0⟩] => do
      plainE iter
      let x ← r.eval Γ iter
      let it ← listIter x
      let acc ← newO (.lst [])
      funScope scope
      noFree scope.names
      locOk scope.names scope.names
      let l ← newO (.frame [])
      noErr (r.comp ⟨scope, l, Γ.fr, [], Γ.qual, none, Γ.hd⟩ elt target it acc)
      setO l (.frame [])
      pure (.ref acc)
    | _ => stuck)
  | _ => stuck

noncomputable def isTrueA (Γ : AEnv) : Expr → AM Bool
  | .UnaryOp op e p => (match op with
    | .Not => do pure (!(← r.isTrue Γ e))
    | _ => do truthyA (← r.eval Γ (.UnaryOp op e p)))
  | .BoolOp op es _ => allTrueA r Γ op es
  | .IfExp t b o _ => do
    match ← r.isTrue Γ t with
    | true => r.isTrue Γ b
    | false => r.isTrue Γ o
  | .Compare l ops es _ => do
    let v ← r.eval Γ l
    chainA G r Γ v ops es
  | e => do truthyA (← r.eval Γ e)

inductive Swap where
  | no | bad
  | yes (x y : Str)
/-- surely not folded, and no constant alone -/
noncomputable def openE : Expr → Bool
  | .List _ _ => true
  | .BoolOp _ _ _ => true
  | .BinOp a _ _ _ => (match a with
    | .Name x _ => !strEq x "__debug__"
    | _ => false)
  | _ => false
noncomputable def nameE : Expr → Option (Str × Pos)
  | .Name x p => some (x, p)
  | _ => none
/-- two names, two values -/
noncomputable def pairForm (Γ : AEnv) (x : Str) (px : Pos) (y : Str) (py : Pos) (a b : Expr) : Swap := match kindOf Γ x, kindOf Γ y with
  | some .local, some k => (match k with
    | .local => (match Nat.beq px.line py.line && (!strEq x y && (openE a && !starE b)) with
      | true => .yes x y
      | false => .bad)
    | .cell => .no
    | _ => .bad)
  | _, _ => .bad
noncomputable def pairOf (Γ : AEnv) (t u a b : Expr) : Swap := match nameE t with
  | some p => (match nameE u with
    | some q => pairForm Γ p.1 p.2 q.1 q.2 a b
    | none => .bad)
  | none => .bad
noncomputable def pairsOf (Γ : AEnv) (ts vs : List Expr) : Swap := match ts with
  | [] => .bad
  | t :: ts => (match ts with
    | [] => .bad
    | u :: ts => (match ts with
      | [] => (match vs with
        | [] => .bad
        | a :: vs => (match vs with
          | [] => .bad
          | b :: vs => (match vs with
            | [] => pairOf Γ t u a b
            | _ :: _ => .bad)))
      | _ :: _ => .bad))
noncomputable def tupOf (Γ : AEnv) (ts : List Expr) (e : Expr) : Swap := match e with
  | .Tuple vs _ _ => pairsOf Γ ts vs
  | .Call _ _ _ _ => .no
  | .Subscript _ _ _ => .no
  | _ => .bad
/-- two names bound to two values: stored from the last to the first where both are local -/
noncomputable def swapForm (Γ : AEnv) (t e : Expr) : Swap := match t with
  | .Name _ _ => .no
  | .Attribute _ _ _ => .no
  | .Subscript _ _ _ => .no
  | .Tuple ts _ _ => tupOf Γ ts e
  | _ => .bad
/-- no comprehension whose value goes straight to a name, or to nobody -/
noncomputable def noComp : Expr → AM Unit
  | .ListComp .. => stuck
  | .SetComp .. => stuck
  | .DictComp .. => stuck
  | _ => pure ()
/-- is this an own exception's class -/
noncomputable def excCls (C : Nat) : AM Unit := match G.cls C with
  | some c => (match c.exc with
    | true => pure ()
    | false => stuck)
  | none => stuck
/-- does the exception fall under the class -/
noncomputable def matchA (i : Nat) (c : AV) : AM Bool := match c with
  | .old a => do
    match ← getO i with
    | .exc C _ _ _ => do
      excCls G C
      excCls G a
      pure (Nat.beq C a)
    | _ => stuck
  | _ => stuck

noncomputable def handleA (Γ : AEnv) (i : Nat) : List ExceptHandler → AM AFlow
  | [.ExceptHandler (some t) name body _] => do
    let Γ' := { Γ with hd := some i }
    let hit ← noErr (do matchA G i (← r.eval Γ' t))
    match hit with
    | true => do
      let f ← ownA Γ (do
        flightA i none
        match name with
        | some x => do
          storeN Γ' x (.ref i)
          noErr (execsW (r.exec Γ') body)
        | none => execsW (r.exec Γ') body)
      match name with
      | some x => do
        delN Γ x
        pure f
      | none => pure f
    | false => stuck
  | _ => stuck

noncomputable def execA (Γ : AEnv) : Stmt → AM AFlow
  | .Expr e _ => do
    noComp e
    let _ ← r.eval Γ e
    pure .next
  | .Return v _ => (match v with
    | some e => do pure (.ret (← r.eval Γ e))
    | none => pure (.ret .none))
  | .Assign ts e _ => (match ts with
    | [t] => (match swapForm Γ t e with
      | .no => do
        noComp e
        plainE t
        let v ← r.eval Γ e
        r.assign Γ t v
        pure .next
      | .yes x y => do
        noComp e
        let v ← r.eval Γ e
        let vs ← itemsT G v
        match Γ.hd, vs with
        | none, [a, b] => do
          storeN Γ y b
          storeN Γ x a
          pure .next
        | _, _ => stuck
      | .bad => stuck)
    | _ => stuck)
  | .If t b o _ => do
    match ← r.isTrue Γ t with
    | true => execsW (r.exec Γ) b
    | false => execsW (r.exec Γ) o
  | .While t b o _ => (match o with
    | [] => r.whileL Γ t b
    | _ => stuck)
  | .For t e b o _ => (match o with
    | [] => do
      plainE e
      let x ← r.eval Γ e
      let it ← iterA G x
      r.forL Γ t it b
    | _ => stuck)
  | .Raise e c _ => (match e, c with
    | some e, none => do
      let v ← r.eval Γ e
      match v with
      | .ref i => do
        match ← getO i with
        | .exc C d tb ctx => do
          excCls G C
          flightA i none
          match Γ.hd with
          | none => raiseA i
          | some h => do
            match ← getO h with
            | .exc _ _ _ true => (match Nat.beq h i with
              | true => stuck
              | false => do
                setO i (.exc C d tb false)
                raiseA i)
            | _ => stuck
        | _ => stuck
      | _ => stuck
    | _, _ => stuck)
  | .Try b hs o f _ => (match o, f with
    | [], [] => do
      match ← attemptA (execsW (r.exec Γ) b) with
      | .ok fl => pure fl
      | .error i => (match hs with
        | [] => stuck
        | _ :: _ => do
          noteA Γ.fr i
          flightA i none
          handleA G r Γ i hs)
    | _, _ => stuck)
  | _ => stuck

noncomputable def whileA (Γ : AEnv) (t : Expr) (b : List Stmt) : AM AFlow := do
  let go ← ownA Γ (do
    match ← r.isTrue Γ t with
    | true => do
      match ← execsW (r.exec Γ) b with
      | .next => pure (Sum.inl ())
      | .ret v => pure (Sum.inr (AFlow.ret v))
    | false => pure (Sum.inr AFlow.next))
  match go with
  | .inl _ => r.whileL Γ t b
  | .inr f => pure f

noncomputable def forA (Γ : AEnv) (t : Expr) (it : Nat) (b : List Stmt) : AM AFlow := do
  let go ← ownA Γ (do
    match ← nextA G Γ.hd it with
    | none => pure (Sum.inr AFlow.next)
    | some v => do
      alive it
      r.assign Γ t v
      match ← execsW (r.exec Γ) b with
      | .next => pure (Sum.inl ())
      | .ret v => pure (Sum.inr (AFlow.ret v)))
  match go with
  | .inl _ => r.forL Γ t it b
  | .inr f => pure f

noncomputable def appendA (acc : Nat) (w : AV) : AM Unit := do
  match ← getO acc with
  | .lst vs => do
    fit (vs.length + 1)
    setO acc (.lst (vs ++ [w]))
  | _ => stuck
noncomputable def compA (Γ : AEnv) (elt target : Expr) (it acc : Nat) : AM Unit := do
  let go ← (do
    match ← nextA G Γ.hd it with
    | none => pure (Sum.inr ())
    | some v => do
      alive it
      r.assign Γ target v
      let w ← r.eval Γ elt
      appendA acc w
      pure (Sum.inl ()))
  match go with
  | .inl _ => r.comp Γ elt target it acc
  | .inr _ => pure ()

noncomputable def step : Rec where
  eval := evalA G r
  isTrue := isTrueA G r
  exec := execA G r
  assign := assignA G r
  call := callA G r
  whileL := whileA r
  forL := forA G r
  comp := compA G r
end steps

noncomputable def bev (G : Glob) : Nat → Rec
  | 0 => Rec.none
  | n + 1 => step G (bev G n)

/-- the goal is laid aside while facts are taken apart: short proofs -/
theorem hideGoal {a : Prop} (h : ∀ Φ : Prop, (a → Φ) → Φ) : a := h a id
end Mine

end
section
set_option maxRecDepth 10000
namespace Mine
open PySem PySem.W PySem.Calls

/-! ## lists -/
noncomputable def A2 (R : α → β → Prop) : List α → List β → Prop
  | [], [] => True
  | a :: as, b :: bs => R a b ∧ A2 R as bs
  | _, _ => False
theorem A2.nil {R : α → β → Prop} {bs : List β} (h : A2 R [] bs) : bs = [] := by
  cases bs with
  | nil => rfl
  | cons _ _ => exact h.elim
theorem A2.cons {R : α → β → Prop} {a : α} {as : List α} {bs : List β} (h : A2 R (a :: as) bs) : ∃ b cs, bs = b :: cs ∧ R a b ∧ A2 R as cs := by
  cases bs with
  | nil => exact h.elim
  | cons b cs => exact ⟨b, cs, rfl, h⟩
theorem A2.mono {R S : α → β → Prop} (h : ∀ a b, R a b → S a b) : ∀ {as : List α} {bs : List β}, A2 R as bs → A2 S as bs
  | [], [], _ => trivial
  | _ :: _, _ :: _, ⟨x, y⟩ => ⟨h _ _ x, y.mono h⟩
theorem A2.len {R : α → β → Prop} : ∀ {as : List α} {bs : List β}, A2 R as bs → as.length = bs.length
  | [], [], _ => rfl
  | _ :: _, _ :: _, ⟨_, y⟩ => congrArg (· + 1) y.len
theorem A2.append {R : α → β → Prop} : ∀ {as cs : List α} {bs ds : List β}, A2 R as bs → A2 R cs ds → A2 R (as ++ cs) (bs ++ ds)
  | [], _, [], _, _, y => y
  | _ :: _, _, _ :: _, _, ⟨a, b⟩, y => ⟨a, b.append y⟩
theorem A2.nth {R : α → β → Prop} : ∀ {as : List α} {bs : List β} {k : Nat} {a : α}, A2 R as bs → Mine.nth as k = some a → ∃ b, bs[k]? = some b ∧ R a b
  | _ :: _, _ :: _, 0, _, ⟨x, _⟩, e => by cases e; exact ⟨_, rfl, x⟩
  | _ :: _, _ :: _, k + 1, _, ⟨_, y⟩, e => by
    obtain ⟨b, h1, h2⟩ := y.nth (k := k) e
    exact ⟨b, by simpa using h1, h2⟩
theorem A2.nthNone {R : α → β → Prop} : ∀ {as : List α} {bs : List β} {k : Nat}, A2 R as bs → Mine.nth as k = none → bs.length ≤ k
  | [], [], _, _, _ => Nat.zero_le _
  | _ :: _, _ :: _, 0, ⟨x, _⟩, e => by cases e
  | _ :: _, _ :: _, k + 1, ⟨_, y⟩, e => Nat.succ_le_succ (y.nthNone (k := k) e)
theorem nth_eq : ∀ (l : List α) (k : Nat), nth l k = l[k]?
  | [], _ => by simp [nth]
  | _ :: _, 0 => rfl
  | _ :: l, k + 1 => by simp only [nth, List.getElem?_cons_succ]; exact nth_eq l k
theorem setNth_eq (v : α) : ∀ (l : List α) (k : Nat), setNth v l k = l.set k v
  | [], _ => rfl
  | _ :: _, 0 => rfl
  | _ :: l, k + 1 => by simp only [setNth, List.set_cons_succ]; rw [setNth_eq v l k]

/-- the i-th from behind -/
noncomputable def rnth (l : List α) (i : Nat) : Option α := if i < l.length then l[l.length - 1 - i]? else none
theorem rnth_lt {l : List α} {i : Nat} {a : α} (h : rnth l i = some a) : i < l.length := by
  unfold rnth at h
  split at h
  · assumption
  · cases h
theorem rnth_ex {l : List α} {i : Nat} (h : i < l.length) : ∃ a, rnth l i = some a := by
  unfold rnth
  rw [if_pos h]
  exact ⟨_, List.getElem?_eq_getElem (by omega)⟩
theorem rnth_cons (a : α) (l : List α) : rnth (a :: l) l.length = some a := by
  unfold rnth
  rw [if_pos (by simp)]
  simp
theorem rnth_old {x : α} {l : List α} {i : Nat} (h : i < l.length) : rnth (x :: l) i = rnth l i := by
  unfold rnth
  rw [if_pos (by simp; omega), if_pos h]
  simp only [List.length_cons]
  rw [show l.length + 1 - 1 - i = (l.length - 1 - i) + 1 from by omega, List.getElem?_cons_succ]
theorem rnth_app {xs l : List α} {i : Nat} {a : α} (h : rnth l i = some a) : rnth (xs ++ l) i = some a := by
  induction xs with
  | nil => exact h
  | cons x xs ih => rw [List.cons_append, rnth_old (rnth_lt ih)]; exact ih
theorem rnth_mem {l : List α} {i : Nat} {a : α} (h : rnth l i = some a) : a ∈ l := by
  unfold rnth at h
  split at h
  · exact List.mem_of_getElem? h
  · cases h
theorem rnth_map {l : List α} {f : α → β} (i : Nat) : rnth (l.map f) i = (rnth l i).map f := by
  unfold rnth
  simp only [List.length_map]
  split
  · simp
  · rfl
theorem rnth_inj {l : List α} (hn : l.Nodup) {i j : Nat} {a : α} (hi : rnth l i = some a) (hj : rnth l j = some a) : i = j := by
  have h1 := rnth_lt hi
  have h2 := rnth_lt hj
  unfold rnth at hi hj
  rw [if_pos h1] at hi
  rw [if_pos h2] at hj
  obtain ⟨p1, q1⟩ := List.getElem?_eq_some_iff.mp hi
  obtain ⟨p2, q2⟩ := List.getElem?_eq_some_iff.mp hj
  have := (List.getElem_inj hn).mp (q1.trans q2.symm)
  omega
noncomputable def rset (l : List α) (i : Nat) (v : α) : List α := l.set (l.length - 1 - i) v
theorem rset_len (l : List α) (i : Nat) (v : α) : (rset l i v).length = l.length := by simp [rset]
set_option tactic.hygienic true in
theorem rnth_rset {l : List α} {i : Nat} (hi : i < l.length) (v : α) (j : Nat) : rnth (rset l i v) j = if j = i then some v else rnth l j := by
  unfold rnth
  rw [rset_len]
  split
  · rename_i hj
    unfold rset
    rw [List.getElem?_set]
    by_cases e : j = i
    · subst e; rw [if_pos rfl, if_pos (by omega), if_pos rfl]
    · rw [if_neg (by omega), if_neg e]
  · rename_i hj
    rw [if_neg (by omega)]

/-! ## the abstract state -/
noncomputable def St.ok (s : St) : Prop := s.n = s.l.length
theorem St.get_eq {s : St} (h : s.ok) (i : Nat) : s.get i = rnth s.l i := by
  unfold St.get rnth
  have e : Nat.blt i s.n = decide (i < s.l.length) := by
    have hh : s.n = s.l.length := h
    rw [hh]
    by_cases q : i < s.l.length
    · rw [decide_eq_true q]; exact Nat.ble_eq_true_of_le q
    · rw [decide_eq_false q]
      cases z : Nat.blt i s.l.length with
      | false => rfl
      | true => exact absurd (Nat.le_of_ble_eq_true z) q
  rw [e]
  by_cases q : i < s.l.length
  · rw [decide_eq_true q, if_pos q]
    show nth s.l (s.n - 1 - i) = _
    have hh : s.n = s.l.length := h
    rw [nth_eq, hh]
  · rw [decide_eq_false q, if_neg q]
theorem St.set_eq {s : St} (h : s.ok) (i : Nat) (o : AO) : s.set i o = ⟨s.n, rset s.l i o⟩ := by
  unfold St.set rset
  have hh : s.n = s.l.length := h
  rw [setNth_eq, hh]

theorem bind_ok {m : AM α} {f : α → AM β} {s s' : St} {a : α} (h : m s = .ok a s') : (m >>= f) s = f a s' := by
  show AM.bind m f s = _
  unfold AM.bind; rw [h]
theorem bind_err {m : AM α} {f : α → AM β} {s s' : St} {i : Nat} (h : m s = .err i s') : (m >>= f) s = .err i s' := by
  show AM.bind m f s = _
  unfold AM.bind; rw [h]
theorem bind_stuck {m : AM α} {f : α → AM β} {s : St} (h : m s = .stuck) : (m >>= f) s = .stuck := by
  show AM.bind m f s = _
  unfold AM.bind; rw [h]
theorem pure_ok (a : α) (s : St) : (pure a : AM α) s = .ok a s := rfl
theorem getO_ok {i : Nat} {s : St} {o : AO} (h : s.get i = some o) : getO i s = .ok o s := by unfold getO; rw [h]
theorem getO_none {i : Nat} {s : St} (h : s.get i = none) : getO i s = .stuck := by unfold getO; rw [h]
theorem ofO_some (a : α) (s : St) : ofO (some a) s = .ok a s := rfl

theorem natsEq_iff : ∀ (x y : List Nat), natsEq x y = true ↔ x = y
  | [], [] => by simp [natsEq]
  | [], _ :: _ => by simp [natsEq]
  | _ :: _, [] => by simp [natsEq]
  | x :: xs, y :: ys => by
    unfold natsEq
    cases h : Nat.beq x y with
    | true =>
      have := Nat.eq_of_beq_eq_true h
      subst this
      show natsEq xs ys = true ↔ _
      rw [natsEq_iff xs ys]
      simp
    | false =>
      have := Nat.ne_of_beq_eq_false h
      simp [this]
theorem str_ext {x y : Str} (h : x.cps.toList = y.cps.toList) : x = y := by
  cases x; cases y
  congr 1
  exact Array.ext' h
theorem strEq_iff (x y : Str) : strEq x y = true ↔ x = y := by
  unfold strEq
  rw [natsEq_iff]
  exact ⟨str_ext, fun h => by rw [h]⟩
theorem strEq_dec (x y : Str) : strEq x y = decide (x = y) := by
  by_cases h : x = y
  · rw [decide_eq_true h]; exact (strEq_iff x y).mpr h
  · rw [decide_eq_false h]
    cases q : strEq x y with
    | false => rfl
    | true => exact absurd ((strEq_iff x y).mp q) h
theorem strEq_beq (x y : Str) : strEq x y = (x.cps.toList == y.cps.toList) := by
  by_cases h : x = y
  · subst h; rw [(strEq_iff x x).mpr rfl]; simp
  · have : strEq x y = false := by rw [strEq_dec, decide_eq_false h]
    rw [this]
    symm
    rw [beq_eq_false_iff_ne]
    exact fun q => h (str_ext q)
theorem fget_cons (x : Str) (p : Str × α) (r : List (Str × α)) : fget x (p :: r) = if p.1 = x then some p.2 else fget x r := by
  show (match strEq p.1 x with | true => some p.2 | false => fget x r) = _
  rw [strEq_dec]
  by_cases h : p.1 = x <;> simp [h]
theorem fget_lookup (x : Str) : ∀ l : List (Str × α), fget x l = l.lookup x
  | [] => rfl
  | p :: r => by
    obtain ⟨a, b⟩ := p
    rw [fget_cons, List.lookup_cons, fget_lookup x r]
    by_cases h : a = x
    · subst h; simp
    · simp only [h, if_false]
      have : (x == a) = false := by rw [beq_eq_false_iff_ne]; exact fun q => h q.symm
      rw [this]
theorem fput_get (x : Str) (v : α) (y : Str) : ∀ l : List (Str × α), fget y (fput x v l) = if y = x then some v else fget y l
  | [] => by
    show fget y [(x, v)] = _
    rw [fget_cons]
    by_cases h : y = x
    · simp [h]
    · have : ¬ x = y := fun q => h q.symm
      simp [h, this]
  | p :: r => by
    show fget y (match strEq p.1 x with | true => (p.1, v) :: r | false => p :: fput x v r) = _
    rw [strEq_dec]
    by_cases h : p.1 = x
    · rw [decide_eq_true h]
      show fget y ((p.1, v) :: r) = _
      rw [fget_cons, fget_cons]
      by_cases q : y = x
      · subst q; simp [h]
      · have : ¬ p.1 = y := fun e => q (e.symm.trans h)
        simp [q, this]
    · rw [decide_eq_false h]
      show fget y (p :: fput x v r) = _
      rw [fget_cons, fget_cons, fput_get x v y r]
      by_cases q : p.1 = y
      · subst q; simp [h]
      · simp [q]

/-! ## what an abstract value means -/
noncomputable def tagOf : AO → Nat
  | .tup _ => 0 | .lst _ => 1 | .dict .. => 2 | .vals _ => 3 | .inst .. => 4 | .idict _ => 5 | .frame _ => 6 | .cell _ => 7 | .barr _ => 8
  | .rng .. => 9 | .exc .. => 10 | .tb _ => 11 | .fn .. => 12 | .it _ => 13 | .tab _ => 14 | .code _ => 15

/-- the ghosts: the address of each abstract object, its kind, the code records -/
structure Gh where
  as : List Addr
  tg : List Nat
  cs : List (Addr × Str)
noncomputable def Gh.adr (g : Gh) (i : Nat) : Option Addr := rnth g.as i
structure Gh.le (g g' : Gh) : Prop where
  as : ∃ xs, g'.as = xs ++ g.as
  tg : ∃ xs, g'.tg = xs ++ g.tg
  cs : ∀ p ∈ g.cs, p ∈ g'.cs
theorem Gh.le.refl (g : Gh) : g.le g := ⟨⟨[], rfl⟩, ⟨[], rfl⟩, fun _ h => h⟩
theorem Gh.le.trans {a b c : Gh} (x : a.le b) (y : b.le c) : a.le c := by
  refine hideGoal fun Φ hΦ => ?_
  obtain ⟨⟨x1, e1⟩, ⟨x2, e2⟩, x3⟩ := x
  refine hΦ ?_
  clear hΦ Φ
  refine hideGoal fun Φ hΦ => ?_
  obtain ⟨⟨y1, f1⟩, ⟨y2, f2⟩, y3⟩ := y
  refine hΦ ?_
  clear hΦ Φ
  exact ⟨⟨y1 ++ x1, by rw [f1, e1, List.append_assoc]⟩, ⟨y2 ++ x2, by rw [f2, e2, List.append_assoc]⟩, fun p h => y3 p (x3 p h)⟩
theorem Gh.le.adr {g g' : Gh} (x : g.le g') {i : Nat} {a : Addr} (h : g.adr i = some a) : g'.adr i = some a := by
  refine hideGoal fun Φ hΦ => ?_
  obtain ⟨⟨xs, e⟩, _, _⟩ := x
  refine hΦ ?_
  clear hΦ Φ
  unfold Gh.adr
  rw [e]; exact rnth_app h
theorem Gh.le.tag {g g' : Gh} (x : g.le g') {i : Nat} {t : Nat} (h : rnth g.tg i = some t) : rnth g'.tg i = some t := by
  refine hideGoal fun Φ hΦ => ?_
  obtain ⟨_, ⟨xs, e⟩, _⟩ := x
  refine hΦ ?_
  clear hΦ Φ
  rw [e]; exact rnth_app h

noncomputable def SI.val (ρ : Nat → Int) : SI → Int
  | .lit n => n
  | .var i => ρ i
noncomputable def BI.val : BI → Value
  | .len => .builtin "len" | .range => .type "range" | .bytes => .type "bytes" | .bytearray => .type "bytearray"
  | .isinstance => .builtin "isinstance" | .str => .type "str" | .int => .type "int" | .exception => .type "Exception"
noncomputable def Small (n : Int) : Prop := -4611686018427387904 < n ∧ n < 4611686018427387904
theorem small_iff {n : Int} : small n = true ↔ Small n := by
  unfold small Small
  rw [Bool.and_eq_true, decide_eq_true_eq, decide_eq_true_eq]
noncomputable def octs (b : Array UInt8) : List Int := b.toList.map fun u => (u.toNat : Int)

section
variable (ρ : Nat → Int) (g : Gh)
noncomputable def VR : AV → Value → Prop
  | .none, v => v = .none
  | .bool b, v => v = .bool b
  | .int e, v => ∃ t, v = .int (e.val ρ) t ∧ Small (e.val ρ)
  | .str x, v => ∃ t, v = .str x t
  | .strU n, v => ∃ y t, v = .str y t ∧ y.length ≤ n
  | .bytes l, v => ∃ b t, v = .bytes b t ∧ octs b = l.map (SI.val ρ)
  | .ref i, v => ∃ a, g.adr i = some a ∧ v = .ref a
  | .old a, v => v = .ref a
  | .bi b, v => v = b.val
noncomputable def OptR : Option AV → Option Value → Prop
  | some a, some v => VR ρ g a v
  | none, none => True
  | _, _ => False
end
theorem VR.mono {ρ : Nat → Int} {g g' : Gh} (x : g.le g') {a : AV} {v : Value} (h : VR ρ g a v) : VR ρ g' a v := by
  cases a with
  | ref i => obtain ⟨b, h1, h2⟩ := h; exact ⟨b, x.adr h1, h2⟩
  | _ => exact h
theorem OptR.mono {ρ : Nat → Int} {g g' : Gh} (x : g.le g') {a : Option AV} {v : Option Value} (h : OptR ρ g a v) : OptR ρ g' a v := by
  rcases a with ⟨⟩ <;> rcases v with ⟨⟩ <;> first | exact h | exact VR.mono x h

/-- a dict that is kept entry by entry -/
noncomputable def ER (w : World) (ρ : Nat → Int) (g : Gh) (p : Str × AV) (e : DictEntry) : Prop := (∃ t, e.key = .str p.1 t) ∧ e.hash = PyData.keyHash w.params p.1 ∧ VR ρ g p.2 e.val
noncomputable def CellR (g : Gh) (p : Str × Nat) (q : Str × Addr) : Prop := q.1 = p.1 ∧ g.adr p.2 = some q.2
noncomputable def seqRef (ρ : Nat → Int) (g : Gh) (v : AV) (a : Addr) : Prop := VR ρ g v (.ref a)

section
variable (prog : Program) (w : World) (ρ : Nat → Int) (g : Gh)
noncomputable def OR : AO → Obj → Prop
  | .tup vs, ob => ob.cls = .type "tuple" ∧ ∃ ws n, ob.data = .seq ws n ∧ A2 (VR ρ g) vs ws.toList
  | .lst vs, ob => ob.cls = .type "list" ∧ ∃ ws n, ob.data = .seq ws n ∧ A2 (VR ρ g) vs ws.toList ∧ ob.dict = none ∧ ob.slots = #[]
  | .dict es e, ob => ob.ExactDict ∧ ∃ ds ep kvs, ob.data = .dict ds ep ∧ (∀ k, e = some k → ep = k) ∧ KeysOf (intKind prog w) ds ∧ Pairs (intKind prog w) ds.toList kvs ∧ (kvs.map (·.1)).Nodup ∧ A2 (fun (p : Int × AV) (q : Int × Value) => p.1 = q.1 ∧ Small p.1 ∧ VR ρ g p.2 q.2) es kvs
  | .vals d, ob => ∃ a, g.adr d = some a ∧ ob.cls = .type "dict_values" ∧ ob.data = .fields #[.ref a]
  | .inst C d, ob => ∃ a, g.adr d = some a ∧ ob.cls = .ref C ∧ ob.dict = some a ∧ (∀ c, ob.data ≠ .cls c) ∧ ob.isFreed = false
  | .idict m, ob => ∃ es ep, ob.data = .dict es ep ∧ StrKeys es ∧ UniqKeys es ∧ ∀ y, OptR ρ g (fget y m) (nsFind es y)
  | .frame m, ob => ∃ es ep, ob.data = .dict es ep ∧ StrKeys es ∧ ∀ x a, fget x m = some a → ∃ v, nsFind es x = some v ∧ VR ρ g a v
  | .cell v, ob => ∃ v', ob.data = .cell v' ∧ OptR ρ g v v'
  | .barr l, ob => ob.cls = .type "bytearray" ∧ ob.dict = none ∧ ∃ b, ob.data = .bytearray b 0 ∧ octs b = l.map (SI.val ρ)
  | .rng a b c, ob => ∃ t u v, ob = { cls := .type "range", dict := none, data := .fields #[.int a t, .int b u, .int c v], slots := #[] }
  | .exc C d tb ctx, ob => ∃ vs, ob.cls = .ref C ∧ (match d with | none => ob.dict = none | some d => ∃ dx, g.adr d = some dx ∧ ob.dict = some dx) ∧ ob.data = .fields vs ∧ 4 < vs.size ∧
      (match tb with | none => vs[1]? = some .none | some t => ∃ T, g.adr t = some T ∧ vs[1]? = some (.ref T)) ∧ (ctx = true → vs[2]? = some .none)
  | .tb fl, ob => ∃ vs, ob.data = .fields vs ∧ 3 < vs.size ∧ (match fl with | none => vs[3]? = some .none | some f => ∃ L, g.adr f = some L ∧ vs[3]? = some (rawInt L))
  | .fn body scope cells qual, ob => ∃ name q pm c ctv clos params, ob = kla_obj name q params body scope clos pm c ctv ∧ (c, q) ∈ g.cs ∧ A2 (CellR g) cells clos ∧ params = ⟨[], [], none, [], [], none, []⟩
  | .it k, ob => match k with
    | .seq v i => ∃ a, VR ρ g v (.ref a) ∧ (ob.cls = .type "tuple_iterator" ∨ ob.cls = .type "list_iterator") ∧ ((∀ j, v = .ref j → rnth g.tg j = some (if ob.cls = .type "tuple_iterator" then 0 else 1)) ∧ (∀ b, v = .old b → ob.cls = .type "tuple_iterator")) ∧ ob.data = .fields #[.ref a, .int i 0]
    | .byt l => ∃ b t i, ob.cls = .type "bytes_iterator" ∧ ob.data = .fields #[.bytes b t, .int (i : Nat) 0] ∧ (octs b).drop i = l.map (SI.val ρ)
    | .rng c s n => ob = { cls := .type "range_iterator", dict := none, data := .fields #[rawInt c, rawInt n, rawInt s], slots := #[] }
    | .keys d i n ep => ∃ a, g.adr d = some a ∧ ob.cls = .type "dict_keyiterator" ∧ ob.data = .fields #[.ref a, .int (i : Nat) 0, .int (n : Nat) 0, .int (ep : Nat) 0]
    | .dead => ob.isFreed = false
  | .tab q, ob => ∃ ps, ob = tabObj ps ∧ TriplesOk ps.toList ∧ ∀ pos cv, codeAmong pos ps.toList = some cv → ∃ c, cv = .ref c ∧ (c, q ++ "<lambda>") ∈ g.cs
  | .code _, _ => False
end
end Mine

end
section
namespace Mine
open PySem PySem.W
open Sem (wp)

/-- the codes that hold a buffer by their first argument -/
noncomputable def badIds : List String := ["bytearray.__contains__", "bytearray.__mod__", "bytearray.__rmod__", "_struct.pack_into.held", "bytearray.find.held"] ++ Builtin.Bytes.decodersThatHold
noncomputable def badCode : Code → Bool
  | .builtin id _ => badIds.contains id
  | _ => false
noncomputable def Clean (Γ : Ctx) : Prop := badCode Γ.code = false ∧ ∀ x ∈ Γ.below, badCode x.1 = false

/-- as wpAny, above stacks on which nothing holds a buffer -/
noncomputable def wpS {α : Type} (M : Model) (A : Around) (t : Sem α) (Q : α → Shared → Prop) (E : Value → Shared → Prop) (s : Shared) : Prop :=
  ∀ Γ p, Γ.In A → Clean Γ → wp M Γ t (fun a _ s' => Q a s') (fun e _ s' => E e s') p s
noncomputable def codeS (M : Model) (A : Around) (c : Code) (R : Result → Shared → Prop) (s : Shared) : Prop :=
  ∀ Γ p, Γ.code = c → Γ.Below A → (∀ x ∈ Γ.below, badCode x.1 = false) → wpCode M Γ R p s

section
variable {α β : Type} {M : Model} {A : Around} {E : Value → Shared → Prop} {s : Shared}
theorem wpS.of {t : Sem α} {Q : α → Shared → Prop} (h : wpAny M A t Q E s) : wpS M A t Q E s := fun Γ p hΓ _ => h Γ p hΓ
theorem codeS.of {c : Code} {R : Result → Shared → Prop} (h : codeAny M A c R s) : codeS M A c R s := fun Γ p hc hΓ _ => h Γ p hc hΓ
theorem wpS_pure {a : α} {Q : α → Shared → Prop} (h : Q a s) : wpS M A (pure a) Q E s := .of (wpAny_pure h)
theorem wpS_throw {e : Value} {Q : α → Shared → Prop} (h : E e s) : wpS M A (throw e : Sem α) Q E s := .of (wpAny_throw h)
theorem wpS_mono {t : Sem α} {Q Q' : α → Shared → Prop} {E' : Value → Shared → Prop} (h : wpS M A t Q E s) (hQ : ∀ a s, Q a s → Q' a s) (hE : ∀ e s, E e s → E' e s) : wpS M A t Q' E' s :=
  fun Γ p hΓ hk => Sem.wp_mono M Γ t (fun a _ s => hQ a s) (fun e _ s => hE e s) p s (h Γ p hΓ hk)
theorem wpS_bind {m : Sem α} {f : α → Sem β} {Q : β → Shared → Prop} (h : wpS M A m (fun a s' => wpS M A (f a) Q E s') E s) : wpS M A (m >>= f) Q E s := fun Γ p hΓ hk => by
  rw [Sem.wp_bind']
  exact Sem.wp_mono M Γ m (fun a p' s' h' => h' Γ p' hΓ hk) (fun _ _ _ h' => h') p s (h Γ p hΓ hk)
theorem wpS_tryCatch {m : Sem α} {k : Value → Sem α} {Q : α → Shared → Prop} (h : wpS M A m Q (fun e s' => wpS M A (k e) Q E s') s) : wpS M A (tryCatch m k) Q E s := fun Γ p hΓ hk => by
  rw [Sem.wp_tryCatch']
  exact Sem.wp_mono M Γ m (fun _ _ _ h' => h') (fun e p' s' h' => h' Γ p' hΓ hk) p s (h Γ p hΓ hk)
theorem wpS_onRaise {m : Sem α} {k : Value → Sem Unit} {Q : α → Shared → Prop} (h : wpS M A m Q (fun e s' => wpS M A (k e) (fun _ s'' => E e s'') E s') s) : wpS M A (m.onRaise k) Q E s := fun Γ p hΓ hk => by
  rw [Sem.wp_onRaise]
  exact Sem.wp_mono M Γ m (fun _ _ _ h' => h') (fun e p' s' h' => h' Γ p' hΓ hk) p s (h Γ p hΓ hk)
theorem wpS_attempt {m : Sem α} {Q : Except Value α → Shared → Prop} (h : wpS M A m (fun a => Q (.ok a)) (fun e => Q (.error e)) s) : wpS M A m.attempt Q E s := fun Γ p hΓ hk => by rw [Sem.wp_attempt]; exact h Γ p hΓ hk
theorem wpS_holding {vs : List Value} {m : Sem α} {Q : α → Shared → Prop} (h : wpS M A m Q E s) : wpS M A (holding vs m) Q E s := fun Γ p hΓ hk => by rw [Sem.wp_holding]; exact h Γ p hΓ hk
theorem wpS_keep {vs : List Value} {m : Sem α} {Q : α → Shared → Prop} (h : wpS M A m Q E s) : wpS M A (m.keep vs) Q E s := fun Γ p hΓ hk => by rw [Sem.wp_keep]; exact h Γ p hΓ hk
theorem codeS_mono {c : Code} {R R' : Result → Shared → Prop} (h : codeS M A c R s) (hR : ∀ r s, R r s → R' r s) : codeS M A c R' s := fun Γ p hc hΓ hk => wpCode_mono hR (h Γ p hc hΓ hk)
theorem clean_enter {Γ : Ctx} (h : Clean Γ) (c : Code) (hd : Option Value) (p : Pos) : ∀ x ∈ (Γ.enter c hd p).below, badCode x.1 = false := by
  intro x hx
  rcases List.mem_cons.mp hx with rfl | hx
  · exact h.1
  · exact h.2 x hx
theorem wpS_run {c : Code} {h : Option Value} {Q : Flow → Shared → Prop}
    (hc : codeS M (A.mark h) c (fun r s' => match r with | .ok f => Q f s' | .error e => E e s') s) (hnb : h ≠ some byPass := by intro x; cases x) : wpS M A (run c h) Q E s :=
  fun Γ p hΓ hk => by rw [Sem.wp_run]; exact hc _ p rfl (hΓ.enter c h p hnb) (clean_enter hk _ _ _)
theorem wpS_runValue {c : Code} {Q : Value → Shared → Prop}
    (hc : codeS M A c (fun r s' => match r with | .ok (.ret v) => Q v s' | .ok _ => False | .error e => E e s') s) : wpS M A (runValue c) Q E s :=
  fun Γ p hΓ hk => by rw [Sem.wp_runValue]; exact hc _ p rfl (hΓ.enter c none p (by intro x; cases x)) (clean_enter hk _ _ _)
theorem wpS_call {f : Value} {pos : List Value} {kw : List (Str × Value)} {Q : Value → Shared → Prop}
    (hc : codeS M A (.call f ⟨pos, kw⟩) (fun r s' => match r with | .ok (.ret v) => Q v s' | .ok _ => False | .error e => E e s') s) : wpS M A (call f pos kw) Q E s := wpS_runValue hc
theorem codeS_of_tree {c : Code} {R : Result → Shared → Prop} (hb : badCode c = false)
    (h : wpS M (A.under c) (M.den c) (fun fin s' => match fin with | .done f => R (.ok f) s' | .again c' => c'.quiet = true ∧ codeS M A c' R s')
      (fun e s' => R (.error e) s') s) : codeS M A c R s := fun Γ p hc hΓ hk => by
  rw [wpCode_iff_wp, hc]
  refine Sem.wp_mono M Γ _ (fun fin p' s' h' => ?_) (fun _ _ _ h' => h') p s (h Γ p (hc ▸ hΓ.in) ⟨hc ▸ hb, hk⟩)
  cases fin with
  | done f => exact h'
  | again c' => exact ⟨h'.1, h'.2 (Γ.goto c') p' rfl (hΓ.goto c') hk⟩
theorem wpS_ite {c : Prop} [Decidable c] {a b : Sem α} {Q : α → Shared → Prop} (ha : c → wpS M A a Q E s) (hb : ¬ c → wpS M A b Q E s) : wpS M A (if c then a else b) Q E s := by
  split
  · exact ha ‹_›
  · exact hb ‹_›
theorem wpS_ifN {c : Prop} [Decidable c] {a b : Sem α} {Q : α → Shared → Prop} (h : ¬ c) (k : wpS M A b Q E s) : wpS M A (if c then a else b) Q E s := by rw [if_neg h]; exact k
theorem wpS_ifP {c : Prop} [Decidable c] {a b : Sem α} {Q : α → Shared → Prop} (h : c) (k : wpS M A a Q E s) : wpS M A (if c then a else b) Q E s := by rw [if_pos h]; exact k
theorem wpA_ifN {c : Prop} [Decidable c] {a b : Sem α} {Q : α → Shared → Prop} (h : ¬ c) (k : wpAny M A b Q E s) : wpAny M A (if c then a else b) Q E s := by rw [if_neg h]; exact k
theorem wpA_ifP {c : Prop} [Decidable c] {a b : Sem α} {Q : α → Shared → Prop} (h : c) (k : wpAny M A a Q E s) : wpAny M A (if c then a else b) Q E s := by rw [if_pos h]; exact k
theorem wpS_standAt {pos : Pos} {Q : Unit → Shared → Prop} (h : Q () s) : wpS M A (standAt pos) Q E s := .of (wpAny_standAt h)
theorem wpS_of_in1 {t : Sem α} {Q : α → Shared → Prop} (h : wpS M A.in1 t Q E s) : wpS M A t Q E s :=
  fun Γ p hΓ hk => h Γ p ⟨hΓ.1, hΓ.2.1, hΓ.2.2.1, hΓ.2.2.2.1, Nat.le_succ_of_le hΓ.2.2.2.2⟩ hk

theorem sameRef_any {self : Value} {l : List (Code × Pos)} (h : ∀ x ∈ l, badCode x.1 = false) {f : Code × Pos → Bool} (hf : ∀ c p, badCode c = false → f (c, p) = false) : l.any f = false := by
  rw [List.any_eq_false]
  intro x hx
  rw [hf x.1 x.2 (h x hx)]; exact Bool.false_ne_true
set_option tactic.hygienic true in
theorem wpS_exported {self : Value} {Q : Bool → Shared → Prop} (h : Q false s) : wpS M A (Builtin.Bytes.exported self) Q E s := fun Γ p hΓ hk => by
  unfold Builtin.Bytes.exported
  show Q (((Γ.code, p) :: Γ.below).any _) s
  rw [sameRef_any (self := self) (l := (Γ.code, p) :: Γ.below) ?_ ?_]
  · exact h
  · intro x hx
    rcases List.mem_cons.mp hx with rfl | hx
    · exact hk.1
    · exact hk.2 x hx
  · intro c p' hb
    cases c with
    | builtin id args =>
      have ne : ∀ x, badIds.contains x = true → ¬ id = x := fun x hx q => by subst q; exact absurd (hb.symm.trans hx) (by decide)
      have hd : Builtin.Bytes.decodersThatHold.contains id = false := by
        simp only [badCode, badIds, List.contains_append, Bool.or_eq_false_iff] at hb
        exact hb.2
      have n1 := ne "bytearray.__contains__" (by decide)
      have n2 := ne "bytearray.__mod__" (by decide)
      have n3 := ne "bytearray.__rmod__" (by decide)
      have n4 := ne "_struct.pack_into.held" (by decide)
      have n5 := ne "bytearray.find.held" (by decide)
      obtain ⟨pos, kw⟩ := args
      cases pos with
      | nil =>
        delta Builtin.Bytes.exported.match_1
        refine (dif_neg n1).trans ?_
        refine (dif_neg n2).trans ?_
        refine (dif_neg n3).trans ?_
        refine (dif_neg n4).trans ?_
        exact dif_neg n5
      | cons v l =>
        delta Builtin.Bytes.exported.match_1
        refine (dif_neg n1).trans ?_
        refine (dif_neg n2).trans ?_
        refine (dif_neg n3).trans ?_
        refine (dif_neg n4).trans ?_
        refine (dif_neg n5).trans ?_
        show (Builtin.Bytes.sameRef v self && Builtin.Bytes.decodersThatHold.contains id) = false
        rw [hd, Bool.and_false]
    | _ => rfl
end
end Mine

end
section
set_option maxRecDepth 10000
namespace Mine
open PySem PySem.W PySem.Calls

/-- what stays throughout -/
structure Par where
  prog : Program
  w : World
  h₀ : Heap
  ρ : Nat → Int
  gens : Array GenState
  drawn : Drawn
  os : OsState
  tabs : List (Nat × Addr)

theorem A2.monoR {R S : α → β → Prop} {as : List α} {bs : List β} (x : A2 R as bs) (h : ∀ a b, R a b → S a b) : A2 S as bs := x.mono h

theorem OR.mono {prog : Program} {w : World} {ρ : Nat → Int} {g g' : Gh} (x : g.le g') {o : AO} {ob : Obj} (h : OR prog w ρ g o ob) : OR prog w ρ g' o ob := by
  have vm : ∀ (a : AV) (v : Value), VR ρ g a v → VR ρ g' a v := fun a v => VR.mono x
  cases o with
  | tup vs => obtain ⟨h1, ws, n, h2, h3⟩ := h; exact ⟨h1, ws, n, h2, h3.mono vm⟩
  | lst vs => obtain ⟨h1, ws, n, h2, h3, h4⟩ := h; exact ⟨h1, ws, n, h2, h3.mono vm, h4⟩
  | dict es e => obtain ⟨h1, ds, ep, kvs, h2, h0, h3, h4, h5, h6⟩ := h; exact ⟨h1, ds, ep, kvs, h2, h0, h3, h4, h5, h6.mono fun p q z => ⟨z.1, z.2.1, vm _ _ z.2.2⟩⟩
  | vals d => obtain ⟨a, h1, h2⟩ := h; exact ⟨a, x.adr h1, h2⟩
  | inst C d => obtain ⟨a, h1, h2⟩ := h; exact ⟨a, x.adr h1, h2⟩
  | idict m => obtain ⟨es, ep, h1, h2, h3, h4⟩ := h; exact ⟨es, ep, h1, h2, h3, fun y => (h4 y).mono x⟩
  | frame m => obtain ⟨es, ep, h1, h2, h3⟩ := h; exact ⟨es, ep, h1, h2, fun y a e => let ⟨v, k1, k2⟩ := h3 y a e; ⟨v, k1, vm _ _ k2⟩⟩
  | cell v => obtain ⟨v', h1, h2⟩ := h; exact ⟨v', h1, OptR.mono x h2⟩
  | barr l => exact h
  | rng a b c => exact h
  | exc C d tb ctx =>
    refine hideGoal fun Φ hΦ => ?_
    obtain ⟨vs, h1, h2, h4, h5, h6, h7⟩ := h
    refine hΦ ?_
    clear hΦ Φ
    refine ⟨vs, h1, ?_, h4, h5, ?_, h7⟩
    · cases d with
      | none => exact h2
      | some d => obtain ⟨dx, k1, k2⟩ := h2; exact ⟨dx, x.adr k1, k2⟩
    cases tb with
    | none => exact h6
    | some t => obtain ⟨T, k1, k2⟩ := h6; exact ⟨T, x.adr k1, k2⟩
  | tb fl =>
    refine hideGoal fun Φ hΦ => ?_
    obtain ⟨vs, h1, h2, h3⟩ := h
    refine hΦ ?_
    clear hΦ Φ
    refine ⟨vs, h1, h2, ?_⟩
    cases fl with
    | none => exact h3
    | some f => obtain ⟨L, k1, k2⟩ := h3; exact ⟨L, x.adr k1, k2⟩
  | fn body scope cells qual =>
    refine hideGoal fun Φ hΦ => ?_
    obtain ⟨name, q, pm, c, ctv, clos, params, h1, h2, h3, h4⟩ := h
    refine hΦ ?_
    clear hΦ Φ
    exact ⟨name, q, pm, c, ctv, clos, params, h1, x.cs _ h2, h3.mono fun p q z => ⟨z.1, x.adr z.2⟩, h4⟩
  | it k =>
    cases k with
    | seq v i => obtain ⟨a, h1, h2, h3, h4⟩ := h; exact ⟨a, vm _ _ h1, h2, ⟨fun j e => x.tag (h3.1 j e), h3.2⟩, h4⟩
    | dead => exact h
    | byt l => exact h
    | rng c s n => exact h
    | keys d i n ep => obtain ⟨a, h1, h2⟩ := h; exact ⟨a, x.adr h1, h2⟩
  | tab q => obtain ⟨ps, h1, h2, h3⟩ := h; exact ⟨ps, h1, h2, fun pos cv e => let ⟨c, k1, k2⟩ := h3 pos cv e; ⟨c, k1, x.cs _ k2⟩⟩
  | code q => exact h

theorem OR.free {prog : Program} {w : World} {ρ : Nat → Int} {g : Gh} {o : AO} {ob : Obj} (h : OR prog w ρ g o ob) : ob.isFreed = false := by
  have key : ∀ d, ob.data = d → d ≠ .freed → ob.isFreed = false := by
    intro d e hd
    refine hideGoal fun Φ hΦ => ?_
    obtain ⟨c, dd, dt, sl⟩ := ob
    refine hΦ ?_
    clear hΦ Φ
    rcases dt with ⟨⟩ <;> first | rfl | (exact absurd e.symm (by intro q; exact hd q))
  cases o with
  | tup vs => obtain ⟨_, _, _, h2, _⟩ := h; exact key _ h2 (by intro q; cases q)
  | lst vs => obtain ⟨_, _, _, h2, _⟩ := h; exact key _ h2 (by intro q; cases q)
  | dict es e => obtain ⟨_, _, _, _, h2, _⟩ := h; exact key _ h2 (by intro q; cases q)
  | vals d => obtain ⟨_, _, _, h2⟩ := h; exact key _ h2 (by intro q; cases q)
  | inst C d => obtain ⟨_, _, _, _, _, h2⟩ := h; exact h2
  | idict m => obtain ⟨_, _, h2, _⟩ := h; exact key _ h2 (by intro q; cases q)
  | frame m => obtain ⟨_, _, h2, _⟩ := h; exact key _ h2 (by intro q; cases q)
  | cell v => obtain ⟨_, h2, _⟩ := h; exact key _ h2 (by intro q; cases q)
  | barr l => obtain ⟨_, _, _, h2, _⟩ := h; exact key _ h2 (by intro q; cases q)
  | rng a b c => obtain ⟨_, _, _, h2⟩ := h; subst h2; rfl
  | exc C d tb ctx => obtain ⟨_, _, _, h2, _⟩ := h; exact key _ h2 (by intro q; cases q)
  | tb fl => obtain ⟨_, h2, _⟩ := h; exact key _ h2 (by intro q; cases q)
  | fn body scope cells qual => obtain ⟨_, _, _, _, _, _, _, h2, _⟩ := h; subst h2; rfl
  | it k =>
    cases k with
    | seq v i => obtain ⟨_, _, _, _, h2⟩ := h; exact key _ h2 (by intro q; cases q)
    | dead => exact h
    | byt l => obtain ⟨_, _, _, _, h2, _⟩ := h; exact key _ h2 (by intro q; cases q)
    | rng c s n => subst h; rfl
    | keys d i n ep => obtain ⟨_, _, _, h2⟩ := h; exact key _ h2 (by intro q; cases q)
  | tab q => obtain ⟨_, h2, _⟩ := h; subst h2; rfl
  | code q => exact h.elim

theorem set_same : ∀ {l : List α} {k : Nat} {x : α}, l[k]? = some x → l.set k x = l
  | [], _, _, e => rfl
  | y :: l, 0, x, e => by cases e; rfl
  | y :: l, k + 1, x, e => by
    rw [List.set_cons_succ, set_same (l := l)]
    simpa using e

/-- the heap bears the abstract state -/
structure Rep (P : Par) (g : Gh) (st : St) (h : Heap) : Prop where
  ok : st.ok
  na : g.as.length = st.l.length
  tg : g.tg = st.l.map tagOf
  keep : ∀ b o, P.h₀.get? b = some o → h.get? b = some o
  fresh : ∀ a ∈ g.as, P.h₀.get? a = none
  nodup : g.as.Nodup
  tabs : ∀ p ∈ P.tabs, g.adr p.1 = some p.2
  cds : ∀ p ∈ g.cs, h.CodeRec (.ref p.1) p.2 ∧ p.1 ∉ g.as
  obj : ∀ i o, rnth st.l i = some o → ∃ a ob, g.adr i = some a ∧ h.get? a = some ob ∧ OR P.prog P.w P.ρ g o ob

noncomputable def RepS (P : Par) (g : Gh) (st : St) (s : Shared) : Prop := Rep P g st s.heap ∧ s.gens = P.gens ∧ s.drawn = P.drawn ∧ s.os = P.os

section
variable {P : Par} {g : Gh} {st : St} {h h' : Heap}
theorem Rep.at (R : Rep P g st h) {i : Nat} {o : AO} (e : st.get i = some o) : ∃ a ob, g.adr i = some a ∧ h.get? a = some ob ∧ OR P.prog P.w P.ρ g o ob :=
  R.obj i o (by rw [← St.get_eq R.ok]; exact e)
theorem Rep.atA (R : Rep P g st h) {i : Nat} {o : AO} {a : Addr} (ha : g.adr i = some a) (e : st.get i = some o) : ∃ ob, h.get? a = some ob ∧ OR P.prog P.w P.ρ g o ob := by
  refine hideGoal fun Φ hΦ => ?_
  obtain ⟨a', ob, h1, h2⟩ := R.at e
  refine hΦ ?_
  clear hΦ Φ
  cases h1.symm.trans ha
  exact ⟨ob, h2⟩
theorem Rep.tag (R : Rep P g st h) {i : Nat} {o : AO} (e : st.get i = some o) : rnth g.tg i = some (tagOf o) := by
  rw [R.tg, rnth_map, ← St.get_eq R.ok, e]; rfl
theorem Rep.ofTag (R : Rep P g st h) {i t : Nat} (e : rnth g.tg i = some t) : ∃ o, st.get i = some o ∧ tagOf o = t := by
  rw [R.tg, rnth_map] at e
  rw [St.get_eq R.ok]
  cases q : rnth st.l i with
  | none => rw [q] at e; cases e
  | some o => rw [q] at e; exact ⟨o, rfl, Option.some.inj e⟩
theorem Rep.ltSize (R : Rep P g st h) {a : Addr} (e : a ∈ g.as) : a < h.objs.size := by
  obtain ⟨k, hk, he⟩ := List.getElem_of_mem e
  have hi : g.adr (g.as.length - 1 - k) = some a := by
    unfold Gh.adr rnth
    rw [if_pos (by omega), show g.as.length - 1 - (g.as.length - 1 - k) = k from by omega]
    rw [List.getElem?_eq_getElem hk, he]
  obtain ⟨o, ho⟩ := rnth_ex (l := st.l) (i := g.as.length - 1 - k) (by rw [← R.na]; omega)
  refine hideGoal fun Φ hΦ => ?_
  obtain ⟨a', ob, h1, h2, _⟩ := R.obj _ _ ho
  refine hΦ ?_
  clear hΦ Φ
  rw [hi] at h1
  cases h1
  exact Heap.lt_size h2

/-- the heap grows by what nobody names -/
theorem Rep.grow (R : Rep P g st h) (k : ∀ b o, h.get? b = some o → h'.get? b = some o) : Rep P g st h' :=
  ⟨R.ok, R.na, R.tg, fun b o e => k _ _ (R.keep b o e), R.fresh, R.nodup, R.tabs, fun p hp => ⟨let ⟨c, o, vs, t, a, b, d⟩ := (R.cds p hp).1; ⟨c, o, vs, t, a, k _ _ b, d⟩, (R.cds p hp).2⟩,
   fun i o e => let ⟨a, ob, h1, h2, h3⟩ := R.obj i o e; ⟨a, ob, h1, k _ _ h2, h3⟩⟩
set_option tactic.hygienic true in
/-- one object of ours is turned -/
theorem Rep.set (R : Rep P g st h) {i : Nat} {o o' : AO} {a : Addr} {ob' : Obj} (e : st.get i = some o) (ha : g.adr i = some a) (hs : Heap.ExtBut a h h') (hb : h'.get? a = some ob')
    (hO : OR P.prog P.w P.ρ g o' ob') (ht : tagOf o' = tagOf o) : Rep P g (st.set i o') h' := by
  have hi : i < st.l.length := by rw [St.get_eq R.ok] at e; exact rnth_lt e
  rw [St.set_eq R.ok]
  refine ⟨by show st.n = _; rw [rset_len]; exact R.ok, by rw [rset_len]; exact R.na, ?_, ?_, R.fresh, R.nodup, R.tabs, ?_, ?_⟩
  · rw [R.tg]
    show st.l.map tagOf = (rset st.l i o').map tagOf
    unfold rset
    rw [List.map_set]
    symm
    apply set_same
    rw [St.get_eq R.ok] at e
    unfold rnth at e
    rw [if_pos hi] at e
    rw [List.getElem?_map, e, ht]
    rfl
  · intro b ob q
    exact hs b ob (fun z => by subst z; rw [R.fresh _ (rnth_mem ha)] at q; cases q) (R.keep b ob q)
  · intro p hp
    refine hideGoal fun Φ hΦ => ?_
    obtain ⟨⟨c, oc, vs, t, e1, e2, e3⟩, hn⟩ := R.cds p hp
    refine hΦ ?_
    clear hΦ Φ
    refine ⟨⟨c, oc, vs, t, e1, hs _ _ (fun z => hn ?_) e2, e3⟩, hn⟩
    cases e1
    rw [z]; exact rnth_mem ha
  · intro j oj q
    show ∃ a ob, _
    rw [rnth_rset hi] at q
    split at q
    · rename_i ej
      subst ej
      cases q
      exact ⟨a, ob', ha, hb, hO⟩
    · rename_i ej
      refine hideGoal fun Φ hΦ => ?_
      obtain ⟨b, ob, h1, h2, h3⟩ := R.obj j oj q
      refine hΦ ?_
      clear hΦ Φ
      exact ⟨b, ob, h1, hs _ _ (fun z => ej (rnth_inj R.nodup (by rw [z] at h1; exact h1) ha)) h2, h3⟩

/-- the ghosts with one object more -/
noncomputable def Gh.push (g : Gh) (a : Addr) (o : AO) : Gh := ⟨a :: g.as, tagOf o :: g.tg, g.cs⟩
theorem Gh.push_le (g : Gh) (a : Addr) (o : AO) : g.le (g.push a o) := ⟨⟨[a], rfl⟩, ⟨[tagOf o], rfl⟩, fun _ h => h⟩
noncomputable def Gh.code (g : Gh) (c : Addr) (q : Str) : Gh := ⟨g.as, g.tg, (c, q) :: g.cs⟩
theorem Gh.code_le (g : Gh) (c : Addr) (q : Str) : g.le (g.code c q) := ⟨⟨[], rfl⟩, ⟨[], rfl⟩, fun _ h => .tail _ h⟩
noncomputable def St.push (st : St) (o : AO) : St := ⟨st.n + 1, o :: st.l⟩
theorem newO_ok (o : AO) (st : St) : newO o st = .ok st.n (st.push o) := rfl
theorem Rep.adrNew (R : Rep P g st h) {a : Addr} {o : AO} : (g.push a o).adr st.n = some a := by
  have e : st.n = g.as.length := R.ok.trans R.na.symm
  rw [e]; exact rnth_cons _ _

/-- a new object of ours, which stands already -/
theorem Rep.push' (R : Rep P g st h) {o : AO} {a : Addr} {ob : Obj} (hn : a ∉ g.as) (h0 : P.h₀.get? a = none) (hc : ∀ p ∈ g.cs, p.1 ≠ a) (hb : h.get? a = some ob)
    (hO : OR P.prog P.w P.ρ (g.push a o) o ob) : Rep P (g.push a o) (st.push o) h := by
  refine ⟨?_, ?_, ?_, R.keep, ?_, List.nodup_cons.mpr ⟨hn, R.nodup⟩, fun p hp => (g.push_le a o).adr (R.tabs p hp), ?_, ?_⟩
  · show st.n + 1 = (o :: st.l).length
    rw [List.length_cons]; exact congrArg (· + 1) R.ok
  · show (a :: g.as).length = (o :: st.l).length
    rw [List.length_cons, List.length_cons, R.na]
  · show tagOf o :: g.tg = (o :: st.l).map tagOf
    rw [List.map_cons, R.tg]
  · intro b hb'
    rcases List.mem_cons.mp hb' with rfl | hb'
    · exact h0
    · exact R.fresh _ hb'
  · intro p hp
    refine ⟨(R.cds p hp).1, fun q => ?_⟩
    rcases List.mem_cons.mp q with q | q
    · exact hc p hp q
    · exact (R.cds p hp).2 q
  · intro i oi q
    by_cases e : i < st.l.length
    · rw [show (st.push o).l = o :: st.l from rfl, rnth_old e] at q
      refine hideGoal fun Φ hΦ => ?_
      obtain ⟨b, ob', h1, h2, h3⟩ := R.obj i oi q
      refine hΦ ?_
      clear hΦ Φ
      exact ⟨b, ob', (g.push_le a o).adr h1, h2, h3.mono (g.push_le a o)⟩
    · have z := rnth_lt q
      rw [show (st.push o).l = o :: st.l from rfl, List.length_cons] at z
      have : i = st.l.length := by omega
      subst this
      rw [show (st.push o).l = o :: st.l from rfl, rnth_cons] at q
      cases q
      have e' : st.l.length = st.n := R.ok.symm
      exact ⟨a, ob, by rw [e']; exact R.adrNew, hb, hO⟩
theorem Rep.out (R : Rep P g st h) {a : Addr} (hz : h.get? a = none) : a ∉ g.as ∧ P.h₀.get? a = none ∧ ∀ p ∈ g.cs, p.1 ≠ a := by
  refine ⟨fun q => ?_, ?_, fun p hp q => ?_⟩
  · obtain ⟨k, hk, he⟩ := List.getElem_of_mem q
    have hi : g.adr (g.as.length - 1 - k) = some a := by
      unfold Gh.adr rnth
      rw [if_pos (by omega), show g.as.length - 1 - (g.as.length - 1 - k) = k from by omega]
      rw [List.getElem?_eq_getElem hk, he]
    obtain ⟨o, ho⟩ := rnth_ex (l := st.l) (i := g.as.length - 1 - k) (by rw [← R.na]; omega)
    refine hideGoal fun Φ hΦ => ?_
    obtain ⟨a', ob, h1, h2, _⟩ := R.obj _ _ ho
    refine hΦ ?_
    clear hΦ Φ
    rw [hi] at h1
    cases h1
    rw [hz] at h2; cases h2
  · cases q : P.h₀.get? a with
    | none => rfl
    | some ob => rw [R.keep _ _ q] at hz; cases hz
  · refine hideGoal fun Φ hΦ => ?_
    obtain ⟨c, oc, vs, t, e1, e2, _⟩ := (R.cds p hp).1
    refine hΦ ?_
    clear hΦ Φ
    cases e1
    rw [q, hz] at e2; cases e2
/-- a new object of ours -/
theorem Rep.push (R : Rep P g st h) {o : AO} {a : Addr} {ob : Obj} (k : ∀ b o, h.get? b = some o → h'.get? b = some o) (hz : h.get? a = none) (hb : h'.get? a = some ob)
    (hO : OR P.prog P.w P.ρ (g.push a o) o ob) : Rep P (g.push a o) (st.push o) h' :=
  let ⟨x, y, z⟩ := R.out hz
  (R.grow k).push' x y z hb hO
theorem get_out (h : Heap) : h.get? h.objs.size = none := by
  cases q : h.get? h.objs.size with
  | none => rfl
  | some o => exact absurd (Heap.lt_size q) (Nat.lt_irrefl _)
theorem Rep.alloc (R : Rep P g st h) {o : AO} {ob : Obj} (hO : OR P.prog P.w P.ρ (g.push h.objs.size o) o ob) : Rep P (g.push h.objs.size o) (st.push o) (h.push ob) :=
  R.push (fun b o e => Heap.get?_push_of_some _ e) (get_out _) (Heap.get?_push_size _ hO.free) hO
theorem Rep.code (R : Rep P g st h) {c : Addr} {q : Str} (hc : h.CodeRec (.ref c) q) (hn : c ∉ g.as) : Rep P (g.code c q) st h := by
  refine ⟨R.ok, R.na, R.tg, R.keep, R.fresh, R.nodup, R.tabs, fun p hp => ?_, fun i o e => ?_⟩
  · rcases List.mem_cons.mp hp with rfl | hp
    · exact ⟨hc, hn⟩
    · exact R.cds p hp
  · refine hideGoal fun Φ hΦ => ?_
    obtain ⟨a, ob, h1, h2, h3⟩ := R.obj i o e
    refine hΦ ?_
    clear hΦ Φ
    exact ⟨a, ob, (g.code_le c q).adr h1, h2, h3.mono (g.code_le c q)⟩
end

/-! ## soundness of an action -/
section
variable (P : Par)
/-- the action ends well, and the heap bears what it has made -/
inductive SOk (g : Gh) (m : AM α) (st : St) (V : Gh → α → β → Prop) (b : β) (s' : Shared) : Prop
  | mk (a : α) (st' : St) (g' : Gh) (e : m st = .ok a st') (r : g.le g' ∧ RepS P g' st' s' ∧ V g' a b)
/-- the action raises -/
inductive SErr (g : Gh) (m : AM α) (st : St) (e : Value) (s' : Shared) : Prop
  | mk (i : Nat) (st' : St) (g' : Gh) (x : Addr) (q : m st = .err i st') (r : g.le g' ∧ RepS P g' st' s' ∧ g'.adr i = some x ∧ e = .ref x)
/-- a value that the heap bears -/
inductive SV (g : Gh) (st' : St) (a : α) (V : Gh → α → β → Prop) (b : β) (s' : Shared) : Prop
  | mk (g' : Gh) (r : g.le g' ∧ RepS P g' st' s' ∧ V g' a b)
/-- from one state -/
noncomputable def SndAt (g : Gh) (st : St) (s : Shared) (A : Around) (m : AM α) (t : Sem β) (V : Gh → α → β → Prop) : Prop :=
  m st ≠ .stuck → wpS (model P.prog P.w) A t (SOk P g m st V) (SErr P g m st) s
noncomputable def Snd (g : Gh) (A : Around) (m : AM α) (t : Sem β) (V : Gh → α → β → Prop) : Prop :=
  ∀ g₁ st s, g.le g₁ → RepS P g₁ st s → SndAt P g₁ st s A m t V
end
section
variable {P : Par} {g : Gh} {st : St} {s : Shared} {A : Around} {m : AM α} {t : Sem β} {V : Gh → α → β → Prop}
theorem Snd.mono (x : Snd P g A m t V) {g' : Gh} (l : g.le g') : Snd P g' A m t V := fun g₁ st s h R => x g₁ st s (l.trans h) R
theorem Snd.weak {V' : Gh → α → β → Prop} (x : Snd P g A m t V) (k : ∀ g' a b, g.le g' → V g' a b → V' g' a b) : Snd P g A m t V' := fun g₁ st s h R hn =>
  wpS_mono (x g₁ st s h R hn) (fun b s' ⟨a, st', g', e, l, R', v⟩ => ⟨a, st', g', e, l, R', k g' a b (h.trans l) v⟩) fun _ _ z => z

theorem SOk.up {b : β} {g' : Gh} {s' : Shared} (l : g.le g') : SOk P g' m st V b s' → SOk P g m st V b s'
  | ⟨a, st', g'', e, l', z⟩ => ⟨a, st', g'', e, l.trans l', z⟩
theorem SErr.up {e : Value} {g' : Gh} {s' : Shared} (l : g.le g') : SErr P g' m st e s' → SErr P g m st e s'
  | ⟨i, st', g'', x, q, l', z⟩ => ⟨i, st', g'', x, q, l.trans l', z⟩
theorem SErr.fail {γ : Type} {f : α → AM γ} {e : Value} {s' : Shared} : SErr P g m st e s' → SErr P g (m >>= f) st e s'
  | ⟨i, st', g'', x, q, z⟩ => ⟨i, st', g'', x, bind_err q, z⟩
theorem SOk.next {γ δ : Type} {f : α → AM γ} {a : α} {st' : St} {W : Gh → γ → δ → Prop} {d : δ} {s' : Shared} (e : m st = .ok a st') : SOk P g (f a) st' W d s' → SOk P g (m >>= f) st W d s'
  | ⟨c, st'', g'', q, z⟩ => ⟨c, st'', g'', (bind_ok e).trans q, z⟩
theorem SErr.next {γ : Type} {f : α → AM γ} {a : α} {st' : St} {d : Value} {s' : Shared} (e : m st = .ok a st') : SErr P g (f a) st' d s' → SErr P g (m >>= f) st d s'
  | ⟨i, st'', g'', x, q, z⟩ => ⟨i, st'', g'', x, (bind_ok e).trans q, z⟩
set_option tactic.hygienic true in
theorem wpS_next {γ δ : Type} {f : α → AM γ} {a : α} {st' : St} {W : Gh → γ → δ → Prop} {t : Sem δ} (e : m st = .ok a st') (h : wpS (model P.prog P.w) A t (SOk P g (f a) st' W) (SErr P g (f a) st') s) :
    wpS (model P.prog P.w) A t (SOk P g (m >>= f) st W) (SErr P g (m >>= f) st) s := wpS_mono h (fun _ _ z => z.next e) fun _ _ z => z.next e
set_option tactic.hygienic true in
/-- a step of the tree that the interpreter does not take -/
theorem SndAt.bindAt {f : α → AM γ} {k : β → Sem δ} {W : Gh → γ → δ → Prop} (x : SndAt P g st s A m t V)
    (y : ∀ a b g' st' s', m st = .ok a st' → g.le g' → RepS P g' st' s' → V g' a b → SndAt P g' st' s' A (f a) (k b) W) : SndAt P g st s A (m >>= f) (t >>= k) W := by
  intro hn
  refine wpS_bind (wpS_mono (x fun q => hn (bind_stuck q)) (fun b s' z => ?_) fun e s' z => z.fail)
  refine hideGoal fun Φ hΦ => ?_
  obtain ⟨a, st', g', e, l, R, v⟩ := z
  refine hΦ ?_
  clear hΦ Φ
  have eb : (m >>= f) st = f a st' := bind_ok e
  rw [eb] at hn
  exact wpS_mono (y a b g' st' s' e l R v hn) (fun d s'' w => (w.up l).next e) fun e' s'' w => (w.up l).next e
theorem Snd.bind {f : α → AM γ} {k : β → Sem δ} {W : Gh → γ → δ → Prop} (x : Snd P g A m t V) (y : ∀ a b g', g.le g' → V g' a b → Snd P g' A (f a) (k b) W) : Snd P g A (m >>= f) (t >>= k) W :=
  fun g₁ st s h R => (x g₁ st s h R).bindAt fun a b g' st' s' _ l R' v => y a b g' (h.trans l) v g' st' s' (Gh.le.refl _) R'
theorem SndAt.ok {a : α} {b : β} (R : RepS P g st s) (v : V g a b) : SndAt P g st s A (pure a) (pure b) V := fun _ => wpS_pure ⟨a, st, g, rfl, Gh.le.refl _, R, v⟩
theorem Snd.pure {a : α} {b : β} (v : ∀ g', g.le g' → V g' a b) : Snd P g A (pure a) (pure b) V := fun g₁ st s h R => .ok R (v g₁ h)
/-- the tree alone goes on -/
theorem SndAt.tree {k : β → Sem δ} {W : Gh → α → δ → Prop} (h : m st ≠ .stuck → wpS (model P.prog P.w) A t (fun b s' => SndAt P g st s' A m (k b) W) (fun _ _ => False) s) : SndAt P g st s A m (t >>= k) W := by
  intro hn
  exact wpS_bind (wpS_mono (h hn) (fun b s' z => z hn) fun _ _ z => z.elim)
theorem Snd.standAt {pos : Pos} {k : Unit → Sem δ} {W : Gh → α → δ → Prop} (x : Snd P g A m (k ()) W) : Snd P g A m (standAt pos >>= k) W :=
  fun g₁ st s h R hn => wpS_bind (wpS_standAt (x g₁ st s h R hn))
theorem Snd.holding {vs : List Value} (x : Snd P g A m t V) : Snd P g A m (holding vs t) V := fun g₁ st s h R hn => wpS_holding (x g₁ st s h R hn)
/-- the interpreter alone goes on -/
theorem SndAt.abs {m : AM γ} {f : γ → AM α} {a : γ} {st' : St} (e : m st = .ok a st') (x : SndAt P g st' s A (f a) t V) : SndAt P g st s A (m >>= f) t V := by
  intro hn
  have eb : (m >>= f) st = f a st' := bind_ok e
  rw [eb] at hn
  exact wpS_next e (x hn)
theorem SndAt.getO {i : Nat} {f : AO → AM α} (x : ∀ o, st.get i = some o → SndAt P g st s A (f o) t V) : SndAt P g st s A (getO i >>= f) t V := by
  cases e : st.get i with
  | none => exact fun hn => absurd (bind_stuck (getO_none e)) hn
  | some o => exact SndAt.abs (getO_ok e) (x o e)
theorem SndAt.ofO {x : Option γ} {f : γ → AM α} (y : ∀ a, x = some a → SndAt P g st s A (f a) t V) : SndAt P g st s A (ofO x >>= f) t V := by
  cases x with
  | none => exact fun hn => absurd (bind_stuck rfl) hn
  | some a => exact SndAt.abs (ofO_some a st) (y a rfl)
theorem SndAt.stuck : SndAt P g st s A (stuck : AM α) t V := fun hn => absurd rfl hn
theorem Snd.stuck : Snd P g A (stuck : AM α) t V := fun _ _ _ _ _ => .stuck
theorem Snd.ofO {x : Option γ} {f : γ → AM α} (y : ∀ a, x = some a → Snd P g A (f a) t V) : Snd P g A (ofO x >>= f) t V := fun g₁ st s h R => .ofO fun a e => y a e g₁ st s h R
/-- a leaf: the tree ends at once in a value -/
theorem SndAt.val {a : α} {st' : St} (e : m st = .ok a st') (h : wpAny (model P.prog P.w) A t (SV P g st' a V) (fun _ _ => False) s) : SndAt P g st s A m t V :=
  fun _ => wpS_mono (.of h) (fun b s' ⟨g', l, R, v⟩ => ⟨a, st', g', e, l, R, v⟩) fun _ _ z => z.elim
/-- the same, with the tree's own steps above clean stacks -/
theorem SndAt.valS {a : α} {st' : St} (e : m st = .ok a st') (h : wpS (model P.prog P.w) A t (SV P g st' a V) (fun _ _ => False) s) : SndAt P g st s A m t V :=
  fun _ => wpS_mono h (fun b s' ⟨g', l, R, v⟩ => ⟨a, st', g', e, l, R, v⟩) fun _ _ z => z.elim
/-- a step of the tree alone, without a raise -/
theorem SndAt.step {u : Sem γ} {k : γ → Sem β} (h : wpAny (model P.prog P.w) A u (fun b s' => SndAt P g st s' A m (k b) V) (fun _ _ => False) s) : SndAt P g st s A m (u >>= k) V :=
  .tree fun _ => .of h
end
end Mine

end
section
set_option maxRecDepth 10000
namespace Mine
open PySem PySem.W PySem.Calls

/-! ## the oracle -/
noncomputable def opSem (op : IOp) (x y z : Int) : Prop := match op with
  | .add => z = x + y
  | .sub => z = x - y
  | .mul => z = x * y
  | .fdiv => 0 < y ∧ y < 1073741824 ∧ z = Int.fdiv x y
  | .fmod => 0 < y ∧ y < 1073741824 ∧ z = Int.fmod x y
  | .shl => 0 ≤ y ∧ y ≤ 60 ∧ z = x * 2 ^ y.toNat
  | .shr => 0 ≤ y ∧ y ≤ 60 ∧ z = Int.fdiv x (2 ^ y.toNat)
  | .and => z = Builtin.bitAnd x y
  | .or => z = Builtin.bitOr x y
structure OrcOK (ρ : Nat → Int) (O : Orc) : Prop where
  ops : ∀ op x y z, (op, x, y, z) ∈ O.ops → opSem op (x.val ρ) (y.val ρ) (z.val ρ) ∧ Small (z.val ρ)
  lts : ∀ x y b, (x, y, b) ∈ O.lts → b = decide (x.val ρ < y.val ρ)
  eqs : ∀ x y b, (x, y, b) ∈ O.eqs → b = decide (x.val ρ = y.val ρ)

theorem siEq_val {x y : SI} (h : siEq x y = true) : x = y := by
  rcases x with ⟨⟩ <;> rcases y with ⟨⟩ <;> simp only [siEq] at h
  · rw [of_decide_eq_true h]
  · cases h
  · cases h
  · rw [Nat.eq_of_beq_eq_true h]
theorem opTag_inj {o p : IOp} (h : Nat.beq (opTag o) (opTag p) = true) : o = p := by
  rcases o with ⟨⟩ <;> rcases p with ⟨⟩ <;> first | rfl | cases h
set_option tactic.hygienic true in
theorem findOp_mem {op : IOp} {x y z : SI} : ∀ {l : List (IOp × SI × SI × SI)}, findOp op x y l = some z → (op, x, y, z) ∈ l
  | [], h => by cases h
  | (o, a, b, c) :: r, h => by
    unfold findOp at h
    split at h
    · rename_i q
      cases h
      simp only [Bool.and_eq_true] at q
      obtain ⟨q1, q2, q3⟩ := q
      rw [← opTag_inj q1, ← siEq_val q2, ← siEq_val q3]
      exact .head _
    · exact .tail _ (findOp_mem h)
set_option tactic.hygienic true in
theorem findB_mem {x y : SI} {z : Bool} : ∀ {l : List (SI × SI × Bool)}, findB x y l = some z → (x, y, z) ∈ l
  | [], h => by cases h
  | (a, b, c) :: r, h => by
    unfold findB at h
    split at h
    · rename_i q
      cases h
      simp only [Bool.and_eq_true] at q
      rw [← siEq_val q.1, ← siEq_val q.2]
      exact .head _
    · exact .tail _ (findB_mem h)
set_option tactic.hygienic true in
theorem litOp_ok {op : IOp} {a b c : Int} (h : litOp op a b = some c) : opSem op a b c := by
  unfold litOp at h
  rcases op with ⟨⟩ <;> simp only at h
  · cases h; rfl
  · cases h; rfl
  · cases h; rfl
  · split at h
    · rename_i q; cases h
      simp only [Bool.and_eq_true, decide_eq_true_eq] at q
      exact ⟨q.1, q.2, rfl⟩
    · cases h
  · split at h
    · rename_i q; cases h
      simp only [Bool.and_eq_true, decide_eq_true_eq] at q
      exact ⟨q.1, q.2, rfl⟩
    · cases h
  · split at h
    · rename_i q; cases h
      simp only [Bool.and_eq_true, decide_eq_true_eq] at q
      exact ⟨q.1, q.2, rfl⟩
    · cases h
  · split at h
    · rename_i q; cases h
      simp only [Bool.and_eq_true, decide_eq_true_eq] at q
      exact ⟨q.1, q.2, rfl⟩
    · cases h
  · cases h; rfl
  · cases h; rfl
section
variable {G : Glob} {ρ : Nat → Int}
set_option tactic.hygienic true in
theorem intOp_ok (O : OrcOK ρ G.orc) {op : IOp} {x y z : SI} (h : intOp G op x y = some z) : opSem op (x.val ρ) (y.val ρ) (z.val ρ) ∧ Small (z.val ρ) := by
  unfold intOp at h
  split at h
  · split at h
    · rename_i c hc
      split at h
      · rename_i hs
        cases h
        exact ⟨litOp_ok hc, small_iff.mp hs⟩
      · cases h
    · cases h
  · exact O.ops _ _ _ _ (findOp_mem h)
theorem intLt_ok (O : OrcOK ρ G.orc) {x y : SI} {b : Bool} (h : intLt G x y = some b) : b = decide (x.val ρ < y.val ρ) := by
  unfold intLt at h
  split at h
  · cases h; rfl
  · exact O.lts _ _ _ (findB_mem h)
set_option tactic.hygienic true in
theorem intEq_ok (O : OrcOK ρ G.orc) {x y : SI} {b : Bool} (h : intEq G x y = some b) : b = decide (x.val ρ = y.val ρ) := by
  unfold intEq at h
  split at h
  · rename_i q
    cases h
    rw [siEq_val q]; simp
  · split at h
    · cases h; rfl
    · exact O.eqs _ _ _ (findB_mem h)
end

/-! ## environments -/
structure EnvR (P : Par) (g : Gh) (Γ : AEnv) (env : Env) : Prop where
  scope : env.scope = Γ.scope
  kind : Γ.scope.kind = .function
  loc : g.adr Γ.loc = some env.locals
  locT : rnth g.tg Γ.loc = some 6
  glob : env.globals = mainGlobals
  blt : env.builtins = builtinsNs
  cells : A2 (CellR g) Γ.cells env.cells
  frame : ∃ a, g.adr Γ.fr = some a ∧ env.frame = some a
  frT : rnth g.tg Γ.fr = some 6
  qual : Γ.tab ≠ none → env.qual = Γ.qual
  tab : ∀ t, Γ.tab = some t → ∃ c T, env.code = .ref c ∧ CodeHd P.h₀ c T ∧ g.adr t = some T
theorem CellR.mono {g g' : Gh} (x : g.le g') {p : Str × Nat} {q : Str × Addr} (h : CellR g p q) : CellR g' p q := ⟨h.1, x.adr h.2⟩
theorem EnvR.mono {P : Par} {g g' : Gh} {Γ : AEnv} {env : Env} (x : g.le g') (h : EnvR P g Γ env) : EnvR P g' Γ env :=
  ⟨h.scope, h.kind, x.adr h.loc, x.tag h.locT, h.glob, h.blt, h.cells.mono fun p q => CellR.mono x, let ⟨a, h1, h2⟩ := h.frame; ⟨a, x.adr h1, h2⟩, x.tag h.frT, h.qual,
   fun t e => let ⟨c, T, h1, h2, h3⟩ := h.tab t e; ⟨c, T, h1, h2, x.adr h3⟩⟩

noncomputable def FrOk (g : Gh) (env : Env) : Prop := env.scope.kind ≠ .module ∧ ∃ i a, rnth g.tg i = some 6 ∧ g.adr i = some a ∧ env.frame = some a
theorem FrOk.mono {g g' : Gh} (x : g.le g') {env : Env} (h : FrOk g env) : FrOk g' env := ⟨h.1, let ⟨i, a, h1, h2, h3⟩ := h.2; ⟨i, a, x.tag h1, x.adr h2, h3⟩⟩
noncomputable def HdR (g : Gh) (hd : Option Nat) (A : Around) : Prop := match hd with
  | none => A.handled = none
  | some i => ∃ a, g.adr i = some a ∧ A.handled = some (.ref a)
/-- the frames around: what is handled, how much room is left for n more levels, the frames -/
structure ArR (g : Gh) (A : Around) (hd : Option Nat) (n : Nat) : Prop where
  hand : HdR g hd A
  depth : A.depth + 4 * n + 8 < recursionLimit
  units : A.units + 100 * n + 100 < cLine
  frames : ∃ l, A.frames = some l ∧ ∀ env ∈ l, FrOk g env
theorem ArR.mono {g g' : Gh} (x : g.le g') {A : Around} {hd : Option Nat} {n : Nat} (h : ArR g A hd n) : ArR g' A hd n :=
  ⟨match hd, h.hand with | none, e => e | some i, ⟨a, h1, h2⟩ => ⟨a, x.adr h1, h2⟩, h.depth, h.units, let ⟨l, e, k⟩ := h.frames; ⟨l, e, fun env he => (k env he).mono x⟩⟩
theorem ArR.less {g : Gh} {A : Around} {hd : Option Nat} {n m : Nat} (h : ArR g A hd n) (l : m ≤ n) : ArR g A hd m :=
  ⟨h.hand, by have := h.depth; omega, by have := h.units; omega, h.frames⟩
theorem ArR.in1 {g : Gh} {A : Around} {hd : Option Nat} {n : Nat} (h : ArR g A hd (n + 1)) : ArR g A.in1 hd n :=
  ⟨h.hand, by have := h.depth; simp only [Around.in1_depth]; omega, by have := h.units; simp only [Around.in1_units]; omega, h.frames⟩

/-- a function of the text's -/
structure FnAt (P : Par) (a : Nat) (f : Fn) (o : Obj) (fd : FuncData) : Prop where
  at_ : P.h₀.get? a = some o
  cls : o.cls = .type "function"
  data : o.data = .func fd
  params : fd.params = { posonlyargs := [], args := f.params.args, vararg := none, kwonlyargs := [], kw_defaults := [], kwarg := none, defaults := [] }
  names : (f.params.args.map (·.arg)).Nodup
  defaults : fd.defaults = .none
  kind : f.scope.kind = .function
  co : f.scope.isCoroutine = false
  gen : f.scope.isGenerator = false
  body : fd.body = .stmts f.body
  scope : fd.scope = f.scope
  qual : fd.qualname = f.name
  globals : fd.globals = mainGlobals
  builtins : fd.builtins = builtinsNs
  closure : fd.closure = []
  code : P.h₀.CodeRec fd.code fd.qualname
  tab : ∀ t, f.tab = some t → ∃ c T, fd.code = .ref c ∧ CodeHd P.h₀ c T ∧ (t, T) ∈ P.tabs
/-- a class of the text's -/
structure CD where
  nm : Str
  q : Str
  N : Addr
  bs : List Value
  bm : List Value
  sn : List Str
  sub : List Value
  ab : Bool
  col : Option Bool
  dd : Option Addr
  k0 : Option Value
  k1 : Option Value
  k2 : Option Value
  k3 : Option Value
  k5 : Option Value
  newId : String
  mN : Str → Option Value
  oI : Obj
structure ClsAt (P : Par) (C : Nat) (c : Cls) (W : CD) : Prop where
  at_ : P.h₀.get? C = some (excClassObj W.nm W.q C W.N W.bs W.bm true W.sn W.sub W.ab W.col W.dd W.k0 W.k1 W.k2 W.k3 W.k5 W.newId)
  ns : P.h₀.Ns W.N W.mN
  init : W.mN "__init__" = some (.ref c.init)
  initAt : P.h₀.get? c.init = some W.oI
  initFn : W.oI.cls = .type "function"
  noSet : W.mN "__setattr__" = none
  noGet : W.mN "__getattribute__" = none
  noHook : W.mN "__getattr__" = none
  attrs : ∀ x ∈ c.attrs, W.mN x = none ∧ typeLookup (.type "object") x = pure none ∧ typeLookup (.type "Exception") x = pure none
  meths : ∀ p ∈ c.meths, W.mN p.1 = some (.ref p.2) ∧ ∃ o, P.h₀.get? p.2 = some o ∧ o.cls = .type "function" ∧ ∃ y, typeLookup (.type "object") p.1 = pure y
  kind : if c.exc = true then W.bm = [.type "Exception", .type "BaseException", .type "object"] ∧ W.newId = "Exception.__new__" else W.bm = [.type "object"] ∧ W.ab = false ∧ W.newId = "object.__new__"

/-- the names that the text's top binds, and what they stand for -/
structure GOK (P : Par) (G : Glob) : Prop where
  orc : OrcOK P.ρ G.orc
  names : ∀ x a, fget x G.names = some a → ∃ v, (∀ g, VR P.ρ g a v) ∧
    (Looks (model P.prog P.w) P.h₀ (nsGet mainGlobals x) (some v) ∨ (Looks (model P.prog P.w) P.h₀ (nsGet mainGlobals x) none ∧ Looks (model P.prog P.w) P.h₀ (nsGet builtinsNs x) (some v)))
  tups : ∀ a vs, G.tups a = some vs → ∃ o ws n, P.h₀.get? a = some o ∧ o.cls = .type "tuple" ∧ o.data = .seq ws n ∧ (∀ g, A2 (VR P.ρ g) vs ws.toList) ∧ o.dict = none
  lim : P.h₀.NoLimit
  fns : ∀ a f, G.fns a = some f → ∃ o fd, FnAt P a f o fd
  cls : ∀ a c, G.cls a = some c → ∃ W, ClsAt P a c W
  sysm : ∃ o, P.h₀.get? sysModules = some o
  main : ∃ mg bm o, P.h₀.Ns mainGlobals mg ∧ mg "__builtins__" = some (.ref bm) ∧ bm ≠ builtinsNs ∧ bm ≠ mainGlobals ∧ P.h₀.get? bm = some o ∧ o.cls = .type "module" ∧ o.dict = some builtinsNs ∧ o.data = .plain

set_option tactic.hygienic true in
theorem cells_lookup {g : Gh} {x : Str} {i : Nat} : ∀ {l : List (Str × Nat)} {m : List (Str × Addr)}, A2 (CellR g) l m → fget x l = some i → ∃ a, m.lookup x = some a ∧ g.adr i = some a
  | [], [], _, h => by cases h
  | p :: l, q :: m, ⟨z, y⟩, h => by
    obtain ⟨a, b⟩ := q
    rw [fget_cons] at h
    rw [List.lookup_cons]
    have e : a = p.1 := z.1
    split at h
    · rename_i k
      cases h
      exact ⟨b, by simp [e, k], z.2⟩
    · rename_i k
      obtain ⟨c, h1, h2⟩ := cells_lookup y h
      refine ⟨c, ?_, h2⟩
      have : (x == a) = false := by rw [beq_eq_false_iff_ne, e]; exact fun q => k q.symm
      rw [this]; exact h1

section
variable {P : Par} {G : Glob} {g : Gh} {st : St} {s : Shared} {A : Around} {Γ : AEnv} {env : Env}
theorem EnvR.kindOf (X : EnvR P g Γ env) (x : Str) : env.kindOf x = kindOf Γ x := by
  unfold Env.kindOf Mine.kindOf
  rw [X.scope, fget_lookup]
theorem EnvR.fn (X : EnvR P g Γ env) : env.scope.kind = .function := by rw [X.scope]; exact X.kind

theorem RepS.ns (R : RepS P g st s) {i : Nat} {m : List (Str × AV)} {a : Addr} (e : st.get i = some (.frame m)) (ha : g.adr i = some a) :
    ∃ mv, s.heap.Ns a mv ∧ ∀ x b, fget x m = some b → ∃ v, mv x = some v ∧ VR P.ρ g b v := by
  refine hideGoal fun Φ hΦ => ?_
  obtain ⟨a', ob, h1, h2, es, ep, h3, h4, h5⟩ := R.1.at e
  refine hΦ ?_
  clear hΦ Φ
  rw [ha] at h1
  cases h1
  exact ⟨_, ⟨ob, es, ep, h2, h3, h4, fun _ => rfl⟩, h5⟩
theorem RepS.cell (R : RepS P g st s) {i : Nat} {v : Option AV} {a : Addr} (e : st.get i = some (.cell v)) (ha : g.adr i = some a) : ∃ w, s.heap.IsCell a w ∧ OptR P.ρ g v w := by
  refine hideGoal fun Φ hΦ => ?_
  obtain ⟨a', ob, h1, h2, w, h3, h4⟩ := R.1.at e
  refine hΦ ?_
  clear hΦ Φ
  rw [ha] at h1
  cases h1
  exact ⟨w, ⟨ob, h2, h3⟩, h4⟩

set_option tactic.hygienic true in
theorem loadN_ok (O : GOK P G) (X : EnvR P g Γ env) {x : Str} (hx : strEq x "__classdict__" = false) : Snd P g A (loadN G Γ x) (loadName env x) (fun g' a v => VR P.ρ g' a v) := by
  intro g₁ st s hg R
  have X := X.mono hg
  have hk := X.kindOf x
  unfold loadN
  cases q : Mine.kindOf Γ x with
  | none => exact .stuck
  | some k =>
    rw [q] at hk
    cases k with
    | «local» =>
      refine SndAt.getO fun o ho => ?_
      rcases o with ⟨⟩ <;> first | exact .stuck | skip
      rename_i m
      dsimp only
      cases qv : fget x m with
      | none => exact .stuck
      | some a =>
        obtain ⟨mv, h1, h2⟩ := R.ns ho X.loc
        obtain ⟨v, h3, h4⟩ := h2 x a qv
        exact .val rfl (wpAny_loadName_local X.fn hk h1 h3 ⟨g₁, .refl _, R, h4⟩)
    | cell =>
      refine SndAt.ofO fun i hi => SndAt.getO fun o ho => ?_
      rcases o with ⟨⟩ <;> first | exact .stuck | skip
      rename_i v
      cases v with
      | none => exact .stuck
      | some a =>
        obtain ⟨c, h1, h2⟩ := cells_lookup X.cells hi
        obtain ⟨w, h3, h4⟩ := R.cell ho h2
        cases w with
        | none => exact h4.elim
        | some w => exact .val rfl (wpAny_loadName_cell X.fn hk h1 h3 ⟨g₁, .refl _, R, h4⟩)
    | free =>
      refine SndAt.ofO fun i hi => SndAt.getO fun o ho => ?_
      rcases o with ⟨⟩ <;> first | exact .stuck | skip
      rename_i v
      cases v with
      | none => exact .stuck
      | some a =>
        obtain ⟨c, h1, h2⟩ := cells_lookup X.cells hi
        obtain ⟨w, h3, h4⟩ := R.cell ho h2
        cases w with
        | none => exact h4.elim
        | some w =>
          refine .val rfl (wpAny_loadName_free X.fn hk h1 h3 ⟨g₁, .refl _, R, h4⟩ ?_)
          rw [beq_eq_false_iff_ne]
          intro e
          rw [e, (strEq_iff _ _).mpr rfl] at hx
          cases hx
    | globalExplicit => exact .stuck
    | globalImplicit =>
      dsimp only
      cases qn : fget x G.names with
      | none => exact .stuck
      | some a =>
        obtain ⟨v, h1, h2⟩ := O.names x a qn
        refine .val rfl ?_
        have lg : loadName env x = loadGlobal env x := by
          unfold loadName
          simp only [Env.blockKind, X.fn, hk, ScopeKind.isAnnotationScope, Bool.false_and, Bool.false_eq_true, if_false]
        rw [lg]
        unfold loadGlobal
        rw [X.glob, X.blt]
        have fin : SV P g₁ st a (fun g' a v => VR P.ρ g' a v) v s := ⟨g₁, .refl _, R, h1 _⟩
        rcases h2 with h2 | ⟨h2, h3⟩
        · exact wpAny_bind ((h2.keeps R.1.keep).here (wpAny_pure fin))
        · exact wpAny_bind ((h2.keeps R.1.keep).here (wpAny_bind ((h3.keeps R.1.keep).here (wpAny_pure fin))))

theorem set_ok {i : Nat} {o : AO} : setO i o st = .ok () (st.set i o) := rfl
/-- an object of ours is turned, and the tree says how -/
theorem RepS.set (R : RepS P g st s) {i : Nat} {o o' : AO} {a : Addr} {h' : Heap} {ob' : Obj} {tk : Nat} (e : st.get i = some o) (ha : g.adr i = some a) (hs : Heap.ExtBut a s.heap h') (hb : h'.get? a = some ob')
    (hO : OR P.prog P.w P.ρ g o' ob') (ht : tagOf o' = tagOf o) : RepS P g (st.set i o') { s with heap := h', toks := tk } := ⟨R.1.set e ha hs hb hO ht, R.2⟩
theorem RepS.toks (R : RepS P g st s) (tk : Nat) : RepS P g st { s with toks := tk } := R
theorem RepS.grow (R : RepS P g st s) {h' : Heap} (tk : Nat) (k : ∀ b o, s.heap.get? b = some o → h'.get? b = some o) : RepS P g st { s with heap := h', toks := tk } := ⟨R.1.grow k, R.2⟩
theorem RepS.adr (R : RepS P g st s) {i : Nat} {o : AO} (e : st.get i = some o) : ∃ a, g.adr i = some a := let ⟨a, _, h, _⟩ := R.1.at e; ⟨a, h⟩

set_option tactic.hygienic true in
theorem frame_put {m : List (Str × AV)} {mv : Str → Option Value} {x : Str} {a : AV} {v : Value} (h : ∀ y b, fget y m = some b → ∃ u, mv y = some u ∧ VR P.ρ g b u) (hv : VR P.ρ g a v) :
    ∀ y b, fget y (fput x a m) = some b → ∃ u, (fun y => if y = x then some v else mv y) y = some u ∧ VR P.ρ g b u := by
  intro y b q
  rw [fput_get] at q
  dsimp only
  split at q
  · rename_i e; cases q; rw [if_pos e]; exact ⟨v, rfl, hv⟩
  · rename_i e; rw [if_neg e]; exact h y b q

set_option tactic.hygienic true in
theorem storeN_ok (X : EnvR P g Γ env) {x : Str} {a : AV} {v : Value} (hv : VR P.ρ g a v) : Snd P g A (storeN Γ x a) (storeName env x v) (fun _ _ _ => True) := by
  intro g₁ st s hg R
  have X := X.mono hg
  have hv := hv.mono hg
  have hk := X.kindOf x
  have hp : (env.scope.kind == .class || (env.scope.kind == .module && env.locals != env.globals)) = false := by rw [X.fn]; rfl
  unfold storeN
  cases q : Mine.kindOf Γ x with
  | none => exact .stuck
  | some k =>
    rw [q] at hk
    cases k with
    | «local» =>
      refine SndAt.getO fun o ho => ?_
      rcases o with ⟨⟩ <;> first | exact .stuck | skip
      rename_i m
      dsimp only
      obtain ⟨mv, h1, h2⟩ := R.ns ho X.loc
      refine .val set_ok (wpAny_storeName_local hk h1 (fun h' hn hs => ?_) hp)
      refine hideGoal fun Φ hΦ => ?_
      obtain ⟨o', es, ep, k1, k2, k3, k4⟩ := hn
      refine hΦ ?_
      clear hΦ Φ
      exact ⟨g₁, .refl _, R.set ho X.loc hs.extBut k1 ⟨es, ep, k2, k3, fun y b q => by rw [k4]; exact frame_put h2 hv y b q⟩ rfl, trivial⟩
    | cell =>
      refine SndAt.ofO fun i hi => SndAt.getO fun o ho => ?_
      rcases o with ⟨⟩ <;> first | exact .stuck | skip
      rename_i w
      obtain ⟨c, h1, h2⟩ := cells_lookup X.cells hi
      obtain ⟨w', h3, h4⟩ := R.cell ho h2
      refine .val set_ok (wpAny_storeName_cell X.fn hk h1 h3 fun h' hc hs => ?_)
      obtain ⟨o', k1, k2⟩ := hc
      exact ⟨g₁, .refl _, R.set (tk := s.toks) ho h2 hs.extBut k1 ⟨some v, k2, hv⟩ rfl, trivial⟩
    | free => exact .stuck
    | globalExplicit => exact .stuck
    | globalImplicit => exact .stuck

theorem constV_ok {c : Const} : Snd P g A (constV c) (constValue env c) (fun g' a v => VR P.ρ g' a v) := by
  intro g₁ st s hg R
  unfold constV
  cases c with
  | none => exact .val rfl (wpAny_pure ⟨g₁, .refl _, R, rfl⟩)
  | bool b => exact .val rfl (wpAny_pure ⟨g₁, .refl _, R, rfl⟩)
  | int i =>
    dsimp only
    cases q : small i with
    | false => exact .stuck
    | true => exact .val rfl (wpAny_mkInt ⟨g₁, .refl _, R, _, rfl, small_iff.mp q⟩)
  | str x => exact .val rfl (wpAny_mkText ⟨g₁, .refl _, R, _, rfl⟩)
  | bytes b =>
    refine .val rfl ?_
    show wpAny _ _ (mkTextBytes b.toArray) _ _ _
    unfold mkTextBytes
    refine wpAny_bind (wpAny_fresh (wpAny_pure ⟨g₁, .refl _, R, b.toArray, _, rfl, ?_⟩))
    unfold octs
    rw [List.map_map]
    rfl
  | _ => exact .stuck

section
variable {α β : Type} {args : List AV} {vs : List Value} {V : Gh → α → β → Prop}
theorem SndAt.one {f : AV → AM α} {t : List Value → Sem β} (va : A2 (VR P.ρ g) args vs) (x : ∀ a v, VR P.ρ g a v → SndAt P g st s A (f a) (t [v]) V) : SndAt P g st s A (Mine.one args f) (t vs) V := by
  match args, vs, va with
  | [], _, _ => exact .stuck
  | [a], [v], ⟨h, _⟩ => exact x a v h
  | _ :: _ :: _, _, _ => exact .stuck
theorem SndAt.two {f : AV → AV → AM α} {t : List Value → Sem β} (va : A2 (VR P.ρ g) args vs) (x : ∀ a v b u, VR P.ρ g a v → VR P.ρ g b u → SndAt P g st s A (f a b) (t [v, u]) V) : SndAt P g st s A (Mine.two args f) (t vs) V := by
  match args, vs, va with
  | [], _, _ => exact .stuck
  | a :: r, v :: vs, ⟨h, h'⟩ => exact SndAt.one (t := fun vs => t (v :: vs)) h' fun b u k => x a v b u h k
theorem SndAt.three {f : AV → AV → AV → AM α} {t : List Value → Sem β} (va : A2 (VR P.ρ g) args vs) (x : ∀ a v b u c w, VR P.ρ g a v → VR P.ρ g b u → VR P.ρ g c w → SndAt P g st s A (f a b c) (t [v, u, w]) V) : SndAt P g st s A (Mine.three args f) (t vs) V := by
  match args, vs, va with
  | [], _, _ => exact .stuck
  | a :: r, v :: vs, ⟨h, h'⟩ => exact SndAt.two (t := fun vs => t (v :: vs)) h' fun b u c w k l => x a v b u c w h k l
theorem SndAt.zero {m : AM α} {t : List Value → Sem β} (va : A2 (VR P.ρ g) args vs) (x : SndAt P g st s A m (t []) V) : SndAt P g st s A (Mine.zero args m) (t vs) V := by
  match args, vs, va with
  | [], [], _ => exact x
  | _ :: _, _, _ => exact .stuck
set_option tactic.hygienic true in
theorem SndAt.litOf {f : Int → AM α} {t : Sem β} {a : AV} {v : Value} (va : VR P.ρ g a v) (x : ∀ n u, v = .int n u → Small n → SndAt P g st s A (f n) t V) : SndAt P g st s A (Mine.litOf a >>= f) t V := by
  rcases a with ⟨⟩ <;> first | exact .stuck | skip
  rename_i e
  rcases e with ⟨⟩ <;> first | exact .stuck | skip
  obtain ⟨u, h1, h2⟩ := va
  exact x _ u h1 h2
theorem SndAt.withLst {i : Nat} {f : List AV → AM α} {t : Sem β} (x : ∀ us, st.get i = some (.lst us) → SndAt P g st s A (f us) t V) : SndAt P g st s A (Mine.withLst i f) t V := by
  refine .getO fun o ho => ?_
  rcases o with ⟨⟩ <;> first | exact .stuck | exact x _ ho
theorem SndAt.withDict {i : Nat} {f : List (Int × AV) → Option Nat → AM α} {t : Sem β} (x : ∀ es ep, st.get i = some (.dict es ep) → SndAt P g st s A (f es ep) t V) : SndAt P g st s A (Mine.withDict i f) t V := by
  refine .getO fun o ho => ?_
  rcases o with ⟨⟩ <;> first | exact .stuck | exact x _ _ ho
theorem SndAt.withExc {i : Nat} {f : Nat → AM α} {t : Sem β} (x : ∀ C dd tb ctx, st.get i = some (.exc C dd tb ctx) → SndAt P g st s A (f C) t V) : SndAt P g st s A (Mine.withExc i f) t V := by
  refine .getO fun o ho => ?_
  rcases o with ⟨⟩ <;> first | exact .stuck | exact x _ _ _ _ ho
set_option tactic.hygienic true in
theorem SndAt.alive {i : Nat} {f : Unit → AM α} {t : Sem β} (x : (∀ k, st.get i = some (.it k) → k ≠ .dead) → SndAt P g st s A (f ()) t V) : SndAt P g st s A (Mine.alive i >>= f) t V := by
  intro hn
  have h1 : Mine.alive i st ≠ .stuck := fun q => hn (bind_stuck q)
  have key : Mine.alive i st = .ok () st ∧ ∀ k, st.get i = some (.it k) → k ≠ .dead := by
    unfold Mine.alive at h1 ⊢
    cases e : st.get i with
    | none => exact absurd (bind_stuck (getO_none e)) h1
    | some o =>
      rw [bind_ok (getO_ok e)] at h1 ⊢
      rcases o with ⟨⟩ <;> first | exact absurd rfl h1 | skip
      rename_i k
      rcases k with ⟨⟩ <;> first | exact absurd rfl h1 | exact ⟨rfl, fun k h z => by subst z; cases h⟩
  exact SndAt.abs key.1 (x key.2) hn
end
end
end Mine

end
section
set_option maxRecDepth 10000
namespace Mine
open PySem PySem.W PySem.Calls PySem.SeqAt

/-! ## == -/
theorem u8_inj {u v : UInt8} (h : (u.toNat : Int) = (v.toNat : Int)) : u = v := UInt8.toNat_inj.mp (by omega)
theorem octs_inj {b c : Array UInt8} (h : octs b = octs c) : b = c := by
  have key : ∀ (l m : List UInt8), l.map (fun u => (u.toNat : Int)) = m.map (fun u => (u.toNat : Int)) → l = m := by
    intro l
    induction l with
    | nil => intro m e; cases m with | nil => rfl | cons _ _ => cases e
    | cons x l ih =>
      intro m e
      cases m with
      | nil => cases e
      | cons y m =>
        simp only [List.map_cons, List.cons.injEq] at e
        rw [u8_inj e.1, ih m e.2]
  exact Array.ext' (key _ _ h)
section
variable {G : Glob} {ρ : Nat → Int}
theorem bytesEq_ok (O : OrcOK ρ G.orc) : ∀ {x y : List SI} {c : Bool}, bytesEq G x y = some c → c = decide (x.map (SI.val ρ) = y.map (SI.val ρ))
  | [], [], c, h => by cases h; simp
  | [], _ :: _, c, h => by cases h; simp
  | _ :: _, [], c, h => by cases h; simp
  | a :: x, b :: y, c, h => by
    unfold bytesEq at h
    cases h1 : intEq G a b with
    | none => rw [h1] at h; cases h
    | some k =>
      rw [h1] at h
      cases h2 : bytesEq G x y with
      | none => rw [h2] at h; cases h
      | some l =>
        rw [h2] at h
        cases h
        rw [intEq_ok O h1, bytesEq_ok O h2]
        simp only [List.map_cons, List.cons.injEq, Bool.decide_and]
end

section
variable {A : Around} {s : Shared}
theorem rc_bytes (b c : Array UInt8) (t u : Tok) : RcAt A s (.bytes b t) (.bytes c u) (decide (b = c)) := fun prog w E Q h => by
  have e : decide (b = c) = (b.toList == c.toList) := by
    by_cases q : b = c
    · subst q; simp
    · rw [decide_eq_false q]; symm; rw [beq_eq_false_iff_ne]; exact fun z => q (Array.ext' z)
  rw [e] at h
  exact eq_bytes (prog := prog) (w := w) (A := A) (E := E) h
theorem rcn_bytes (b c : Array UInt8) (t u : Tok) : RcNeAt A s (.bytes b t) (.bytes c u) (!decide (b = c)) := fun prog w E Q h => by
  have e : (!decide (b = c)) = (b.toList != c.toList) := by
    by_cases q : b = c
    · subst q; simp
    · rw [decide_eq_false q]; symm; show (!(b.toList == c.toList)) = _; have : (b.toList == c.toList) = false := by rw [beq_eq_false_iff_ne]; exact fun z => q (Array.ext' z)
      rw [this]
  rw [e] at h
  exact ne_bytes (prog := prog) (w := w) (A := A) (E := E) h
theorem eq_of_rc {v u : Value} {k : Bool} (hk : v = u → k = true) (hf : ∀ x t y r, ¬ (v = .float x t ∧ u = .float y r)) (h : RcAt A s v u k) : EqAt A s v u k := fun prog w E Q hq => by
  unfold eqBool
  refine wpAny_holding ?_
  refine wpAny_ite_split (fun hab => ?_) (fun _ => ?_)
  · have e := eq_of_beq hab
    rw [hk e] at hq
    exact wpAny_bind (wpAny_rule (wpAny_pure hq))
  · have fin : wpAny (model prog w) A (do truthOfDropped (← richCompare .Eq v u)) Q E s := wpAny_bind (h prog w E _ (wpAny_truthy_bool hq))
    clear hq h hk
    cases v with
    | float x t => rcases u with ⟨⟩ <;> first | exact fin | (exact absurd ⟨rfl, rfl⟩ (hf _ _ _ _))
    | _ => exact fin
theorem eq_bytesAt (b c : Array UInt8) (t u : Tok) : EqAt A s (.bytes b t) (.bytes c u) (decide (b = c)) :=
  eq_of_rc (fun e => by injection e with e1 _; exact decide_eq_true e1) (fun _ _ _ _ z => by cases z.1) (rc_bytes b c t u)
end

/-- what == of two values comes to, and what it leaves as it was -/
structure EqOK (A : Around) (s : Shared) (v u : Value) (c : Bool) : Prop where
  eq : EqAt A s v u c
  rc : RcAt A s v u c
  ne : RcNeAt A s v u (!c)
theorem all_range_of {e : Nat → Bool} {c : Bool} {n : Nat} (h : c = (List.range n).all e) : c = (List.range n).all e := h

section
variable {P : Par} {G : Glob} {g : Gh} {st : St} {s : Shared}
theorem allEqP_ok {f : AV → AV → Option Bool} {Good : Value → Value → Bool → Prop} (hf : ∀ a b c v u, f a b = some c → VR P.ρ g a v → VR P.ρ g b u → Good v u c) :
    ∀ {xs ys : List AV} {vs us : List Value} {c : Bool}, allEqP f xs ys = some c → xs.length = ys.length → A2 (VR P.ρ g) xs vs → A2 (VR P.ρ g) ys us →
      ∃ e : Nat → Bool, c = (List.range vs.length).all e ∧ ∀ (j : Nat) (h1 : j < vs.length) (h2 : j < us.length), Good vs[j] us[j] (e j) := by
  intro xs
  induction xs with
  | nil =>
    intro ys vs us c h l a b
    cases ys with
    | cons _ _ => cases l
    | nil => cases a.nil; cases h; exact ⟨fun _ => true, rfl, fun j h1 => by cases h1⟩
  | cons x xs ih =>
    intro ys vs us c h l a b
    cases ys with
    | nil => cases l
    | cons y ys =>
    refine hideGoal fun Φ hΦ => ?_
    obtain ⟨v, vs, rfl, a1, a2⟩ := a.cons
    refine hΦ ?_
    clear hΦ Φ
    refine hideGoal fun Φ hΦ => ?_
    obtain ⟨u, us, rfl, b1, b2⟩ := b.cons
    refine hΦ ?_
    clear hΦ Φ
    unfold allEqP at h
    cases h1 : f x y with
    | none => rw [h1] at h; cases h
    | some k =>
      rw [h1] at h
      cases h2 : allEqP f xs ys with
      | none => rw [h2] at h; cases h
      | some l' =>
        rw [h2] at h
        cases h
        obtain ⟨e, q2, q3⟩ := ih h2 (Nat.succ.inj l) a2 b2
        refine ⟨fun j => match j with | 0 => k | j + 1 => e j, ?_, ?_⟩
        · rw [q2, List.length_cons, List.range_succ_eq_map, List.all_cons, List.all_map]
          rfl
        · intro j z1 z2
          cases j with
          | zero => exact hf _ _ _ _ _ h1 a1 b1
          | succ j => exact q3 j (Nat.lt_of_succ_lt_succ z1) (Nat.lt_of_succ_lt_succ z2)

theorem RepS.tup (R : RepS P g st s) {i : Nat} {vs : List AV} {a : Addr} (e : st.get i = some (.tup vs)) (ha : g.adr i = some a) : ∃ ws, s.heap.IsTuple a ws ∧ A2 (VR P.ρ g) vs ws.toList := by
  refine hideGoal fun Φ hΦ => ?_
  obtain ⟨ob, h2, h3, ws, n, h4, h5⟩ := R.1.atA ha e
  refine hΦ ?_
  clear hΦ Φ
  exact ⟨ws, ⟨ob, h2, h3, n, h4⟩, h5⟩
theorem RepS.lstX (R : RepS P g st s) {i : Nat} {vs : List AV} {a : Addr} (e : st.get i = some (.lst vs)) (ha : g.adr i = some a) : ∃ ws n, s.heap.get? a = some { cls := .type "list", dict := none, data := .seq ws n, slots := #[] } ∧ A2 (VR P.ρ g) vs ws.toList := by
  refine hideGoal fun Φ hΦ => ?_
  obtain ⟨ob, h2, h3, ws, n, h4, h5, h6, h7⟩ := R.1.atA ha e
  refine hΦ ?_
  clear hΦ Φ
  refine hideGoal fun Φ hΦ => ?_
  obtain ⟨c, d, dt, sl⟩ := ob
  refine hΦ ?_
  clear hΦ Φ
  dsimp only at h3 h4 h6 h7
  subst h3 h4 h6 h7
  exact ⟨ws, n, h2, h5⟩
theorem RepS.lst (R : RepS P g st s) {i : Nat} {vs : List AV} {a : Addr} (e : st.get i = some (.lst vs)) (ha : g.adr i = some a) : ∃ ws, s.heap.IsList a ws ∧ A2 (VR P.ρ g) vs ws.toList :=
  let ⟨ws, n, h1, h2⟩ := R.lstX e ha
  ⟨ws, ⟨_, h1, rfl, n, rfl⟩, h2⟩
theorem RepS.neq (R : RepS P g st s) {i j : Nat} {a b : Addr} (ha : g.adr i = some a) (hb : g.adr j = some b) (h : i ≠ j) : a ≠ b := fun q => h (rnth_inj R.1.nodup (by rw [q] at ha; exact ha) hb)

set_option tactic.hygienic true in
theorem eqvP_ok (O : OrcOK P.ρ G.orc) (R : RepS P g st s) : ∀ (n : Nat) (A : Around), A.units + n < cLine → ∀ (a b : AV) (c : Bool) (v u : Value), eqvP G st n a b = some c → VR P.ρ g a v → VR P.ρ g b u → EqOK A s v u c
  | 0, _, _, _, _, _, _, _, h, _, _ => by cases h
  | n + 1, A, hu, a, b, c, v, u, h, va, vb => by
    have ih : ∀ a b c v u, eqvP G st n a b = some c → VR P.ρ g a v → VR P.ρ g b u → EqOK A.in1 s v u c := fun a b c v u e x y => eqvP_ok O R n A.in1 (by simp only [Around.in1_units]; omega) a b c v u e x y
    have hu' : A.units < cLine := by omega
    unfold eqvP at h
    split at h
    · cases h; cases va; cases vb; exact ⟨EqAt.same _, RcAt.none_none, RcNeAt.none_none⟩
    · cases h; cases va; obtain ⟨t, rfl, _⟩ := vb; exact ⟨EqAt.none_int _ _, RcAt.none_int _ _, RcNeAt.none_int _ _⟩
    · cases h; cases vb; obtain ⟨t, rfl, _⟩ := va; exact ⟨EqAt.int_none _ _, RcAt.int_none _ _, RcNeAt.int_none _ _⟩
    · cases h; cases vb; obtain ⟨t, rfl⟩ := va; exact ⟨EqAt.str_none _ _, RcAt.str_none _ _, RcNeAt.str_none _ _⟩
    · rename_i x y
      cases h; cases va; cases vb
      have z : EqOK A s (.bool x) (.bool y) (x == y) := ⟨EqAt.bool_bool _ _, RcAt.bool_bool _ _, RcNeAt.bool_bool _ _⟩
      rcases x with ⟨⟩ <;> rcases y with ⟨⟩ <;> exact z
    · refine hideGoal fun Φ hΦ => ?_
      obtain ⟨t, rfl, _⟩ := va; obtain ⟨t', rfl, _⟩ := vb
      refine hΦ ?_
      clear hΦ Φ
      have e := intEq_ok O h
      rw [← Bool.beq_eq_decide_eq] at e
      subst e
      exact ⟨EqAt.int_int _ _ _ _, RcAt.int_int _ _ _ _, RcNeAt.int_int _ _ _ _⟩
    · rename_i x y
      cases h
      obtain ⟨t, rfl⟩ := va; obtain ⟨t', rfl⟩ := vb
      rw [strEq_dec, ← Bool.beq_eq_decide_eq]
      exact ⟨EqAt.str_str _ _ _ _, RcAt.str_str _ _ _ _, RcNeAt.str_str _ _ _ _⟩
    · refine hideGoal fun Φ hΦ => ?_
      obtain ⟨b1, t, rfl, h1⟩ := va; obtain ⟨b2, t', rfl, h2⟩ := vb
      refine hΦ ?_
      clear hΦ Φ
      have e := bytesEq_ok O h
      rw [← h1, ← h2] at e
      have e' : decide (octs b1 = octs b2) = decide (b1 = b2) := by
        by_cases q : b1 = b2
        · subst q; simp
        · rw [decide_eq_false q, decide_eq_false (fun z => q (octs_inj z))]
      rw [e'] at e
      subst e
      exact ⟨eq_bytesAt _ _ _ _, rc_bytes _ _ _ _, rcn_bytes _ _ _ _⟩
    · rename_i i j
      split at h
      · cases h
      · rename_i hij
        have hij := Nat.ne_of_beq_eq_false hij
        obtain ⟨x, hx, rfl⟩ := va
        obtain ⟨y, hy, rfl⟩ := vb
        have hxy := R.neq hx hy hij
        split at h
        · rename_i xs ys e1 e2
          obtain ⟨ws, t1, t2⟩ := R.tup e1 hx
          obtain ⟨us, t3, t4⟩ := R.tup e2 hy
          split at h
          · rename_i hl
            have hl := Nat.eq_of_beq_eq_true hl
            obtain ⟨e, rfl, he⟩ := allEqP_ok (Good := EqOK A.in1 s) ih h hl t2 t4
            have hz : ws.size = us.size := by rw [← Array.length_toList, ← Array.length_toList, ← t2.len, ← t4.len, hl]
            have he' : ∀ j (h1 : j < ws.size) (h2 : j < us.size), EqAt A.in1 s ws[j] us[j] (e j) := fun j h1 h2 => by
              have := (he j (by simpa using h1) (by simpa using h2)).eq
              simpa using this
            have ek : ((List.range (min ws.size us.size)).all e && ws.size == us.size) = (List.range ws.toList.length).all e := by
              rw [hz, Nat.min_self]
              simp [hz]
            have rc := RcAt.tuples (A := A) t1 t3 hu' he'
            have rn := RcNeAt.tuples (A := A) t1 t3 hu' he'
            rw [ek] at rc rn
            exact ⟨EqAt.of_refs hxy rc, rc, rn⟩
          · cases h
        · rename_i xs ys e1 e2
          obtain ⟨ws, t1, t2⟩ := R.lst e1 hx
          obtain ⟨us, t3, t4⟩ := R.lst e2 hy
          split at h
          · rename_i hl
            have hl := Nat.eq_of_beq_eq_true hl
            obtain ⟨e, rfl, he⟩ := allEqP_ok (Good := EqOK A.in1 s) ih h hl t2 t4
            have hz : ws.size = us.size := by rw [← Array.length_toList, ← Array.length_toList, ← t2.len, ← t4.len, hl]
            have he' : ∀ j (h1 : j < ws.size) (h2 : j < us.size), EqAt A.in1 s ws[j] us[j] (e j) := fun j h1 h2 => by
              have := (he j (by simpa using h1) (by simpa using h2)).eq
              simpa using this
            have rc := RcAt.lists (A := A) t1 t3 hz hu' he'
            have rn := RcNeAt.lists (A := A) t1 t3 hz hu' he'
            rw [← Array.length_toList] at rc rn
            exact ⟨EqAt.of_refs hxy rc, rc, rn⟩
          · rename_i hl
            cases h
            have hl := Nat.ne_of_beq_eq_false hl
            have hz : (ws.size != us.size) = true := by
              rw [bne_iff_ne, ← Array.length_toList, ← Array.length_toList, ← t2.len, ← t4.len]; exact hl
            have rc := RcAt.lists_lengths (A := A) t1 t3 hz hu'
            exact ⟨EqAt.of_refs hxy rc, rc, RcNeAt.lists_lengths t1 t3 hz hu'⟩
        · cases h
    · cases h
end
end Mine

end
section
set_option maxRecDepth 10000
namespace Mine
open PySem PySem.W PySem.Calls PySem.SeqAt PyProof.Rows

section
variable {P : Par} {G : Glob} {g : Gh} {st : St} {s : Shared} {A : Around} {Γ : AEnv} {env : Env}

abbrev DRel (ρ : Nat → Int) (g : Gh) (p : Int × AV) (q : Int × Value) : Prop := p.1 = q.1 ∧ Small p.1 ∧ VR ρ g p.2 q.2

theorem RepS.dict (R : RepS P g st s) {i : Nat} {es : List (Int × AV)} {e : Option Nat} {a : Addr} (h : st.get i = some (.dict es e)) (ha : g.adr i = some a) :
    ∃ kvs ep, s.heap.DictAt (intKind P.prog P.w) a kvs ep ∧ (∀ k, e = some k → ep = k) ∧ A2 (DRel P.ρ g) es kvs := by
  refine hideGoal fun Φ hΦ => ?_
  obtain ⟨ob, h2, h3, ds, ep, kvs, h4, h0, h5, h6, h7, h8⟩ := R.1.atA ha h
  refine hΦ ?_
  clear hΦ Φ
  exact ⟨kvs, ep, ⟨ob, ds, h2, h3, h4, h5, h6, h7⟩, h0, h8⟩
theorem dict_valueAt {k : Int} : ∀ {es : List (Int × AV)} {kvs : List (Int × Value)}, A2 (DRel P.ρ g) es kvs →
    (∃ a v, dfind k es = some a ∧ valueAt kvs k = some v ∧ VR P.ρ g a v) ∨ (dfind k es = none ∧ valueAt kvs k = none)
  | [], [], _ => .inr ⟨rfl, rfl⟩
  | p :: es, q :: kvs, ⟨x, y⟩ => by
    obtain ⟨x1, x2, x3⟩ := x
    unfold dfind valueAt
    by_cases e : p.1 = k
    · have e' : q.1 = k := x1 ▸ e
      refine .inl ⟨p.2, q.2, ?_, ?_, x3⟩
      · rw [decide_eq_true e]
      · simp [List.find?_cons, e']
    · have e' : ¬ q.1 = k := fun z => e (x1.trans z)
      rcases dict_valueAt (k := k) y with ⟨a, v, h1, h2, h3⟩ | ⟨h1, h2⟩
      · refine .inl ⟨a, v, ?_, ?_, h3⟩
        · rw [decide_eq_false e]; exact h1
        · rw [← h2]; simp [List.find?_cons, e', valueAt]
      · refine .inr ⟨?_, ?_⟩
        · rw [decide_eq_false e]; exact h1
        · rw [← h2]; simp [List.find?_cons, e', valueAt]
theorem RepS.notSys (O : GOK P G) (R : RepS P g st s) {i : Nat} {a : Addr} (ha : g.adr i = some a) : (a == sysModules) = false := by
  rw [beq_eq_false_iff_ne]
  rintro rfl
  obtain ⟨o, ho⟩ := O.sysm
  rw [R.1.fresh _ (rnth_mem ha)] at ho
  cases ho

/-- what == at the top comes to -/
structure EqF (P : Par) (A : Around) (s : Shared) (v u : Value) (c : Bool) : Prop where
  eq : ∀ (E : Value → Shared → Prop) (Q : Value → Shared → Prop), Q (.bool c) s → wpAny (model P.prog P.w) A (compareOp .Eq v u) Q E s
  ne : ∀ (E : Value → Shared → Prop) (Q : Value → Shared → Prop), Q (.bool !c) s → wpAny (model P.prog P.w) A (compareOp .NotEq v u) Q E s
theorem EqOK.f {v u : Value} {c : Bool} (h : EqOK A s v u c) : EqF P A s v u c := ⟨fun E Q q => h.rc _ _ E Q q, fun E Q q => h.ne _ _ E Q q⟩

set_option tactic.hygienic true in
theorem eqvA_fact (O : GOK P G) (R : RepS P g st s) (hu : A.units + 8 < cLine) {a b : AV} {v u : Value} (va : VR P.ρ g a v) (vb : VR P.ρ g b u) :
    eqvA G a b st = .stuck ∨ ∃ c, eqvA G a b st = .ok c st ∧ EqF P A s v u c := by
  have plain : ofO (eqvP G st 6 a b) st = .stuck ∨ ∃ c, ofO (eqvP G st 6 a b) st = .ok c st ∧ EqF P A s v u c := by
    cases h : eqvP G st 6 a b with
    | none => exact .inl rfl
    | some c => exact .inr ⟨c, rfl, (eqvP_ok O.orc R 6 A (by omega) a b c v u h va vb).f⟩
  unfold eqvA
  split
  · rename_i i j
    split
    · rename_i xs ex ys ey e1 e2
      obtain ⟨x, hx, rfl⟩ := va
      obtain ⟨y, hy, rfl⟩ := vb
      refine hideGoal fun Φ hΦ => ?_
      obtain ⟨ka, epa, da, _, ra⟩ := R.dict e1 hx
      refine hΦ ?_
      clear hΦ Φ
      refine hideGoal fun Φ hΦ => ?_
      obtain ⟨kb, epb, db, _, rb⟩ := R.dict e2 hy
      refine hΦ ?_
      clear hΦ Φ
      have mk : ∀ c r, (ka.length = kb.length → KeqHits A.in1 s kb ka r) → c = (ka.length == kb.length && r) → EqF P A s (.ref x) (.ref y) c := fun c r hits e => by
        subst e
        exact ⟨fun E Q q => keq_eq (knd := intKind P.prog P.w) (R.notSys O hx) (R.notSys O hy) da.dictOf db.dictOf (by omega) hits q,
          fun E Q q => keq_ne (knd := intKind P.prog P.w) (R.notSys O hx) (R.notSys O hy) da.dictOf db.dictOf (by omega) hits q⟩
      cases h : dictEqP G st xs ys with
      | none => exact .inl rfl
      | some c =>
        refine .inr ⟨c, rfl, ?_⟩
        unfold dictEqP at h
        split at h
        · cases ra.nil
          cases rb.nil
          cases h; exact mk _ true (fun _ => .nil) rfl
        · rename_i p q
          refine hideGoal fun Φ hΦ => ?_
          obtain ⟨⟨k1, v1⟩, _, rfl, ⟨z1, z2, z3⟩, ra⟩ := ra.cons
          refine hΦ ?_
          clear hΦ Φ
          cases ra.nil
          refine hideGoal fun Φ hΦ => ?_
          obtain ⟨⟨k2, v2⟩, _, rfl, ⟨y1, y2, y3⟩, rb⟩ := rb.cons
          refine hΦ ?_
          clear hΦ Φ
          cases rb.nil
          dsimp only at z1 z2 z3 y1 y2 y3
          split at h
          · rename_i he
            have he := of_decide_eq_true he
            have hk : k1 = k2 := by rw [← z1, ← y1, he]
            subst hk
            have eo := eqvP_ok O.orc R 6 A.in1 (by simp only [Around.in1_units]; omega) _ _ c _ _ h z3 y3
            have := KeqHits.hit (A := A.in1) (s := s) (kb := [(k1, v2)]) (k := k1) (v := v1) (r := []) (by simp [valueAt]) eo.eq .nil
            exact mk c (c && true) (fun _ => this) (by simp)
          · rename_i he
            cases h
            have he := of_decide_eq_false he
            have hk : ¬ k2 = k1 := fun q => he (by rw [z1, y1, q])
            have := KeqHits.miss (A := A.in1) (s := s) (kb := [(k2, v2)]) (k := k1) (v := v1) (r := []) (by simp [valueAt, hk])
            exact mk false false (fun _ => this) (by simp)
        · cases h
          cases ra.nil
          refine hideGoal fun Φ hΦ => ?_
          obtain ⟨_, _, rfl, _, _⟩ := rb.cons
          refine hΦ ?_
          clear hΦ Φ
          exact mk false true (fun q => by simp at q) (by simp)
        · cases h
          cases rb.nil
          refine hideGoal fun Φ hΦ => ?_
          obtain ⟨_, _, rfl, _, _⟩ := ra.cons
          refine hΦ ?_
          clear hΦ Φ
          exact mk false true (fun q => by simp at q) (by simp)
        · cases h
    · exact plain
  · exact plain

open Classical in
theorem anyEqP_ok (O : GOK P G) (hu : A.units + 8 < cLine) {x : AV} {u : Value} (vx : VR P.ρ g x u) : ∀ {vs : List AV} {ws : List Value} {c : Bool}, anyEqP G st x vs = some c → A2 (VR P.ρ g) vs ws →
    ∃ e : Value → Bool, (∀ s, RepS P g st s → ∀ y ∈ ws, EqAt A.in1 s y u (e y)) ∧ ws.any e = c
  | [], [], c, h, _ => by cases h; exact ⟨fun _ => false, ⟨fun _ _ _ h => (List.not_mem_nil h).elim, rfl⟩⟩
  | v :: vs, w :: ws, c, h, ⟨h1, h2⟩ => by
    unfold anyEqP at h
    cases q1 : eqvP G st 6 v x with
    | none => rw [q1] at h; cases h
    | some k =>
      rw [q1] at h
      cases q2 : anyEqP G st x vs with
      | none => rw [q2] at h; cases h
      | some l =>
        rw [q2] at h
        cases h
        obtain ⟨e, e1, e2⟩ := anyEqP_ok O hu vx q2 h2
        have eo := fun s (R : RepS P g st s) => (eqvP_ok O.orc R 6 A.in1 (by simp only [Around.in1_units]; omega) _ _ k _ _ q1 h1 vx).eq
        refine ⟨fun y => (decide (y = w) && k) || (decide (y ∈ ws) && e y), ?_, ?_⟩
        · intro s R y hy
          have eo := eo s R
          have e1 := e1 s R
          by_cases c1 : y = w
          · subst c1
            cases k with
            | true => simpa using eo
            | false =>
              by_cases c2 : y ∈ ws
              · simpa [c2] using e1 y c2
              · simpa [c2] using eo
          · rcases List.mem_cons.mp hy with q | q
            · exact absurd q c1
            · simpa [c1, q] using e1 y q
        · rw [← e2, List.any_cons]
          cases k with
          | true => simp
          | false =>
            simp only [Bool.and_false, Bool.false_or]
            have : ws.any (fun y => decide (y ∈ ws) && e y) = ws.any e := by
              rw [Bool.eq_iff_iff, List.any_eq_true, List.any_eq_true]
              constructor
              · rintro ⟨y, a, b⟩; rw [Bool.and_eq_true] at b; exact ⟨y, a, b.2⟩
              · rintro ⟨y, a, b⟩; exact ⟨y, a, by simp [a, b]⟩
            rw [this]
            cases q : ws.any e with
            | true => simp
            | false =>
              simp only [Bool.or_false, Bool.and_eq_false_iff, decide_eq_false_iff_not]
              by_cases c2 : w ∈ ws
              · refine .inr ?_
                cases q' : e w with
                | false => rfl
                | true => rw [← q, eq_comm, List.any_eq_true]; exact ⟨w, c2, q'⟩
              · exact .inl c2

/-- what «in» comes to -/
structure InF (P : Par) (A : Around) (g : Gh) (st : St) (s : Shared) (v u : Value) (c : Bool) : Prop where
  eq : ∀ (E : Value → Shared → Prop) (Q : Value → Shared → Prop), (∀ s', RepS P g st s' → Q (.bool c) s') → wpAny (model P.prog P.w) A (compareOp .In v u) Q E s
  ne : ∀ (E : Value → Shared → Prop) (Q : Value → Shared → Prop), (∀ s', RepS P g st s' → Q (.bool !c) s') → wpAny (model P.prog P.w) A (compareOp .NotIn v u) Q E s
theorem InF.of_contains {v u : Value} {c : Bool} (h : ∀ (E : Value → Shared → Prop) (Q : Bool → Shared → Prop), (∀ s', RepS P g st s' → Q c s') → wpAny (model P.prog P.w) A (contains u v) Q E s) : InF P A g st s v u c :=
  ⟨fun E Q q => wpAny_bind (h E _ fun s' r => wpAny_pure (q s' r)), fun E Q q => wpAny_bind (h E _ fun s' r => wpAny_pure (q s' r))⟩
end

theorem dvals_nocontains : typeLookup (.type "dict_values") "__contains__" = pure none := by rw [typeLookup_type, builtinLookup_eq_fast]; kernel_rfl

section
variable {P : Par} {G : Glob} {g : Gh} {st : St} {s : Shared} {A : Around} {Γ : AEnv} {env : Env}
/-- what stands stays, and no more is asked -/
structure Ext (s s' : Shared) : Prop where
  keep : ∀ b o, s.heap.get? b = some o → s'.heap.get? b = some o
  gens : s'.gens = s.gens
  drawn : s'.drawn = s.drawn
  os : s'.os = s.os
theorem Ext.refl (s : Shared) : Ext s s := ⟨fun _ _ h => h, rfl, rfl, rfl⟩
theorem RepS.ext {s' : Shared} (R : RepS P g st s) (x : Ext s s') : RepS P g st s' := ⟨R.1.grow x.keep, x.gens.trans R.2.1, x.drawn.trans R.2.2.1, x.os.trans R.2.2.2⟩
theorem Ext.but {s s' : Shared} {h' : Heap} {it : Addr} {tk : Nat} (x : Ext s s') (hz : s.heap.objs.size ≤ it) (k : Heap.ExtBut it s'.heap h') : Ext s { s' with heap := h', toks := tk } :=
  ⟨fun b o e => k b o (fun q => absurd (Heap.lt_size e) (by rw [q]; exact Nat.not_lt.mpr hz)) (x.keep b o e), x.gens, x.drawn, x.os⟩
theorem Ext.push {s s' : Shared} {ob : Obj} {tk : Nat} (x : Ext s s') : Ext s { s' with heap := s'.heap.push ob, toks := tk } :=
  ⟨fun b o e => Heap.get?_push_of_some _ (x.keep b o e), x.gens, x.drawn, x.os⟩
theorem Ext.toks {s s' : Shared} (x : Ext s s') (tk : Nat) : Ext s { s' with toks := tk } := ⟨x.keep, x.gens, x.drawn, x.os⟩
theorem Ext.trans {s s' s'' : Shared} (x : Ext s s') (y : Ext s' s'') : Ext s s'' := ⟨fun b o e => y.keep b o (x.keep b o e), y.gens.trans x.gens, y.drawn.trans x.drawn, y.os.trans x.os⟩

/-- walking the values -/
theorem contains_vals (hh : A.handled = none) {d it : Addr} {kvs : List (Int × Value)} {ep : Nat} {u : Value} {e : Value → Bool} {s₀ : Shared} (hz : s₀.heap.objs.size ≤ it)
    (hD : s₀.heap.DictAt (intKind P.prog P.w) d kvs ep) (he : ∀ s', Ext s₀ s' → ∀ y ∈ kvs.map (·.2), EqAt A.in1 s' y u (e y)) {R : Result → Shared → Prop} :
    ∀ (n i : Nat) (s : Shared), kvs.length - i = n → Ext s₀ s → s.heap.IsValIter it d i kvs.length ep →
      (∀ s', Ext s₀ s' → R (.ok (.ret (.bool (((kvs.drop i).map (·.2)).any e)))) s') →
        codeAny (model P.prog P.w) A (.builtin "proto.contains_iter" ⟨[.ref it, u], []⟩) R s := by
  intro n
  induction n with
  | zero =>
    intro i s hn X hit hR
    refine codeAny_builtin (b := Builtin.«proto.contains_iter») (entryFor_of_tree (by kernel_rfl)) ?_
    unfold Builtin.«proto.contains_iter»
    refine wpAny_bind ?_
    have hx : kvs[i]? = none := List.getElem?_eq_none_iff.mpr (by omega)
    refine wpAny_pyNext_values_end (knd := intKind P.prog P.w) hh hit (hD.keep X.keep) hx fun h' hx' => ?_
    have X' := X.but (tk := s.toks) hz hx'
    refine wpAny_bind (wpAny_rule (wpAny_pure ?_))
    have := hR _ X'
    rw [List.drop_eq_nil_of_le (by omega)] at this
    exact this
  | succ n ih =>
    intro i s hn X hit hR
    refine codeAny_builtin (b := Builtin.«proto.contains_iter») (entryFor_of_tree (by kernel_rfl)) ?_
    unfold Builtin.«proto.contains_iter»
    refine wpAny_bind ?_
    have hi : i < kvs.length := by omega
    have hx : kvs[i]? = some (kvs[i].1, kvs[i].2) := List.getElem?_eq_getElem hi
    refine wpAny_pyNext_values_item (knd := intKind P.prog P.w) hit (hD.keep X.keep) hx fun h' hit' hx' => ?_
    have X' := X.but (tk := s.toks) hz hx'.extBut
    have hm : kvs[i].2 ∈ kvs.map (·.2) := List.mem_map_of_mem (List.getElem_mem hi)
    have hd : (kvs.drop i).map (·.2) = kvs[i].2 :: (kvs.drop (i + 1)).map (·.2) := by rw [List.drop_eq_getElem_cons hi]; rfl
    refine wpAny_bind (he _ X' _ hm _ _ _ _ ?_)
    cases q : e kvs[i].2 with
    | true =>
      refine wpAny_bind (wpAny_rule (wpAny_pure ?_))
      have := hR _ X'
      rw [hd, List.any_cons, q] at this
      exact this
    | false =>
      refine wpAny_pure ⟨by kernel_rfl, ?_⟩
      refine ih (i + 1) _ (by omega) X' hit' fun s' y => ?_
      have := hR _ y
      rw [hd, List.any_cons, q] at this
      exact this

theorem A2.ofMap {ρ : Nat → Int} {g : Gh} : ∀ {es : List (Int × AV)} {kvs : List (Int × Value)}, A2 (DRel ρ g) es kvs → A2 (VR ρ g) (es.map (·.2)) (kvs.map (·.2))
  | [], [], _ => trivial
  | _ :: _, _ :: _, ⟨x, y⟩ => ⟨x.2.2, y.ofMap⟩
theorem RepS.vals (R : RepS P g st s) {i d : Nat} {a : Addr} (h : st.get i = some (.vals d)) (ha : g.adr i = some a) : ∃ b, g.adr d = some b ∧ s.heap.IsValuesView a b := by
  refine hideGoal fun Φ hΦ => ?_
  obtain ⟨ob, h2, b, h3, h4, h5⟩ := R.1.atA ha h
  refine hΦ ?_
  clear hΦ Φ
  exact ⟨b, h3, ob, h2, h4, h5⟩

theorem anyEq_in_seq (O : GOK P G) (R : RepS P g st s) (hu : A.units + 8 < cLine) {x : AV} {u : Value} (vx : VR P.ρ g x u) {vs : List AV} {ws : Array Value} {l : Addr} (hl : s.heap.IsTuple l ws ∨ s.heap.IsList l ws) (hv : A2 (VR P.ρ g) vs ws.toList)
    {c : Bool} (h : anyEqP G st x vs = some c) : InF P A g st s u (.ref l) c := by
  obtain ⟨e, e1, e2⟩ := anyEqP_ok (A := A) O hu vx h hv
  have e1 := e1 s R
  have e3 : ws.any e = c := by rw [← e2]; exact (Array.any_toList).symm
  have e4 : ∀ y, y ∈ ws → EqAt A.in1 s y u (e y) := fun y hy => e1 y (Array.mem_toList_iff.mpr hy)
  rcases hl with hl | hl
  · exact ⟨fun E Q q => in_tupleAt e hl e4 (by rw [e3]; exact q s R), fun E Q q => notIn_tupleAt e hl e4 (by rw [e3]; exact q s R)⟩
  · exact ⟨fun E Q q => in_listAt e hl e4 (by rw [e3]; exact q s R), fun E Q q => notIn_listAt e hl e4 (by rw [e3]; exact q s R)⟩

set_option tactic.hygienic true in
theorem inA_fact (O : GOK P G) (R : RepS P g st s) (hu : A.units + 8 < cLine) {hd : Option Nat} (hh : HdR g hd A) {a b : AV} {v u : Value} (va : VR P.ρ g a v) (vb : VR P.ρ g b u) :
    inA G hd a b st = .stuck ∨ ∃ c, inA G hd a b st = .ok c st ∧ InF P A g st s v u c := by
  unfold inA
  split
  · rename_i t
    cases q : G.tups t with
    | none => exact .inl (bind_stuck rfl)
    | some vs =>
      rw [bind_ok (ofO_some vs st)]
      refine hideGoal fun Φ hΦ => ?_
      obtain ⟨o, ws, n, h1, h2, h3, h4, _⟩ := O.tups _ _ q
      refine hΦ ?_
      clear hΦ Φ
      cases q2 : anyEqP G st a vs with
      | none => refine .inl ?_; unfold anyEq; rw [q2]; rfl
      | some c =>
        refine .inr ⟨c, by unfold anyEq; rw [q2]; rfl, ?_⟩
        cases vb
        exact anyEq_in_seq O R hu va (.inl ⟨o, R.1.keep _ _ h1, h2, n, h3⟩) (h4 g) q2
  · rename_i i
    obtain ⟨x, hx, rfl⟩ := vb
    cases q : st.get i with
    | none => exact .inl (bind_stuck (getO_none q))
    | some o =>
      rw [bind_ok (getO_ok q)]
      rcases o with ⟨⟩ <;> first | exact .inl rfl | skip
      · rename_i vs
        obtain ⟨ws, t1, t2⟩ := R.tup q hx
        dsimp only
        cases q2 : anyEqP G st a vs with
        | none => refine .inl ?_; unfold anyEq; rw [q2]; rfl
        | some c => exact .inr ⟨c, by unfold anyEq; rw [q2]; rfl, anyEq_in_seq O R hu va (.inl t1) t2 q2⟩
      · rename_i vs
        obtain ⟨ws, t1, t2⟩ := R.lst q hx
        dsimp only
        cases q2 : anyEqP G st a vs with
        | none => refine .inl ?_; unfold anyEq; rw [q2]; rfl
        | some c => exact .inr ⟨c, by unfold anyEq; rw [q2]; rfl, anyEq_in_seq O R hu va (.inr t1) t2 q2⟩
      · rename_i es ep
        dsimp only
        split
        · rename_i k
          obtain ⟨t, rfl, _⟩ := va
          refine hideGoal fun Φ hΦ => ?_
          obtain ⟨kvs, ep', h1, _, h3⟩ := R.dict q hx
          refine hΦ ?_
          clear hΦ Φ
          have hkey : (intKind P.prog P.w).is k (.int k t) = true := by simp [intKind, Value.isInt]
          have mk : ∀ c, (valueAt kvs k).isSome = c → InF P A g st s (.int k t) (.ref x) c := fun c e => by
            subst e
            exact ⟨fun E Q z => wpAny_in_of (knd := intKind P.prog P.w) hkey (R.notSys O hx) h1.dictOf.mapOf (z _ (R.toks _)),
              fun E Q z => wpAny_notIn_of (knd := intKind P.prog P.w) hkey (R.notSys O hx) h1.dictOf.mapOf (z _ (R.toks _))⟩
          rcases dict_valueAt (k := k) h3 with ⟨a, v, z1, z2, _⟩ | ⟨z1, z2⟩
          · rw [z1]; exact .inr ⟨true, rfl, mk _ (by rw [z2]; rfl)⟩
          · rw [z1]; exact .inr ⟨false, rfl, mk _ (by rw [z2]; rfl)⟩
        · exact .inl rfl
      · rename_i d
        cases hd with
        | some _ => exact .inl rfl
        | none =>
          have hh : A.handled = none := hh
          dsimp only
          cases qd : st.get d with
          | none => exact .inl (bind_stuck (getO_none qd))
          | some od =>
            rw [bind_ok (getO_ok qd)]
            rcases od with ⟨⟩ <;> first | exact .inl rfl | skip
            rename_i es ep
            dsimp only
            cases q2 : anyEqP G st a (es.map (·.2)) with
            | none => refine .inl ?_; unfold anyEq; rw [q2]; rfl
            | some c =>
              refine .inr ⟨c, by unfold anyEq; rw [q2]; rfl, ?_⟩
              obtain ⟨b, hb, hv⟩ := R.vals q hx
              refine hideGoal fun Φ hΦ => ?_
              obtain ⟨kvs, ep', hD, _, h3⟩ := R.dict qd hb
              refine hΦ ?_
              clear hΦ Φ
              obtain ⟨e, e1, e2⟩ := anyEqP_ok (A := A) O hu va q2 h3.ofMap
              refine .of_contains fun E Q z => ?_
              unfold contains
              refine wpAny_holding ?_
              refine wpAny_bind (wpAny_specialOf hv.typeIs dvals_nocontains ?_)
              refine wpAny_bind (wpAny_callSpecialUnlessNone?_none hv.typeIs dvals_nocontains ?_)
              refine wpAny_bind (wpAny_rule ?_)
              refine wpAny_bind (wpAny_tryCatch ?_)
              refine wpAny_pyIter_values (knd := intKind P.prog P.w) hv hD ?_
              refine wpAny_bind (wpAny_runValue ?_)
              refine contains_vals hh (Nat.le_refl _) hD (e := e) (fun s' X y hy => e1 s' (R.ext X) y hy) kvs.length 0 _ (by omega) ((Ext.refl s).push (tk := s.toks)) ⟨_, Heap.get?_push_size _ rfl, rfl, rfl⟩ fun s' X => ?_
              refine wpAny_pure ?_
              have := z s' (R.ext X)
              rw [← e2] at this
              exact this
  · exact .inl rfl

theorem isA_fact {a b : AV} {v u : Value} (va : VR P.ρ g a v) (vb : VR P.ρ g b u) : isA a b st = .stuck ∨ ∃ c, isA a b st = .ok c st ∧ plainIs v u = true ∧ c = (v == u) := by
  unfold isA
  split
  · cases vb
    split
    · cases va; exact .inr ⟨true, rfl, rfl, rfl⟩
    · obtain ⟨t, rfl, _⟩ := va; exact .inr ⟨false, rfl, rfl, rfl⟩
    · obtain ⟨x, _, rfl⟩ := va; exact .inr ⟨false, rfl, rfl, rfl⟩
    · obtain ⟨t, rfl⟩ := va; exact .inr ⟨false, rfl, rfl, rfl⟩
    · exact .inl rfl
  · exact .inl rfl

theorem SndAt.ofFact {m : AM α} {t : Sem β} {V : Gh → α → β → Prop} (h : m st = .stuck ∨ ∃ c, m st = .ok c st ∧ wpAny (model P.prog P.w) A t (SV P g st c V) (fun _ _ => False) s) : SndAt P g st s A m t V := by
  rcases h with h | ⟨c, h1, h2⟩
  · exact fun hn => absurd h hn
  · exact .val h1 h2

theorem SndAt.ofO1 {α : Type} {x : Option α} {t : Sem β} {V : Gh → α → β → Prop} (y : ∀ a, x = some a → SndAt P g st s A (Pure.pure a : AM α) t V) : SndAt P g st s A (Mine.ofO x) t V := by
  cases x with
  | none => exact fun hn => absurd rfl hn
  | some a => exact y a rfl
theorem bnot_le (a b : Int) : (!decide (b < a)) = decide (a ≤ b) := by
  by_cases h : b < a
  · rw [decide_eq_true h, decide_eq_false (by omega)]; rfl
  · rw [decide_eq_false h, decide_eq_true (by omega)]; rfl

set_option tactic.hygienic true in
theorem cmpA_ok (O : GOK P G) {hd : Option Nat} (hu : A.units + 8 < cLine) (hh : ∀ g', g.le g' → HdR g' hd A) {op : CmpOp} {a b : AV} {v u : Value} (va : VR P.ρ g a v) (vb : VR P.ρ g b u) :
    Snd P g A (cmpA G hd op a b) (compareOp op v u) (fun _ c w => w = .bool c) := by
  intro g₁ st s hg R
  replace va := va.mono hg
  replace vb := vb.mono hg
  replace hh := hh _ hg
  have fin : ∀ {c : Bool} {s'}, RepS P g₁ st s' → SV P g₁ st c (fun (_ : Gh) (c : Bool) (w : Value) => w = .bool c) (.bool c) s' := fun R => ⟨g₁, .refl _, R, rfl⟩
  cases op with
  | Eq =>
    refine .ofFact ?_
    rcases eqvA_fact O R hu va vb with h | ⟨c, h, k⟩
    · exact .inl h
    · exact .inr ⟨c, h, k.eq _ _ (fin R)⟩
  | NotEq =>
    rcases eqvA_fact O R hu va vb with h | ⟨c, h, k⟩
    · exact fun hn => absurd (bind_stuck h) hn
    · exact .abs h (.val rfl (k.ne _ _ (fin R)))
  | Lt =>
    dsimp only [cmpA]
    rcases a with ⟨⟩ <;> first | exact .stuck | skip
    rcases b with ⟨⟩ <;> first | exact .stuck | skip
    · rename_i x y
      refine hideGoal fun Φ hΦ => ?_
      obtain ⟨t, rfl, _⟩ := va; obtain ⟨t', rfl, _⟩ := vb
      refine hΦ ?_
      clear hΦ Φ
      dsimp only
      refine .ofO1 fun c q => .val (a := c) (st' := st) rfl (PySem.P.lt_int ?_)
      rw [intLt_ok O.orc q]
      exact fin R
  | Gt =>
    dsimp only [cmpA]
    rcases a with ⟨⟩ <;> first | exact .stuck | skip
    rcases b with ⟨⟩ <;> first | exact .stuck | skip
    · rename_i x y
      refine hideGoal fun Φ hΦ => ?_
      obtain ⟨t, rfl, _⟩ := va; obtain ⟨t', rfl, _⟩ := vb
      refine hΦ ?_
      clear hΦ Φ
      dsimp only
      refine .ofO1 fun c q => .val (a := c) (st' := st) rfl (PySem.P.gt_int ?_)
      rw [intLt_ok O.orc q]
      exact fin R
  | LtE =>
    dsimp only [cmpA]
    rcases a with ⟨⟩ <;> first | exact .stuck | skip
    rcases b with ⟨⟩ <;> first | exact .stuck | skip
    · rename_i x y
      refine hideGoal fun Φ hΦ => ?_
      obtain ⟨t, rfl, _⟩ := va; obtain ⟨t', rfl, _⟩ := vb
      refine hΦ ?_
      clear hΦ Φ
      dsimp only
      refine .ofO fun c q => .val (a := !c) (st' := st) rfl (PySem.P.le_int ?_)
      rw [intLt_ok O.orc q, bnot_le]
      exact fin R
  | GtE =>
    dsimp only [cmpA]
    rcases a with ⟨⟩ <;> first | exact .stuck | skip
    rcases b with ⟨⟩ <;> first | exact .stuck | skip
    · rename_i x y
      refine hideGoal fun Φ hΦ => ?_
      obtain ⟨t, rfl, _⟩ := va; obtain ⟨t', rfl, _⟩ := vb
      refine hΦ ?_
      clear hΦ Φ
      dsimp only
      refine .ofO fun c q => .val (a := !c) (st' := st) rfl (PySem.P.ge_int ?_)
      rw [intLt_ok O.orc q, bnot_le]
      exact fin R
  | In =>
    refine .ofFact ?_
    rcases inA_fact O R hu hh va vb with h | ⟨c, h, k⟩
    · exact .inl h
    · exact .inr ⟨c, h, k.eq _ _ fun s' R' => fin R'⟩
  | NotIn =>
    rcases inA_fact O R hu hh va vb with h | ⟨c, h, k⟩
    · exact fun hn => absurd (bind_stuck h) hn
    · exact .abs h (.val rfl (k.ne _ _ fun s' R' => fin R'))
  | Is =>
    refine .ofFact ?_
    rcases isA_fact (st := st) va vb with h | ⟨c, h, k, e⟩
    · exact .inl h
    · exact .inr ⟨c, h, by rw [e]; exact wpAny_is_plain k (fin R)⟩
  | IsNot =>
    rcases isA_fact (st := st) va vb with h | ⟨c, h, k, e⟩
    · exact fun hn => absurd (bind_stuck h) hn
    · exact .abs h (.val rfl (by rw [e]; exact wpAny_isNot_plain k (fin R)))
end
end Mine

end
section
set_option maxRecDepth 10000
namespace Mine
open PySem PySem.W PySem.Calls PySem.SeqAt PyProof.Rows

section
variable {P : Par} {G : Glob} {g : Gh} {st : St} {s : Shared} {A : Around} {Γ : AEnv} {env : Env}

theorem SndAt.fit {m : Nat} {f : Unit → AM α} {t : Sem β} {V : Gh → α → β → Prop} (x : m ≤ 4096 → SndAt P g st s A (f ()) t V) : SndAt P g st s A (Mine.fit m >>= f) t V := by
  unfold Mine.fit
  cases q : Nat.ble m 4096 with
  | true => exact SndAt.abs rfl (x (Nat.le_of_ble_eq_true q))
  | false => exact fun hn => absurd (bind_stuck rfl) hn
theorem size_of {vs : List AV} {ws : Array Value} (h : A2 (VR P.ρ g) vs ws.toList) : ws.size = vs.length := by rw [← Array.length_toList, ← h.len]
theorem le_sizeLine {n : Nat} (h : n ≤ 4096) : n ≤ sizeLine := by rw [sizeLine_eq]; omega
theorem small_small {n : Nat} (h : n ≤ 4096) : Small (n : Int) := by unfold Small; omega
set_option tactic.hygienic true in
theorem bits_small {a : Int} (h : Small a) : Builtin.Int.intBits a ≤ 64 := by
  unfold Builtin.Int.intBits
  unfold Small at h
  split
  · omega
  · rename_i q
    have q : a ≠ 0 := by simpa using q
    have : a.natAbs.log2 < 64 := (Nat.log2_lt (by omega)).mpr (by omega)
    omega

set_option tactic.hygienic true in
theorem binopA_ok (O : GOK P G) (R : RepS P g st s) {op : Operator} {a b : AV} {v u : Value} (va : VR P.ρ g a v) (vb : VR P.ρ g b u) :
    SndAt P g st s A (binopA G op a b) (binaryOp op v u) (fun g' c w => VR P.ρ g' c w) := by
  unfold binopA
  split
  · rename_i x y
    obtain ⟨t, rfl, sx⟩ := va
    obtain ⟨t', rfl, sy⟩ := vb
    refine .ofO fun o ho => .ofO fun z hz => ?_
    obtain ⟨e, sz⟩ := intOp_ok O.orc hz
    have fin : SV P g st (AV.int z) (fun g' c w => VR P.ρ g' c w) (.int (z.val P.ρ) s.toks) { s with toks := s.toks + 1 } := ⟨g, .refl _, R.toks _, _, rfl, sz⟩
    rcases op with ⟨⟩ <;> cases ho
    · rw [e] at fin; exact .val rfl (PySem.P.add_int fin)
    · rw [e] at fin; exact .val rfl (PySem.P.sub_int fin)
    · rw [e] at fin; exact .val rfl (PySem.P.mul_int fin (.of_left (bits_small sx)))
    · obtain ⟨h1, h2, e⟩ := e; rw [e] at fin; exact .val rfl (mod_int' (by omega) fin)
    · obtain ⟨h1, h2, e⟩ := e; rw [e] at fin; exact .val rfl (lshift_int_small h1 (by omega) (by unfold Small at sx; omega) fin)
    · obtain ⟨h1, h2, e⟩ := e; rw [e] at fin; exact .val rfl (rshift_int h1 fin)
    · rw [e] at fin; exact .val rfl (or_int fin)
    · rw [e] at fin; exact .val rfl (and_int fin)
    · obtain ⟨h1, h2, e⟩ := e; rw [e] at fin; exact .val rfl (floordiv_int (by omega) fin (.inl (PyProof.noPylong_small (by omega))))
  · rename_i x y
    refine hideGoal fun Φ hΦ => ?_
    obtain ⟨b1, t, rfl, e1⟩ := va
    refine hΦ ?_
    clear hΦ Φ
    refine hideGoal fun Φ hΦ => ?_
    obtain ⟨b2, t', rfl, e2⟩ := vb
    refine hΦ ?_
    clear hΦ Φ
    rcases op with ⟨⟩ <;> first | exact .stuck | skip
    refine .fit fun hf => ?_
    have l1 : b1.size = x.length := by have := congrArg List.length e1; simpa [octs] using this
    have l2 : b2.size = y.length := by have := congrArg List.length e2; simpa [octs] using this
    refine .val rfl (KBy.add_bytes (by omega) fun t' k => ⟨g, .refl _, R.toks _, _, _, rfl, ?_⟩)
    rw [List.map_append, ← e1, ← e2]
    simp [octs]
  · rename_i n y
    refine hideGoal fun Φ hΦ => ?_
    obtain ⟨x, t, rfl, e1⟩ := va
    refine hΦ ?_
    clear hΦ Φ
    obtain ⟨t', rfl⟩ := vb
    rcases op with ⟨⟩ <;> first | exact .stuck | skip
    refine .fit fun hf => ?_
    have e2 : y.length = y.cps.size := rfl
    refine .val rfl (PyProof.Rows.add_str (fun t' k => ⟨g, .refl _, R.toks _, _, _, rfl, ?_⟩) (by rw [sizeLine_eq]; omega))
    have : (x ++ y).length = x.length + y.length := by
      show (x.cps ++ y.cps).size = _
      rw [Array.size_append]; rfl
    omega
  · rename_i i j
    obtain ⟨x, hx, rfl⟩ := va
    obtain ⟨y, hy, rfl⟩ := vb
    rcases op with ⟨⟩ <;> first | exact .stuck | skip
    refine .getO fun o ho => .getO fun p hp => ?_
    rcases o with ⟨⟩ <;> first | exact .stuck | skip
    rcases p with ⟨⟩ <;> first | exact .stuck | skip
    rename_i xs ys
    refine hideGoal fun Φ hΦ => ?_
    obtain ⟨ws, n, h1, h2⟩ := R.lstX ho hx
    refine hΦ ?_
    clear hΦ Φ
    refine hideGoal fun Φ hΦ => ?_
    obtain ⟨us, m, h3, h4⟩ := R.lstX hp hy
    refine hΦ ?_
    clear hΦ Φ
    have l1 := size_of h2
    have l2 := size_of h4
    refine .fit fun hf => ?_
    refine .abs (newO_ok _ _) (.val rfl (PySem.P.add_list h1 h3 ⟨g.push s.heap.objs.size (.lst (xs ++ ys)), g.push_le _ _, ⟨R.1.alloc ?_, R.2⟩, s.heap.objs.size, R.1.adrNew, rfl⟩ (by rw [sizeLine_eq]; omega)))
    refine ⟨rfl, _, _, rfl, ?_, rfl, rfl⟩
    rw [Array.toList_append]
    exact (h2.append h4).mono fun _ _ z => z.mono (g.push_le _ _)
  · exact .stuck

theorem notA_ok (R : RepS P g st s) {a : AV} {v : Value} (va : VR P.ρ g a v) : SndAt P g st s A (do pure (.bool (!(← truthyA a))) : AM AV) (unaryOp .Not v) (fun g' c w => VR P.ρ g' c w) := by
  rcases a with ⟨⟩ <;> first | exact .stuck | skip
  cases va
  exact .val rfl (not_of (wpAny_truthy_bool ⟨g, .refl _, R, rfl⟩))
theorem negA_ok (R : RepS P g st s) {n : Int} {v : Value} (va : VR P.ρ g (.int (.lit n)) v) (hs : small (-n) = true) : SndAt P g st s A (pure (.int (.lit (-n))) : AM AV) (unaryOp .USub v) (fun g' c w => VR P.ρ g' c w) := by
  obtain ⟨t, rfl, sx⟩ := va
  exact .val rfl (PySem.P.neg_int ⟨g, .refl _, R.toks _, _, rfl, small_iff.mp hs⟩)
theorem truthyA_ok (R : RepS P g st s) {a : AV} {v : Value} (va : VR P.ρ g a v) : SndAt P g st s A (truthyA a) (truthy v) (fun _ c b => b = c) := by
  rcases a with ⟨⟩ <;> first | exact .stuck | skip
  cases va
  exact .val rfl (wpAny_truthy_bool ⟨g, .refl _, R, rfl⟩)

theorem newLst_ok (R : RepS P g st s) {vs : List AV} {ws : List Value} (h : A2 (VR P.ρ g) vs ws) (hf : vs.length ≤ 4096) :
    SndAt P g st s A (do pure (.ref (← newO (.lst vs))) : AM AV) (newList ws) (fun g' c w => VR P.ρ g' c w) := by
  refine .abs (newO_ok _ _) (.val rfl (wpAny_newList ⟨g.push s.heap.objs.size (.lst vs), g.push_le _ _, ⟨R.1.alloc ?_, R.2⟩, s.heap.objs.size, R.1.adrNew, rfl⟩ (by rw [← h.len]; exact le_sizeLine hf)))
  exact ⟨rfl, _, _, rfl, h.mono fun _ _ z => z.mono (g.push_le _ _), rfl, rfl⟩
theorem newTup_ok (R : RepS P g st s) {vs : List AV} {ws : List Value} (h : A2 (VR P.ρ g) vs ws) (hf : vs.length ≤ 4096) :
    SndAt P g st s A (do pure (.ref (← newO (.tup vs))) : AM AV) (newTuple ws) (fun g' c w => VR P.ρ g' c w) := by
  refine .abs (newO_ok _ _) (.val rfl (wpAny_newTuple ⟨g.push s.heap.objs.size (.tup vs), g.push_le _ _, ⟨R.1.alloc ?_, R.2⟩, s.heap.objs.size, R.1.adrNew, rfl⟩ (by rw [← h.len]; exact le_sizeLine hf)))
  exact ⟨rfl, _, _, rfl, h.mono fun _ _ z => z.mono (g.push_le _ _)⟩
theorem newDict_ok (R : RepS P g st s) : SndAt P g st s A (do pure (.ref (← newO (.dict [] (some 0)))) : AM AV) newDict (fun g' c w => VR P.ρ g' c w) := by
  refine .abs (newO_ok _ _) (.val rfl (wpAny_newObj_type ⟨g.push s.heap.objs.size (.dict [] (some 0)), g.push_le _ _, ⟨R.1.alloc ?_, R.2⟩, s.heap.objs.size, R.1.adrNew, rfl⟩ (by exact Nat.zero_le _)))
  exact ⟨⟨rfl, rfl, rfl⟩, _, _, [], rfl, (fun k hk => by cases hk; rfl), (fun e he => by simp at he), .nil, List.nodup_nil, trivial⟩
end
end Mine

end
section
set_option maxRecDepth 10000
namespace Mine
open PySem PySem.W PySem.Calls PySem.SeqAt PyProof.Rows

/-! ## a walk's end, with the iterator still there -/
section
variable {prog : Program} {w : World} {A : Around} {E : Value → Shared → Prop} {s : Shared}

/-- from the set field on -/
theorem list_over {it l : Addr} {i : Nat} {items} {Q : Option Value → Shared → Prop} (hh : A.handled = none) (hit : s.heap.IsListIter it l i) (hl : s.heap.IsList l items) (hx : items[i]? = none)
    (hQ : ∀ h' ob, Heap.ExtBut it s.heap h' → h'.get? it = some ob → Q none { s with heap := h' }) : wpAny (model prog w) A (pyNext (.ref it)) Q E s := by
  refine hideGoal fun Φ hΦ => ?_
  obtain ⟨o, ho, hc, hd⟩ := id hit
  refine hΦ ?_
  clear hΦ Φ
  refine hideGoal fun Φ hΦ => ?_
  obtain ⟨ol, hol, _, nl, hdl⟩ := hl
  refine hΦ ?_
  clear hΦ Φ
  unfold pyNext
  refine wpAny_bind (wpAny_attempt (wpAny_callSpecial?_slot (name := Str.ofString "__next__") hit.typeIs slot_listiter_next
    (wpAny_call_entry slot_listiter_next hit.typeIs entry_listiter_next ?_ (args_listiter_next _))))
  show wpAny _ _ (field (.ref it) 0 >>= _) _ _ s
  refine wpAny_bind (wpAny_field ho hd (x := .ref l) rfl ?_)
  show wpAny _ _ (if (Value.ref l == Value.none) = true then _ else _) _ _ s
  rw [if_neg (show ¬ ((Value.ref l == Value.none) = true) from Bool.false_ne_true)]
  show wpAny _ _ (field (.ref it) 1 >>= _) _ _ s
  refine wpAny_bind (wpAny_field ho hd (x := .int i 0) rfl ?_)
  show wpAny _ _ (seqItems? (.ref l) >>= _) _ _ s
  refine wpAny_bind (wpAny_seqItems hol hdl ?_)
  simp only [Int.toNat_natCast, hx]
  refine wpAny_bind (wpAny_rule (wpAny_bind (wpAny_setField ho hd (by simp) ?_)))
  have al := Heap.get?_update_self (Obj.mapFields fun x => x.setIfInBounds 0 Value.none) ho (Obj.isFreed_of_fields (Obj.data_mapFields hd _))
  show wpAny _ _ (newExc (.type "StopIteration") [] >>= _) _ _ _
  refine wpAny_bind ?_
  simp only [newExc, newTuple]
  refine wpAny_bind (wpAny_newObj_type ?_ (by size_fits))
  refine wpAny_bind (m := firstArgMember _ _) (wpAny_of_eq (a := Value.none) (by first | rfl | (simp only [firstArgMember]; rfl)) ?_)
  refine wpAny_newObj_type ?_ (by size_fits)
  simp only [raiseNew]
  refine wpAny_bind (wpAny_handled ?_)
  rw [show A.in1.handled = none from hh]
  refine wpAny_bind (wpAny_pure (wpAny_throw ?_))
  refine wpAny_bind (wpAny_isInstance (T := "StopIteration") (b := true) ⟨_, Heap.get?_push_size _ rfl, rfl⟩ isSubtype_stop ?_)
  exact wpAny_pure (hQ _ _ (((Heap.SameBut.update ..).extBut.push _).push _) (Heap.get?_push_of_some _ (Heap.get?_push_of_some _ al)))

theorem tuple_over {it l : Addr} {i : Nat} {items} {Q : Option Value → Shared → Prop} (hh : A.handled = none) (hit : s.heap.IsTupleIter it l i) (hl : s.heap.IsTuple l items) (hx : items[i]? = none)
    (hQ : ∀ h' ob, Heap.ExtBut it s.heap h' → h'.get? it = some ob → Q none { s with heap := h' }) : wpAny (model prog w) A (pyNext (.ref it)) Q E s := by
  refine hideGoal fun Φ hΦ => ?_
  obtain ⟨o, ho, hc, hd⟩ := id hit
  refine hΦ ?_
  clear hΦ Φ
  refine hideGoal fun Φ hΦ => ?_
  obtain ⟨ol, hol, _, nl, hdl⟩ := hl
  refine hΦ ?_
  clear hΦ Φ
  unfold pyNext
  refine wpAny_bind (wpAny_attempt (wpAny_callSpecial?_slot (name := Str.ofString "__next__") hit.typeIs F.slot_tuple_iterator_next
    (wpAny_call_entry F.slot_tuple_iterator_next hit.typeIs F.entry_tuple_iterator_next ?_ (F.args_tuple_iterator_next_1 _))))
  show wpAny _ _ (field (.ref it) 0 >>= _) _ _ s
  refine wpAny_bind (wpAny_field ho hd (x := .ref l) rfl ?_)
  show wpAny _ _ (if (Value.ref l == Value.none) = true then _ else _) _ _ s
  rw [if_neg (show ¬ ((Value.ref l == Value.none) = true) from Bool.false_ne_true)]
  show wpAny _ _ (field (.ref it) 1 >>= _) _ _ s
  refine wpAny_bind (wpAny_field ho hd (x := .int i 0) rfl ?_)
  show wpAny _ _ (seqItems? (.ref l) >>= _) _ _ s
  refine wpAny_bind (wpAny_seqItems hol hdl ?_)
  simp only [Int.toNat_natCast, hx]
  refine wpAny_bind (wpAny_rule (wpAny_bind (wpAny_setField ho hd (by simp) ?_)))
  have al := Heap.get?_update_self (Obj.mapFields fun x => x.setIfInBounds 0 Value.none) ho (Obj.isFreed_of_fields (Obj.data_mapFields hd _))
  show wpAny _ _ (newExc (.type "StopIteration") [] >>= _) _ _ _
  refine wpAny_bind ?_
  simp only [newExc, newTuple]
  refine wpAny_bind (wpAny_newObj_type ?_ (by size_fits))
  refine wpAny_bind (m := firstArgMember _ _) (wpAny_of_eq (a := Value.none) (by first | rfl | (simp only [firstArgMember]; rfl)) ?_)
  refine wpAny_newObj_type ?_ (by size_fits)
  simp only [raiseNew]
  refine wpAny_bind (wpAny_handled ?_)
  rw [show A.in1.handled = none from hh]
  refine wpAny_bind (wpAny_pure (wpAny_throw ?_))
  refine wpAny_bind (wpAny_isInstance (T := "StopIteration") (b := true) ⟨_, Heap.get?_push_size _ rfl, rfl⟩ isSubtype_stop ?_)
  exact wpAny_pure (hQ _ _ (((Heap.SameBut.update ..).extBut.push _).push _) (Heap.get?_push_of_some _ (Heap.get?_push_of_some _ al)))

theorem bytes_over {it : Addr} {i : Nat} {b : Array UInt8} {t : Tok} {Q : Option Value → Shared → Prop} (hh : A.handled = none) (hit : KBw.IsBytesIter s.heap it b t i) (hx : b[i]? = none)
    (hQ : ∀ h' ob, Heap.ExtBut it s.heap h' → h'.get? it = some ob → Q none { s with heap := h' }) : wpAny (model prog w) A (pyNext (.ref it)) Q E s := by
  refine hideGoal fun Φ hΦ => ?_
  obtain ⟨o, ho, hc, hd⟩ := id hit
  refine hΦ ?_
  clear hΦ Φ
  unfold pyNext
  refine wpAny_bind (wpAny_attempt (wpAny_callSpecial?_slot (name := PySem.Str.ofString "__next__") (KBw.iter_typeIs hit) KBw.slot_next
    (wpAny_call_entry KBw.slot_next (KBw.iter_typeIs hit) KBw.entry_next ?_ (KBw.args_next _))))
  show wpAny _ _ (field (.ref it) 0 >>= _) _ _ s
  refine wpAny_bind (wpAny_field ho hd (x := .bytes b t) rfl ?_)
  show wpAny _ _ (if (Value.bytes b t == Value.none) = true then _ else _) _ _ s
  rw [if_neg (show ¬ ((Value.bytes b t == Value.none) = true) from Bool.false_ne_true)]
  show wpAny _ _ (field (.ref it) 1 >>= _) _ _ s
  refine wpAny_bind (wpAny_field ho hd (x := .int i 0) rfl ?_)
  refine wpAny_bind (wpAny_of_eq (a := b) rfl ?_)
  simp only [Int.toNat_natCast, hx]
  refine wpAny_bind (wpAny_rule (wpAny_bind (wpAny_setField ho hd (by simp) ?_)))
  have al := Heap.get?_update_self (Obj.mapFields fun x => x.setIfInBounds 0 Value.none) ho (Obj.isFreed_of_fields (Obj.data_mapFields hd _))
  show wpAny _ _ (newExc (.type "StopIteration") [] >>= _) _ _ _
  refine wpAny_bind ?_
  simp only [newExc, newTuple]
  refine wpAny_bind (wpAny_newObj_type ?_ (by size_fits))
  refine wpAny_bind (m := firstArgMember _ _) (wpAny_of_eq (a := Value.none) (by first | rfl | (simp only [firstArgMember]; rfl)) ?_)
  refine wpAny_newObj_type ?_ (by size_fits)
  simp only [raiseNew]
  refine wpAny_bind (wpAny_handled ?_)
  rw [show A.in1.handled = none from hh]
  refine wpAny_bind (wpAny_pure (wpAny_throw ?_))
  refine wpAny_bind (wpAny_isInstance (T := "StopIteration") (b := true) ⟨_, Heap.get?_push_size _ rfl, rfl⟩ isSubtype_stop ?_)
  exact wpAny_pure (hQ _ _ (((Heap.SameBut.update ..).extBut.push _).push _) (Heap.get?_push_of_some _ (Heap.get?_push_of_some _ al)))

theorem range_over {it : Addr} {x left step : Int} {Q : Option Value → Shared → Prop} (hh : A.handled = none) (hit : IsRangeIter s.heap it x left step) (hleft : left ≤ 0)
    (hQ : ∀ h' ob, Heap.ExtBut it s.heap h' → h'.get? it = some ob → Q none { s with heap := h' }) : wpAny (model prog w) A (pyNext (.ref it)) Q E s := by
  have hT : s.TypeIs (.ref it) "range_iterator" := ⟨_, hit, rfl⟩
  unfold pyNext
  refine wpAny_bind (wpAny_attempt (wpAny_callSpecial?_slot (name := Str.ofString "__next__") hT F.slot_range_iterator_next
    (wpAny_call_entry F.slot_range_iterator_next hT F.entry_range_iterator_next ?_ (F.args_range_iterator_next_1 _))))
  show wpAny _ _ (field (.ref it) 0 >>= _) _ _ s
  refine wpAny_bind (wpAny_field hit rfl (x := rawInt x) rfl ?_)
  show wpAny _ _ (field (.ref it) 1 >>= _) _ _ s
  refine wpAny_bind (wpAny_field hit rfl (x := rawInt left) rfl ?_)
  show wpAny _ _ (field (.ref it) 2 >>= _) _ _ s
  refine wpAny_bind (wpAny_field hit rfl (x := rawInt step) rfl ?_)
  show wpAny _ _ (if left ≤ 0 then _ else _) _ _ s
  rw [if_pos hleft]
  refine wpAny_bind (wpAny_rule ?_)
  refine wpAny_bind ?_
  show wpAny _ _ (newExc (.type "StopIteration") [] >>= _) _ _ _
  refine wpAny_bind ?_
  simp only [newExc, newTuple]
  refine wpAny_bind (wpAny_newObj_type ?_ (by size_fits))
  refine wpAny_bind (m := firstArgMember _ _) (wpAny_of_eq (a := Value.none) (by first | rfl | (simp only [firstArgMember]; rfl)) ?_)
  refine wpAny_newObj_type ?_ (by size_fits)
  simp only [raiseNew]
  refine wpAny_bind (wpAny_handled ?_)
  first | rw [show A.in1.handled = none from hh] | rw [hh]
  refine wpAny_bind (wpAny_pure (wpAny_throw ?_))
  refine wpAny_bind (wpAny_isInstance (T := "StopIteration") (b := true) ⟨_, Heap.get?_push_size _ rfl, rfl⟩ isSubtype_stop ?_)
  exact wpAny_pure (hQ _ _ (((Heap.ExtBut.refl it s.heap).push _).push _) (Heap.get?_push_of_some _ (Heap.get?_push_of_some _ hit)))

theorem keys_over {K : Type} [DecidableEq K] {knd : KeyKind prog w K} {it d : Addr} {i ep : Nat} {kvs : List (K × Value)} {Q : Option Value → Shared → Prop} (hh : A.handled = none) (hit : s.heap.IsKeyIter it d i kvs.length ep)
    (hm : s.heap.DictAt knd d kvs ep) (hx : kvs[i]? = none)
    (hQ : ∀ h' ob, Heap.ExtBut it s.heap h' → h'.get? it = some ob → Q none { s with heap := h' }) : wpAny (model prog w) A (pyNext (.ref it)) Q E s := by
  refine hideGoal fun Φ hΦ => ?_
  obtain ⟨o, ho, hc, hd⟩ := id hit
  refine hΦ ?_
  clear hΦ Φ
  refine hideGoal fun Φ hΦ => ?_
  obtain ⟨od, es, hod, hcd, hdd, hk, hp, hn⟩ := id hm
  refine hΦ ?_
  clear hΦ Φ
  unfold pyNext
  refine wpAny_bind (wpAny_attempt (wpAny_callSpecial?_slot (name := Str.ofString "__next__") hit.typeIs F.slot_dict_keyiterator_next
    (wpAny_call_entry F.slot_dict_keyiterator_next hit.typeIs F.entry_dict_keyiterator_next ?_ (F.args_dict_keyiterator_next_1 _))))
  refine wpAny_bind (wpAny_pure ?_)
  refine wpAny_bind ?_
  refine wpAny_bind ?_
  first | refine wpAny_bind (wpAny_typeNameOfWhole_keyiter hit.typeIs (wpAny_pure ?_)) | refine wpAny_bind (wpAny_typeNameOf_keyiter hit.typeIs (wpAny_pure ?_))
  refine wpAny_bind (wpAny_fieldsOf ho hd ?_)
  have hown : Builtin.Dict_items.ownsTuple "dict_keyiterator" = false := by decide
  simp only [hown, Bool.false_eq_true, if_false]
  show wpAny _ _ (if (Value.ref d == Value.none) = true then _ else _) _ _ s
  rw [if_neg (show ¬ ((Value.ref d == Value.none) = true) from Bool.false_ne_true)]
  refine wpAny_bind (wpAny_pure ?_)
  refine wpAny_bind (wpAny_dictEntries hod hdd ?_)
  have hsz : es.size = kvs.length := by rw [← hp.length]; simp
  rw [if_neg (by rw [hsz]; simp)]
  refine wpAny_bind (wpAny_pure ?_)
  refine wpAny_bind (wpAny_dictEpoch hod hdd ?_)
  rw [if_neg (by simp)]
  refine wpAny_pure ?_
  have hge : es.size ≤ i := by rw [hsz]; simpa using hx
  simp only [show ¬ ((i : Int) < 0) from by omega, if_false, Int.toNat_natCast, Array.getElem?_eq_none hge]
  refine wpAny_bind ?_
  first | refine wpAny_bind (wpAny_typeNameOfWhole_keyiter hit.typeIs (wpAny_pure ?_)) | refine wpAny_bind (wpAny_typeNameOf_keyiter hit.typeIs (wpAny_pure ?_))
  show wpAny _ _ (setField (.ref it) 0 .none >>= _) _ _ s
  refine wpAny_bind (wpAny_setField ho hd (by simp) ?_)
  have al := Heap.get?_update_self (Obj.mapFields fun x => x.setIfInBounds 0 Value.none) ho (Obj.isFreed_of_fields (Obj.data_mapFields hd _))
  show wpAny _ _ (newExc (.type "StopIteration") [] >>= _) _ _ _
  refine wpAny_bind ?_
  simp only [newExc, newTuple]
  refine wpAny_bind (wpAny_newObj_type ?_ (by size_fits))
  refine wpAny_bind (m := firstArgMember _ _) (wpAny_of_eq (a := Value.none) (by first | rfl | (simp only [firstArgMember]; rfl)) ?_)
  refine wpAny_newObj_type ?_ (by size_fits)
  simp only [raiseNew]
  refine wpAny_bind (wpAny_handled ?_)
  rw [show A.in1.handled = none from hh]
  refine wpAny_bind (wpAny_pure (wpAny_throw ?_))
  refine wpAny_bind (wpAny_isInstance (T := "StopIteration") (b := true) ⟨_, Heap.get?_push_size _ rfl, rfl⟩ isSubtype_stop ?_)
  exact wpAny_pure (hQ _ _ (((Heap.SameBut.update ..).extBut.push _).push _) (Heap.get?_push_of_some _ (Heap.get?_push_of_some _ al)))
end
end Mine

end
section
set_option maxRecDepth 10000
namespace Mine
open PySem PySem.W PySem.Calls PySem.SeqAt PyProof.Rows

section
variable {P : Par} {G : Glob} {g : Gh} {st : St} {s : Shared} {A : Around} {Γ : AEnv} {env : Env}

/-- an iterator's place -/
noncomputable def ItR (g : Gh) (i : Nat) (v : Value) : Prop := ∃ a, g.adr i = some a ∧ v = .ref a ∧ rnth g.tg i = some 13
theorem ItR.mono {g g' : Gh} (l : g.le g') {i : Nat} {v : Value} (h : ItR g i v) : ItR g' i v := let ⟨a, h1, h2, h3⟩ := h; ⟨a, l.adr h1, h2, l.tag h3⟩
theorem RepS.tagNew (R : RepS P g st s) (a : Addr) (o : AO) : rnth (g.push a o).tg st.n = some (tagOf o) := by
  have e : st.n = g.tg.length := by rw [R.1.tg, List.length_map]; exact R.1.ok
  rw [e]; exact rnth_cons _ _
/-- a fresh iterator object -/
theorem iter_new (R : RepS P g st s) {k : ItK} {ob : Obj} (hO : OR P.prog P.w P.ρ (g.push s.heap.objs.size (.it k)) (.it k) ob) :
    SV P g (st.push (.it k)) st.n (fun g' i w => ItR g' i w) (.ref s.heap.objs.size) { s with heap := s.heap.push ob } :=
  ⟨_, g.push_le _ _, ⟨R.1.alloc hO, R.2⟩, _, R.1.adrNew, rfl, R.tagNew _ _⟩

theorem rngLeft_eq {a b c : Int} (hc : c ≠ 0) : (rngLeft a b c : Int) = Builtin.Range.rangeSize a b c := by
  unfold rngLeft Builtin.Range.rangeSize
  by_cases h : 0 < c
  · rw [decide_eq_true h, if_pos (show c > 0 from h)]
    by_cases q : a < b
    · rw [decide_eq_true q, if_pos q]
      have : 0 ≤ (b - a - 1) / c := Int.ediv_nonneg (by omega) (by omega)
      exact Int.toNat_of_nonneg (by omega)
    · rw [decide_eq_false q, if_neg q]; rfl
  · rw [decide_eq_false h, if_neg (show ¬ c > 0 from h)]
    by_cases q : b < a
    · rw [decide_eq_true q, if_pos (show a > b from q)]
      have : 0 ≤ (a - b - 1) / (-c) := Int.ediv_nonneg (by omega) (by omega)
      exact Int.toNat_of_nonneg (by omega)
    · rw [decide_eq_false q, if_neg (show ¬ a > b from q)]; rfl

set_option tactic.hygienic true in
theorem iterA_ok (O : GOK P G) (R : RepS P g st s) {a : AV} {v : Value} (va : VR P.ρ g a v) : SndAt P g st s A (iterA G a) (pyIter v) (fun g' i w => ItR g' i w) := by
  unfold iterA
  rcases a with ⟨⟩ <;> first | exact .stuck | skip
  · rename_i l
    refine hideGoal fun Φ hΦ => ?_
    obtain ⟨b, t, rfl, e⟩ := va
    refine hΦ ?_
    clear hΦ Φ
    exact .val (newO_ok _ _) (KBw.pyIter_bytes (iter_new R ⟨b, t, 0, rfl, rfl, by simpa using e⟩))
  · rename_i j
    obtain ⟨x, hx, rfl⟩ := va
    refine .getO fun o ho => ?_
    rcases o with ⟨⟩ <;> first | exact .stuck | skip
    · rename_i vs
      obtain ⟨ws, h1, h2⟩ := R.tup ho hx
      refine .val (newO_ok _ _) (wpAny_pyIter_tuple h1 (iter_new R ⟨x, ⟨_, (g.push_le _ _).adr hx, rfl⟩, .inl rfl, ⟨fun j' e => ?_, fun b e => by cases e⟩, rfl⟩))
      cases e
      exact (g.push_le _ _).tag (R.1.tag ho)
    · rename_i vs
      obtain ⟨ws, h1, h2⟩ := R.lst ho hx
      refine .val (newO_ok _ _) (wpAny_pyIter_list h1 (iter_new R ⟨x, ⟨_, (g.push_le _ _).adr hx, rfl⟩, .inr rfl, ⟨fun j' e => ?_, fun b e => by cases e⟩, rfl⟩))
      cases e
      exact (g.push_le _ _).tag (R.1.tag ho)
    · rename_i es ep
      cases ep with
      | none => exact .stuck
      | some ep =>
        refine hideGoal fun Φ hΦ => ?_
        obtain ⟨kvs, ep', h1, h2, h3⟩ := R.dict ho hx
        refine hΦ ?_
        clear hΦ Φ
        obtain rfl := h2 _ rfl
        refine .val (newO_ok _ _) (wpAny_pyIter_dict (knd := intKind P.prog P.w) (R.notSys O hx) h1 (iter_new R ?_))
        rw [show es.length = kvs.length from h3.len]
        exact ⟨x, (g.push_le _ _).adr hx, rfl, rfl⟩
    · rename_i a b c
      dsimp only
      split
      · rename_i q
        simp only [Bool.and_eq_true, Bool.not_eq_true', decide_eq_false_iff_not] at q
        obtain ⟨q1, q4⟩ := q
        refine hideGoal fun Φ hΦ => ?_
        obtain ⟨ob, h2, t, u, v, h3⟩ := R.1.atA hx ho
        refine hΦ ?_
        clear hΦ Φ
        subst h3
        refine .val (newO_ok _ _) (wpAny_pyIter_range h2 q1 (iter_new R ?_))
        show _ = _
        rw [rngLeft_eq q4]
      · exact .stuck
  · rename_i b
    cases va
    refine .ofO fun vs hv => ?_
    refine hideGoal fun Φ hΦ => ?_
    obtain ⟨o, ws, n, h1, h2, h3, h4, _⟩ := O.tups _ _ hv
    refine hΦ ?_
    clear hΦ Φ
    exact .val (newO_ok _ _) (wpAny_pyIter_tuple ⟨o, R.1.keep _ _ h1, h2, n, h3⟩ (iter_new R ⟨b, rfl, .inl rfl, ⟨(fun j e => by cases e), (fun _ _ => rfl)⟩, rfl⟩))

noncomputable def NxR (ρ : Nat → Int) (g : Gh) : Option AV → Option Value → Prop
  | none, none => True
  | some a, some v => VR ρ g a v
  | _, _ => False

/-- an iterator object turned -/
theorem iter_set (R : RepS P g st s) {i : Nat} {o : AO} {k : ItK} {a : Addr} {ob' : Obj} {h' : Heap} {tk : Nat} (ho : st.get i = some o) (ht : tagOf o = 13) (ha : g.adr i = some a) (hs : Heap.ExtBut a s.heap h') (hb : h'.get? a = some ob')
    (hO : OR P.prog P.w P.ρ g (.it k) ob') : RepS P g (st.set i (.it k)) { s with heap := h', toks := tk } := R.set ho ha hs hb hO ht.symm

theorem noneAt_ok (R : RepS P g st s) {hd : Option Nat} (hh : HdR g hd A) {i : Nat} {o : AO} {a : Addr} (ho : st.get i = some o) (ht : tagOf o = 13) (ha : g.adr i = some a)
    (h : A.handled = none → ∀ Q : Option Value → Shared → Prop, (∀ h' ob, Heap.ExtBut a s.heap h' → h'.get? a = some ob → Q none { s with heap := h' }) → wpAny (model P.prog P.w) A (pyNext (.ref a)) Q (fun _ _ => False) s) :
    SndAt P g st s A (noneAt hd i) (pyNext (.ref a)) (fun g' c w => NxR P.ρ g' c w) := by
  cases hd with
  | some _ => exact .stuck
  | none =>
    refine .abs set_ok (.val rfl (h hh _ fun h' ob hx hb => ⟨g, .refl _, ?_, trivial⟩))
    refine iter_set (k := .dead) (tk := s.toks) R ho ht ha hx hb ?_
    exact (Heap.get?_some_iff.mp hb).2

set_option tactic.hygienic true in
theorem nextA_ok (O : GOK P G) (R : RepS P g st s) {hd : Option Nat} (hh : HdR g hd A) {i : Nat} {v : Value} (hi : ItR g i v) : SndAt P g st s A (nextA G hd i) (pyNext v) (fun g' c w => NxR P.ρ g' c w) := by
  refine hideGoal fun Φ hΦ => ?_
  obtain ⟨a, ha, rfl, ht⟩ := hi
  refine hΦ ?_
  clear hΦ Φ
  unfold nextA
  refine .getO fun o ho => ?_
  rcases o with ⟨⟩ <;> first | exact .stuck | skip
  rename_i k
  obtain ⟨ob, h2, h3⟩ := R.1.atA ha ho
  cases k with
  | dead => exact .stuck
  | seq src k =>
    refine hideGoal fun Φ hΦ => ?_
    obtain ⟨b, h4, h5, ⟨h6, h7⟩, h8⟩ := h3
    refine hΦ ?_
    clear hΦ Φ
    dsimp only
    -- the items
    have tupw : ∀ {vs : List AV} {ws : Array Value}, s.heap.IsTuple b ws → A2 (VR P.ρ g) vs ws.toList → ob.cls = .type "tuple_iterator" →
        SndAt P g st s A (match nth vs k with
          | some x => do
            setO i (.it (.seq src (k + 1)))
            pure (some x)
          | none => noneAt hd i) (pyNext (.ref a)) (fun g' c w => NxR P.ρ g' c w) := by
      intro vs ws t1 t2 hc
      have hit : s.heap.IsTupleIter a b k := ⟨ob, h2, hc, h8⟩
      cases q : nth vs k with
      | some x =>
        obtain ⟨y, e1, e2⟩ := t2.nth q
        refine .abs set_ok (.val rfl (wpAny_pyNext_tuple_item hit t1 (by simpa using e1) fun h' hit' hs => ⟨g, .refl _, ?_, e2⟩))
        refine hideGoal fun Φ hΦ => ?_
        obtain ⟨ob', k1, k2, k3⟩ := hit'
        refine hΦ ?_
        clear hΦ Φ
        exact iter_set (tk := s.toks) R ho rfl ha hs.extBut k1 ⟨b, h4, .inl k2, ⟨fun j e => by rw [if_pos k2, h6 j e, if_pos hc], fun _ _ => k2⟩, k3⟩
      | none =>
        have := t2.nthNone q
        refine noneAt_ok R hh ho rfl ha fun hn Q z => tuple_over hn hit t1 (by rw [Array.getElem?_eq_none_iff]; simpa using this) z
    have lstw : ∀ {vs : List AV} {ws : Array Value}, s.heap.IsList b ws → A2 (VR P.ρ g) vs ws.toList → ob.cls = .type "list_iterator" →
        SndAt P g st s A (match nth vs k with
          | some x => do
            setO i (.it (.seq src (k + 1)))
            pure (some x)
          | none => noneAt hd i) (pyNext (.ref a)) (fun g' c w => NxR P.ρ g' c w) := by
      intro vs ws t1 t2 hc
      have hit : s.heap.IsListIter a b k := ⟨ob, h2, hc, h8⟩
      have nt : ∀ c, c = Value.type "list_iterator" → c ≠ .type "tuple_iterator" := fun c e q => by rw [e] at q; revert q; decide
      cases q : nth vs k with
      | some x =>
        obtain ⟨y, e1, e2⟩ := t2.nth q
        refine .abs set_ok (.val rfl (wpAny_pyNext_list_item hit t1 (by simpa using e1) fun h' hit' hs => ⟨g, .refl _, ?_, e2⟩))
        refine hideGoal fun Φ hΦ => ?_
        obtain ⟨ob', k1, k2, k3⟩ := hit'
        refine hΦ ?_
        clear hΦ Φ
        exact iter_set (tk := s.toks) R ho rfl ha hs.extBut k1 ⟨b, h4, .inr k2, ⟨fun j e => by rw [if_neg (nt _ k2), h6 j e, if_neg (nt _ hc)], fun b' e => absurd (h7 b' e) (nt _ hc)⟩, k3⟩
      | none =>
        have := t2.nthNone q
        refine noneAt_ok R hh ho rfl ha fun hn Q z => list_over hn hit t1 (by rw [Array.getElem?_eq_none_iff]; simpa using this) z
    unfold itemsOf
    rcases src with ⟨⟩ <;> first | exact .stuck | skip
    · rename_i j
      obtain ⟨b', h4a, h4b⟩ := h4
      cases h4b
      dsimp only
      cases qj : st.get j with
      | none => exact fun hn => absurd (bind_stuck (bind_stuck (getO_none qj))) hn
      | some oj =>
        have tg := R.1.tag qj
        have tg2 := h6 j rfl
        rw [tg] at tg2
        rcases oj with ⟨⟩ <;> first | exact fun hn => absurd (bind_stuck (bind_ok (getO_ok qj))) hn | skip
        · rename_i vs
          obtain ⟨ws, t1, t2⟩ := R.tup qj h4a
          refine .abs (a := vs) (st' := st) (bind_ok (getO_ok qj)) (tupw t1 t2 ?_)
          rcases h5 with h5 | h5
          · exact h5
          · rw [h5, if_neg (by decide)] at tg2; cases tg2
        · rename_i vs
          obtain ⟨ws, t1, t2⟩ := R.lst qj h4a
          refine .abs (a := vs) (st' := st) (bind_ok (getO_ok qj)) (lstw t1 t2 ?_)
          rcases h5 with h5 | h5
          · rw [h5, if_pos rfl] at tg2; cases tg2
          · exact h5
    · rename_i b'
      cases h4
      refine .ofO fun vs hv => ?_
      refine hideGoal fun Φ hΦ => ?_
      obtain ⟨o', ws, n, g1, g2, g3, g4, _⟩ := O.tups _ _ hv
      refine hΦ ?_
      clear hΦ Φ
      exact tupw ⟨o', R.1.keep _ _ g1, g2, n, g3⟩ (g4 g) (h7 _ rfl)
  | byt l =>
    refine hideGoal fun Φ hΦ => ?_
    obtain ⟨b, t, k, h4, h5, h6⟩ := h3
    refine hΦ ?_
    clear hΦ Φ
    have hit : KBw.IsBytesIter s.heap a b t k := ⟨ob, h2, h4, h5⟩
    dsimp only
    cases l with
    | nil =>
      refine noneAt_ok R hh ho rfl ha fun hn Q z => bytes_over hn hit ?_ z
      have : (octs b).length ≤ k := by
        have := congrArg List.length h6
        simp at this
        omega
      rw [Array.getElem?_eq_none_iff]
      simpa [octs] using this
    | cons e r =>
      have hk : k < b.size := by
        have := congrArg List.length h6
        simp [octs] at this
        omega
      have hx : b[k]? = some b[k] := Array.getElem?_eq_getElem hk
      have hd : (octs b).drop k = ((b[k]).toNat : Int) :: (octs b).drop (k + 1) := by
        have hk' : k < (octs b).length := by simpa [octs] using hk
        rw [List.drop_eq_getElem_cons hk']
        simp [octs]
      rw [hd] at h6
      simp only [List.map_cons, List.cons.injEq] at h6
      refine .abs set_ok (.val rfl (KBw.next_item hit hx fun h' hit' hs => ⟨g, .refl _, ?_, ?_⟩))
      · refine hideGoal fun Φ hΦ => ?_
        obtain ⟨ob', k1, k2, k3⟩ := hit'
        refine hΦ ?_
        clear hΦ Φ
        exact iter_set (tk := s.toks + 1) R ho rfl ha hs.extBut k1 ⟨b, t, k + 1, k2, k3, h6.2⟩
      · refine ⟨_, by rw [h6.1], ?_⟩
        rw [← h6.1]
        have := (b[k]).toNat_lt
        unfold Small
        omega
  | rng c step left =>
    have h3 : ob = _ := h3
    subst h3
    dsimp only
    cases left with
    | zero => exact noneAt_ok R hh ho rfl ha fun hn Q z => range_over hn h2 (by simp) z
    | succ left =>
      dsimp only
      cases q : small c with
      | false => exact .stuck
      | true =>
        refine .abs set_ok (.val rfl (wpAny_pyNext_range_item h2 (by omega) fun h' hit' hs => ⟨g, .refl _, ?_, _, rfl, small_iff.mp q⟩))
        refine iter_set (tk := s.toks + 1) R ho rfl ha hs.extBut hit' ?_
        show _ = _
        rw [show ((left + 1 : Nat) : Int) - 1 = (left : Int) from by omega]
  | keys d k n ep =>
    refine hideGoal fun Φ hΦ => ?_
    obtain ⟨b, h4, h5, h6⟩ := h3
    refine hΦ ?_
    clear hΦ Φ
    refine .getO fun od hod => ?_
    rcases od with ⟨⟩ <;> first | exact .stuck | skip
    rename_i es ep'
    cases ep' with
    | none => exact .stuck
    | some ep' =>
      dsimp only
      split
      · rename_i q
        rw [Bool.and_eq_true] at q
        have q1 := Nat.eq_of_beq_eq_true q.1
        have q2 := Nat.eq_of_beq_eq_true q.2
        refine hideGoal fun Φ hΦ => ?_
        obtain ⟨kvs, ep2, d1, d2, d3⟩ := R.dict hod h4
        refine hΦ ?_
        clear hΦ Φ
        obtain rfl := d2 _ rfl
        have ln : n = kvs.length := by rw [← q1]; exact d3.len
        subst q2 ln
        have hit : s.heap.IsKeyIter a b k kvs.length ep2 := ⟨ob, h2, h5, h6⟩
        cases qn : nth es k with
        | none =>
          have := d3.nthNone qn
          exact noneAt_ok R hh ho rfl ha fun hn Q z => keys_over (knd := intKind P.prog P.w) hn hit d1 (List.getElem?_eq_none_iff.mpr this) z
        | some p =>
          refine hideGoal fun Φ hΦ => ?_
          obtain ⟨kv, e1, e2, e3, e4⟩ := d3.nth qn
          refine hΦ ?_
          clear hΦ Φ
          refine .abs set_ok (.val rfl (wpAny_pyNext_dict_item (knd := intKind P.prog P.w) (k := kv.1) (v := kv.2) hit d1 e1 fun key h' hk hit' hs => ⟨g, .refl _, ?_, ?_⟩))
          · refine hideGoal fun Φ hΦ => ?_
            obtain ⟨ob', k1, k2, k3⟩ := hit'
            refine hΦ ?_
            clear hΦ Φ
            exact iter_set (tk := s.toks) R ho rfl ha hs.extBut k1 ⟨b, h4, k2, k3⟩
          · obtain ⟨t, rfl⟩ := Value.isInt_shape hk
            exact ⟨t, by rw [← e2]; rfl, e3⟩
      · exact .stuck
end
end Mine

end
section
set_option maxRecDepth 10000
namespace Mine
open PySem PySem.W PySem.Calls PySem.SeqAt PyProof.Rows

section
variable {P : Par} {G : Glob} {g : Gh} {st : St} {s : Shared} {A : Around} {Γ : AEnv} {env : Env}

theorem tail_of {T id : String} {value slice : Expr} {o i : Value} {Q : Value → Shared → Prop} {E : Value → Shared → Prop} (hT : s.TypeIs o T) (hl : typeLookup (.type T) "__getitem__" = pure (some (.builtin id)))
    (hs : ∃ vs, subscripted slice false o i = operate vs (getItem o i)) (h : wpAny (model P.prog P.w) A (getItem o i) Q E s) : wpAny (model P.prog P.w) A (subscriptTail value slice o i) Q E s := by
  unfold subscriptTail getitemInPython
  refine wpAny_bind (wpAny_bind (wpAny_specialOf hT hl (wpAny_pure ?_)))
  obtain ⟨vs, hs⟩ := hs
  rw [hs]
  exact wpAny_bind (wpAny_operate' (wpAny_mono h (fun r s' q => wpAny_bind (wpAny_letTemporaryGo (wpAny_pure q))) fun _ _ e => e))

/-- the octets of a value -/
theorem octs_get {b : Array UInt8} {l : List SI} {ρ : Nat → Int} (h : octs b = l.map (SI.val ρ)) {k : Nat} {e : SI} (q : nth l k = some e) : ∃ hk : k < b.toList.length, ((b.toList[k]).toNat : Int) = e.val ρ := by
  rw [nth_eq] at q
  have q2 : (octs b)[k]? = some (e.val ρ) := by rw [h, List.getElem?_map, q]; rfl
  unfold octs at q2
  rw [List.getElem?_map] at q2
  obtain ⟨u, hu, e2⟩ := Option.map_eq_some_iff.mp q2
  obtain ⟨hk, e3⟩ := List.getElem?_eq_some_iff.mp hu
  exact ⟨hk, by rw [e3]; exact e2⟩
theorem octs_len {b : Array UInt8} {l : List SI} {ρ : Nat → Int} (h : octs b = l.map (SI.val ρ)) : b.toList.length = l.length := by have := congrArg List.length h; simpa [octs] using this

set_option tactic.hygienic true in
theorem itemA_ok (O : GOK P G) (R : RepS P g st s) {a i : AV} {v u : Value} {value slice : Expr} (va : VR P.ρ g a v) (vi : VR P.ρ g i u) (hs : ∃ vs, subscripted slice false v u = operate vs (getItem v u)) :
    SndAt P g st s A (itemA G a i) (subscriptTail value slice v u) (fun g' c w => VR P.ρ g' c w) := by
  unfold itemA
  rcases i with ⟨⟩ <;> first | exact .stuck | skip
  rename_i e
  rcases e with ⟨⟩ <;> first | exact .stuck | skip
  rename_i k
  obtain ⟨t, rfl, sk⟩ := vi
  have sk : Small k := sk
  dsimp only
  cases hk : decide (0 ≤ k) with
  | false => exact .stuck
  | true =>
    have hk := of_decide_eq_true hk
    dsimp only
    rcases a with ⟨⟩ <;> first | exact .stuck | skip
    · rename_i l
      refine hideGoal fun Φ hΦ => ?_
      obtain ⟨b, tb, rfl, e1⟩ := va
      refine hΦ ?_
      clear hΦ Φ
      refine .fit fun hf => .ofO fun e he => ?_
      obtain ⟨h1, h2⟩ := octs_get e1 he
      have hl := octs_len e1
      have hb := tail_of (P := P) (A := A) (s := s) (value := value) (T := "bytes") (id := "bytes.__getitem__") (o := .bytes b tb) (i := .int k t) (Q := SV P g st (AV.int e) (fun g' c w => VR P.ρ g' c w)) (E := fun _ _ => False) rfl FB.slot_bytes_getitem.lookup hs
      refine .val rfl (hb ?_)
      have := getItem_bytes (prog := P.prog) (w := P.w) (A := A) (s := s) (t := tb) (u := t) (l := b.toList) (i := k) (Q := SV P g st (AV.int e) (fun g' c w => VR P.ρ g' c w)) (E := fun _ _ => False) (by omega) hk (by omega) ⟨g, .refl _, R.toks _, s.toks, ?_, ?_⟩
      · rw [Array.toArray_toList] at this; exact this
      · rw [show b.toList.getD k.toNat 0 = b.toList[k.toNat] from by simp [List.getD, List.getElem?_eq_getElem h1], h2]
      · rw [← h2]; have := (b.toList[k.toNat]).toNat_lt; unfold Small; omega
    · rename_i j
      obtain ⟨x, hx, rfl⟩ := va
      refine .getO fun o ho => ?_
      rcases o with ⟨⟩ <;> first | exact .stuck | skip
      · rename_i vs
        obtain ⟨ws, h1, h2⟩ := R.tup ho hx
        dsimp only
        refine .ofO1 fun c hc => ?_
        obtain ⟨y, e1, e2⟩ := h2.nth hc
        have hlt := (List.getElem?_eq_some_iff.mp e1).1
        have ht := tail_of (P := P) (A := A) (s := s) (value := value) (T := "tuple") (id := "tuple.__getitem__") (o := .ref x) (i := .int k t) (Q := SV P g st c (fun g' c w => VR P.ρ g' c w)) (E := fun _ _ => False) (by obtain ⟨o, q1, q2, _⟩ := h1; exact ⟨o, q1, q2⟩) slot_tuple_getitem.lookup hs
        refine .val rfl (ht (getItem_tuple (j := k.toNat) h1 (by omega) (by unfold Small at sk; omega) ?_ (by simpa using e1) ⟨g, .refl _, R, e2⟩))
        have : (k : Int) < (ws.size : Int) := by rw [Array.length_toList] at hlt; omega
        simp [seqIndex?, hk, this]
        omega
      · rename_i vs
        obtain ⟨ws, h1, h2⟩ := R.lst ho hx
        dsimp only
        refine .ofO1 fun c hc => ?_
        obtain ⟨y, e1, e2⟩ := h2.nth hc
        have ht := tail_of (P := P) (A := A) (s := s) (value := value) (T := "list") (id := "list.__getitem__") (o := .ref x) (i := .int k t) (Q := SV P g st c (fun g' c w => VR P.ρ g' c w)) (E := fun _ _ => False) h1.typeIs slot_list_getitem.lookup hs
        exact .val rfl (ht (wpAny_getItem_list h1 hk (by unfold Small at sk; omega) (by simpa using e1) ⟨g, .refl _, R, e2⟩))
      · rename_i es ep
        refine hideGoal fun Φ hΦ => ?_
        obtain ⟨kvs, ep', h1, _, h3⟩ := R.dict ho hx
        refine hΦ ?_
        clear hΦ Φ
        dsimp only
        refine .ofO1 fun c hc => ?_
        have hkey : (intKind P.prog P.w).is k (.int k t) = true := by simp [intKind, Value.isInt]
        rcases dict_valueAt (k := k) h3 with ⟨a, v, z1, z2, z3⟩ | ⟨z1, z2⟩
        · rw [z1] at hc; cases hc
          have ht := tail_of (P := P) (A := A) (s := s) (value := value) (T := "dict") (id := "dict.__getitem__") (o := .ref x) (i := .int k t) (Q := SV P g st c (fun g' c w => VR P.ρ g' c w)) (E := fun _ _ => False) h1.dictOf.typeIs slot_dict_getitem.lookup hs
          exact .val rfl (ht (wpAny_getItem_of (knd := intKind P.prog P.w) hkey h1.dictOf.mapOf z2 ⟨g, .refl _, R.toks _, z3⟩))
        · rw [z1] at hc; cases hc
    · rename_i b
      cases va
      refine .ofO fun vs hv => .ofO1 fun c hc => ?_
      refine hideGoal fun Φ hΦ => ?_
      obtain ⟨o, ws, n, q1, q2, q3, q4, _⟩ := O.tups _ _ hv
      refine hΦ ?_
      clear hΦ Φ
      have q1' := R.1.keep _ _ q1
      obtain ⟨y, e1, e2⟩ := (q4 g).nth hc
      have hlt := (List.getElem?_eq_some_iff.mp e1).1
      have ht := tail_of (P := P) (A := A) (s := s) (value := value) (T := "tuple") (id := "tuple.__getitem__") (o := .ref b) (i := .int k t) (Q := SV P g st c (fun g' c w => VR P.ρ g' c w)) (E := fun _ _ => False) ⟨o, q1', q2⟩ slot_tuple_getitem.lookup hs
      refine .val rfl (ht (getItem_tuple (j := k.toNat) ⟨o, q1', q2, n, q3⟩ (by omega) (by unfold Small at sk; omega) ?_ (by simpa using e1) ⟨g, .refl _, R, e2⟩))
      have : (k : Int) < (ws.size : Int) := by rw [Array.length_toList] at hlt; omega
      simp [seqIndex?, hk, this]
      omega
end
end Mine

end
section
set_option maxRecDepth 10000
namespace Mine
open PySem PySem.W PySem.Calls PySem.SeqAt PyProof.Rows

theorem clampI_eq (i : Int) (n : Nat) : clampI i n = clipAt n i := by
  unfold clampI clipAt
  by_cases h : i < 0
  · rw [decide_eq_true h, if_pos h, Int.min_eq_left (show i + (n : Int) ≤ n by omega)]
    show (i + n).toNat = _
    rcases Int.le_total 0 (i + n) with q | q
    · rw [Int.max_eq_right q]
    · rw [Int.max_eq_left q, Int.toNat_of_nonpos q]; rfl
  · rw [decide_eq_false h, if_neg h]
    obtain ⟨k, rfl⟩ := Int.eq_ofNat_of_zero_le (Int.not_lt.mp h)
    rcases Nat.le_total k n with q | q
    · rw [Int.min_eq_left (Int.ofNat_le.mpr q), Int.max_eq_right (Int.natCast_nonneg _)]
      exact Nat.min_eq_left q
    · rw [Int.min_eq_right (Int.ofNat_le.mpr q), Int.max_eq_right (Int.natCast_nonneg _)]
      exact Nat.min_eq_right q

section
variable {P : Par} {G : Glob} {g : Gh} {st : St} {s : Shared} {A : Around} {Γ : AEnv} {env : Env}

theorem slice_ok (R : RepS P g st s) {l : List SI} {v lv uv : Value} {lo hi : Option Int} {x y : Option Expr} {p pos : Pos} {value : Expr} (vb : VR P.ρ g (.bytes l) v) (hl : IsPart lv lo) (hu : IsPart uv hi) (hf : l.length ≤ 4096) :
    SndAt P g st s A (pure (.bytes ((l.take (hi.elim l.length (clipAt l.length))).drop (lo.elim 0 (clipAt l.length)))) : AM AV) (do
      let i ← newFields "slice" [lv, uv, .none]
      standAt pos
      subscriptTail value (.Slice x y none p) v i) (fun g' c w => VR P.ρ g' c w) := by
  refine hideGoal fun Φ hΦ => ?_
  obtain ⟨b, t, rfl, e⟩ := vb
  refine hΦ ?_
  clear hΦ Φ
  have hlen := octs_len e
  have hsz : b.size = l.length := by rw [← Array.length_toList]; exact hlen
  refine .val rfl (wpAny_bind (wpAny_newObj_type ?_ (by show 3 ≤ _; rw [sizeLine_eq]; decide)))
  refine wpAny_bind (wpAny_standAt (tail_of (T := "bytes") rfl FB.slot_bytes_getitem.lookup ⟨_, rfl⟩ ?_))
  refine getItem_meets (typeIs_bytes _ _ _) (by decide) FB.slot_bytes_getitem FB.entry_bytes_getitem (FB.args_bytes_getitem_2 _ _) (KBc.meets_slice2 b t _ hl hu) ⟨Heap.IsSliceOf.new _ _ _ _, ?_, fun t' k => ⟨g, .refl _, R.ext (((Ext.refl s).push (tk := s.toks)).toks _), _, _, rfl, ?_⟩⟩
  · exact Nat.le_trans (KBc.size_picked_le b lo hi) (by rw [hsz]; exact le_sizeLine hf)
  · have := KBc.ints_picked (b := b) (ks := l.map (SI.val P.ρ)) e lo hi
    show KBw.bInts _ = _
    rw [this, List.length_map, List.drop_take, List.map_take, List.map_drop]

/-- a dict is stored into, its epoch told -/
theorem dictSetAt {d : Addr} {kvs : List (Int × Value)} {ep : Nat} {k : Int} {key v : Value} {Q : Unit → Shared → Prop} {E : Value → Shared → Prop} (hkey : (intKind P.prog P.w).is k key = true) (hm : s.heap.DictAt (intKind P.prog P.w) d kvs ep)
    (hQ : ∀ h', h'.DictAt (intKind P.prog P.w) d (stored kvs k v) (if kvs.any (fun kv => decide (kv.1 = k)) then ep else ep + 1) → Heap.SameBut d s.heap h' → Q () { s with heap := h', toks := s.toks + 1 }) (hsz : kvs.length ≤ sizeLine) :
    wpAny (model P.prog P.w) A (dictSet d key v) Q E s := by
  refine hideGoal fun Φ hΦ => ?_
  obtain ⟨o, es, ho, hc, hd, hk, hp, hn⟩ := hm
  refine hΦ ?_
  clear hΦ Φ
  have hlen : es.size = kvs.length := by rw [← hp.length]; simp
  unfold dictSet
  refine wpAny_holding (wpAny_bind ((intKind P.prog P.w).pyHash hkey ?_))
  unfold dictSetHashed
  refine wpAny_holding (wpAny_bind (wpAny_dictFind_of (s := { s with toks := s.toks + 1 }) hkey ho hd hk ?_))
  have hidx : (es.findIdx? fun e => (intKind P.prog P.w).is k e.key) = kvs.findIdx? fun kv => decide (kv.1 = k) := by
    rw [← hp.findIdx k]; obtain ⟨l⟩ := es; simp
  cases hi : es.findIdx? fun e => (intKind P.prog P.w).is k e.key with
  | some i =>
    have ha := any_of_findIdx_some (hidx ▸ hi)
    rw [if_pos ha] at hQ
    refine wpAny_bind (wpAny_rule (wpAny_bind (wpAny_updateDict (s := { s with toks := s.toks + 1 }) ho hd (wpAny_point (hQ _ ⟨_, _, Heap.get?_update_self _ ho (Obj.isFreed_of_dict (Obj.data_mapDict hd _)),
      hc.mapDict _, Obj.data_mapDict hd _, hk.modify _ _, ?_, ?_⟩ (Heap.SameBut.update ..))))))
    · rw [stored, if_pos ha]
      have hl : (es.toList.findIdx? fun e => (intKind P.prog P.w).is k e.key) = some i := by rw [← hi]; obtain ⟨l⟩ := es; simp
      have := hp.modify hn hl v
      obtain ⟨l⟩ := es
      simpa using this
    · rw [stored, if_pos ha, keys_map_store]; exact hn
  | none =>
    have hnot : k ∉ kvs.map (·.1) := not_mem_of_findIdx_none (hidx ▸ hi)
    have ha : ¬ (kvs.any fun kv => decide (kv.1 = k)) = true := by
      rw [List.any_eq_true]; rintro ⟨kv, hkv, he⟩
      exact hnot (List.mem_map.mpr ⟨kv, hkv, of_decide_eq_true he⟩)
    rw [if_neg ha] at hQ
    refine wpAny_bind (wpAny_rule (wpAny_updateDictKeys (hz := by rw [hlen]; exact hsz) (s := { s with toks := s.toks + 1 }) ho hd (hQ _ ⟨_, _, Heap.get?_update_self _ ho (Obj.isFreed_of_dict (Obj.data_mapDictKeys hd _)),
      hc.mapDictKeys _, Obj.data_mapDictKeys hd _, hk.push hkey _, ?_, ?_⟩ (Heap.SameBut.update ..))))
    · rw [stored, if_neg ha]
      have := hp.append hkey ((intKind P.prog P.w).hash k) v
      obtain ⟨l⟩ := es
      simpa using this
    · rw [stored, if_neg ha, List.map_append, List.nodup_append]
      refine ⟨hn, by simp, ?_⟩
      intro a ha' b hb
      simp only [List.map_cons, List.map_nil, List.mem_singleton] at hb
      subst hb
      exact fun e => hnot (e ▸ ha')

theorem dput_rel {k : Int} {a : AV} {v : Value} (hk : Small k) (hv : VR P.ρ g a v) : ∀ {es : List (Int × AV)} {kvs : List (Int × Value)}, A2 (DRel P.ρ g) es kvs → (kvs.map (·.1)).Nodup → A2 (DRel P.ρ g) (dput k a es) (stored kvs k v)
  | [], [], _, _ => ⟨⟨rfl, hk, hv⟩, trivial⟩
  | p :: es, q :: kvs, ⟨x, y⟩, hn => by
    have hn' := (List.nodup_cons.mp hn)
    unfold dput
    by_cases e : p.1 = k
    · rw [decide_eq_true e]
      have e' : q.1 = k := x.1 ▸ e
      have : stored (q :: kvs) k v = (q.1, v) :: kvs := by
        unfold stored
        simp only [List.any_cons, e', decide_true, Bool.true_or, if_true, List.map_cons, List.cons.injEq, true_and]
        have hk : k ∉ kvs.map (·.1) := e' ▸ hn'.1
        rw [List.map_congr_left (g := id) ?_, List.map_id]
        intro z hz
        rw [if_neg (fun q => hk (List.mem_map.mpr ⟨z, hz, q⟩))]; rfl
      rw [this]
      exact ⟨⟨x.1, x.2.1, hv⟩, y⟩
    · rw [decide_eq_false e]
      have e' : ¬ q.1 = k := fun z => e (x.1.trans z)
      have : stored (q :: kvs) k v = q :: stored kvs k v := by
        unfold stored
        simp only [List.any_cons, e', decide_false, Bool.false_or, List.map_cons, if_false]
        split <;> rfl
      rw [this]
      exact ⟨x, dput_rel hk hv y hn'.2⟩

theorem any_dfind {k : Int} : ∀ {es : List (Int × AV)} {kvs : List (Int × Value)}, A2 (DRel P.ρ g) es kvs → (kvs.any fun kv => decide (kv.1 = k)) = (dfind k es).isSome
  | [], [], _ => rfl
  | p :: es, q :: kvs, ⟨x, y⟩ => by
    rw [List.any_cons, any_dfind y]
    show _ = (match decide (p.1 = k) with | true => some p.2 | false => dfind k es).isSome
    by_cases e : p.1 = k
    · have e' : q.1 = k := x.1 ▸ e
      rw [decide_eq_true e, decide_eq_true e']; rfl
    · have e' : ¬ q.1 = k := fun z => e (x.1.trans z)
      rw [decide_eq_false e, decide_eq_false e', Bool.false_or]

theorem DictAt.OR {a : Addr} {kvs : List (Int × Value)} {ep : Nat} {h : Heap} {es : List (Int × AV)} {e : Option Nat} (D : h.DictAt (intKind P.prog P.w) a kvs ep) (he : ∀ k, e = some k → ep = k) (hr : A2 (DRel P.ρ g) es kvs) :
    ∃ ob, h.get? a = some ob ∧ OR P.prog P.w P.ρ g (.dict es e) ob := by
  refine hideGoal fun Φ hΦ => ?_
  obtain ⟨ob, ds, h1, h2, h3, h4, h5, h6⟩ := D
  refine hΦ ?_
  clear hΦ Φ
  exact ⟨ob, h1, h2, ds, ep, kvs, h3, he, h4, h5, h6, hr⟩

theorem DictAt.nodup {a : Addr} {kvs : List (Int × Value)} {ep : Nat} {h : Heap} (D : h.DictAt (intKind P.prog P.w) a kvs ep) : (kvs.map (·.1)).Nodup := let ⟨_, _, _, _, _, _, _, n⟩ := D; n

/-! a bytearray's byte -/
theorem slot_ba_set : Slot "bytearray" "__setitem__" "bytearray.__setitem__" :=
  .of (owner := "bytearray") (n := "__setitem__") (by rw [typeLookup_type, builtinLookup_eq_fast]; kernel_rfl) (by decide +kernel) (by decide +kernel) (by decide +kernel)
    (by first | exact .inl (by decide +kernel) | exact .inr (by decide +kernel)) (by rw [isSubtype_type]; kernel_rfl)
theorem entry_ba_set : entryFor table "bytearray.__setitem__" = some Builtin.«bytearray.__setitem__» := entryFor_of_tree (by kernel_rfl)
theorem args_ba_set (a b c : Value) : argsOk "bytearray.__setitem__" ⟨[a, b, c], []⟩ := by unfold argsOk; kernel_rfl
theorem int_index : typeLookup (.type "int") "__index__" = pure (some (.builtin "int.__index__")) := by rw [typeLookup_type, builtinLookup_eq_fast]; kernel_rfl

theorem octs_set {b : Array UInt8} {l : List SI} {ρ : Nat → Int} (h : octs b = l.map (SI.val ρ)) {k : Nat} {e : SI} (h0 : 0 ≤ e.val ρ) (h1 : e.val ρ < 256) :
    octs (b.setIfInBounds k (e.val ρ).toNat.toUInt8) = (setNth e l k).map (SI.val ρ) := by
  rw [setNth_eq, List.map_set, ← h]
  unfold octs
  rw [Array.toList_setIfInBounds, List.map_set]
  congr 1
  have : ((e.val ρ).toNat.toUInt8).toNat = (e.val ρ).toNat := by
    show (UInt8.ofNat _).toNat = _
    rw [UInt8.toNat_ofNat']
    omega
  rw [this]
  omega

theorem ba_set {a : Addr} {b : Array UInt8} {k : Int} {t : Tok} {x : Int} {u : Tok} {ob : Obj} {Q : Unit → Shared → Prop} {E : Value → Shared → Prop} (ho : s.heap.get? a = some ob) (hc : ob.cls = .type "bytearray") (hd : ob.data = .bytearray b 0)
    (h0 : 0 ≤ k) (h1 : k < b.size) (hz : b.size ≤ 4096) (x0 : 0 ≤ x) (x1 : x < 256)
    (hQ : Q () { s with heap := s.heap.update a (Obj.mapBytearray (·.setIfInBounds k.toNat x.toNat.toUInt8)) }) :
    wpAny (model P.prog P.w) A (setItem (.ref a) (.int k t) (.int x u)) Q E s := by
  have hT : s.TypeIs (.ref a) "bytearray" := ⟨ob, ho, hc⟩
  unfold setItem
  refine wpAny_holding (wpAny_bind (wpAny_sequenceKey hT (by decide) ?_))
  refine wpAny_bind (wpAny_callSpecial?_slot (name := Str.ofString "__setitem__") hT slot_ba_set (wpAny_call_entry slot_ba_set hT entry_ba_set ?_ (args_ba_set _ _ _)))
  unfold Builtin.«bytearray.__setitem__»
  show wpAny _ _ (Builtin.Bytes.subscript? (.int k t) >>= fun _ => _) _ _ _
  refine wpAny_bind ?_
  unfold Builtin.Bytes.subscript?
  refine wpAny_bind (wpAny_specialOf (T := "int") rfl int_index ?_)
  refine wpAny_bind (wpAny_of_eq (rfl : asIndex (.int k t) = pure k) ?_)
  have hfit : Builtin.Bytes.fitsIndex k = true := by simp only [Builtin.Bytes.fitsIndex, Bool.and_eq_true, decide_eq_true_eq]; omega
  refine wpA_ifN (by rw [hfit]; exact Bool.false_ne_true) ?_
  refine wpAny_bind (wpAny_pure (wpAny_pure ?_))
  refine wpAny_bind ?_
  unfold Builtin.Bytes.byteValue
  refine wpAny_bind (wpAny_of_eq (rfl : asIndex (.int x u) = pure x) ?_)
  have hx : (decide (x < 0) || decide (x ≥ 256)) = false := by simp; omega
  refine wpA_ifN (by rw [hx]; exact Bool.false_ne_true) ?_
  refine wpAny_bind (wpAny_pure (wpAny_pure ?_))
  refine wpAny_bind ?_
  unfold Builtin.Bytes.payload Builtin.Bytes.payload?
  refine wpAny_bind (wpAny_bind (wpAny_load ho ?_))
  rw [hd]
  refine wpAny_pure (wpAny_pure ?_)
  have hsi : seqIndex? k b.size = some k.toNat := by
    have : (k : Int) < (b.size : Int) := h1
    simp [seqIndex?, h0, this]
    omega
  rw [hsi]
  refine wpAny_bind ?_
  show wpAny _ _ (updateBytearray a _) _ _ _
  unfold updateBytearray
  refine wpAny_bind (wpAny_load ho ?_)
  rw [hd]
  have e1 : (Obj.mapBytearray (·.setIfInBounds k.toNat x.toNat.toUInt8) ob).data = .bytearray (b.setIfInBounds k.toNat x.toNat.toUInt8) 0 := by
    refine hideGoal fun Φ hΦ => ?_
    obtain ⟨oc, od, odt, osl⟩ := ob
    refine hΦ ?_
    clear hΦ Φ
    dsimp only at hd
    subst hd
    rfl
  have e2 : (Obj.mapBytearray (·.setIfInBounds k.toNat x.toNat.toUInt8) ob).isFreed = false := by
    refine hideGoal fun Φ hΦ => ?_
    obtain ⟨oc, od, odt, osl⟩ := ob
    refine hΦ ?_
    clear hΦ Φ
    dsimp only at hd
    subst hd
    rfl
  refine wpAny_bind (wpAny_update ho ?_)
  refine wpAny_lookBehind (Heap.get?_update_self _ ho e2) ?_ ?_
  · rw [e1]
    show (if (b.setIfInBounds k.toNat x.toNat.toUInt8).size > sizeLine then some "bytearray:memory" else none) = none
    rw [if_neg]
    rw [Array.size_setIfInBounds]
    have := le_sizeLine hz
    omega
  · exact wpAny_bind (wpAny_pure (wpAny_pure ⟨_, rfl, wpAny_pure hQ⟩))

theorem ba_obj {ob : Obj} {b : Array UInt8} {f : Array UInt8 → Array UInt8} (hd : ob.data = .bytearray b 0) : (Obj.mapBytearray f ob).data = .bytearray (f b) 0 ∧ (Obj.mapBytearray f ob).cls = ob.cls ∧ (Obj.mapBytearray f ob).dict = ob.dict ∧ (Obj.mapBytearray f ob).isFreed = false := by
  refine hideGoal fun Φ hΦ => ?_
  obtain ⟨oc, od, odt, osl⟩ := ob
  refine hΦ ?_
  clear hΦ Φ
  dsimp only at hd
  subst hd
  exact ⟨rfl, rfl, rfl, rfl⟩

theorem RepS.barr (R : RepS P g st s) {i : Nat} {l : List SI} {a : Addr} (h : st.get i = some (.barr l)) (ha : g.adr i = some a) :
    ∃ ob b, s.heap.get? a = some ob ∧ ob.cls = .type "bytearray" ∧ ob.dict = none ∧ ob.data = .bytearray b 0 ∧ octs b = l.map (SI.val P.ρ) := by
  refine hideGoal fun Φ hΦ => ?_
  obtain ⟨ob, h2, h3, h4, b, h5, h6⟩ := R.1.atA ha h
  refine hΦ ?_
  clear hΦ Φ
  exact ⟨ob, b, h2, h3, h4, h5, h6⟩

set_option tactic.hygienic true in
theorem setItemA_ok (O : GOK P G) (R : RepS P g st s) {o i a : AV} {ov iv v : Value} (vo : VR P.ρ g o ov) (vi : VR P.ρ g i iv) (va : VR P.ρ g a v) : SndAt P g st s A (setItemA G o i a) (setItem ov iv v) (fun _ _ _ => True) := by
  unfold setItemA
  rcases o with ⟨⟩ <;> first | exact .stuck | skip
  rcases i with ⟨⟩ <;> first | exact .stuck | skip
  rename_i j e
  rcases e with ⟨⟩ <;> first | exact .stuck | skip
  rename_i k
  obtain ⟨x, hx, rfl⟩ := vo
  obtain ⟨t, rfl, sk⟩ := vi
  have sk : Small k := sk
  refine .getO fun ob ho => ?_
  rcases ob with ⟨⟩ <;> first | exact .stuck | skip
  · rename_i es ep
    refine hideGoal fun Φ hΦ => ?_
    obtain ⟨kvs, ep', D, he, hr⟩ := R.dict ho hx
    refine hΦ ?_
    clear hΦ Φ
    refine .fit fun hf => .val set_ok ?_
    have hkey : (intKind P.prog P.w).is k (.int k t) = true := by simp [intKind, Value.isInt]
    have hT : s.TypeIs (.ref x) "dict" := D.dictOf.typeIs
    unfold setItem
    refine wpAny_holding (wpAny_bind (wpAny_sequenceKey hT (by decide) ?_))
    refine wpAny_bind (wpAny_callSpecial?_slot (name := Str.ofString "__setitem__") hT slot_dict_setitem (wpAny_call_entry slot_dict_setitem hT entry_dict_setitem ?_ (args_dict_setitem _ _ _)))
    show wpAny _ _ (Builtin.Dict.notOrdered "__setitem__" ⟨[.ref x, .int k t, v], []⟩ >>= _) _ _ s
    refine wpAny_bind (wpAny_notOrdered_dict hT ?_)
    show wpAny _ _ (dictSet x (.int k t) v >>= _) _ _ s
    refine wpAny_bind (dictSetAt hkey D (fun h' D' hs => ?_) (by rw [← hr.len]; exact le_sizeLine hf))
    refine wpAny_pure ⟨.none, rfl, wpAny_pure ⟨g, .refl _, ?_, trivial⟩⟩
    obtain ⟨ob', k1, k2⟩ := DictAt.OR D' (e := epAfter (dfind k es) ep) (by
      intro n hn
      rw [any_dfind hr]
      cases q : dfind k es with
      | some _ => rw [q] at hn; simp only [Option.isSome_some, if_true]; exact he _ hn
      | none =>
        rw [q] at hn
        simp only [Option.isSome_none, Bool.false_eq_true, if_false]
        cases ep with
        | none => cases hn
        | some e => cases hn; rw [he _ rfl]) (dput_rel sk va hr (DictAt.nodup D))
    exact R.set (tk := s.toks + 1) ho hx hs.extBut k1 k2 rfl
  · rename_i l
    refine hideGoal fun Φ hΦ => ?_
    obtain ⟨ob, b, h1, h2, h3, h4, h5⟩ := R.barr ho hx
    refine hΦ ?_
    clear hΦ Φ
    have hlen : b.size = l.length := by rw [← Array.length_toList]; exact octs_len h5
    rcases a with ⟨⟩ <;> first | exact .stuck | skip
    rename_i e
    obtain ⟨u, rfl, se⟩ := va
    dsimp only
    cases hk : decide (0 ≤ k) && decide (k < l.length) with
    | false => exact .stuck
    | true =>
      simp only [Bool.and_eq_true, decide_eq_true_eq] at hk
      dsimp only
      split
      · rename_i q1 q2
        have q1 := intLt_ok O.orc q1
        have q2 := intLt_ok O.orc q2
        have q1 := of_decide_eq_false q1.symm
        have q2 := of_decide_eq_true q2.symm
        have q1 : ¬ SI.val P.ρ e < 0 := q1
        have q2 : SI.val P.ρ e < 256 := q2
        refine hideGoal fun Φ hΦ => ?_
        obtain ⟨e1, e2, e3, e4⟩ := ba_obj (f := (·.setIfInBounds k.toNat (SI.val P.ρ e).toNat.toUInt8)) h4
        refine hΦ ?_
        clear hΦ Φ
        refine .fit fun hf => .val set_ok (ba_set h1 h2 h4 hk.1 (by have : SI.val P.ρ (.lit k) = k := rfl; omega) (by omega) (by omega) (by omega) ⟨g, .refl _, ?_, trivial⟩)
        refine R.set (tk := s.toks) ho hx (Heap.SameBut.update ..).extBut (Heap.get?_update_self _ h1 e4) ⟨e2.trans h2, e3.trans h3, _, e1, octs_set h5 (by omega) q2⟩ rfl
      · exact .stuck
end
end Mine

end
section
set_option maxRecDepth 100000
namespace Mine
open PySem PySem.W PySem.Calls PySem.SeqAt PyProof.Rows

theorem codeS_builtin {prog : Program} {w : World} {A : Around} {s : Shared} {R : Result → Shared → Prop} {id : String} {args : Args} {b : Builtin} (hb : entryFor table id = some b) (hbad : badIds.contains id = false)
    (h : wpS (model prog w) (A.under (.builtin id args)) (b args)
      (fun fin s' => match fin with | .done f => R (.ok f) s' | .again c' => c'.quiet = true ∧ codeS (model prog w) A c' R s') (fun e s' => R (.error e) s') s) :
    codeS (model prog w) A (.builtin id args) R s := by
  refine codeS_of_tree hbad ?_
  show wpS _ _ (match entryFor table id with | some b => b args | none => unsupported ((withoutEnding? id "#data").getD id)) _ _ s
  rw [hb]; exact h
theorem codeS_call_builtin {prog : Program} {w : World} {A : Around} {s : Shared} {R : Result → Shared → Prop} {id : String} {args : Args} {b : Builtin} (hq : plainId id = true) (hb : entryFor table id = some b) (hbad : badIds.contains id = false)
    (h : wpAny (model prog w) A.in1 (checkBuiltinCall id args) (fun _ s₁ => wpS (model prog w) A.in1 (b args)
      (fun fin s' => match fin with | .done f => R (.ok f) s' | .again c' => c'.quiet = true ∧ codeS (model prog w) A c' R s') (fun e s' => R (.error e) s') s₁)
      (fun e s' => R (.error e) s') s) : codeS (model prog w) A (.call (.builtin id) args) R s := by
  refine codeS_of_tree rfl ?_
  show wpS _ A.in1 (do checkBuiltinCall id args; again (.builtin id args)) _ _ s
  refine wpS_bind (.of (wpAny_mono h (fun _ s₁ h₁ => wpS_pure (And.intro (plainId_quiet hq args) (codeS_builtin hb hbad ?_))) fun _ _ h' => h'))
  rw [Around.under_plainId hq args]; exact h₁

/-! ## bytearray(n) -/
namespace BA
theorem mro : mroOf (.type "bytearray") = pure [.type "bytearray", .type "object"] := by rw [mroOf_type]; kernel_rfl
theorem lookup_new : typeLookup (.type "bytearray") "__new__" = pure (some (.builtin "bytearray.__new__")) := by rw [typeLookup_type, builtinLookup_eq_fast]; kernel_rfl
theorem slot_init : Slot "bytearray" "__init__" "bytearray.__init__" :=
  .of (owner := "bytearray") (n := "__init__") (by rw [typeLookup_type, builtinLookup_eq_fast]; kernel_rfl) (by decide +kernel) (by decide +kernel) (by decide +kernel)
    (by first | exact .inl (by decide +kernel) | exact .inr (by decide +kernel)) (by rw [isSubtype_type]; kernel_rfl)
theorem called : TypeCalled "bytearray" "bytearray.__new__" "bytearray.__init__" :=
  ⟨by decide +kernel, by decide +kernel, ⟨_, _, mro⟩, madeBy_type mro lookup_new (by decide +kernel), by decide +kernel, by rw [isSubtype_type]; kernel_rfl, slot_init⟩
theorem typeCall (a : Value) : checkTypeCall "bytearray" ⟨[a], []⟩ = pure () := by kernel_rfl
theorem newCall (a : Value) : checkBuiltinCall "bytearray.__new__" ⟨[.type "bytearray", a], []⟩ = pure () := by kernel_rfl
theorem plain_new : plainId "bytearray.__new__" = true := by decide +kernel
theorem entry_new : entryFor table "bytearray.__new__" = some Builtin.«list.__new__» := entryFor_alias (id' := "list.__new__") (by kernel_rfl) (by first | rfl | decide +kernel) (by decide +kernel) (by kernel_rfl)
theorem entry_init : entryFor table "bytearray.__init__" = some Builtin.«bytearray.__init__» := entryFor_of_tree (by kernel_rfl)
theorem args_init (a b : Value) : argsOk "bytearray.__init__" ⟨[a, b], []⟩ := by unfold argsOk; kernel_rfl
set_option maxRecDepth 1000000 in
set_option maxHeartbeats 4000000 in
theorem owner : ("bytearray.__new__".splitOn ".__new__").headD "" = "bytearray" := by simp +decide [String.splitOn, String.splitOnAux]
theorem no_release : typeLookup (.type "bytearray") "__release_buffer__" = pure (some (.builtin "bytearray.__release_buffer__")) := by rw [typeLookup_type, builtinLookup_eq_fast]; kernel_rfl
theorem sub : isSubtype (.type "bytearray") (.type "bytearray") = pure true := by rw [isSubtype_type]; kernel_rfl
theorem bind (v : Value) : Builtin.Bytes.bindOptional "bytearray.__init__" "bytearray" ["source", "encoding", "errors"] [v] [] = pure [some v, none, none] := by kernel_rfl
section
variable {prog : Program} {w : World} {A : Around} {E : Value → Shared → Prop} {s : Shared}
theorem code_new (a : Value) {Q₁ : Value → Shared → Prop}
    (h : Q₁ (.ref s.heap.objs.size) { s with heap := s.heap.push { cls := .type "bytearray", data := .bytearray #[] } }) :
    codeAny (model prog w) A (.call (.builtin "bytearray.__new__") ⟨[.type "bytearray", a], []⟩) (wants Q₁ E) s := by
  refine codeAny_of_tree ?_
  show wpAny _ A.in1 (do checkBuiltinCall "bytearray.__new__" ⟨[.type "bytearray", a], []⟩; again (.builtin "bytearray.__new__" ⟨[.type "bytearray", a], []⟩)) _ _ s
  refine wpAny_bind (wpAny_of_eq (newCall a) (wpAny_pure ⟨plainId_quiet plain_new _, codeAny_builtin_stack entry_new rfl fun p st => ?_⟩))
  rw [Around.under_plainId plain_new _]
  have hsub := sub
  have hown := owner
  refine hideGoal fun Φ hΦ => ?_
  obtain ⟨hp, g, d, tk, os⟩ := s
  refine hΦ ?_
  clear hΦ Φ
  simp only [hown]
  wp_walk
  exact h

theorem own_release {x : Addr} (hT : s.TypeIs (.ref x) "bytearray") {Q : Bool → Shared → Prop} (h : Q false s) : wpAny (model prog w) A (Builtin.Bytes.ownRelease (.ref x)) Q E s := by
  have e2 : ("bytearray.__release_buffer__".endsWith ("." ++ "__release_buffer__")) = true := by decide +kernel
  have e3 : "bytearray.__release_buffer__".dropRight ("__release_buffer__".length + 1) = "bytearray" := by decide +kernel
  unfold Builtin.Bytes.ownRelease
  refine wpAny_bind ?_
  unfold Builtin.Bytes.slotIsOwn
  refine wpAny_bind (wpAny_specialOf hT no_release ?_)
  dsimp only
  rw [e2]
  refine wpA_ifN Bool.false_ne_true ?_
  rw [e3]
  exact wpAny_isInstance hT sub (wpAny_pure h)

theorem init_ok {x : Addr} {n : Int} {t : Tok} (hx : s.heap.get? x = some { cls := .type "bytearray", data := .bytearray #[] }) (h0 : 0 ≤ n) (h1 : n ≤ 1000) {Q : Fin → Shared → Prop}
    (hQ : ∀ h' ob, Heap.SameBut x s.heap h' → h'.get? x = some ob → ob.cls = .type "bytearray" → ob.dict = none → ob.data = .bytearray (Array.replicate n.toNat 0) 0 → Q (.done (.ret .none)) { s with heap := h' }) :
    wpS (model prog w) A (Builtin.«bytearray.__init__» ⟨[.ref x, .int n t], []⟩) Q E s := by
  have hT : s.TypeIs (.ref x) "bytearray" := ⟨_, hx, rfl⟩
  unfold Builtin.«bytearray.__init__»
  refine wpS_bind (.of (own_release hT ?_))
  refine wpS_ifN Bool.false_ne_true ?_
  refine wpS_bind (.of (wpAny_of_eq (bind _) ?_))
  refine wpS_bind (.of (wpAny_of_eq (a := ()) rfl ?_))
  refine wpS_bind (.of (wpAny_of_eq (a := ()) rfl ?_))
  refine wpS_bind ?_
  refine wpS_bind (wpS_exported ?_)
  refine .of (wpAny_bind ?_)
  unfold Builtin.Bytes.exportsOf
  refine wpAny_bind (wpAny_load hx (wpAny_pure (wpAny_pure ?_)))
  rw [if_neg (by decide)]
  -- the first write
  have wr : ∀ {s₁ : Shared} {ob : Obj} {b : Array UInt8} {f : Array UInt8 → Array UInt8} {B : Around} {E : Value → Shared → Prop} {R : Unit → Shared → Prop}, s₁.heap.get? x = some ob → ob.data = .bytearray b 0 → (f b).size ≤ 4096 → R () { s₁ with heap := s₁.heap.update x (Obj.mapBytearray f) } →
      wpAny (model prog w) B (Builtin.Bytes.write (.ref x) f) R E s₁ := by
    intro s₁ ob b f B E R ho hd hz hR
    refine hideGoal fun Φ hΦ => ?_
    obtain ⟨e1, e2, e3, e4⟩ := ba_obj (f := f) hd
    refine hΦ ?_
    clear hΦ Φ
    show wpAny _ _ (updateBytearray x f) _ _ _
    unfold updateBytearray
    refine wpAny_bind (wpAny_load ho ?_)
    rw [hd]
    refine wpAny_bind (wpAny_update ho ?_)
    refine wpAny_lookBehind (Heap.get?_update_self _ ho e4) ?_ hR
    rw [e1]
    show (if (f b).size > sizeLine then some "bytearray:memory" else none) = none
    rw [if_neg]
    have := le_sizeLine hz
    omega
  refine .of (wpAny_bind (wr (f := fun _ => #[]) hx rfl (by decide) ?_))
  have x1 : (s.heap.update x (Obj.mapBytearray fun _ => #[])).get? x = some { cls := .type "bytearray", data := .bytearray #[] } := Heap.get?_update_self _ hx rfl
  dsimp only
  refine wpAny_bind (wpAny_pure ?_)
  refine wpA_ifN Bool.false_ne_true (wpAny_bind (wpA_ifN Bool.false_ne_true (wpA_ifN Bool.false_ne_true (wpAny_pure ?_))))
  refine wpAny_bind (wpAny_specialOf (T := "int") rfl int_index ?_)
  refine wpA_ifP rfl ?_
  refine wpAny_bind (wpAny_attempt (wpAny_of_eq (rfl : asIndex (.int n t) = pure n) ?_))
  dsimp only
  have hfit : Builtin.Bytes.fitsIndex n = true := by simp only [Builtin.Bytes.fitsIndex, Bool.and_eq_true, decide_eq_true_eq]; omega
  refine wpA_ifN (by rw [hfit]; exact Bool.false_ne_true) (wpA_ifN (by omega) (wpA_ifN (by simp; omega) (wpA_ifN (by simp [Builtin.Bytes.tooLong, sizeLine_eq]; omega) ?_)))
  refine wpAny_bind (wpAny_rule ?_)
  by_cases hn : n > 0
  · refine wpA_ifP hn ?_
    refine wpAny_bind (wr (f := fun _ => Array.replicate n.toNat 0) x1 rfl (by simp; omega) ?_)
    have x2 : ((s.heap.update x (Obj.mapBytearray fun _ => #[])).update x (Obj.mapBytearray fun _ => Array.replicate n.toNat 0)).get? x = some { cls := .type "bytearray", data := .bytearray (Array.replicate n.toNat 0) } := Heap.get?_update_self _ x1 rfl
    exact wpAny_bind (wpAny_pure (wpAny_pure (hQ _ _ ((Heap.SameBut.update ..).trans (Heap.SameBut.update ..)) x2 rfl rfl rfl)))
  · refine wpA_ifN hn ?_
    have h0' : n = 0 := by omega
    subst h0'
    exact wpAny_bind (wpAny_pure (wpAny_pure (hQ _ _ (Heap.SameBut.update ..) x1 rfl rfl rfl)))

theorem call_ok {n : Int} {t : Tok} (h0 : 0 ≤ n) (h1 : n ≤ 1000) {Q : Value → Shared → Prop}
    (hQ : ∀ h' ob, (∀ b o, s.heap.get? b = some o → h'.get? b = some o) → h'.get? s.heap.objs.size = some ob → ob.cls = .type "bytearray" → ob.dict = none → ob.data = .bytearray (Array.replicate n.toNat 0) 0 → Q (.ref s.heap.objs.size) { s with heap := h' }) :
    wpS (model prog w) A (call (.type "bytearray") [.int n t]) Q E s := by
  refine wpS_call (codeS_of_tree rfl ?_)
  show wpS _ _ (callAny (.type "bytearray") _) _ _ _
  refine wpS_pure ⟨Code.quiet_builtin _ (by decide +kernel), codeS_builtin F.entry_type_call (by decide +kernel) ?_⟩
  rw [Around.under_plain (weight_type_call_type "bytearray" _ []) rfl]
  unfold Builtin.«type.__call__»
  dsimp only
  have h2 := called.notType
  have h3 := called.canCreate
  refine wpS_ifN (by rw [h2]; exact Bool.false_ne_true) (wpS_ifN (by rw [h3]; exact Bool.false_ne_true) ?_)
  refine wpS_bind (.of (wpAny_of_eq (typeCall _) ?_))
  refine wpS_bind (.of (wpAny_of_eq mro ?_))
  refine wpS_ifN Bool.false_ne_true ?_
  refine wpS_bind (.of (wpAny_of_eq called.made ?_))
  refine wpS_bind (wpS_pure ?_)
  refine wpS_bind (wpS_holding (.of (wpAny_call ?_)))
  refine codeAny_mono (code_new (.int n t) (Q₁ := fun obj s₁ => obj = .ref s.heap.objs.size ∧ s₁ = { s with heap := s.heap.push { cls := .type "bytearray", data := .bytearray #[] } }) (E := fun _ _ => False) ⟨rfl, rfl⟩) fun r s₁ hr => ?_
  unfold wants at hr
  split at hr
  · obtain ⟨rfl, rfl⟩ := hr
    have hx : (s.heap.push { cls := .type "bytearray", data := .bytearray #[] }).get? s.heap.objs.size = some { cls := .type "bytearray", data := .bytearray #[] } := Heap.get?_push_size _ rfl
    have hT : ({ s with heap := s.heap.push { cls := .type "bytearray", data := .bytearray #[] } } : Shared).TypeIs (.ref s.heap.objs.size) "bytearray" := ⟨_, hx, rfl⟩
    refine wpS_bind (.of (wpAny_isInstance hT sub ?_))
    refine wpS_ifN Bool.false_ne_true ?_
    refine wpS_bind (wpS_holding ?_)
    unfold callSpecial?
    refine wpS_bind (.of (wpAny_specialOf hT slot_init.lookup ?_))
    dsimp only
    rw [slot_init.bind]
    refine wpS_holding (wpS_bind (wpS_pure (wpS_bind (wpS_call ?_))))
    refine codeS_call_builtin slot_init.plain entry_init (by decide +kernel) (slot_init.check _ _ _ _ _ _ _ _ hT (args_init _ _) ?_)
    refine init_ok hx h0 h1 fun h' ob hs hb e1 e2 e3 => ?_
    refine wpS_pure ?_
    refine wpS_ifN (by decide) ?_
    refine wpS_pure (hQ h' ob (fun b o e => hs.extBut b o (Nat.ne_of_lt (Heap.lt_size e)) (Heap.get?_push_of_some _ e)) hb e1 e2 e3)
  · exact hr.elim
  · exact hr.elim
end
end BA
end Mine

end
section
set_option maxRecDepth 100000
namespace Mine
open PySem PySem.W PySem.Calls PySem.SeqAt PyProof.Rows

/-! ## bytes of a bytearray -/
namespace BA
theorem no_bytes : typeLookup (.type "bytearray") "__bytes__" = pure none := by rw [typeLookup_type, builtinLookup_eq_fast]; kernel_rfl
theorem noIndex : typeLookup (.type "bytearray") "__index__" = pure none := by rw [typeLookup_type, builtinLookup_eq_fast]; kernel_rfl
theorem look_buffer : typeLookup (.type "bytearray") "__buffer__" = pure (some (.builtin "bytearray.__buffer__")) := by rw [typeLookup_type, builtinLookup_eq_fast]; kernel_rfl
section
variable {prog : Program} {w : World} {A : Around} {E : Value → Shared → Prop} {s : Shared}
theorem own_buffer {x : Addr} (hT : s.TypeIs (.ref x) "bytearray") {Q : Bool → Shared → Prop} (h : Q true s) : wpAny (model prog w) A (Builtin.Bytes.slotIsOwn (.ref x) "__buffer__") Q E s := by
  have e2 : ("bytearray.__buffer__".endsWith ("." ++ "__buffer__")) = true := by decide +kernel
  have e3 : "bytearray.__buffer__".dropRight ("__buffer__".length + 1) = "bytearray" := by decide +kernel
  unfold Builtin.Bytes.slotIsOwn
  refine wpAny_bind (wpAny_specialOf hT look_buffer ?_)
  dsimp only
  rw [e2]
  refine wpA_ifN Bool.false_ne_true ?_
  rw [e3]
  exact wpAny_isInstance hT sub h

theorem to_bytes {l : Addr} {ol : Obj} {b : Array UInt8} {Q : Value → Shared → Prop} (hol : s.heap.get? l = some ol) (hc : ol.cls = .type "bytearray") (hod : ol.data = .bytearray b 0) (hz : b.size ≤ 4096)
    (hQ : ∀ t k, Q (.bytes b t) { s with toks := k }) : wpAny (model prog w) A (call (.type "bytes") [.ref l]) Q E s := by
  have hT : s.TypeIs (.ref l) "bytearray" := ⟨ol, hol, hc⟩
  refine callType_codes (Q₁ := fun obj s₁ => s₁.TypeIs obj "bytes" ∧ Q obj s₁) F.bm_called (F.bm_typeCall _) F.entry_object_init ?_ fun obj s₁ h₁ => ?_
  · refine codeAny_of_tree ?_
    show wpAny _ A.in1.in1 (do checkBuiltinCall "bytes.__new__" ⟨[.type "bytes", .ref l], []⟩; again (.builtin "bytes.__new__" ⟨[.type "bytes", .ref l], []⟩)) _ _ s
    refine wpAny_bind (wpAny_of_eq (F.bm_newCall _) (wpAny_pure ⟨plainId_quiet F.bm_plain _, codeAny_builtin F.bm_entry ?_⟩))
    rw [Around.under_plainId F.bm_plain _]
    unfold Builtin.«bytes.__new__»
    refine wpAny_bind (wpAny_of_eq (a := true) rfl ?_)
    refine bm_if_false rfl ?_
    refine wpAny_bind (wpAny_of_eq F.bm_sub ?_)
    refine bm_if_false rfl ?_
    refine wpAny_bind (wpAny_of_eq (F.bm_bind _) ?_)
    refine wpAny_bind (wpAny_of_eq (a := ()) rfl ?_)
    refine wpAny_bind (wpAny_of_eq (a := ()) rfl ?_)
    refine bm_if_false rfl ?_
    refine wpAny_bind (wpAny_specialOf hT no_bytes ?_)
    refine wpAny_bind (wpAny_bind ?_)
    show wpAny _ _ (load l >>= _) _ _ _
    refine wpAny_bind (wpAny_load hol ?_)
    rw [hod]
    refine wpAny_pure (wpAny_pure ?_)
    refine bm_if_false rfl ?_
    refine wpAny_bind (wpAny_specialOf hT noIndex ?_)
    refine bm_if_true rfl ?_
    first
      | show wpAny _ _ (Builtin.Bytes.buffer? "bytes.__new__" (.ref l) true >>= _) _ _ _
      | (refine wpAny_bind ?_; show wpAny _ _ (Builtin.Bytes.buffer? "bytes.__new__" (.ref l) true >>= _) _ _ _)
    refine wpAny_bind ?_
    unfold Builtin.Bytes.buffer?
    refine wpAny_bind (wpAny_specialOf hT look_buffer ?_)
    dsimp only
    refine wpAny_bind (own_buffer hT ?_)
    refine wpA_ifN Bool.false_ne_true ?_
    refine wpAny_bind (wpAny_specialOf hT look_buffer ?_)
    refine wpAny_bind (own_release hT ?_)
    refine wpA_ifN Bool.false_ne_true ?_
    unfold Builtin.Bytes.payload Builtin.Bytes.payload?
    refine wpAny_bind (wpAny_bind (wpAny_bind (wpAny_load hol ?_)))
    rw [hod]
    refine wpAny_pure (wpAny_pure (wpAny_pure ?_))
    refine wpAny_bind (wpAny_rule (wpAny_bind (wpAny_mkBytes ?_ (le_sizeLine hz))))
    show wpAny _ _ (if (Value.type "bytes" == Value.type "bytes") = true then _ else _) _ _ _
    refine bm_if_true (by decide) ?_
    first
      | exact wpAny_pure ⟨PySem.W.typeIs_bytes _ _ _, hQ _ _⟩
      | exact wpAny_bind (wpAny_pure (wpAny_pure ⟨PySem.W.typeIs_bytes _ _ _, hQ _ _⟩))
  · exact ⟨h₁.1, F.args_object_init_2 obj _, object_init_meets F.bm_called.init.lookup F.bm_called.made (by decide) prog w A.in1 _ s₁ ⟨h₁.1, rfl, h₁.2⟩⟩
end
end BA

section
variable {P : Par} {G : Glob} {g : Gh} {st : St} {s : Shared} {A : Around} {Γ : AEnv} {env : Env}

set_option tactic.hygienic true in
theorem octets_ok (O : GOK P G) : ∀ {vs : List AV} {es : List SI} {ws : List Value}, octets G vs = some es → A2 (VR P.ρ g) vs ws → IntsAre ws (es.map (SI.val P.ρ)) ∧ ∀ n ∈ es.map (SI.val P.ρ), 0 ≤ n ∧ n < 256
  | [], es, [], h, _ => by cases h; exact ⟨.nil, fun _ h => by cases h⟩
  | v :: vs, es, w :: ws, h, ⟨x, y⟩ => by
    unfold octets at h
    rcases v with ⟨⟩ <;> try (cases h; done)
    rename_i e
    dsimp only at h
    split at h
    · rename_i r q1 q2 q3
      cases h
      obtain ⟨h1, h2⟩ := octets_ok O q3 y
      obtain ⟨t, rfl, _⟩ := x
      have q1 := of_decide_eq_false (intLt_ok O.orc q1).symm
      have q2 := of_decide_eq_true (intLt_ok O.orc q2).symm
      have q1 : ¬ SI.val P.ρ e < 0 := q1
      have q2 : SI.val P.ρ e < 256 := q2
      refine ⟨.cons _ _ h1, fun n hn => ?_⟩
      rcases List.mem_cons.mp hn with rfl | hn
      · omega
      · exact h2 n hn
    · cases h

theorem zeros_eq : ∀ n, (zeros n).map (SI.val P.ρ) = List.replicate n 0
  | 0 => rfl
  | n + 1 => by
    show (SI.lit 0).val P.ρ :: (zeros n).map _ = _
    rw [zeros_eq n]; rfl

set_option tactic.hygienic true in
theorem len1_ok (R : RepS P g st s) {a : AV} {v : Value} (va : VR P.ρ g a v) : SndAt P g st s A (len1 a) (call (.builtin "len") [v]) (fun g' c w => VR P.ρ g' c w) := by
  rcases a with ⟨⟩ <;> first | exact .stuck | skip
  · rename_i l
    refine hideGoal fun Φ hΦ => ?_
    obtain ⟨b, t, rfl, e⟩ := va
    refine hΦ ?_
    clear hΦ Φ
    have hlen : b.size = l.length := by rw [← Array.length_toList]; exact octs_len e
    refine .fit fun hf => .val rfl (len_bytes (by omega) ⟨g, .refl _, R.toks _, s.toks + 1, ?_, ?_⟩)
    · rw [hlen]; rfl
    · exact small_small hf
  · rename_i i
    obtain ⟨x, hx, rfl⟩ := va
    refine .getO fun o ho => ?_
    rcases o with ⟨⟩ <;> first | exact .stuck | skip
    · rename_i us
      obtain ⟨ws, h1, h2⟩ := R.tup ho hx
      have hz := size_of h2
      refine .fit fun hf => .val rfl (PyProof.Rows.len_tuple h1 (by omega) ⟨g, .refl _, R.toks _, s.toks + 1, ?_, ?_⟩)
      · rw [hz]; rfl
      · exact small_small hf
    · rename_i us
      obtain ⟨ws, h1, h2⟩ := R.lst ho hx
      have hz := size_of h2
      refine .fit fun hf => .val rfl (Calls.call_len_list h1 (by omega) ⟨g, .refl _, R.toks _, s.toks + 1, ?_, ?_⟩)
      · rw [hz]; rfl
      · exact small_small hf
theorem range3_ok (R : RepS P g st s) {a b c : AV} {v u w : Value} (va : VR P.ρ g a v) (vb : VR P.ρ g b u) (vc : VR P.ρ g c w) : SndAt P g st s A (range3 a b c) (call (.type "range") [v, u, w]) (fun g' c w => VR P.ρ g' c w) := by
  refine .litOf va fun x t1 e1 s1 => .litOf vb fun y t2 e2 s2 => .litOf vc fun z t3 e3 s3 => ?_
  subst e1 e2 e3
  cases q : decide (z = -1) with
  | false => exact .stuck
  | true =>
    have q := of_decide_eq_true q
    subst q
    refine .abs (newO_ok _ _) (.val rfl (call_range_3 (c := -1) (by decide) ⟨g.push s.heap.objs.size (.rng x y (-1)), g.push_le _ _, ⟨R.1.alloc ?_, R.2⟩, _, R.1.adrNew, rfl⟩ (.inl (PyProof.noPylong_small (by decide)))))
    exact ⟨t1, t2, t3, rfl⟩
set_option tactic.hygienic true in
theorem bytes1_ok (O : GOK P G) (R : RepS P g st s) {hd : Option Nat} (hh : HdR g hd A) {a : AV} {v : Value} (va : VR P.ρ g a v) : SndAt P g st s A (bytes1 G hd a) (call (.type "bytes") [v]) (fun g' c w => VR P.ρ g' c w) := by
  rcases a with ⟨⟩ <;> first | exact .stuck | skip
  rename_i i
  obtain ⟨x, hx, rfl⟩ := va
  refine .getO fun o ho => ?_
  rcases o with ⟨⟩ <;> first | exact .stuck | skip
  · rename_i us
    cases hd with
    | some _ => exact .stuck
    | none =>
      obtain ⟨ws, h1, h2⟩ := R.lst ho hx
      refine .fit fun hf => .ofO fun es he => ?_
      obtain ⟨k1, k2⟩ := octets_ok O he h2
      have hl : s.heap.IsList x ws.toList.toArray := by rw [Array.toArray_toList]; exact h1
      refine .val rfl (call_bytes_ints hl k1 k2 (by rw [← h2.len]; exact le_sizeLine hf) hh fun h' t k hk => ⟨g, .refl _, R.grow k hk, _, _, rfl, ?_⟩)
      exact KBa.ints_make k2
  · rename_i l
    refine hideGoal fun Φ hΦ => ?_
    obtain ⟨ob, b, h1, h2, h3, h4, h5⟩ := R.barr ho hx
    refine hΦ ?_
    clear hΦ Φ
    have hlen : b.size = l.length := by rw [← Array.length_toList]; exact octs_len h5
    refine .fit fun hf => .val rfl (BA.to_bytes h1 h2 h4 (by omega) fun t k => ⟨g, .refl _, R.toks _, _, _, rfl, h5⟩)
theorem bytearray1_ok (R : RepS P g st s) {a : AV} {v : Value} (va : VR P.ρ g a v) : SndAt P g st s A (bytearray1 a) (call (.type "bytearray") [v]) (fun g' c w => VR P.ρ g' c w) := by
  refine .litOf va fun n t e sn => ?_
  subst e
  cases q : decide (0 ≤ n) && decide (n ≤ 1000) with
  | false => exact .stuck
  | true =>
    simp only [Bool.and_eq_true, decide_eq_true_eq] at q
    dsimp only
    refine .abs (newO_ok _ _) (.valS rfl (BA.call_ok q.1 q.2 fun h' ob hk hb e1 e2 e3 => ⟨g.push s.heap.objs.size (.barr (zeros n.toNat)), g.push_le _ _, ⟨R.1.push hk (get_out _) hb ?_, R.2⟩, _, R.1.adrNew, rfl⟩))
    refine ⟨e1, e2, _, e3, ?_⟩
    rw [zeros_eq]
    simp [octs]
set_option tactic.hygienic true in
theorem isinst2_ok (R : RepS P g st s) {a b : AV} {v u : Value} (va : VR P.ρ g a v) (vb : VR P.ρ g b u) : SndAt P g st s A (isinst2 a b) (call (.builtin "isinstance") [v, u]) (fun g' c w => VR P.ρ g' c w) := by
  rcases b with ⟨⟩ <;> first | exact .stuck | skip
  rename_i b
  rcases b with ⟨⟩ <;> first | exact .stuck | skip
  cases vb
  rcases a with ⟨⟩ <;> first | exact .stuck | skip
  · obtain ⟨t, rfl, _⟩ := va
    exact .val rfl (IsiPair.int_int ⟨g, .refl _, R, rfl⟩)
  · rename_i i
    obtain ⟨x, hx, rfl⟩ := va
    refine .getO fun o ho => ?_
    rcases o with ⟨⟩ <;> first | exact .stuck | skip
    rename_i us
    refine hideGoal fun Φ hΦ => ?_
    obtain ⟨ws, ⟨ob, h1, h1c, _⟩, h2⟩ := R.tup ho hx
    refine hΦ ?_
    clear hΦ Φ
    exact .val rfl (IsiPair.tuple_int h1 h1c ⟨g, .refl _, R.toks _, rfl⟩)
theorem str1_ok (R : RepS P g st s) {a : AV} {v : Value} (va : VR P.ρ g a v) : SndAt P g st s A (str1 a) (call (.type "str") [v]) (fun g' c w => VR P.ρ g' c w) := by
  refine .litOf va fun n t e sn => ?_
  subst e
  cases q : decide (0 ≤ n) && decide (n < 1000) with
  | false => exact .stuck
  | true =>
    simp only [Bool.and_eq_true, decide_eq_true_eq] at q
    dsimp only
    have hb : n.natAbs.log2 < 1920 := by
      by_cases h : n = 0
      · subst h; decide
      · exact (Nat.log2_lt (by omega)).mpr (Nat.lt_of_lt_of_le (show n.natAbs < 2 ^ 10 by omega) (Nat.pow_le_pow_right (by omega) (by omega)))
    refine .val rfl (PySem.P.str_of_int hb ⟨g, .refl _, R.toks _, _, _, rfl, ?_⟩)
    have := len_str_of_int n
    show (Str.ofString (toString n)).length ≤ 1002
    omega

theorem callB_ok (O : GOK P G) (R : RepS P g st s) {hd : Option Nat} (hh : HdR g hd A) {b : BI} {args : List AV} {vs : List Value} (va : A2 (VR P.ρ g) args vs) :
    SndAt P g st s A (callB G hd b args) (call b.val vs) (fun g' c w => VR P.ρ g' c w) := by
  rcases b with ⟨⟩ <;> first | exact .stuck | skip
  · exact SndAt.one (t := fun vs => call (.builtin "len") vs) va fun _ _ h => len1_ok R h
  · exact SndAt.three (t := fun vs => call (.type "range") vs) va fun _ _ _ _ _ _ h k l => range3_ok R h k l
  · exact SndAt.one (t := fun vs => call (.type "bytes") vs) va fun _ _ h => bytes1_ok O R hh h
  · exact SndAt.one (t := fun vs => call (.type "bytearray") vs) va fun _ _ h => bytearray1_ok R h
  · exact SndAt.two (t := fun vs => call (.builtin "isinstance") vs) va fun _ _ _ _ h k => isinst2_ok R h k
  · exact SndAt.one (t := fun vs => call (.type "str") vs) va fun _ _ h => str1_ok R h
end
end Mine

end
section
set_option maxRecDepth 100000
namespace Mine
open PySem PySem.W PySem.Calls PySem.SeqAt PyProof.Rows

section
variable {P : Par} {G : Glob} {g : Gh} {st : St} {s : Shared} {A : Around} {Γ : AEnv} {env : Env}

theorem handed_ok {a : AV} {v : Value} (h : VR P.ρ g a v) : handedOut v = pure v := by
  cases a with
  | none => cases h; rfl
  | bool b => cases h; rfl
  | int e => obtain ⟨t, rfl, _⟩ := h; rfl
  | str x => obtain ⟨t, rfl⟩ := h; rfl
  | strU n => obtain ⟨y, t, rfl, _⟩ := h; rfl
  | bytes l => obtain ⟨b, t, rfl, _⟩ := h; rfl
  | ref i => obtain ⟨b, _, rfl⟩ := h; rfl
  | old b => cases h; rfl
  | bi b => cases h; rcases b with ⟨⟩ <;> first | rfl | (with_unfolding_all rfl) | kernel_rfl

set_option tactic.hygienic true in
theorem memS_mem {x : Str} : ∀ {l : List Str}, memS x l = true → x ∈ l
  | [], h => by cases h
  | y :: r, h => by
    unfold memS at h
    split at h
    · rename_i q; rw [(strEq_iff _ _).mp q]; exact .head _
    · exact .tail _ (memS_mem h)
theorem SndAt.field {C : Nat} {x : Str} {f : Unit → AM α} {t : Sem β} {V : Gh → α → β → Prop} (y : ∀ c, G.cls C = some c → x ∈ c.attrs → SndAt P g st s A (f ()) t V) : SndAt P g st s A (isField G C x >>= f) t V := by
  unfold isField
  cases q : G.cls C with
  | none => exact fun hn => absurd (bind_stuck rfl) hn
  | some c =>
    dsimp only
    cases q2 : memS x c.attrs with
    | true => exact .abs rfl (y c q (memS_mem q2))
    | false => exact fun hn => absurd (bind_stuck rfl) hn

/-- a dict of fields -/
theorem RepS.idict (R : RepS P g st s) {i : Nat} {m : List (Str × AV)} {a : Addr} (h : st.get i = some (.idict m)) (ha : g.adr i = some a) : ∃ mA, s.heap.Ns1 a mA ∧ ∀ y, OptR P.ρ g (fget y m) (mA y) := by
  refine hideGoal fun Φ hΦ => ?_
  obtain ⟨ob, h2, es, ep, h3, h4, h5, h6⟩ := R.1.atA ha h
  refine hΦ ?_
  clear hΦ Φ
  exact ⟨_, ⟨ob, es, ep, h2, h3, h4, h5, fun _ => rfl⟩, h6⟩
set_option tactic.hygienic true in
theorem fget_mem {α : Type} {y : Str} {v : α} : ∀ {m : List (Str × α)}, fget y m = some v → y ∈ m.map (·.1)
  | [], h => by cases h
  | p :: r, h => by
    rw [fget_cons] at h
    split at h
    · rename_i q; rw [← q]; exact .head _
    · exact .tail _ (fget_mem h)
theorem within_of {m : List (Str × AV)} {mA : Str → Option Value} (h : ∀ y, OptR P.ρ g (fget y m) (mA y)) : PySem.Within mA (m.map (·.1)) := fun y hy => by
  have := h y
  cases q : fget y m with
  | some v => exact fget_mem q
  | none =>
    rw [q] at this
    cases q2 : mA y with
    | none => exact absurd q2 hy
    | some v => rw [q2] at this; exact this.elim
theorem optR_some {x : Option AV} {a : AV} {v : Option Value} (h : OptR P.ρ g x v) (e : x = some a) : ∃ u, v = some u ∧ VR P.ρ g a u := by
  subst e
  cases v with
  | none => exact h.elim
  | some u => exact ⟨u, rfl, h⟩
theorem optR_put {m : List (Str × AV)} {mA : Str → Option Value} {x : Str} {a : AV} {v : Value} (h : ∀ y, OptR P.ρ g (fget y m) (mA y)) (hv : VR P.ρ g a v) :
    ∀ y, OptR P.ρ g (fget y (fput x a m)) (if y = x then some v else mA y) := by
  intro y
  rw [fput_get]
  by_cases q : y = x
  · simp only [q, if_true]; exact hv
  · simp only [q, if_false]; exact h y

theorem RepS.inst (R : RepS P g st s) {i C d : Nat} {m : List (Str × AV)} {a : Addr} (h : st.get i = some (.inst C d)) (hd : st.get d = some (.idict m)) (ha : g.adr i = some a) :
    ∃ dx mA, g.adr d = some dx ∧ s.heap.Inst a C mA ∧ s.heap.Ns1 dx mA ∧ (∀ y, OptR P.ρ g (fget y m) (mA y)) ∧ dx ≠ a ∧ ∃ ob, s.heap.get? a = some ob ∧ ob.cls = .ref C ∧ ob.dict = some dx := by
  refine hideGoal fun Φ hΦ => ?_
  obtain ⟨ob, h2, dx, h3, h4, h5, h6, h7⟩ := R.1.atA ha h
  refine hΦ ?_
  clear hΦ Φ
  obtain ⟨mA, n1, n2⟩ := R.idict hd h3
  have hne : dx ≠ a := fun q => by
    have := rnth_inj R.1.nodup (by rw [q] at h3; exact h3) ha
    subst this
    rw [h] at hd; cases hd
  exact ⟨dx, mA, h3, ⟨ob, h2, h4, h6, .inr ⟨dx, h5, hne, n1⟩⟩, n1, n2, hne, ob, h2, h4, h5⟩
theorem RepS.exc (R : RepS P g st s) {i C d : Nat} {tb : Option Nat} {ctx : Bool} {m : List (Str × AV)} {a : Addr} (h : st.get i = some (.exc C (some d) tb ctx)) (hd : st.get d = some (.idict m)) (ha : g.adr i = some a) :
    ∃ dx mA, g.adr d = some dx ∧ s.heap.Inst a C mA ∧ s.heap.Ns1 dx mA ∧ (∀ y, OptR P.ρ g (fget y m) (mA y)) ∧ dx ≠ a ∧ ∃ ob, s.heap.get? a = some ob ∧ ob.cls = .ref C ∧ ob.dict = some dx := by
  refine hideGoal fun Φ hΦ => ?_
  obtain ⟨ob, h2, vs, h4, ⟨dx, h3, h5⟩, h6, _⟩ := R.1.atA ha h
  refine hΦ ?_
  clear hΦ Φ
  obtain ⟨mA, n1, n2⟩ := R.idict hd h3
  have hne : dx ≠ a := fun q => by
    have := rnth_inj R.1.nodup (by rw [q] at h3; exact h3) ha
    subst this
    rw [h] at hd; cases hd
  exact ⟨dx, mA, h3, ⟨ob, h2, h4, (fun c q => by rw [h6] at q; cases q), .inr ⟨dx, h5, hne, n1⟩⟩, n1, n2, hne, ob, h2, h4, h5⟩

theorem store_facts (b : Bool) : ∃ bm sa owner, StoreFacts (if b = true then "Exception" else "object") bm sa owner ∧ bm = (if b = true then [.type "Exception", .type "BaseException", .type "object"] else [.type "object"]) := by
  cases b with
  | true => exact ⟨_, _, _, F.store_Exception, rfl⟩
  | false => exact ⟨_, _, _, F.store_object, rfl⟩

/-- a field is stored into a dict that stands -/
theorem setField_ok (O : GOK P G) (R : RepS P g st s) {C d : Nat} {c : Cls} {m : List (Str × AV)} {x : Addr} {dx : Addr} {mA : Str → Option Value} {name : Str} {a : AV} {v : Value} {ob : Obj} (hc : G.cls C = some c) (hx : name ∈ c.attrs) (hd : st.get d = some (.idict m)) (hdx : g.adr d = some dx)
    (I : s.heap.Inst x C mA) (hm : ∀ y, OptR P.ρ g (fget y m) (mA y)) (hne : dx ≠ x) (hob : s.heap.get? x = some ob) (hod : ob.dict = some dx) (hxC : x ≠ C) (va : VR P.ρ g a v) (hf : m.length ≤ 4096) :
    SndAt P g st s A (setO d (.idict (fput name a m))) (setAttr (.ref x) name v) (fun _ _ _ => True) := by
  obtain ⟨W, K⟩ := O.cls _ _ hc
  refine hideGoal fun Φ hΦ => ?_
  obtain ⟨bm', sa, owner, SF, e⟩ := store_facts c.exc
  refine hΦ ?_
  clear hΦ Φ
  have hbm : W.bm = bm' := by
    have := K.kind
    cases q : c.exc with
    | true => rw [q] at this e; simp only [if_true] at this e; rw [this.1, e]
    | false => rw [q] at this e; simp only [Bool.false_eq_true, if_false] at this e; rw [this.1, e]
  subst hbm
  refine hideGoal fun Φ hΦ => ?_
  obtain ⟨hp, gg, dr, t, os⟩ := s
  refine hΦ ?_
  clear hΦ Φ
  refine .val set_ok (store_attr (name := name) (v := v) SF (R.1.keep _ _ K.at_) (K.ns.keeps R.1.keep) K.noSet (K.attrs _ hx).1 ?_ hxC I (fun h' tk' I' hk hsame => ?_) (within_of hm) (by rw [List.length_map]; exact le_sizeLine hf))
  · cases q : c.exc with
    | true => exact (K.attrs _ hx).2.2
    | false => exact (K.attrs _ hx).2.1
  · refine ⟨g, .refl _, ?_, trivial⟩
    refine hideGoal fun Φ hΦ => ?_
    obtain ⟨o₁, p1, p2, p3, p4, p5⟩ := hsame _ hob
    refine hΦ ?_
    clear hΦ Φ
    have e1 : o₁ = ob := by
      have := p5 _ hod
      refine hideGoal fun Φ hΦ => ?_
      obtain ⟨a1, a2, a3, a4⟩ := o₁
      refine hΦ ?_
      clear hΦ Φ
      refine hideGoal fun Φ hΦ => ?_
      obtain ⟨b1, b2, b3, b4⟩ := ob
      refine hΦ ?_
      clear hΦ Φ
      dsimp only at p2 p3 p4 this hod
      subst p2 p3 p4 this hod
      rfl
    subst e1
    refine hideGoal fun Φ hΦ => ?_
    obtain ⟨o₂, z1, z2, z3, z4⟩ := I'
    refine hΦ ?_
    clear hΦ Φ
    rw [p1] at z1; cases z1
    rcases z4 with ⟨z4, _⟩ | ⟨d', z4, z5, z6⟩
    · rw [hod] at z4; cases z4
    · rw [hod] at z4; cases z4
      refine hideGoal fun Φ hΦ => ?_
      obtain ⟨od, es, ep, y1, y2, y3, y4, y5⟩ := z6
      refine hΦ ?_
      clear hΦ Φ
      refine R.set (tk := tk') hd hdx (fun b o hb e => ?_) y1 ⟨es, ep, y2, y3, y4, fun y => by rw [y5]; exact optR_put hm va y⟩ rfl
      by_cases hbx : b = x
      · subst hbx
        have e : Heap.get? hp b = some o := e
        rw [hob] at e; cases e; exact p1
      · exact hk b o hbx (fun o₀ dx' q1 q2 => by
          have q1 : hp.get? x = some o₀ := q1
          rw [hob] at q1; cases q1; rw [hod] at q2; cases q2; exact hb) e
end

section
open Builtin Builtin.ObjectAttr
variable {prog : Program} {w : World} {A : Around} {E : Value → Shared → Prop} {h : Heap} {g : Array GenState} {d : Drawn} {t : Nat} {os : OsState}
variable {nm q : Str} {C N x : Addr} {bs bm : List Value} {sn : List Str} {sub : List Value} {ab : Bool} {col : Option Bool} {dd : Option Addr} {k0 k1 k2 k3 k5 : Option Value} {B newId sa owner : String}
  {mN : Str → Option Value} {name : Str} {v : Value}

/-- an own exception's first field -/
theorem store_first {o : Obj} {vs : Array Value} {Q : Unit → Shared → Prop} (SF : StoreFacts B bm sa owner)
    (hC : h.get? C = some (excClassObj nm q C N bs bm true sn sub ab col dd k0 k1 k2 k3 k5 newId)) (hn : h.Ns N mN) (hns : mN "__setattr__" = none) (hna : mN name = none)
    (hB : typeLookup (.type B) name = pure none) (hx : h.get? x = some o) (hc : o.cls = .ref C) (hdn : o.dict = none) (hdat : o.data = .fields vs)
    (hq : ∀ h' tk', (∀ b ob, b ≠ x → h.get? b = some ob → h'.get? b = some ob) → h'.get? x = some { cls := o.cls, dict := some h.objs.size, data := o.data, slots := o.slots } →
      h'.Ns1 h.objs.size (fun y => if y = name then some v else none) → Q () ⟨h', g, d, tk', os⟩) :
    wpAny (model prog w) A (setAttr (.ref x) name v) Q E ⟨h, g, d, t, os⟩ := by
  have f3 := SF.slot.bind (.ref x)
  unfold setAttr callSpecial? specialOf
  repeat (any_goals (first | assumption | (with_reducible refine wpAny_loadPart_at hx ?_; rw [hc]) | (with_reducible refine wpAny_typeLookup_exc hC hn SF.mro SF.slot.lookup ?_; rw [hns]) | wp_step))
  refine codeAny_call_builtin SF.slot.plain SF.entry (wpAny_check_sa SF hC hx hc ?_)
  have hpass := SF.passes (.ref x)
  unfold Builtin.«object.__setattr__»
  repeat (first | rw [refuse_eq] | (rw [refuseLoop_ref, hpass]) | (with_reducible refine wpAny_loadPart_at hx ?_; rw [hc]) | with_reducible refine wpAny_mroOf_exc hC ?_ | (with_reducible refine wpAny_typeLookup_exc hC hn SF.mro hB ?_; rw [hna]) | wp_step)
  rw [hdn, if_neg (by simp [typeHasDict])]
  rw [hdat]
  have hx₁ : (h.push { cls := .type "dict", data := .dict #[] }).get? x = some o := Heap.get?_push_of_some _ hx
  have hxs : x ≠ h.objs.size := Nat.ne_of_lt (Heap.lt_size hx)
  refine wpAny_bind (wpAny_alloc' ?_)
  refine wpAny_bind (wpAny_update' hx₁ ?_)
  refine wpAny_pure ?_
  have hgd : ((h.push { cls := .type "dict", data := .dict #[] }).update x fun o => { cls := o.cls, dict := some h.objs.size, data := o.data, slots := o.slots }).get? h.objs.size
      = some { cls := .type "dict", data := .dict #[] } :=
    (Heap.get?_update_ne _ _ _ _ hxs.symm).trans (Heap.get?_push_at rfl rfl)
  have hnd : ((h.push { cls := .type "dict", data := .dict #[] }).update x fun o => { cls := o.cls, dict := some h.objs.size, data := o.data, slots := o.slots }).Ns h.objs.size (fun _ => none) :=
    ⟨_, #[], _, hgd, rfl, fun e he => absurd he (by simp), fun _ => rfl⟩
  show wpAny _ _ (storeInDict h.objs.size (.str name _) name v) _ _ _
  unfold storeInDict newKeyGuard
  refine wpAny_bind (wpAny_pure (wpAny_bind (wpAny_nsSet1 (Heap.Ns1.of_empty hnd) fun h' hn' hs => ?_)))
  refine hideGoal fun Φ hΦ => ?_
  obtain ⟨oD, esD, epD, hoD, hdD, hcD⟩ := hn'.count (Within.cons name v Within.nil)
  refine hΦ ?_
  clear hΦ Φ
  refine wpAny_bind (wpAny_lookBehind hoD (by rw [hdD]; exact pastItsLine_dict (Nat.le_trans hcD (by rw [List.length_cons, List.length_nil, sizeLine_eq]; omega))) ?_)
  have hx' : h'.get? x = some { cls := o.cls, dict := some h.objs.size, data := o.data, slots := o.slots } := by
    refine (hs.2 x hxs).trans (Heap.get?_update_self _ hx₁ ?_)
    have hfr := (Heap.get?_some_iff.mp hx).2
    refine hideGoal fun Φ hΦ => ?_
    obtain ⟨oc, od, odt, osl⟩ := o
    refine hΦ ?_
    clear hΦ Φ
    rcases odt with ⟨⟩ <;> first | rfl | exact hfr
  wp_walk
  refine hq h' _ (fun b ob hbx hb => ?_) hx' hn'
  exact (hs.2 b (Nat.ne_of_lt (Heap.lt_size hb))).trans ((Heap.get?_update_ne _ _ _ _ hbx).trans (Heap.get?_push_of_some _ hb))

set_option tactic.hygienic true in
/-- an own exception's field is read -/
theorem exc_get_entry {tk : Tok} {mA : Str → Option Value} {Q : Fin → Shared → Prop} (FB : ExcAttrBase "Exception" [.type "Exception", .type "BaseException", .type "object"])
    (hC : h.get? C = some (excClassObj nm q C N bs [.type "Exception", .type "BaseException", .type "object"] true sn sub ab col dd k0 k1 k2 k3 k5 newId)) (hn : h.Ns N mN) (hna : mN name = none)
    (hB : typeLookup (.type "Exception") name = pure none) (I : h.Inst x C mA) (hv : mA name = some v) (hq : Q (.done (.ret v)) ⟨h, g, d, t, os⟩) :
    wpAny (model prog w) A (Builtin.«object.__getattribute__» ⟨[.ref x, .str name tk], []⟩) Q E ⟨h, g, d, t, os⟩ := by
  refine hideGoal fun Φ hΦ => ?_
  obtain ⟨o, hx, hc, hnc, hd⟩ := I
  refine hΦ ?_
  clear hΦ Φ
  rcases hd with ⟨_, hmA⟩ | ⟨dx, hdx, hne, hns⟩
  · rw [hmA name] at hv; cases hv
  unfold Builtin.«object.__getattribute__»
  repeat (first | (with_reducible refine wpAny_loadPart_at hx ?_; rw [hc]) | (with_reducible refine wpAny_typeLookup_exc hC hn FB.mro hB ?_; rw [hna]) | wp_step)
  split
  · rename_i c hcd
    exact absurd hcd (hnc c)
  unfold instanceDict
  repeat (first | (with_reducible refine wpAny_loadPart_at hx ?_; rw [hc]) | with_reducible refine wpAny_loadPart_at hC ?_ | wp_step)
  rw [hdx]
  repeat (first | (with_reducible refine wpAny_nsGet hns.ns ?_; rw [hv]) | wp_step)
  exact hq

theorem exc_get {mA : Str → Option Value} {expr : Bool} {Q : Value → Shared → Prop} (FB : ExcAttrBase "Exception" [.type "Exception", .type "BaseException", .type "object"])
    (hC : h.get? C = some (excClassObj nm q C N bs [.type "Exception", .type "BaseException", .type "object"] true sn sub ab col dd k0 k1 k2 k3 k5 newId)) (hn : h.Ns N mN) (hng : mN "__getattribute__" = none) (hnh : mN "__getattr__" = none) (hna : mN name = none)
    (hB : typeLookup (.type "Exception") name = pure none) (I : h.Inst x C mA) (hv : mA name = some v) (hh : handedOut v = pure v) (hq : Q v ⟨h, g, d, t + 1, os⟩) :
    wpAny (model prog w) A (getAttr (.ref x) name expr) Q E ⟨h, g, d, t, os⟩ := by
  refine hideGoal fun Φ hΦ => ?_
  obtain ⟨o, hx, hc, _⟩ := id I
  refine hΦ ?_
  clear hΦ Φ
  have f3 := FB.ga.bind (.ref x)
  have hx0 : (expr && onTheHeap (Value.builtin "BaseException.__getattribute__")) = false := by rcases expr with ⟨⟩ <;> rfl
  have hx2 : (Value.builtin "BaseException.__getattribute__" == Value.builtin "object.__getattribute__") = false := by decide +kernel
  have hx1 : (onTheHeap (Value.ref C) && Value.builtin "BaseException.__getattribute__" == Value.builtin "object.__getattribute__") = false := by rw [hx2]; rfl
  unfold getAttr
  refine wpAny_bind (wpAny_mkText ?_)
  repeat (any_goals (first | assumption | (with_reducible refine wpAny_loadPart_at hx ?_; rw [hc]) | (with_reducible refine wpAny_typeLookup_exc hC hn FB.mro FB.ga.lookup ?_; rw [hng]) | (with_reducible refine wpAny_typeLookup_exc hC hn FB.mro FB.noGetattr ?_; rw [hnh]) | wp_step))
  refine codeAny_call_builtin FB.ga.plain F.entry_bexc_ga (wpAny_check_ga_own FB hC .base hx hc (exc_get_entry FB hC hn hna hB I hv ?_))
  show wpAny _ _ (handedOut v) _ _ _
  rw [hh]
  exact wpAny_pure hq
end

section
variable {P : Par} {G : Glob} {g : Gh} {st : St} {s : Shared} {A : Around} {Γ : AEnv} {env : Env}
theorem get_push_ne {h : Heap} {od o : Obj} {b : Addr} (q : b ≠ h.objs.size) (e : (h.push od).get? b = some o) : h.get? b = some o := by
  rw [Heap.get?_push_ne _ _ _ q] at e; exact e
theorem RepS.notOld (R : RepS P g st s) {a : Addr} {i : Nat} {C : Addr} {o : Obj} (ha : g.adr i = some a) (hC : P.h₀.get? C = some o) : a ≠ C := fun q => by
  have := R.1.fresh _ (rnth_mem ha)
  rw [q, hC] at this; cases this

theorem ClsAt.exc {C : Nat} {c : Cls} {W : CD} (K : ClsAt P C c W) : (W.bm = [.type "object"] ∧ c.exc = false ∧ W.ab = false ∧ W.newId = "object.__new__") ∨ (W.bm = [.type "Exception", .type "BaseException", .type "object"] ∧ c.exc = true ∧ W.newId = "Exception.__new__") := by
  have := K.kind
  cases q : c.exc with
  | true => rw [q, if_pos rfl] at this; exact .inr ⟨this.1, rfl, this.2⟩
  | false => rw [q, if_neg (by decide)] at this; exact .inl ⟨this.1, rfl, this.2.1, this.2.2⟩

/-- a field of an instance, or of an own exception, is read -/
theorem getField_ok (O : GOK P G) (R : RepS P g st s) {C : Nat} {c : Cls} {m : List (Str × AV)} {x : Addr} {mA : Str → Option Value} {name : Str} {a : AV} {expr : Bool} {Q : Value → Shared → Prop} {E : Value → Shared → Prop} (hc : G.cls C = some c) (hx : name ∈ c.attrs)
    (I : s.heap.Inst x C mA) (hm : ∀ y, OptR P.ρ g (fget y m) (mA y)) (hg : fget name m = some a) (hQ : ∀ v tk, VR P.ρ g a v → Q v { s with toks := tk }) : wpAny (model P.prog P.w) A (getAttr (.ref x) name expr) Q E s := by
  obtain ⟨W, K⟩ := O.cls _ _ hc
  obtain ⟨v, hv, va⟩ := optR_some (hm name) hg
  refine hideGoal fun Φ hΦ => ?_
  obtain ⟨hp, gg, dr, t, os⟩ := s
  refine hΦ ?_
  clear hΦ Φ
  have hC := R.1.keep _ _ K.at_
  have hN := K.ns.keeps R.1.keep
  rcases K.exc with ⟨e, _⟩ | ⟨e, _⟩ <;> rw [e] at hC
  · exact load_attr hC hN K.noGet (K.attrs _ hx).1 (K.attrs _ hx).2.1 I hv (handed_ok va) (hQ _ _ va)
  · exact exc_get F.attrBase_Exception hC hN K.noGet K.noHook (K.attrs _ hx).1 (K.attrs _ hx).2.2 I hv (handed_ok va) (hQ _ _ va)

set_option tactic.hygienic true in
theorem getAttrA_ok (O : GOK P G) (R : RepS P g st s) {a : AV} {v : Value} {name : Str} {expr : Bool} (va : VR P.ρ g a v) : SndAt P g st s A (getAttrA G a name) (getAttr v name expr) (fun g' c w => VR P.ρ g' c w) := by
  unfold getAttrA
  rcases a with ⟨⟩ <;> first | exact .stuck | skip
  rename_i i
  obtain ⟨x, hx, rfl⟩ := va
  refine .getO fun o ho => ?_
  rcases o with ⟨⟩ <;> first | exact .stuck | skip
  · rename_i C d
    refine .field fun c hc hm => .getO fun od hd => ?_
    rcases od with ⟨⟩ <;> first | exact .stuck | skip
    rename_i m
    dsimp only
    refine .ofO1 fun b hb => ?_
    refine hideGoal fun Φ hΦ => ?_
    obtain ⟨dx, mA, _, I, _, om, _⟩ := R.inst ho hd hx
    refine hΦ ?_
    clear hΦ Φ
    exact .val rfl (getField_ok O R hc hm I om hb fun v tk va => ⟨g, .refl _, R.toks _, va⟩)
  · rename_i C d tb ctx
    cases d with
    | none => exact .stuck
    | some d =>
      refine .field fun c hc hm => .getO fun od hd => ?_
      rcases od with ⟨⟩ <;> first | exact .stuck | skip
      rename_i m
      dsimp only
      refine .ofO1 fun b hb => ?_
      refine hideGoal fun Φ hΦ => ?_
      obtain ⟨dx, mA, _, I, _, om, _⟩ := R.exc ho hd hx
      refine hΦ ?_
      clear hΦ Φ
      exact .val rfl (getField_ok O R hc hm I om hb fun v tk va => ⟨g, .refl _, R.toks _, va⟩)

set_option tactic.hygienic true in
theorem setAttrA_ok (O : GOK P G) (R : RepS P g st s) {o a : AV} {ov v : Value} {name : Str} (vo : VR P.ρ g o ov) (va : VR P.ρ g a v) : SndAt P g st s A (setAttrA G o name a) (setAttr ov name v) (fun _ _ _ => True) := by
  unfold setAttrA
  rcases o with ⟨⟩ <;> first | exact .stuck | skip
  rename_i i
  obtain ⟨x, hx, rfl⟩ := vo
  refine .getO fun o ho => ?_
  rcases o with ⟨⟩ <;> first | exact .stuck | skip
  · rename_i C d
    refine .field fun c hc hm => .getO fun od hd => ?_
    rcases od with ⟨⟩ <;> first | exact .stuck | skip
    rename_i m
    obtain ⟨W, K⟩ := O.cls _ _ hc
    refine hideGoal fun Φ hΦ => ?_
    obtain ⟨dx, mA, h1, I, _, om, h2, ob, h3, h4, h5⟩ := R.inst ho hd hx
    refine hΦ ?_
    clear hΦ Φ
    exact .fit fun hf => setField_ok O R hc hm hd h1 I om h2 h3 h5 (R.notOld hx K.at_) va hf
  · rename_i C d tb ctx
    cases d with
    | some d =>
      refine .field fun c hc hm => .getO fun od hd => ?_
      rcases od with ⟨⟩ <;> first | exact .stuck | skip
      rename_i m
      obtain ⟨W, K⟩ := O.cls _ _ hc
      refine hideGoal fun Φ hΦ => ?_
      obtain ⟨dx, mA, h1, I, _, om, h2, ob, h3, h4, h5⟩ := R.exc ho hd hx
      refine hΦ ?_
      clear hΦ Φ
      exact .fit fun hf => setField_ok O R hc hm hd h1 I om h2 h3 h5 (R.notOld hx K.at_) va hf
    | none =>
      refine .field fun c hc hm => ?_
      obtain ⟨W, K⟩ := O.cls _ _ hc
      refine hideGoal fun Φ hΦ => ?_
      obtain ⟨ob, h2, vs, h3, h4, h5, h6, h7, h8⟩ := R.1.atA hx ho
      refine hΦ ?_
      clear hΦ Φ
      refine hideGoal fun Φ hΦ => ?_
      obtain ⟨bm', sa, owner, SF, e⟩ := store_facts c.exc
      refine hΦ ?_
      clear hΦ Φ
      have hbm : W.bm = bm' := by
        rcases K.exc with ⟨e1, e2, _⟩ | ⟨e1, e2, _⟩
        · rw [e1, e, e2]; rfl
        · rw [e1, e, e2]; rfl
      subst hbm
      have hB : typeLookup (.type (if c.exc = true then "Exception" else "object")) name = pure none := by
        cases q : c.exc with
        | true => exact (K.attrs _ hm).2.2
        | false => exact (K.attrs _ hm).2.1
      refine hideGoal fun Φ hΦ => ?_
      obtain ⟨hp, gg, dr, t, os⟩ := s
      refine hΦ ?_
      clear hΦ Φ
      have R' := R
      refine .abs (newO_ok _ _) (.val set_ok (store_first SF (R.1.keep _ _ K.at_) (K.ns.keeps R.1.keep) K.noSet (K.attrs _ hm).1 hB h2 h3 h4 h5 fun h' tk' hk hx' hn' => ?_))
      refine hideGoal fun Φ hΦ => ?_
      obtain ⟨od, es, ep, y1, y2, y3, y4, y5⟩ := hn'
      refine hΦ ?_
      clear hΦ Φ
      have hout := R.1.out (get_out hp)
      have hxs : x ≠ hp.objs.size := fun q => hout.1 (by rw [← q]; exact rnth_mem hx)
      let g' := g.push hp.objs.size (.idict [(name, a)])
      have fr : od.isFreed = false := (Heap.get?_some_iff.mp y1).2
      have R1 : Rep P g' (st.push (.idict [(name, a)])) (hp.push od) := R.1.push (fun b o e => Heap.get?_push_of_some _ e) (get_out _) (Heap.get?_push_size _ fr) ⟨es, ep, y2, y3, y4, fun y => by
        rw [y5, fget_cons]
        by_cases q : name = y
        · subst q; simp only [if_true]; exact va.mono (g.push_le _ _)
        · rw [if_neg q]; dsimp only; rw [if_neg (fun z => q z.symm)]; exact trivial⟩
      have ho' : (st.push (.idict [(name, a)])).get i = some (.exc C none tb ctx) := by
        rw [St.get_eq R1.ok]
        rw [St.get_eq R.1.ok] at ho
        show rnth (_ :: st.l) i = _
        rw [rnth_old (rnth_lt ho)]; exact ho
      refine ⟨g', g.push_le _ _, ⟨R1.set (o' := .exc C (some st.n) tb ctx) ho' ((g.push_le _ _).adr hx) (fun b o hb e => ?_) hx' ?_ rfl, R.2⟩, trivial⟩
      · by_cases q : b = hp.objs.size
        · subst q
          rw [Heap.get?_push_size _ fr] at e; cases e; exact y1
        · exact hk b o hb (get_push_ne q e)
      · refine ⟨vs, h3, ⟨_, R.1.adrNew, rfl⟩, h5, h6, ?_, h8⟩
        cases tb with
        | none => exact h7
        | some t => obtain ⟨T, z1, z2⟩ := h7; exact ⟨T, (g.push_le _ _).adr z1, z2⟩
end
end Mine

end
section
set_option maxRecDepth 100000
namespace Mine
open PySem PySem.W PySem.Calls PySem.SeqAt PyProof.Rows

/-! ## Exception.__init__ -/
theorem exc_init_attr {prog : Program} {w : World} {A : Around} {E : Value → Shared → Prop} {s : Shared} {expr : Bool} {Q : Value → Shared → Prop} (h : Q (.builtin "Exception.__init__") { s with toks := s.toks + 1 }) :
    wpAny (model prog w) A (getAttr (.type "Exception") "__init__" expr) Q E s := by
  have hstub : opaqueClassAbove (.type "Exception") = pure none := by unfold opaqueClassAbove; dsimp only; rw [show Manifest.isStub "Exception" = false from by decide +kernel]; rfl
  have ty : typeOf (.type "Exception") = pure (.type "type") := by kernel_rfl
  have L0 : Looks (model prog w) s.heap (typeOf (.type "Exception")) (.type "type") := Looks.of_pure ty
  have LO : Looks (model prog w) s.heap (opaqueClassAbove (.type "Exception")) none := Looks.of_pure hstub
  have X : Frag.In ([] : Frag) s.heap := fun a o e => by cases e
  have e : findCls ([] : Frag) (.type "Exception") (.type "type") "__init__" = some (.val (.builtin "Exception.__init__")) := by kernel_rfl
  refine cls_open X LO L0 type_tga (looks_hook X (r := none) (by rfl)) (by show subIn _ _ _ = _; rfl) e ?_
  show wpAny _ _ (ret (.builtin "Exception.__init__")) _ _ _
  exact wpAny_pure (handed_on (by kernel_rfl) h)
theorem exc_init_method {prog : Program} {w : World} {A : Around} {E : Value → Shared → Prop} {s : Shared} {pl : Sem Bool} {Q : Value × List Value → Shared → Prop} (h : Q (.builtin "Exception.__init__", []) { s with toks := s.toks + 1 }) :
    wpAny (model prog w) A (getMethod (.type "Exception") "__init__" pl) Q E s := by
  have ty : typeOf (.type "Exception") = pure (.type "type") := by kernel_rfl
  have lk : typeLookup (.type "type") "__getattribute__" = pure (some (.builtin "type.__getattribute__")) := by rw [typeLookup_type, builtinLookup_eq_fast]; kernel_rfl
  unfold getMethod
  refine wpAny_bind (wpAny_specialOf (T := "type") ty lk ?_)
  dsimp only
  rw [if_pos canon_tga]
  exact wpAny_bind (exc_init_attr (wpAny_pure h))

section
open Builtin
variable {prog : Program} {w : World} {A : Around} {E : Value → Shared → Prop} {h : Heap} {g : Array GenState} {d : Drawn} {t : Nat} {os : OsState}
variable {nm q : Str} {C N x : Addr} {bs : List Value} {sn : List Str} {sub : List Value} {ab : Bool} {col : Option Bool} {dd : Option Addr} {k0 k1 k2 k3 k5 : Option Value}
theorem exc_init_call {o : Obj} {vs : Array Value} {v : Value} {Q : Value → Shared → Prop}
    (hC : h.get? C = some (excClassObj nm q C N bs [.type "Exception", .type "BaseException", .type "object"] true sn sub ab col dd k0 k1 k2 k3 k5 "Exception.__new__")) (hx : h.get? x = some o) (hc : o.cls = .ref C) (hd : o.data = .fields vs) (hz : 0 < vs.size)
    (hq : ∀ h', Heap.ExtBut x h h' → h'.get? x = some (o.mapFields (·.setIfInBounds 0 (.ref h.objs.size))) → Q .none ⟨h', g, d, t, os⟩) :
    wpAny (model prog w) A (call (.builtin "Exception.__init__") [.ref x, v]) Q E ⟨h, g, d, t, os⟩ := by
  have F := F.excBase_Exception
  refine wpAny_call (codeAny_call_builtin F.init.plain F.initEntry (wpAny_check_init_sub F hC hx hc ?_))
  unfold Builtin.«BaseException.__init__»
  refine wpAny_bind ?_
  refine wpAny_newTuple ?_ (by show 1 ≤ _; rw [sizeLine_eq]; decide)
  unfold BaseException.bexcPut
  have hx1 := Heap.get?_push_of_some { cls := .type "tuple", data := .seq #[v] } hx
  have hv : vs[0]? = some vs[0] := Array.getElem?_eq_getElem hz
  refine wpAny_bind (wpAny_bind (wpAny_field hx1 hd hv (wpAny_bind (wpAny_setField hx1 hd hz ?_))))
  have hx2 := Heap.get?_update_self (Obj.mapFields fun y => y.setIfInBounds 0 (Value.ref h.objs.size)) hx1 (Obj.isFreed_of_fields (Obj.data_mapFields hd _))
  have fin := hq _ (((Heap.ExtBut.refl x h).push _).trans (Heap.SameBut.update ..).extBut) hx2
  split
  · exact wpAny_letGo (wpAny_pure fin)
  · exact wpAny_pure (wpAny_pure fin)
end
end Mine

end
section
set_option maxRecDepth 100000
namespace Mine
open PySem PySem.W PySem.Calls PySem.SeqAt PyProof.Rows

section
open Builtin
variable {prog : Program} {w : World} {A : Around} {E : Value → Shared → Prop} {s : Shared}
theorem tup_index {t : Addr} {xs : Array Value} {x : Value} {k : Nat} {Q : Value → Shared → Prop} (ht : s.heap.IsTuple t xs) (hk : k < xs.size) (hz : xs.size ≤ 4096)
    (he : ∀ (j : Nat) (hj : j < xs.size), j < k → EqAt A.in1 s xs[j] x false) (hx : EqAt A.in1 s xs[k] x true) (hQ : Q (.int k s.toks) { s with toks := s.toks + 1 }) :
    wpAny (model prog w) A (call (.builtin "tuple.index") [.ref t, x]) Q E s := by
  refine hideGoal fun Φ hΦ => ?_
  obtain ⟨o, ho, hc, n, hd⟩ := id ht
  refine hΦ ?_
  clear hΦ Φ
  have hT : s.TypeIs (.ref t) "tuple" := ⟨o, ho, hc⟩
  refine wpAny_call (codeAny_call_builtin F.slot_tuple_index.plain F.entry_tuple_index (F.slot_tuple_index.check _ _ _ _ _ _ _ _ hT (F.args_tuple_index_2 _ _) ?_))
  unfold Builtin.«tuple.index»
  refine wpAny_bind (wpAny_pure ?_)
  dsimp only
  refine wpAny_bind (wpAny_tupleItemsOf ho hd ?_)
  refine wpAny_bind (wpAny_pure ?_)
  refine wpAny_bind (wpAny_pure ?_)
  have loop : ∀ (m i : Nat), i + m = xs.size → i ≤ k → ∀ R : Option PySem.Fin × Unit → Shared → Prop, R (some (.done (.ret (.int k s.toks))), ()) { s with toks := s.toks + 1 } →
      wpAny (model prog w) A.in1 (forIn (List.range' i m 1) ((none, ()) : Option PySem.Fin × Unit) fun (i : Nat) (__s : Option PySem.Fin × Unit) =>
            match xs[i]? with
            | some y => do
              let b ← eqBool y x
              if b = true then do
                  let r ← retInt (i : Int)
                  pure (ForInStep.done (some r, ()))
                else pure (ForInStep.yield (none, ()))
            | x => pure (ForInStep.yield (none, ()))) R E s := by
    intro m
    induction m with
    | zero => intro i h1 h2; omega
    | succ m ih =>
      intro i h1 h2 R hR
      rw [List.range'_succ, List.forIn_cons]
      have hi : i < xs.size := by omega
      rw [Array.getElem?_eq_getElem hi]
      dsimp only
      by_cases q : i = k
      · subst q
        refine wpAny_bind (wpAny_bind (hx _ _ _ _ ?_))
        rw [if_pos rfl]
        exact wpAny_bind (wpAny_bind (wpAny_mkInt (wpAny_pure (wpAny_pure (wpAny_pure hR)))))
      · refine wpAny_bind (wpAny_bind (he i hi (by omega) _ _ _ _ ?_))
        rw [if_neg (by decide)]
        exact wpAny_pure (ih (i + 1) (by omega) (by omega) R hR)
  rw [Std.Legacy.Range.forIn_eq_forIn_range']
  refine wpAny_bind ?_
  have sz : (Std.Legacy.Range.size [:Min.min xs.size xs.size]) = xs.size := by simp [Std.Legacy.Range.size]
  rw [sz]
  refine loop xs.size 0 (by omega) (by omega) _ ?_
  exact wpAny_pure hQ

theorem pop_absent {d : Addr} {k : Int} {t : Tok} {dflt : Value} {kvs : List (Int × Value)} {Q : Value → Shared → Prop} (hd : (d == sysModules) = false) (hm : s.heap.DictOf (intKind prog w) d kvs) (hv : valueAt kvs k = none)
    (hQ : Q dflt { s with toks := s.toks + 1 }) : wpAny (model prog w) A (call (.builtin "dict.pop") [.ref d, .int k t, dflt]) Q E s := by
  have hkey : (intKind prog w).is k (.int k t) = true := by simp [intKind, Value.isInt]
  refine wpAny_call (codeAny_call_builtin F.slot_dict_pop.plain F.entry_dict_pop (F.slot_dict_pop.check _ _ _ _ _ _ _ _ hm.typeIs (F.args_dict_pop_3 _ _ _) ?_))
  unfold Builtin.«dict.pop»
  refine wpAny_bind ?_
  unfold Builtin.Dict.keyAndDefault
  refine wpAny_bind (wpAny_notOrdered_dict hm.typeIs ?_)
  show wpAny _ _ (pure (d, Value.int k t, some dflt)) _ _ s
  refine wpAny_pure ?_
  have hpart : (keyPart (Value.int k t)).isSome = true := rfl
  simp only [hpart, if_true]
  refine wpAny_bind (wpAny_pure ?_)
  simp only [Bool.false_eq_true, if_false]
  refine wpAny_bind (wpAny_takeOut_pairs_none hkey hm hv ?_)
  simp only [Option.isNone_none, if_true]
  refine wpAny_bind (wpAny_missedRemoval_other hd ?_)
  exact wpAny_bind (wpAny_rule (wpAny_pure hQ))
theorem pop_there {d : Addr} {k : Int} {t : Tok} {dflt v : Value} {kvs : List (Int × Value)} {Q : Value → Shared → Prop} (hm : s.heap.DictOf (intKind prog w) d kvs) (hz : kvs.length ≤ sizeLine) (hv : valueAt kvs k = some v)
    (hQ : ∀ h', h'.DictOf (intKind prog w) d (without kvs k) → Heap.SameBut d s.heap h' → Q v { s with heap := h', toks := s.toks + 1 }) : wpAny (model prog w) A (call (.builtin "dict.pop") [.ref d, .int k t, dflt]) Q E s :=
  call_meetsIn F.slot_dict_pop hm.typeIs F.entry_dict_pop (F.args_dict_pop_3 _ _ _) (meets_dict_pop_there (intKind prog w) d (by simp [intKind, Value.isInt]) [dflt] (.inr ⟨_, rfl⟩) rfl) ⟨kvs, v, hm, hz, hv, hQ⟩
theorem get_dict {d : Addr} {k : Int} {t : Tok} {kvs : List (Int × Value)} {Q : Value → Shared → Prop} (hd : (d == sysModules) = false) (hm : s.heap.DictOf (intKind prog w) d kvs)
    (hQ : Q ((valueAt kvs k).getD .none) { s with toks := s.toks + 1 }) : wpAny (model prog w) A (call (.builtin "dict.get") [.ref d, .int k t]) Q E s :=
  call_meetsIn F.slot_dict_get hm.typeIs F.entry_dict_get (F.args_dict_get_2 _ _) (meets_dict_get (intKind prog w) d (by simp [intKind, Value.isInt]) hd) ⟨_, hm.mapOf, hQ⟩
theorem values_dict {d : Addr} {kvs : List (Int × Value)} {Q : Value → Shared → Prop} (hd : (d == sysModules) = false) (hm : s.heap.DictOf (intKind prog w) d kvs)
    (hQ : Q (.ref s.heap.objs.size) { s with heap := s.heap.push { cls := .type "dict_values", data := .fields #[.ref d] } }) : wpAny (model prog w) A (call (.builtin "dict.values") [.ref d]) Q E s :=
  call_meetsIn F.slot_dict_values hm.typeIs F.entry_dict_values (F.args_dict_values_1 _) (meets_dict_values (intKind prog w) d hd) ⟨⟨kvs, hm⟩, hQ⟩
theorem append_lst {l : Addr} {items : Array Value} {n : Nat} {v : Value} {Q : Value → Shared → Prop} (hl : s.heap.get? l = some { cls := .type "list", dict := none, data := .seq items n, slots := #[] }) (hz : items.size ≤ sizeLine)
    (hQ : Q .none { s with heap := s.heap.update l (Obj.mapSeq fun xs => xs.push v) }) : wpAny (model prog w) A (call (.builtin "list.append") [.ref l, v]) Q E s :=
  call_meets F.slot_list_append ⟨_, hl, rfl⟩ F.entry_list_append (F.args_list_append_2 _ _) (list_append l items n v hz) ⟨hl, hQ⟩
end

section
variable {P : Par} {G : Glob} {g : Gh} {st : St} {s : Shared} {A : Around} {Γ : AEnv} {env : Env}

/-- what is called, and what it takes before the arguments -/
noncomputable def CalR (P : Par) (G : Glob) (g : Gh) : Callee → Value × List Value → Prop
  | .fn f self, (v, first) => v = .ref f ∧ (∃ c C x, G.cls C = some c ∧ (x, f) ∈ c.meths) ∧ ∃ u, first = [u] ∧ VR P.ρ g self u
  | .append i, (v, first) => v = .builtin "list.append" ∧ ∃ a, g.adr i = some a ∧ first = [.ref a]
  | .values i, (v, first) => v = .builtin "dict.values" ∧ ∃ a, g.adr i = some a ∧ first = [.ref a]
  | .get i, (v, first) => v = .builtin "dict.get" ∧ ∃ a, g.adr i = some a ∧ first = [.ref a]
  | .pop i, (v, first) => v = .builtin "dict.pop" ∧ ∃ a, g.adr i = some a ∧ first = [.ref a]
  | .index vs, (v, first) => v = .builtin "tuple.index" ∧ ∃ b, first = [.ref b] ∧ G.tups b = some vs
  | .init, (v, first) => v = .builtin "Exception.__init__" ∧ first = []
theorem CalR.mono {g g' : Gh} (l : g.le g') {c : Callee} {p : Value × List Value} (h : CalR P G g c p) : CalR P G g' c p := by
  cases c with
  | fn f self => obtain ⟨h1, h2, u, h3, h4⟩ := h; exact ⟨h1, h2, u, h3, h4.mono l⟩
  | append i => obtain ⟨h1, a, h2, h3⟩ := h; exact ⟨h1, a, l.adr h2, h3⟩
  | values i => obtain ⟨h1, a, h2, h3⟩ := h; exact ⟨h1, a, l.adr h2, h3⟩
  | get i => obtain ⟨h1, a, h2, h3⟩ := h; exact ⟨h1, a, l.adr h2, h3⟩
  | pop i => obtain ⟨h1, a, h2, h3⟩ := h; exact ⟨h1, a, l.adr h2, h3⟩
  | index vs => exact h
  | init => exact h

theorem strEq_true {x y : Str} (h : strEq x y = true) : x = y := (strEq_iff x y).mp h

set_option tactic.hygienic true in
theorem methA_ok (O : GOK P G) (R : RepS P g st s) {a : AV} {v : Value} {x : Str} {pl : Sem Bool} (va : VR P.ρ g a v) : SndAt P g st s A (methA G a x) (getMethod v x pl) (fun g' c p => CalR P G g' c p) := by
  unfold methA
  rcases a with ⟨⟩ <;> first | exact .stuck | skip
  · rename_i i
    obtain ⟨y, hy, rfl⟩ := va
    refine .getO fun o ho => ?_
    rcases o with ⟨⟩ <;> first | exact .stuck | skip
    · -- a list
      rename_i vs
      refine hideGoal fun Φ hΦ => ?_
      obtain ⟨ws, n, h1, h2⟩ := R.lstX ho hy
      refine hΦ ?_
      clear hΦ Φ
      dsimp only
      split
      · rename_i q
        obtain rfl := strEq_true q
        exact .val rfl (getMethod_builtin (T := "list") ⟨_, h1, rfl⟩ F.plainAttrs_list F.slot_list_append F.type_list_append (fun a e => by cases e; exact ⟨_, h1, rfl⟩) ⟨g, .refl _, R, rfl, y, hy, rfl⟩)
      · exact .stuck
    · -- a dict
      rename_i es ep
      refine hideGoal fun Φ hΦ => ?_
      obtain ⟨kvs, ep', D, _, hr⟩ := R.dict ho hy
      refine hΦ ?_
      clear hΦ Φ
      have hT := D.dictOf.typeIs
      have hdn : ∀ a, Value.ref y = .ref a → ∃ o, s.heap.get? a = some o ∧ o.dict = none := fun a e => by
        cases e
        refine hideGoal fun Φ hΦ => ?_
        obtain ⟨ob, ds, h1, h2, _⟩ := D
        refine hΦ ?_
        clear hΦ Φ
        exact ⟨ob, h1, h2.2.1⟩
      dsimp only
      split
      · rename_i q
        obtain rfl := strEq_true q
        exact .val rfl (getMethod_builtin (T := "dict") hT F.plainAttrs_dict F.slot_dict_values F.type_dict_values hdn ⟨g, .refl _, R, rfl, y, hy, rfl⟩)
      · split
        · rename_i q
          obtain rfl := strEq_true q
          exact .val rfl (getMethod_builtin (T := "dict") hT F.plainAttrs_dict F.slot_dict_get F.type_dict_get hdn ⟨g, .refl _, R, rfl, y, hy, rfl⟩)
        · split
          · rename_i q
            obtain rfl := strEq_true q
            exact .val rfl (getMethod_builtin (T := "dict") hT F.plainAttrs_dict F.slot_dict_pop F.type_dict_pop hdn ⟨g, .refl _, R, rfl, y, hy, rfl⟩)
          · exact .stuck
    · -- an instance
      rename_i C d
      refine .getO fun od hd => ?_
      rcases od with ⟨⟩ <;> first | exact .stuck | skip
      rename_i m
      dsimp only
      cases q : fget x m with
      | some _ => exact .stuck
      | none =>
        dsimp only
        refine .ofO fun c hc => .ofO fun f hf => ?_
        obtain ⟨W, K⟩ := O.cls _ _ hc
        refine hideGoal fun Φ hΦ => ?_
        obtain ⟨dx, mA, h1, I, _, om, h2, ob, h3, h4, h5⟩ := R.inst ho hd hy
        refine hΦ ?_
        clear hΦ Φ
        have hsh : mA x = none := by
          have := om x
          rw [q] at this
          cases z : mA x with
          | none => rfl
          | some v => rw [z] at this; exact this.elim
        have hmem : (x, f) ∈ c.meths := by
          clear hsh
          revert hf
          generalize c.meths = l
          induction l with
          | nil => intro h; cases h
          | cons p r ih =>
            intro h
            rw [fget_cons] at h
            split at h
            · rename_i e; cases h; rw [← e]; exact .head _
            · exact .tail _ (ih h)
        refine hideGoal fun Φ hΦ => ?_
        obtain ⟨m1, of, m2, m3, yy, m4⟩ := K.meths _ hmem
        refine hΦ ?_
        clear hΦ Φ
        refine hideGoal fun Φ hΦ => ?_
        obtain ⟨hp, gg, dr, t, os⟩ := s
        refine hΦ ?_
        clear hΦ Φ
        cases qe : c.exc with
        | true => exact .stuck
        | false =>
        rcases K.exc with ⟨e, _⟩ | ⟨e, e2, _⟩
        · have hC := R.1.keep _ _ K.at_
          rw [e] at hC
          exact .val rfl (method_of hC (K.ns.keeps R.1.keep) K.noGet K.noHook m1 (R.1.keep _ _ m2) m3 m4 I hsh ⟨g, .refl _, R, rfl, ⟨c, C, x, hc, hmem⟩, _, rfl, y, hy, rfl⟩)
        · rw [qe] at e2; cases e2
  · rename_i b
    cases va
    refine .ofO fun vs hv => ?_
    refine hideGoal fun Φ hΦ => ?_
    obtain ⟨o, ws, n, q1, q2, q3, q4, q5⟩ := O.tups _ _ hv
    refine hΦ ?_
    clear hΦ Φ
    have q1' := R.1.keep _ _ q1
    cases q : strEq x "index" with
    | true =>
      obtain rfl := strEq_true q
      exact .val rfl (getMethod_builtin (T := "tuple") ⟨o, q1', q2⟩ F.plainAttrs_tuple F.slot_tuple_index F.type_tuple_index (fun a e => by cases e; exact ⟨o, q1', q5⟩) ⟨g, .refl _, R, rfl, b, rfl, hv⟩)
    | false => exact .stuck
  · rename_i b
    cases va
    rcases b with ⟨⟩ <;> first | exact .stuck | skip
    dsimp only
    cases q : strEq x "__init__" with
    | true =>
      obtain rfl := strEq_true q
      exact .val rfl (exc_init_method ⟨g, .refl _, R.toks _, rfl, rfl⟩)
    | false => exact .stuck
end
end Mine

end
section
set_option maxRecDepth 100000
namespace Mine
open PySem PySem.W PySem.Calls PySem.SeqAt PyProof.Rows

section
variable {P : Par} {G : Glob} {g : Gh} {st : St} {s : Shared} {A : Around} {Γ : AEnv} {env : Env} {r : Rec}

theorem St.set_get {i : Nat} {o : AO} (ok : st.ok) (e : st.get i = some o) : st.set i o = st := by
  rw [St.set_eq ok]
  rw [St.get_eq ok] at e
  have hi := rnth_lt e
  unfold rnth at e
  rw [if_pos hi] at e
  unfold rset
  rw [set_same e]
/-- an object of ours is turned, and still means the same -/
theorem RepS.same (R : RepS P g st s) {i : Nat} {o : AO} {a : Addr} {h' : Heap} {ob' : Obj} {tk : Nat} (e : st.get i = some o) (ha : g.adr i = some a) (hs : Heap.ExtBut a s.heap h') (hb : h'.get? a = some ob')
    (hO : OR P.prog P.w P.ρ g o ob') : RepS P g st { s with heap := h', toks := tk } := by
  have := R.set (tk := tk) e ha hs hb hO rfl
  rwa [St.set_get R.1.ok e] at this

set_option tactic.hygienic true in
theorem indexP_ok (O : GOK P G) {n : Nat} (hu : A.units + 8 < cLine) {x : AV} {u : Value} (vx : VR P.ρ g x u) (R : RepS P g st s) : ∀ {vs : List AV} {ws : List Value} {k j : Nat}, indexP G st x vs j = some k → A2 (VR P.ρ g) vs ws →
    ∃ i, k = j + i ∧ ∃ hi : i < ws.length, EqAt A.in1 s ws[i] u true ∧ ∀ (l : Nat) (hl : l < ws.length), l < i → EqAt A.in1 s ws[l] u false
  | [], [], k, j, h, _ => by cases h
  | v :: vs, w :: ws, k, j, h, ⟨h1, h2⟩ => by
    unfold indexP at h
    split at h
    · rename_i q
      cases h
      have eo := (eqvP_ok O.orc R 6 A.in1 (by simp only [Around.in1_units]; omega) _ _ _ _ _ q h1 vx).eq
      exact ⟨0, rfl, by simp, eo, fun l hl hi => by omega⟩
    · rename_i q
      have eo := (eqvP_ok O.orc R 6 A.in1 (by simp only [Around.in1_units]; omega) _ _ _ _ _ q h1 vx).eq
      refine hideGoal fun Φ hΦ => ?_
      obtain ⟨i, e1, hi, e2, e3⟩ := indexP_ok (n := n) O hu vx R h h2
      refine hΦ ?_
      clear hΦ Φ
      refine ⟨i + 1, by omega, by simpa using hi, by simpa using e2, fun l hl hli => ?_⟩
      cases l with
      | zero => exact eo
      | succ l => simpa using e3 l (by simpa using hl) (by omega)
    · cases h

theorem without_rel {k : Int} : ∀ {es : List (Int × AV)} {kvs : List (Int × Value)}, A2 (DRel P.ρ g) es kvs → A2 (DRel P.ρ g) (ddel k es) (without kvs k)
  | [], [], _ => trivial
  | p :: es, q :: kvs, ⟨x, y⟩ => by
    unfold without
    show A2 _ (match decide (p.1 = k) with | true => ddel k es | false => p :: ddel k es) _
    by_cases e : p.1 = k
    · have e' : q.1 = k := x.1 ▸ e
      rw [decide_eq_true e, List.filter_cons_of_neg (by simp [e'])]
      exact without_rel y
    · have e' : ¬ q.1 = k := fun z => e (x.1.trans z)
      rw [decide_eq_false e, List.filter_cons_of_pos (by simp [e'])]
      exact ⟨x, without_rel y⟩

theorem appendM_ok (R : RepS P g st s) {i : Nat} {a : Addr} (ha : g.adr i = some a) {x : AV} {v : Value} (vx : VR P.ρ g x v) : SndAt P g st s A (appendM i x) (call (.builtin "list.append") [.ref a, v]) (fun g' c w => VR P.ρ g' c w) := by
  refine .withLst fun us ho => ?_
  refine hideGoal fun Φ hΦ => ?_
  obtain ⟨ws, n, h1, h2⟩ := R.lstX ho ha
  refine hΦ ?_
  clear hΦ Φ
  have hz := size_of h2
  refine .fit fun hf => .abs set_ok (.val rfl (append_lst h1 (by rw [sizeLine_eq]; omega) ⟨g, .refl _, ?_, rfl⟩))
  refine R.set (tk := s.toks) ho ha (Heap.SameBut.update ..).extBut (Heap.get?_update_self _ h1 rfl) ⟨rfl, _, _, rfl, ?_, rfl, rfl⟩ rfl
  rw [Array.toList_push]
  exact h2.append ⟨vx, trivial⟩
theorem valuesM_ok (O : GOK P G) (R : RepS P g st s) {i : Nat} {a : Addr} (ha : g.adr i = some a) : SndAt P g st s A (valuesM i) (call (.builtin "dict.values") [.ref a]) (fun g' c w => VR P.ρ g' c w) := by
  refine .withDict fun es ep ho => ?_
  refine hideGoal fun Φ hΦ => ?_
  obtain ⟨kvs, ep', D, _, hr⟩ := R.dict ho ha
  refine hΦ ?_
  clear hΦ Φ
  refine .abs (newO_ok _ _) (.val rfl (values_dict (R.notSys O ha) D.dictOf ⟨g.push s.heap.objs.size (.vals i), g.push_le _ _, ⟨R.1.alloc ?_, R.2⟩, _, R.1.adrNew, rfl⟩))
  exact ⟨a, (g.push_le _ _).adr ha, rfl, rfl⟩
theorem getM_ok (O : GOK P G) (R : RepS P g st s) {i : Nat} {a : Addr} (ha : g.adr i = some a) {x : AV} {v : Value} (vx : VR P.ρ g x v) : SndAt P g st s A (getM i x) (call (.builtin "dict.get") [.ref a, v]) (fun g' c w => VR P.ρ g' c w) := by
  refine .litOf vx fun k t e sk => .withDict fun es ep ho => ?_
  subst e
  refine hideGoal fun Φ hΦ => ?_
  obtain ⟨kvs, ep', D, _, hr⟩ := R.dict ho ha
  refine hΦ ?_
  clear hΦ Φ
  rcases dict_valueAt (k := k) hr with ⟨b, v, z1, z2, z3⟩ | ⟨z1, z2⟩
  · rw [z1]
    exact .val rfl (get_dict (R.notSys O ha) D.dictOf (by rw [z2]; exact ⟨g, .refl _, R.toks _, z3⟩))
  · rw [z1]
    exact .val rfl (get_dict (R.notSys O ha) D.dictOf (by rw [z2]; exact ⟨g, .refl _, R.toks _, rfl⟩))
theorem popM_ok (O : GOK P G) (R : RepS P g st s) {i : Nat} {a : Addr} (ha : g.adr i = some a) {x y : AV} {v u : Value} (vx : VR P.ρ g x v) (vy : VR P.ρ g y u) : SndAt P g st s A (popM i x y) (call (.builtin "dict.pop") [.ref a, v, u]) (fun g' c w => VR P.ρ g' c w) := by
  refine .litOf vx fun k t e sk => .withDict fun es ep ho => ?_
  subst e
  refine hideGoal fun Φ hΦ => ?_
  obtain ⟨kvs, ep', D, _, hr⟩ := R.dict ho ha
  refine hΦ ?_
  clear hΦ Φ
  have hd := R.notSys O ha
  rcases dict_valueAt (k := k) hr with ⟨b, v, z1, z2, z3⟩ | ⟨z1, z2⟩
  · rw [z1]
    refine .fit fun hf => .abs set_ok (.val rfl (pop_there D.dictOf (by rw [← hr.len]; exact le_sizeLine hf) z2 fun h' D' hs => ⟨g, .refl _, ?_, z3⟩))
    obtain ⟨ep2, D2⟩ := D'.dictAt
    obtain ⟨ob', k1, k2⟩ := DictAt.OR (e := none) D2 (fun k h => by cases h) (without_rel (k := k) hr)
    exact R.set (tk := s.toks + 1) ho ha hs.extBut k1 k2 rfl
  · rw [z1]
    exact .val rfl (pop_absent hd D.dictOf z2 ⟨g, .refl _, R.toks _, vy⟩)
theorem indexM_ok (O : GOK P G) (R : RepS P g st s) (hu : A.units + 8 < cLine) {us : List AV} {b : Nat} (hb : G.tups b = some us) {x : AV} {v : Value} (vx : VR P.ρ g x v) : SndAt P g st s A (indexM G us x) (call (.builtin "tuple.index") [.ref b, v]) (fun g' c w => VR P.ρ g' c w) := by
  refine hideGoal fun Φ hΦ => ?_
  obtain ⟨o, ws, n, q1, q2, q3, q4, q5⟩ := O.tups _ _ hb
  refine hΦ ?_
  clear hΦ Φ
  have q4 := q4 g
  have hz := size_of q4
  refine .fit fun hf => ?_
  cases q : indexP G st x us 0 with
  | none => exact fun hn => absurd (show (match indexP G st x us 0 with | some k => Mine.R.ok (AV.int (SI.lit (k : Int))) st | none => Mine.R.stuck) = _ by rw [q]) hn
  | some k =>
    refine hideGoal fun Φ hΦ => ?_
    obtain ⟨i, e1, hi, e2, e3⟩ := indexP_ok (n := 0) O hu vx R q q4
    refine hΦ ?_
    clear hΦ Φ
    have hi' : i < ws.size := by simpa using hi
    refine .val (a := .int (.lit k)) (st' := st) (by rw [q]) (tup_index (k := i) ⟨o, R.1.keep _ _ q1, q2, n, q3⟩ hi' (by omega) (fun j hj hl => ?_) ?_ ⟨g, .refl _, R.toks _, s.toks, ?_, ?_⟩)
    · have := e3 j (by simpa using hj) hl
      simpa using this
    · simpa using e2
    · show Value.int _ _ = Value.int ((k : Nat) : Int) _
      rw [e1, Nat.zero_add]
    · rw [e1, Nat.zero_add]
      exact small_small (by omega)
set_option tactic.hygienic true in
theorem initM_ok (O : GOK P G) (R : RepS P g st s) {x y : AV} {v u : Value} (vx : VR P.ρ g x v) (vy : VR P.ρ g y u) : SndAt P g st s A (initM G x y) (call (.builtin "Exception.__init__") [v, u]) (fun g' c w => VR P.ρ g' c w) := by
  rcases x with ⟨⟩ <;> first | exact .stuck | skip
  rename_i i
  obtain ⟨a, ha, rfl⟩ := vx
  refine .withExc fun C d tb ctx ho => ?_
  cases qc : G.cls C with
  | none => exact .stuck
  | some c =>
    dsimp only
    cases qe : c.exc with
    | false => exact .stuck
    | true =>
      obtain ⟨W, K⟩ := O.cls _ _ qc
      rcases K.exc with ⟨_, e2, _⟩ | ⟨e, e2, e3⟩
      · rw [qe] at e2; cases e2
      refine hideGoal fun Φ hΦ => ?_
      obtain ⟨ob, h2, ws, h3, h4, h5, h6, h7, h8⟩ := R.1.atA ha ho
      refine hΦ ?_
      clear hΦ Φ
      have hC := R.1.keep _ _ K.at_
      rw [e, e3] at hC
      refine hideGoal fun Φ hΦ => ?_
      obtain ⟨hp, gg, dr, t, os⟩ := s
      refine hΦ ?_
      clear hΦ Φ
      refine .val rfl (exc_init_call hC h2 h3 h5 (by omega) fun h' hs hb => ⟨g, .refl _, ?_, rfl⟩)
      refine hideGoal fun Φ hΦ => ?_
      obtain ⟨oc, od, odt, osl⟩ := ob
      refine hΦ ?_
      clear hΦ Φ
      dsimp only at h3 h4 h5
      subst h3 h5
      refine RepS.same (tk := t) R ho ha hs hb ⟨ws.setIfInBounds 0 (.ref hp.objs.size), rfl, h4, rfl, by rw [Array.size_setIfInBounds]; exact h6, ?_, ?_⟩
      · cases tb with
        | none => show (ws.setIfInBounds 0 _)[1]? = _; rw [Array.getElem?_setIfInBounds_ne (by decide)]; exact h7
        | some t => obtain ⟨T, z1, z2⟩ := h7; exact ⟨T, z1, by rw [Array.getElem?_setIfInBounds_ne (by decide)]; exact z2⟩
      · intro q
        rw [Array.getElem?_setIfInBounds_ne (by decide)]; exact h8 q

/-- a method of a built-in type is called -/
theorem callM_leaf (O : GOK P G) (R : RepS P g st s) {hd : Option Nat} (hu : A.units + 8 < cLine) {c : Callee} (hc : ∀ f x, c ≠ .fn f x) {p : Value × List Value} (hp : CalR P G g c p) {args : List AV} {vs : List Value} (va : A2 (VR P.ρ g) args vs) :
    SndAt P g st s A (callM G r hd c args) (call p.1 (p.2 ++ vs)) (fun g' c w => VR P.ρ g' c w) := by
  obtain ⟨f, first⟩ := p
  cases c with
  | fn f x => exact absurd rfl (hc f x)
  | append i =>
    refine hideGoal fun Φ hΦ => ?_
    obtain ⟨rfl, a, ha, rfl⟩ := hp
    refine hΦ ?_
    clear hΦ Φ
    exact SndAt.one (t := fun vs => call (.builtin "list.append") (.ref a :: vs)) va fun _ _ h => appendM_ok R ha h
  | values i =>
    refine hideGoal fun Φ hΦ => ?_
    obtain ⟨rfl, a, ha, rfl⟩ := hp
    refine hΦ ?_
    clear hΦ Φ
    exact SndAt.zero (t := fun vs => call (.builtin "dict.values") (.ref a :: vs)) va (valuesM_ok O R ha)
  | get i =>
    refine hideGoal fun Φ hΦ => ?_
    obtain ⟨rfl, a, ha, rfl⟩ := hp
    refine hΦ ?_
    clear hΦ Φ
    exact SndAt.one (t := fun vs => call (.builtin "dict.get") (.ref a :: vs)) va fun _ _ h => getM_ok O R ha h
  | pop i =>
    refine hideGoal fun Φ hΦ => ?_
    obtain ⟨rfl, a, ha, rfl⟩ := hp
    refine hΦ ?_
    clear hΦ Φ
    exact SndAt.two (t := fun vs => call (.builtin "dict.pop") (.ref a :: vs)) va fun _ _ _ _ h k => popM_ok O R ha h k
  | index us =>
    refine hideGoal fun Φ hΦ => ?_
    obtain ⟨rfl, b, rfl, hb⟩ := hp
    refine hΦ ?_
    clear hΦ Φ
    exact SndAt.one (t := fun vs => call (.builtin "tuple.index") (.ref b :: vs)) va fun _ _ h => indexM_ok O R hu hb h
  | init =>
    obtain ⟨rfl, rfl⟩ := hp
    exact SndAt.two (t := fun vs => call (.builtin "Exception.__init__") vs) va fun _ _ _ _ h k => initM_ok O R h k
end
end Mine

end
section
set_option maxRecDepth 100000
namespace Mine
open PySem PySem.W PySem.Calls PySem.SeqAt PyProof.Rows

section
variable {P : Par} {G : Glob} {g : Gh} {st : St} {s : Shared} {A : Around} {Γ : AEnv} {env : Env} {r : Rec}

/-- the frame on top is the environment's -/
structure TopFr (g : Gh) (A : Around) (env : Env) (fr : Nat) : Prop where
  frames : ∃ e₀ outer, A.frames = some (e₀ :: outer) ∧ e₀.frame = env.frame ∧ ∀ e ∈ e₀ :: outer, FrOk g e
  frame : ∃ L, g.adr fr = some L ∧ env.frame = some L ∧ rnth g.tg fr = some 6
theorem TopFr.mono {g g' : Gh} (l : g.le g') {A : Around} {env : Env} {fr : Nat} (h : TopFr g A env fr) : TopFr g' A env fr :=
  ⟨let ⟨e₀, o, h1, h2, h3⟩ := h.frames; ⟨e₀, o, h1, h2, fun e he => (h3 e he).mono l⟩, let ⟨L, h1, h2, h3⟩ := h.frame; ⟨L, l.adr h1, h2, l.tag h3⟩⟩

theorem RepS.funFrames (R : RepS P g st s) : ∀ {l : List Env}, (∀ e ∈ l, FrOk g e) → s.heap.FunFrames P.h₀ l
  | [], _ => trivial
  | e :: l, h => by
    refine hideGoal fun Φ hΦ => ?_
    obtain ⟨hk, i, a, h1, h2, h3⟩ := h e (.head _)
    refine hΦ ?_
    clear hΦ Φ
    obtain ⟨o, ho, ht⟩ := R.1.ofTag h1
    have : ∃ m, o = .frame m := by
      rcases o with ⟨⟩ <;> first | exact ⟨_, rfl⟩ | (exfalso; revert ht; simp [tagOf])
    obtain ⟨m, rfl⟩ := this
    refine hideGoal fun Φ hΦ => ?_
    obtain ⟨ob, q2, es, ep, q3, q4⟩ := R.1.atA h2 ho
    refine hΦ ?_
    clear hΦ Φ
    exact ⟨hk, ⟨a, ob, h3, R.1.fresh _ (rnth_mem h2), q2, fun vs q => by rw [q3] at q; cases q⟩, RepS.funFrames R fun e' he => h e' (.tail _ he)⟩
theorem frames_mem : ∀ {l : List Env}, (∀ e ∈ l, FrOk g e) → ∀ b ∈ l.filterMap (·.frame), ∃ i, g.adr i = some b ∧ rnth g.tg i = some 6
  | [], _, b, hb => by cases hb
  | e :: l, h, b, hb => by
    refine hideGoal fun Φ hΦ => ?_
    obtain ⟨hk, i, a, h1, h2, h3⟩ := h e (.head _)
    refine hΦ ?_
    clear hΦ Φ
    rw [List.filterMap_cons, h3] at hb
    rcases List.mem_cons.mp hb with rfl | hb
    · exact ⟨i, h2, h1⟩
    · exact frames_mem (fun e' he => h e' (.tail _ he)) b hb

/-- frames' slots do not matter -/
theorem Rep.slots {h h' : Heap} {S : List Addr} (R : Rep P g st h) (hS : ∀ b ∈ S, ∃ i, g.adr i = some b ∧ rnth g.tg i = some 6) (x : Heap.SlotsOnly S h h') : Rep P g st h' := by
  have out : ∀ b, b ∉ g.as → b ∉ S := fun b hb q => let ⟨i, h1, _⟩ := hS b q; hb (rnth_mem h1)
  refine ⟨R.ok, R.na, R.tg, fun b o e => ?_, R.fresh, R.nodup, R.tabs, fun p hp => ?_, fun i o e => ?_⟩
  · rw [x.2.1 b (out b fun q => by rw [R.fresh _ q] at e; cases e)]; exact R.keep b o e
  · refine hideGoal fun Φ hΦ => ?_
    obtain ⟨⟨c, oc, vs, t, e1, e2, e3⟩, hn⟩ := R.cds p hp
    refine hΦ ?_
    clear hΦ Φ
    cases e1
    exact ⟨⟨_, oc, vs, t, rfl, by rw [x.2.1 _ (out _ hn)]; exact e2, e3⟩, hn⟩
  · refine hideGoal fun Φ hΦ => ?_
    obtain ⟨a, ob, h1, h2, h3⟩ := R.obj i o e
    refine hΦ ?_
    clear hΦ Φ
    by_cases q : a ∈ S
    · obtain ⟨j, k1, k2⟩ := hS a q
      obtain rfl := rnth_inj R.nodup h1 k1
      have ht := R.tg ▸ k2
      rw [rnth_map, e] at ht
      obtain ⟨sl, e2⟩ := x.2.2 a ob h2
      have : ∃ m, o = .frame m := by
        rcases o with ⟨⟩ <;> first | exact ⟨_, rfl⟩ | (exfalso; revert ht; simp [tagOf])
      obtain ⟨m, rfl⟩ := this
      refine hideGoal fun Φ hΦ => ?_
      obtain ⟨es, ep, q3, q4⟩ := h3
      refine hΦ ?_
      clear hΦ Φ
      exact ⟨a, _, h1, e2, es, ep, q3, q4⟩
    · exact ⟨a, ob, h1, by rw [x.2.1 a q]; exact h2, h3⟩

theorem frameOf_ok {fr : Nat} (R : RepS P g st s) (T : TopFr g A env fr) {L : Addr} (hL : env.frame = some L) {Q : Value → Shared → Prop} {E : Value → Shared → Prop} (h : ∀ h', Heap.SlotsOnly (g.as.filter fun _ => true) s.heap h' → RepS P g st { s with heap := h' } → Q (.ref L) { s with heap := h' }) :
    wpAny (model P.prog P.w) A (PySem.frameOf env) Q E s := by
  refine hideGoal fun Φ hΦ => ?_
  obtain ⟨e₀, outer, f1, f2, f3⟩ := T.frames
  refine hΦ ?_
  clear hΦ Φ
  unfold PySem.frameOf
  refine wpAny_bind (wpAny_frameEnvs f1 ?_)
  have hdw : ((e₀ :: outer).dropWhile fun x => x.frame != env.frame) = e₀ :: outer := by simp [List.dropWhile, f2]
  rw [hdw]
  unfold frameObject
  refine wpAny_bind (wpAny_bind (wpAny_readyFrames_fun (R.funFrames f3) fun h₁ hs₁ => wpAny_pure ?_))
  rw [f2, hL]
  have hS := frames_mem f3
  exact wpAny_pure (h h₁ (hs₁.mono fun b hb => by
    obtain ⟨i, z, _⟩ := hS b hb
    exact List.mem_filter.mpr ⟨rnth_mem z, rfl⟩) ⟨R.1.slots hS hs₁, R.2⟩)

noncomputable def TbR (g : Gh) (tb : Option Nat) (vs : Array Value) : Prop := match tb with | none => vs[1]? = some .none | some t => ∃ T, g.adr t = some T ∧ vs[1]? = some (.ref T)
noncomputable def DxR (g : Gh) (d : Option Nat) (ob : Obj) : Prop := match d with | none => ob.dict = none | some d => ∃ dx, g.adr d = some dx ∧ ob.dict = some dx
noncomputable def FlR (g : Gh) (fl : Option Nat) (vs : Array Value) : Prop := match fl with | none => vs[3]? = some .none | some f => ∃ L, g.adr f = some L ∧ vs[3]? = some (rawInt L)
/-- an exception of ours -/
theorem RepS.excAt (R : RepS P g st s) {i C : Nat} {d tb : Option Nat} {ctx : Bool} {a : Addr} (h : st.get i = some (.exc C d tb ctx)) (ha : g.adr i = some a) :
    ∃ ob vs, s.heap.get? a = some ob ∧ ob.cls = .ref C ∧ DxR g d ob ∧ ob.data = .fields vs ∧ 4 < vs.size ∧ TbR g tb vs ∧ (ctx = true → vs[2]? = some .none) := by
  refine hideGoal fun Φ hΦ => ?_
  obtain ⟨ob, h2, vs, h3, h4, h5, h6, h7, h8⟩ := R.1.atA ha h
  refine hΦ ?_
  clear hΦ Φ
  exact ⟨ob, vs, h2, h3, h4, h5, h6, h7, h8⟩
theorem RepS.tbAt (R : RepS P g st s) {i : Nat} {fl : Option Nat} {a : Addr} (h : st.get i = some (.tb fl)) (ha : g.adr i = some a) :
    ∃ ob vs, s.heap.get? a = some ob ∧ ob.data = .fields vs ∧ 3 < vs.size ∧ FlR g fl vs := by
  refine hideGoal fun Φ hΦ => ?_
  obtain ⟨ob, h2, vs, h3, h4, h5⟩ := R.1.atA ha h
  refine hΦ ?_
  clear hΦ Φ
  exact ⟨ob, vs, h2, h3, h4, h5⟩
/-- an exception with another traceback -/
theorem exc_tb {ob : Obj} {vs : Array Value} {C : Nat} {d : Option Nat} {ctx : Bool} {T : Addr} {t : Nat} (hc : ob.cls = .ref C) (hd : DxR g d ob) (hv : ob.data = .fields vs)
    (hz : 4 < vs.size) (hx : ctx = true → vs[2]? = some .none) (hT : g.adr t = some T) : OR P.prog P.w P.ρ g (.exc C d (some t) ctx) (Obj.mapFields (·.setIfInBounds 1 (.ref T)) ob) := by
  refine hideGoal fun Φ hΦ => ?_
  obtain ⟨oc, od, odt, osl⟩ := ob
  refine hΦ ?_
  clear hΦ Φ
  dsimp only at hc hd hv
  subst hc hv
  refine ⟨vs.setIfInBounds 1 (.ref T), rfl, hd, rfl, by rw [Array.size_setIfInBounds]; exact hz, ⟨T, hT, ?_⟩, fun q => ?_⟩
  · rw [Array.getElem?_setIfInBounds_self_of_lt (by omega)]
  · rw [Array.getElem?_setIfInBounds_ne (by decide)]; exact hx q

/-- a new entry is put before the exception's -/
theorem newEntry_ok {fr i C : Nat} {d tb : Option Nat} {ctx hadNext : Bool} {e L : Addr} {head : Value} (R : RepS P g st s) (T : TopFr g A env fr) (hL : env.frame = some L) (hfr : g.adr fr = some L) (ho : st.get i = some (.exc C d tb ctx)) (he : g.adr i = some e) :
    SndAt P g st s A (do
      let t ← newO (.tb (some fr))
      setO i (.exc C d (some t) ctx)) (do
      let a ← PySem.frameOf env
      let pl ← entryPlaceOf L hadNext
      let b ← EntryCells.newEntry head a .none (rawInt L) .none pl
      setField (.ref e) 1 b) (fun _ _ _ => True) := by
  refine .abs (newO_ok _ _) (.val set_ok ?_)
  refine wpAny_bind (frameOf_ok R T hL fun h₁ hs₁ R₁ => ?_)
  refine wpAny_bind (wpAny_entryPlaceOf fun pl hpl => ?_)
  unfold EntryCells.newEntry newFields
  refine wpAny_bind (wpAny_newObj_type ?_ (hpl.sizeOk5 _ _ _ _ _))
  refine hideGoal fun Φ hΦ => ?_
  obtain ⟨ob, vs, k1, k2, k3, k4, k5, k6, k7⟩ := R₁.excAt ho he
  refine hΦ ?_
  clear hΦ Φ
  have R₂ : RepS P (g.push h₁.objs.size (.tb (some fr))) (st.push (.tb (some fr))) { s with heap := h₁.push { cls := .type "traceback", dict := none, data := .fields ([head, .ref L, .none, rawInt L, .none] ++ (if pl.isEmpty then List.replicate 6 Value.none else pl)).toArray } } :=
    ⟨R₁.1.alloc ⟨_, rfl, by simp only [List.size_toArray, List.length_append, List.length_cons, List.length_nil]; omega, ⟨L, (g.push_le _ _).adr hfr, by simp⟩⟩, R.2⟩
  have ho₂ : (st.push (.tb (some fr))).get i = some (.exc C d tb ctx) := by
    rw [St.get_eq R₂.1.ok]
    rw [St.get_eq R.1.ok] at ho
    show rnth (_ :: st.l) i = _
    rw [rnth_old (rnth_lt ho)]; exact ho
  have kk := Heap.get?_push_of_some (h := h₁) { cls := .type "traceback", dict := none, data := .fields ([head, .ref L, .none, rawInt L, .none] ++ (if pl.isEmpty then List.replicate 6 Value.none else pl)).toArray } k1
  refine wpAny_setField kk k4 (by omega) ⟨g.push h₁.objs.size (.tb (some fr)), g.push_le _ _, ?_, trivial⟩
  refine R₂.set (tk := s.toks) ho₂ ((g.push_le _ _).adr he) (Heap.SameBut.update ..).extBut (Heap.get?_update_self _ kk (Obj.isFreed_of_fields (Obj.data_mapFields k4 _))) ?_ rfl
  refine exc_tb k2 ?_ k4 k5 k7 R₁.1.adrNew
  cases d with
  | none => exact k3
  | some d => obtain ⟨dx, z1, z2⟩ := k3; exact ⟨dx, (g.push_le _ _).adr z1, z2⟩

theorem rawInt_ne {a b : Addr} (h : a ≠ b) : (rawInt a == rawInt b) = false := by
  rw [beq_eq_false_iff_ne]
  intro q
  injection q with q _
  exact h (by exact_mod_cast q)
theorem set_tb {ob : Obj} {vs : Array Value} {v : Value} {fl : Option Nat} (hv : ob.data = .fields vs) (hz : 3 < vs.size) (h : FlR g fl (vs.setIfInBounds 3 v)) : OR P.prog P.w P.ρ g (.tb fl) (Obj.mapFields (·.setIfInBounds 3 v) ob) := by
  refine hideGoal fun Φ hΦ => ?_
  obtain ⟨oc, od, odt, osl⟩ := ob
  refine hΦ ?_
  clear hΦ Φ
  dsimp only at hv
  subst hv
  exact ⟨_, rfl, by rw [Array.size_setIfInBounds]; exact hz, h⟩

set_option tactic.hygienic true in
theorem noteA_ok {fr i : Nat} {e : Addr} (R : RepS P g st s) (T : TopFr g A env fr) (he : g.adr i = some e) : SndAt P g st s A (noteA fr i) (noteFrame (.ref e) env) (fun _ _ _ => True) := by
  refine hideGoal fun Φ hΦ => ?_
  obtain ⟨L, t1, t2, t3⟩ := T.frame
  refine hΦ ?_
  clear hΦ Φ
  unfold noteA
  refine .getO fun o ho => ?_
  rcases o with ⟨⟩ <;> first | exact .stuck | skip
  rename_i C d tb ctx
  refine hideGoal fun Φ hΦ => ?_
  obtain ⟨ob, vs, k1, k2, k3, k4, k5, k6, k7⟩ := R.excAt ho he
  refine hΦ ?_
  clear hΦ Φ
  unfold noteFrame
  rw [t2]
  dsimp only
  cases tb with
  | none =>
    have k6 : vs[1]? = some .none := k6
    refine .step (wpAny_field k1 k4 k6 ?_)
    rw [if_neg (by decide)]
    exact newEntry_ok R T t2 t1 ho he
  | some t =>
    obtain ⟨Ta, h1, h2⟩ := k6
    refine .step (wpAny_field k1 k4 h2 ?_)
    rw [if_pos (by simp)]
    refine .getO fun ot hot => ?_
    rcases ot with ⟨⟩ <;> first | exact .stuck | skip
    rename_i fl
    refine hideGoal fun Φ hΦ => ?_
    obtain ⟨obt, vt, m1, m2, m3, m4⟩ := R.tbAt hot h1
    refine hΦ ?_
    clear hΦ Φ
    dsimp only
    cases fl with
    | none =>
      have m4 : vt[3]? = some .none := m4
      refine .step (wpAny_field m1 m2 m4 ?_)
      rw [if_neg (show ¬ ((Value.none == rawInt L) = true) from Bool.false_ne_true)]
      refine .step (wpAny_setField m1 m2 m3 ?_)
      have R2 : RepS P g st _ := R.same (tk := s.toks) hot h1 (Heap.SameBut.update ..).extBut (Heap.get?_update_self _ m1 (Obj.isFreed_of_fields (Obj.data_mapFields m2 _))) (set_tb (v := .none) m2 m3 (by
        show (vt.setIfInBounds 3 _)[3]? = _
        rw [Array.getElem?_setIfInBounds_self_of_lt m3]))
      exact newEntry_ok R2 T t2 t1 ho he
    | some f =>
      obtain ⟨Lf, f1, f2⟩ := m4
      refine .step (wpAny_field m1 m2 f2 ?_)
      dsimp only
      split
      · rename_i q
        obtain rfl := Nat.eq_of_beq_eq_true q
        rw [t1] at f1; cases f1
        rw [if_pos (by simp)]
        exact .val rfl (wpAny_pure ⟨g, .refl _, R, trivial⟩)
      · rename_i q
        have hne : Lf ≠ L := R.neq f1 t1 (Nat.ne_of_beq_eq_false q)
        rw [if_neg (by rw [rawInt_ne hne]; decide)]
        refine .step (wpAny_setField m1 m2 m3 ?_)
        have R2 : RepS P g (st.set t (.tb none)) _ := R.set (tk := s.toks) hot h1 (Heap.SameBut.update ..).extBut (Heap.get?_update_self _ m1 (Obj.isFreed_of_fields (Obj.data_mapFields m2 _))) (set_tb (fl := none) (v := .none) m2 m3 (by
          show (vt.setIfInBounds 3 _)[3]? = _
          rw [Array.getElem?_setIfInBounds_self_of_lt m3])) rfl
        have ho2 : (st.set t (.tb none)).get i = some (.exc C d (some t) ctx) := by
          rw [St.get_eq R2.1.ok, St.set_eq R.1.ok]
          rw [St.get_eq R.1.ok] at ho hot
          show rnth (rset st.l t _) i = _
          rw [rnth_rset (rnth_lt hot), if_neg]
          · exact ho
          · rintro rfl; rw [ho] at hot; cases hot
        exact .abs set_ok (newEntry_ok R2 T t2 t1 ho2 he)

set_option tactic.hygienic true in
theorem flightA_ok {i : Nat} {e : Addr} {fl : Option Nat} {fr : Option Addr} (R : RepS P g st s) (he : g.adr i = some e) (hf : match fl with | none => fr = none | some f => ∃ L, g.adr f = some L ∧ fr = some L) :
    SndAt P g st s A (flightA i fl) (setFlight (.ref e) fr) (fun _ _ _ => True) := by
  unfold flightA
  refine .getO fun o ho => ?_
  rcases o with ⟨⟩ <;> first | exact .stuck | skip
  rename_i C d tb ctx
  refine hideGoal fun Φ hΦ => ?_
  obtain ⟨ob, vs, k1, k2, k3, k4, k5, k6, k7⟩ := R.excAt ho he
  refine hΦ ?_
  clear hΦ Φ
  unfold setFlight
  cases tb with
  | none =>
    have k6 : vs[1]? = some .none := k6
    refine .step (wpAny_field k1 k4 k6 ?_)
    rw [if_neg (by decide)]
    exact .val rfl (wpAny_pure ⟨g, .refl _, R, trivial⟩)
  | some t =>
    obtain ⟨Ta, h1, h2⟩ := k6
    refine .step (wpAny_field k1 k4 h2 ?_)
    rw [if_pos (by simp)]
    refine .getO fun ot hot => ?_
    rcases ot with ⟨⟩ <;> first | exact .stuck | skip
    refine hideGoal fun Φ hΦ => ?_
    obtain ⟨obt, vt, m1, m2, m3, m4⟩ := R.tbAt hot h1
    refine hΦ ?_
    clear hΦ Φ
    refine .val set_ok (wpAny_setField m1 m2 m3 ⟨g, .refl _, ?_, trivial⟩)
    refine R.set (tk := s.toks) hot h1 (Heap.SameBut.update ..).extBut (Heap.get?_update_self _ m1 (Obj.isFreed_of_fields (Obj.data_mapFields m2 _))) (set_tb m2 m3 ?_) rfl
    cases fl with
    | none =>
      subst hf
      show (vt.setIfInBounds 3 _)[3]? = _
      rw [Array.getElem?_setIfInBounds_self_of_lt m3]; rfl
    | some f =>
      obtain ⟨L, z1, z2⟩ := hf
      subst z2
      refine ⟨L, z1, ?_⟩
      rw [Array.getElem?_setIfInBounds_self_of_lt m3]; rfl

theorem leavingA_ok {fr i : Nat} {e : Addr} (R : RepS P g st s) (T : TopFr g A env fr) (he : g.adr i = some e) : SndAt P g st s A (leavingA fr i) (leaving env (.ref e)) (fun _ _ _ => True) := by
  unfold leavingA leaving
  exact (noteA_ok R T he).bindAt fun _ _ g' st' s' _ l R' _ => flightA_ok (fr := none) R' (l.adr he) rfl
end
end Mine

end
section
set_option maxRecDepth 100000
namespace Mine
open PySem PySem.W PySem.Calls PySem.SeqAt PyProof.Rows

section
variable {P : Par} {G : Glob} {g : Gh} {st : St} {s : Shared} {A : Around} {Γ : AEnv} {env : Env} {r : Rec}

/-- what comes back from an own activation -/
noncomputable def ownBack (env : Env) (x : Value) : Sem Unit := do
  if (← field x 1) == .none then unsupported "frame.own-activation:exception-without-traceback"
  setFlight x env.frame
theorem runOwn_eq (c : Code) (env : Env) (hd : Option Value) : runOwn c env hd = (run c hd).onRaise (ownBack env) := rfl

theorem SndAt.same {α β : Type} {m m' : AM α} {t : Sem β} {V : Gh → α → β → Prop} (e : m st = m' st) (x : SndAt P g st s A m' t V) : SndAt P g st s A m t V := fun hn =>
  wpS_mono (x (by rw [← e]; exact hn)) (fun _ _ ⟨a, st', g', q, z⟩ => ⟨a, st', g', e.trans q, z⟩) fun _ _ ⟨i, st', g', x, q, z⟩ => ⟨i, st', g', x, e.trans q, z⟩
set_option tactic.hygienic true in
theorem backA_ok {fr i : Nat} {e L : Addr} (R : RepS P g st s) (he : g.adr i = some e) (hL : g.adr fr = some L) (hf : env.frame = some L) : SndAt P g st s A (backA fr i) (ownBack env (.ref e)) (fun _ _ _ => True) := by
  unfold backA
  refine .getO fun o ho => ?_
  rcases o with ⟨⟩ <;> first | exact .stuck | skip
  rename_i C d tb ctx
  cases tb with
  | none => exact .stuck
  | some t =>
    refine hideGoal fun Φ hΦ => ?_
    obtain ⟨ob, vs, k1, k2, k3, k4, k5, ⟨Ta, h1, h2⟩, k7⟩ := R.excAt ho he
    refine hΦ ?_
    clear hΦ Φ
    refine .getO fun ot hot => ?_
    rcases ot with ⟨⟩ <;> first | exact .stuck | skip
    rename_i fl
    unfold ownBack
    refine .step (wpAny_field k1 k4 h2 ?_)
    rw [if_neg (by simp)]
    have ho2 := flightA_ok (A := A) (fl := some fr) (fr := env.frame) R he ⟨L, hL, hf⟩
    have eq : flightA i (some fr) st = setO t (.tb (some fr)) st := by
      unfold flightA
      rw [bind_ok (getO_ok ho)]
      dsimp only
      rw [bind_ok (getO_ok hot)]
    exact SndAt.same eq.symm ho2

/-- the own activations' frames -/
theorem onErr_err {α : Type} {m : AM α} {f : Nat → AM Unit} {i : Nat} {st' : St} (h : m st = .err i st') : onErr m f st = (match f i st' with | .ok _ s'' => Mine.R.err i s'' | .err _ _ => .stuck | .stuck => .stuck) := by
  unfold onErr
  rw [h]
  all_goals first | rfl | (dsimp only; done) | (dsimp only; rfl)
theorem onErr_ok {α : Type} {m : AM α} {f : Nat → AM Unit} {a : α} {st' : St} (h : m st = .ok a st') : onErr m f st = .ok a st' := by unfold onErr; rw [h]
theorem onErr_stuck {α : Type} {m : AM α} {f : Nat → AM Unit} (h : m st = .stuck) : onErr m f st = .stuck := by unfold onErr; rw [h]

/-- a turn of an own activation: noted where it raises, and put back into flight -/
theorem ownTurn {α β : Type} {m : AM α} {t : Sem β} {V : Gh → α → β → Prop} (x : SndAt P g st s A m t V) (T : TopFr g A env Γ.fr) (hn : ownA Γ m st ≠ .stuck) :
    wpS (model P.prog P.w) A (t.onRaise fun x => do noteFrame x env; theTreesLotGoes x)
      (SOk P g (ownA Γ m) st V)
      (fun e s' => ∀ B : Around, wpS (model P.prog P.w) B (ownBack env e) (fun _ s'' => SErr P g (ownA Γ m) st e s'') (fun _ _ => False) s') s := by
  have hm : m st ≠ .stuck := fun q => hn (onErr_stuck q)
  refine wpS_onRaise (wpS_mono (x hm) (fun b s' ⟨a, st', g', e, l, R, v⟩ => ⟨a, st', g', onErr_ok e, l, R, v⟩) fun e s' ⟨i, st', g', y, e1, l, R, ha, he⟩ => ?_)
  subst he
  have T' := T.mono l
  refine hideGoal fun Φ hΦ => ?_
  obtain ⟨L, t1, t2, t3⟩ := T'.frame
  refine hΦ ?_
  clear hΦ Φ
  have eq := onErr_err (f := fun i => do noteA Γ.fr i; backA Γ.fr i) e1
  have hf : (do noteA Γ.fr i; backA Γ.fr i : AM Unit) st' ≠ .stuck := fun q => hn (by unfold ownA; rw [eq, q])
  have h1 : noteA Γ.fr i st' ≠ .stuck := fun q => hf (bind_stuck q)
  refine wpS_bind (wpS_mono (noteA_ok R T' ha h1) (fun _ s₁ ⟨_, st₁, g₁, e2, l2, R2, _⟩ => ?_) fun e' s₁ ⟨j, st₁, g₁, y', e2, _⟩ => ?_)
  · refine wpS_mono (.of (wpAny_theTreesLotGoes (Q := fun _ s' => s' = s₁) (E := fun _ _ => False) rfl)) (fun _ s₂ q => ?_) fun _ _ z => z.elim
    subst q
    intro B
    have h2 : backA Γ.fr i st₁ ≠ .stuck := fun q => hf (by rw [bind_ok e2]; exact q)
    refine wpS_mono (backA_ok (A := B) (env := env) R2 (l2.adr ha) (l2.adr t1) t2 h2) (fun _ s₃ ⟨_, st₃, g₃, e3, l3, R3, _⟩ => ?_) fun e' s₃ ⟨j, st₃, g₃, y', e3, _⟩ => ?_
    · refine ⟨i, st₃, g₃, y, ?_, l.trans (l2.trans l3), R3, l3.adr (l2.adr ha), rfl⟩
      unfold ownA
      rw [eq, bind_ok e2, e3]
    · exact absurd (by unfold ownA; rw [eq, bind_ok e2, e3]) hn
  · exact absurd (by unfold ownA; rw [eq, bind_err e2]) hn
end
end Mine

end
section
set_option maxRecDepth 100000
namespace Mine
open PySem PySem.W PySem.Calls PySem.SeqAt PyProof.Rows

section
variable {P : Par} {G : Glob} {g : Gh} {st : St} {s : Shared} {A : Around} {Γ : AEnv} {env : Env} {r : Rec}

theorem SndAt.raised {m : AM α} {t : Sem β} {V : Gh → α → β → Prop} {i : Nat} {st' : St} (e : m st = .err i st') (h : wpAny (model P.prog P.w) A t (fun _ _ => False) (fun x s' => ∃ g' y, g.le g' ∧ RepS P g' st' s' ∧ g'.adr i = some y ∧ x = .ref y) s) : SndAt P g st s A m t V :=
  fun _ => .of (wpAny_mono h (fun _ _ z => z.elim) fun x s' ⟨g', y, l, R, a, q⟩ => ⟨i, st', g', y, e, l, R, a, q⟩)
theorem SndAt.excCls {C : Nat} {f : Unit → AM α} {t : Sem β} {V : Gh → α → β → Prop} (y : ∀ c, G.cls C = some c → c.exc = true → SndAt P g st s A (f ()) t V) : SndAt P g st s A (Mine.excCls G C >>= f) t V := by
  unfold Mine.excCls
  cases q : G.cls C with
  | none => exact fun hn => absurd (bind_stuck rfl) hn
  | some c =>
    dsimp only
    cases q2 : c.exc with
    | true => exact .abs rfl (y c q q2)
    | false => exact fun hn => absurd (bind_stuck rfl) hn

/-- an own exception's class, as the library takes it -/
theorem excAt (O : GOK P G) (R : RepS P g st s) {C : Nat} {c : Cls} (hc : G.cls C = some c) (he : c.exc = true) :
    ∃ W : CD, s.heap.get? C = some (excClassObj W.nm W.q C W.N W.bs [.type "Exception", .type "BaseException", .type "object"] true W.sn W.sub W.ab W.col W.dd W.k0 W.k1 W.k2 W.k3 W.k5 "Exception.__new__") ∧ s.heap.Ns W.N W.mN ∧ W.mN "__init__" = some (.ref c.init) ∧
      ∃ oI, s.heap.get? c.init = some oI ∧ oI.cls = .type "function" := by
  obtain ⟨W, K⟩ := O.cls _ _ hc
  rcases K.exc with ⟨_, e2, _⟩ | ⟨e, e2, e3⟩
  · rw [he] at e2; cases e2
  · have h := R.1.keep _ _ K.at_
    rw [e, e3] at h
    exact ⟨W, h, K.ns.keeps R.1.keep, K.init, W.oI, R.1.keep _ _ K.initAt, K.initFn⟩

theorem excFrom_ok (O : GOK P G) (R : RepS P g st s) {C : Nat} {c : Cls} {e : Addr} {ob : Obj} {vs : Array Value} {cm : String} {Q : Value → Shared → Prop} {E : Value → Shared → Prop} (hc : G.cls C = some c) (hx : c.exc = true) (ho : s.heap.get? e = some ob) (hcl : ob.cls = .ref C) (hd : ob.data = .fields vs)
    (hQ : Q (.ref e) s) : wpAny (model P.prog P.w) A (excFromValue (.ref e) cm) Q E s := by
  obtain ⟨W, hC, _⟩ := excAt O R hc hx
  have hcB : (Value.ref C :: [Value.type "Exception", .type "BaseException", .type "object"]).contains (.type "BaseException") = true := by simp
  refine hideGoal fun Φ hΦ => ?_
  obtain ⟨hp, gg, dr, t, os⟩ := s
  refine hΦ ?_
  clear hΦ Φ
  unfold excFromValue isExcClass isType
  repeat (first | (with_reducible refine wpAny_loadPart_at ho ?_; rw [hd]) | wp_step)
  rw [hcl]
  refine wpAny_isSubtype_exc hC ?_
  rw [hcB]
  exact wpAny_pure hQ

theorem raisedInst_ok (O : GOK P G) (R : RepS P g st s) {C : Nat} {c : Cls} {e : Addr} {ob : Obj} {Q : Value → Shared → Prop} {E : Value → Shared → Prop} (hc : G.cls C = some c) (hx : c.exc = true) (ho : s.heap.get? e = some ob) (hcl : ob.cls = .ref C)
    (hQ : Q (.ref e) s) : wpAny (model P.prog P.w) A (raisedInstance (.ref e)) Q E s := by
  obtain ⟨W, hC, _⟩ := excAt O R hc hx
  unfold raisedInstance
  refine wpAny_bind (wpAny_typeOf_ref ho ?_)
  rw [hcl]
  refine wpAny_bind (wpAny_typeOf_ref hC ?_)
  exact wpAny_pure hQ

theorem isType_ok {e : Addr} {ob : Obj} {vs : Array Value} {Q : Bool → Shared → Prop} {E : Value → Shared → Prop} (ho : s.heap.get? e = some ob) (hd : ob.data = .fields vs) (hQ : Q false s) : wpAny (model P.prog P.w) A (isType (.ref e)) Q E s := by
  unfold isType
  refine wpAny_bind (wpAny_loadPart ho ?_)
  rw [hd]
  exact wpAny_pure hQ
set_option tactic.hygienic true in
/-- raise of an own exception -/
theorem raise_ok (O : GOK P G) (R : RepS P g st s) {hd : Option Nat} (hh : HdR g hd A) {i : Nat} {v : Value} (vi : VR P.ρ g (.ref i) v) : SndAt P g st s A (do
        match ← getO i with
        | .exc C d tb ctx => do
          excCls G C
          flightA i none
          match hd with
          | none => raiseA i
          | some h => do
            match ← getO h with
            | .exc _ _ _ true => (match Nat.beq h i with
              | true => stuck
              | false => do
                setO i (.exc C d tb false)
                raiseA i)
            | _ => stuck
        | _ => stuck : AM AFlow) (raiseStmt env (some (pure v)) none) (fun _ _ _ => False) := by
  obtain ⟨e, he, rfl⟩ := vi
  refine .getO fun o ho => ?_
  rcases o with ⟨⟩ <;> first | exact .stuck | skip
  rename_i C d tb ctx
  refine .excCls fun c hc hx => ?_
  refine hideGoal fun Φ hΦ => ?_
  obtain ⟨ob, vs, k1, k2, k3, k4, k5, k6, k7⟩ := R.excAt ho he
  refine hΦ ?_
  clear hΦ Φ
  unfold raiseStmt
  refine .step (wpAny_pure ?_)
  refine .step (wpAny_pure ?_)
  refine .step (wpAny_holding (excFrom_ok O R hc hx k1 k2 k4 ?_))
  dsimp only
  refine .step (isType_ok k1 k4 ?_)
  rw [if_neg (by decide)]
  refine .step (raisedInst_ok O R hc hx k1 k2 ?_)
  refine (flightA_ok (fl := none) (fr := none) R he rfl).bindAt fun _ _ g' st' s' e1 l R' _ => ?_
  have he' := l.adr he
  -- the exception is as it was
  have ho' : st'.get i = some (.exc C d tb ctx) := by
    unfold flightA at e1
    rw [bind_ok (getO_ok ho)] at e1
    cases tb with
    | none => cases e1; exact ho
    | some t =>
      dsimp only at e1
      cases qt : st.get t with
      | none => rw [bind_stuck (getO_none qt)] at e1; cases e1
      | some ot =>
        rw [bind_ok (getO_ok qt)] at e1
        rcases ot with ⟨⟩ <;> first | (cases e1; done) | skip
        cases e1
        rw [St.get_eq R'.1.ok, St.set_eq R.1.ok]
        rw [St.get_eq R.1.ok] at ho qt
        show rnth (rset st.l t _) i = _
        rw [rnth_rset (rnth_lt qt), if_neg]
        · exact ho
        · rintro rfl; rw [ho] at qt; cases qt
  unfold raiseNew
  cases hd with
  | none =>
    have hh : A.handled = none := hh
    refine .raised rfl (wpAny_bind (wpAny_handled ?_))
    rw [hh]
    exact wpAny_bind (wpAny_pure (wpAny_throw ⟨g', e, .refl _, R', he', rfl⟩))
  | some h =>
    obtain ⟨x, hx1, hx2⟩ := hh
    dsimp only
    refine .getO fun oh hoh => ?_
    rcases oh with ⟨⟩ <;> first | exact .stuck | skip
    rename_i C2 d2 tb2 ctx2
    cases ctx2 with
    | false => exact .stuck
    | true =>
      cases q : Nat.beq h i with
      | true => exact .stuck
      | false =>
        dsimp only
        have hne : x ≠ e := R'.neq (l.adr hx1) he' (Nat.ne_of_beq_eq_false q)
        refine hideGoal fun Φ hΦ => ?_
        obtain ⟨obh, vh, j1, j2, j3, j4, j5, j6, j7⟩ := R'.excAt hoh (l.adr hx1)
        refine hΦ ?_
        clear hΦ Φ
        refine hideGoal fun Φ hΦ => ?_
        obtain ⟨ob2, vs2, m1, m2, m3, m4, m5, m6, m7⟩ := R'.excAt ho' he'
        refine hΦ ?_
        clear hΦ Φ
        refine .raised (i := i) (st' := st'.set i (.exc C d tb false)) rfl (wpAny_bind (wpAny_handled ?_))
        rw [hx2]
        dsimp only
        rw [if_pos (by simpa using hne)]
        refine wpAny_bind (wpAny_holding (wpAny_runValue (codeAny_builtin (id := "proto.unchain") (b := Builtin.«proto.unchain») (entryFor_of_tree (by kernel_rfl)) ?_)))
        unfold Builtin.«proto.unchain»
        refine wpAny_bind (wpAny_field j1 j4 (j7 rfl) ?_)
        rw [if_pos (by decide)]
        refine wpAny_bind (wpAny_pure (wpAny_pure ?_))
        refine wpAny_bind ?_
        unfold updateField
        refine wpAny_bind (wpAny_load m1 ?_)
        rw [m4]
        dsimp only
        rw [if_pos (by omega)]
        refine wpAny_update m1 (wpAny_throw ⟨g', e, .refl _, ?_, he', rfl⟩)
        refine R'.set (tk := s'.toks) ho' he' (Heap.SameBut.update ..).extBut (Heap.get?_update_self _ m1 (Obj.isFreed_of_fields (Obj.data_mapFields m4 _))) ?_ rfl
        refine hideGoal fun Φ hΦ => ?_
        obtain ⟨oc, od, odt, osl⟩ := ob2
        refine hΦ ?_
        clear hΦ Φ
        dsimp only at m2 m3 m4
        subst m2 m4
        refine ⟨_, rfl, m3, rfl, by rw [Array.size_setIfInBounds]; exact m5, ?_, fun q => by cases q⟩
        cases tb with
        | none => show (vs2.setIfInBounds 2 _)[1]? = _; rw [Array.getElem?_setIfInBounds_ne (by decide)]; exact m6
        | some t => obtain ⟨T, z1, z2⟩ := m6; exact ⟨T, z1, by rw [Array.getElem?_setIfInBounds_ne (by decide)]; exact z2⟩
end
end Mine

end
section
set_option maxRecDepth 100000
namespace Mine
open PySem PySem.W PySem.Calls PySem.SeqAt PyProof.Rows

section
variable {P : Par} {G : Glob} {g : Gh} {st : St} {s : Shared} {A : Around} {Γ : AEnv} {env : Env} {r : Rec}

theorem excMatches_ok (O : GOK P G) (R : RepS P g st s) {C a : Nat} {c c' : Cls} {e : Addr} {ob : Obj} {vs : Array Value} {Q : Bool → Shared → Prop} {E : Value → Shared → Prop} (hc : G.cls C = some c) (hx : c.exc = true) (hc' : G.cls a = some c') (hx' : c'.exc = true)
    (ho : s.heap.get? e = some ob) (hcl : ob.cls = .ref C) (hd : ob.data = .fields vs) (hQ : Q (Nat.beq C a) s) : wpAny (model P.prog P.w) A (excMatches (.ref e) (.ref a)) Q E s := by
  obtain ⟨W, hC, _⟩ := excAt O R hc hx
  obtain ⟨W', hA, _⟩ := excAt O R hc' hx'
  have hcB : (Value.ref a :: [Value.type "Exception", .type "BaseException", .type "object"]).contains (.type "BaseException") = true := by simp
  have hcC : (Value.ref C :: [Value.type "Exception", .type "BaseException", .type "object"]).contains (.ref a) = Nat.beq C a := by
    by_cases h : C = a
    · subst h; simp
    · have : Nat.beq C a = false := by
        cases z : Nat.beq C a with
        | false => rfl
        | true => exact absurd (Nat.eq_of_beq_eq_true z) h
      rw [this]
      simp
      exact fun z => h z.symm
  refine hideGoal fun Φ hΦ => ?_
  obtain ⟨hp, gg, dr, t, os⟩ := s
  refine hΦ ?_
  clear hΦ Φ
  have f := tc_notTuple
  unfold excMatches
  repeat (first | (with_reducible refine wpAny_loadPart_at ho ?_; rw [hcl]) | (with_reducible refine wpAny_isSubtype_exc hA ?_; rw [hcB]) | (with_reducible refine wpAny_isSubtype_exc hC ?_; rw [hcC]) | (with_reducible refine wpAny_loadPart_at hA ?_) | wp_step)
  cases hb : Nat.beq C a with
  | true =>
    rw [hb] at hQ
    rw [if_pos rfl]
    exact wpAny_pure (wpAny_pure (wpAny_pure hQ))
  | false =>
    rw [hb] at hQ
    rw [if_neg (by decide)]
    refine wpAny_pure ?_
    exact wpAny_pure (wpAny_pure hQ)

theorem fdel_get {x y : Str} : ∀ {m : List (Str × AV)}, fget y (fdel x m) = if y = x then none else fget y m
  | [] => by simp [fdel, fget]
  | p :: r => by
    show fget y (match strEq p.1 x with | true => fdel x r | false => p :: fdel x r) = _
    rw [strEq_dec]
    by_cases h : p.1 = x
    · rw [decide_eq_true h]
      dsimp only
      rw [fdel_get, fget_cons]
      by_cases q : y = x
      · simp [q]
      · have : ¬ p.1 = y := fun e => q (e.symm.trans h)
        simp [q, this]
    · rw [decide_eq_false h]
      dsimp only
      rw [fget_cons, fget_cons, fdel_get]
      by_cases q : p.1 = y
      · subst q; simp [h]
      · simp [q]

set_option tactic.hygienic true in
/-- the handler's name goes -/
theorem delN_ok {x : Str} {pos : Pos} (R : RepS P g st s) (X : EnvR P g Γ env) : SndAt P g st s A (delN Γ x) (do
      bindName env x .none
      unbindBehindTheSuite env x pos) (fun _ _ _ => True) := by
  have hk := X.kindOf x
  have hp : (env.scope.kind == .class || (env.scope.kind == .module && env.locals != env.globals)) = false := by rw [X.fn]; rfl
  unfold delN
  cases q : Mine.kindOf Γ x with
  | none => exact .stuck
  | some k =>
    rw [q] at hk
    rcases k with ⟨⟩ <;> first | exact .stuck | skip
    dsimp only
    refine .getO fun o ho => ?_
    rcases o with ⟨⟩ <;> first | exact .stuck | skip
    rename_i m
    obtain ⟨mv, h1, h2⟩ := R.ns ho X.loc
    refine .val set_ok ?_
    refine wpAny_bind ?_
    unfold bindName
    refine wpAny_bind (wpAny_holding (wpAny_point ?_))
    refine wpAny_bind (wpAny_storeName_local hk h1 (fun h' hn hs => ?_) hp)
    refine wpAny_point ?_
    unfold unbindBehindTheSuite
    refine wpAny_onRaise (wpAny_unbindName_local (s := { s with heap := h', toks := s.toks + 1 }) (v := .none) hk hn (by simp) hp fun h'' u hn2 hs2 => ?_)
    refine ⟨g, .refl _, ?_, trivial⟩
    refine hideGoal fun Φ hΦ => ?_
    obtain ⟨o', es, ep, k1, k2, k3, k4⟩ := hn2
    refine hΦ ?_
    clear hΦ Φ
    refine R.set (tk := s.toks + 1) ho X.loc (hs.trans hs2).extBut k1 ⟨es, ep, k2, k3, fun y b hb => ?_⟩ rfl
    rw [fdel_get] at hb
    rw [k4]
    by_cases qy : y = x
    · simp [qy] at hb
    · simp only [qy, if_false] at hb ⊢
      exact h2 y b hb

set_option tactic.hygienic true in
/-- nothing is let go of at the unpacking of the iterators here -/
theorem letOwned_ok {target : Expr} {v u : Value} {i : Nat} (R : RepS P g st s) (hi : ItR g i v) (hk : ∀ k, st.get i = some (.it k) → k ≠ .dead) {Q : Unit → Shared → Prop} {E : Value → Shared → Prop} (h : Q () s) : wpAny (model P.prog P.w) A (letOwnedTupleGo target v u) Q E s := by
  refine hideGoal fun Φ hΦ => ?_
  obtain ⟨a, ha, rfl, ht⟩ := hi
  refine hΦ ?_
  clear hΦ Φ
  obtain ⟨o, ho, h2⟩ := R.1.ofTag ht
  have : ∃ k, o = .it k := by
    rcases o with ⟨⟩ <;> first | exact ⟨_, rfl⟩ | (exfalso; revert h2; simp [tagOf])
  obtain ⟨k, rfl⟩ := this
  obtain ⟨ob, q2, q3⟩ := R.1.atA ha ho
  have hc : ∃ n, ob.cls = .type n ∧ (["enumerate", "zip", "dict_itemiterator", "dict_reverseitemiterator", "odict_iterator", "itertools.zip_longest", "itertools.pairwise"].contains n) = false := by
    cases k with
    | seq v i => obtain ⟨_, _, z, _⟩ := q3; rcases z with z | z <;> exact ⟨_, z, by decide⟩
    | byt l => obtain ⟨_, _, _, z, _⟩ := q3; exact ⟨_, z, by decide⟩
    | rng c s n => have q3 : ob = _ := q3; subst q3; exact ⟨_, rfl, by decide⟩
    | keys d i n ep => obtain ⟨_, _, z, _⟩ := q3; exact ⟨_, z, by decide⟩
    | dead => exact absurd rfl (hk _ ho)
  obtain ⟨n, hn, hcn⟩ := hc
  unfold letOwnedTupleGo
  have tail : ∀ {M : Model}, wpAny M A (match (Value.ref a, u) with
    | (.ref r, .ref a') => do
      let o ← load r
      match o.cls, o.data with
      | .type n, .fields vs =>
        if ["enumerate", "zip", "dict_itemiterator", "dict_reverseitemiterator", "odict_iterator", "itertools.zip_longest", "itertools.pairwise"].contains n && vs[0]? == some (rawInt a') then
          rule "for.unpacks-the-owned-tuple"
          updateField r 0 .none
      | _, _ => pure ()
    | _ => pure () : Sem Unit) Q E s := by
    intro M
    rcases u with ⟨⟩ <;> first | exact wpAny_pure h | skip
    refine wpAny_bind (wpAny_load q2 ?_)
    rw [hn]
    split
    · rename_i e1 e2
      cases e1
      rw [hcn]
      exact wpAny_pure h
    · exact wpAny_pure h
  split
  · exact tail
  · exact tail
  · exact wpAny_pure h
end
end Mine

end
section
set_option maxRecDepth 100000
namespace Mine
open PySem PySem.W PySem.Calls PySem.SeqAt PyProof.Rows

theorem zip_lookup_some {α β : Type} [BEq α] [LawfulBEq α] : ∀ {ns : List α} {vs : List β} {n : α}, ns.length = vs.length → n ∈ ns → ((ns.zip vs).lookup n).isSome = true
  | [], _, _, _, h => by cases h
  | m :: ns, [], _, h, _ => by cases h
  | m :: ns, v :: vs, n, h, hm => by
    rw [List.zip_cons_cons, List.lookup_cons]
    cases q : n == m with
    | true => rfl
    | false =>
      rcases List.mem_cons.mp hm with e | e
      · subst e; simp at q
      · exact zip_lookup_some (by simpa using h) e
theorem zip_filterMap {β : Type} : ∀ {ns : List Str} {vs : List β}, ns.length = vs.length → ns.Nodup → (ns.filterMap fun n => ((ns.zip vs).lookup n).map (n, ·)) = ns.zip vs
  | [], [], _, _ => rfl
  | m :: ns, v :: vs, h, hn => by
    have hn' := List.nodup_cons.mp hn
    rw [List.zip_cons_cons, List.filterMap_cons, List.lookup_cons]
    simp only [beq_self_eq_true, Option.map_some]
    congr 1
    have key : ∀ l : List Str, (∀ n ∈ l, n ≠ m) → (l.filterMap fun n => (((m, v) :: ns.zip vs).lookup n).map (n, ·)) = l.filterMap fun n => ((ns.zip vs).lookup n).map (n, ·) := by
      intro l
      induction l with
      | nil => intro _; rfl
      | cons a l ih =>
        intro hl
        have e : (((m, v) :: ns.zip vs).lookup a) = (ns.zip vs).lookup a := by
          rw [List.lookup_cons]
          have : (a == m) = false := by rw [beq_eq_false_iff_ne]; exact hl a (.head _)
          rw [this]
        rw [List.filterMap_cons, List.filterMap_cons, e, ih fun n hn => hl n (.tail _ hn)]
    rw [key ns fun n hn2 q => hn'.1 (q ▸ hn2), zip_filterMap (by simpa using h) hn'.2]

theorem bind_simple {fd : FuncData} {as : List Arg} {vs : List Value} (h : fd.params = { posonlyargs := [], args := as, vararg := none, kwonlyargs := [], kw_defaults := [], kwarg := none, defaults := [] }) (hd : fd.defaults = .none) (hl : as.length = vs.length) (hn : (as.map (·.arg)).Nodup) :
    bindArgs fd ⟨vs, []⟩ = pure ((as.map (·.arg)).zip vs) := by
  have hl' : (as.map (·.arg)).length = vs.length := by rw [List.length_map]; exact hl
  have key : ∀ l : List Str, (∀ n ∈ l, n ∈ as.map (·.arg)) → l.filter (fun n => (List.lookup n ((as.map (·.arg)).zip vs)).isNone) = [] := by
    intro l hl
    rw [List.filter_eq_nil_iff]
    intro n hn'
    have := zip_lookup_some hl' (hl n hn')
    cases q : List.lookup n ((as.map (·.arg)).zip vs) with
    | some _ => exact Bool.false_ne_true
    | none => rw [q] at this; cases this
  have e : ∀ (l : List Str) (k : Nat), l.zip (List.drop k ((none : Option (Array Value)).getD #[]).toList) = [] := fun l k => by
    show l.zip (List.drop k []) = []
    rw [List.drop_nil, List.zip_nil_right]
  unfold bindArgs
  rw [h, hd]
  refine Eq.trans (if_neg ?_) ?_
  · exact fun q => absurd (of_decide_eq_true (Bool.and_eq_true_iff.mp q).1) (Nat.not_lt.mpr (Nat.le_of_eq hl'.symm))
  refine Eq.trans (if_neg ?_) ?_
  · exact fun q => Bool.false_ne_true (Eq.trans (congrArg (fun z : List Str => !z.isEmpty) (Eq.symm (key _ fun n hn => List.mem_of_mem_take hn))) q)
  rw [e]
  exact congrArg (pure : List (Str × Value) → Sem (List (Str × Value))) ((congrArg (List.filterMap fun n => Option.map (fun x => (n, x)) (List.lookup n ((as.map (·.arg)).zip vs))) (List.append_nil (as.map (·.arg)))).trans (zip_filterMap hl' hn))
end Mine

end
section
set_option maxRecDepth 100000
namespace Mine
open PySem PySem.W PySem.Calls PySem.SeqAt PyProof.Rows

section
variable {P : Par} {G : Glob} {g : Gh} {st : St} {s : Shared} {A : Around} {Γ : AEnv} {env : Env} {r : Rec}

noncomputable def cellBody (x : Str × NameKind) (cells : List (Str × Addr)) : Sem (ForInStep (List (Str × Addr))) := match x with
  | (name, kind) => if kind == .cell then do
      let a ← alloc { cls := .type "cell", data := .cell none }
      pure (.yield ((name, a) :: cells))
    else pure (.yield cells)

theorem cells_ok : ∀ {names : List (Str × NameKind)} {cs : List (Str × Nat)} {cells : List (Str × Addr)} {g : Gh} {st : St} {s : Shared}, RepS P g st s → A2 (CellR g) cs cells →
    SndAt P g st s A (cellsFor names cs) (forIn names cells cellBody) (fun g' a b => A2 (CellR g') a b)
  | [], cs, cells, g, st, s, R, h => .val rfl (wpAny_pure ⟨g, .refl _, R, h⟩)
  | (x, k) :: names, cs, cells, g, st, s, R, h => by
    rw [List.forIn_cons]
    unfold cellsFor
    have other : k ≠ .cell → SndAt P g st s A (cellsFor names cs) (cellBody (x, k) cells >>= fun r => match r with | .done b => pure b | .yield b => forIn names b cellBody) (fun g' a b => A2 (CellR g') a b) := by
      intro hk
      have e : cellBody (x, k) cells = pure (.yield cells) := by
        show (if (k == NameKind.cell) = true then _ else _) = _
        rw [if_neg (by simpa using hk)]
      rw [e]
      exact .step (wpAny_pure (cells_ok R h))
    cases k with
    | cell =>
      refine .abs (newO_ok _ _) ?_
      have e : cellBody (x, .cell) cells = (do
        let a ← alloc { cls := .type "cell", data := .cell none }
        pure (.yield ((x, a) :: cells))) := by
        exact if_pos (e := pure (ForInStep.yield cells)) (show (NameKind.cell == NameKind.cell) = true by decide)
      rw [e]
      rw [bind_assoc]
      simp only [pure_bind]
      have R2 : RepS P (g.push s.heap.objs.size (.cell none)) (st.push (.cell none)) { s with heap := s.heap.push { cls := .type "cell", data := .cell none } } := ⟨R.1.alloc ⟨none, rfl, trivial⟩, R.2⟩
      intro hn
      refine wpS_bind (.of (wpAny_alloc ?_))
      refine wpS_mono (cells_ok R2 (cs := (x, st.n) :: cs) (cells := (x, s.heap.objs.size) :: cells) ⟨⟨rfl, R.1.adrNew⟩, h.mono fun _ _ z => z.mono (g.push_le _ _)⟩ hn) (fun b s' ⟨a, st', g', e1, l, R', v⟩ => ⟨a, st', g', e1, (g.push_le _ _).trans l, R', v⟩) fun e s' ⟨i, st', g', y, e1, l, z⟩ => ⟨i, st', g', y, e1, (g.push_le _ _).trans l, z⟩
    | _ => exact other (by intro q; cases q)

noncomputable def bindBody (env : Env) (x : Str × Value) (_ : Unit) : Sem (ForInStep Unit) := match x with
  | (name, v) => do
    storeName env name v
    pure (.yield ())
theorem binds_ok : ∀ {as : List Arg} {vs : List AV} {ws : List Value} {g : Gh} {st : St} {s : Shared}, EnvR P g Γ env → RepS P g st s → A2 (VR P.ρ g) vs ws → as.length = ws.length →
    SndAt P g st s A (bindAll Γ as vs) (forIn ((as.map (·.arg)).zip ws) () (bindBody env)) (fun _ _ _ => True)
  | [], [], [], g, st, s, X, R, _, _ => .val rfl (wpAny_pure ⟨g, .refl _, R, trivial⟩)
  | a :: as, v :: vs, w :: ws, g, st, s, X, R, ⟨h1, h2⟩, hl => by
    rw [List.map_cons, List.zip_cons_cons, List.forIn_cons]
    unfold bindAll
    have e : bindBody env (a.arg, w) () = (storeName env a.arg w >>= fun _ => pure (.yield ())) := rfl
    rw [e]
    rw [bind_assoc]
    simp only [pure_bind]
    exact ((storeN_ok X h1) g st s (.refl _) R).bindAt fun _ _ g' st' s' _ l R' _ => binds_ok (X.mono l) R' (h2.mono fun _ _ z => z.mono l) (by simpa using hl)
  | [], _ :: _, _, _, _, _, _, _, _, _ => .stuck
  | _ :: _, [], _, _, _, _, _, _, _, _ => .stuck
  | [], [], _ :: _, _, _, _, _, _, h, _ => h.elim
  | _ :: _, _ :: _, [], _, _, _, _, _, h, _ => h.elim
end
end Mine

end
section
set_option maxRecDepth 100000
namespace Mine
open PySem PySem.W PySem.Calls PySem.SeqAt PyProof.Rows

section
variable {P : Par} {G : Glob} {g : Gh} {st : St} {s : Shared} {A : Around} {Γ : AEnv} {env : Env} {r : Rec}

theorem newEnv_eq (scope : Scope) (globals : Addr) (closure : List (Str × Addr)) (binds : List (Str × Value)) (qual : Str) (func : Option Addr) (code : Value) (builtins : Addr) :
    newFunctionEnv scope globals closure binds qual func code none builtins = (do
      let locals ← alloc { cls := .type "frame", data := .dict #[] }
      let cells ← forIn scope.names closure cellBody
      let _ ← forIn binds () (bindBody { scope, locals, globals, cells, qual, func, code, frame := some locals, builtins })
      pure { scope, locals, globals, cells, qual, func, code, frame := some locals, builtins }) := by
  rfl

/-- the new frame and its cells, before the arguments -/
noncomputable def frameA (names : List (Str × NameKind)) (cs : List (Str × Nat)) : AM (Nat × List (Str × Nat)) := do
  let l ← newO (.frame [])
  let cs ← cellsFor names cs
  pure (l, cs)

noncomputable def FlowR (ρ : Nat → Int) (g : Gh) : AFlow → Flow → Prop
  | .next, .next => True
  | .ret a, .ret v => VR ρ g a v
  | _, _ => False
theorem FlowR.mono {ρ : Nat → Int} {g g' : Gh} (l : g.le g') {a : AFlow} {f : Flow} (h : FlowR ρ g a f) : FlowR ρ g' a f := by
  rcases a with ⟨⟩ <;> rcases f with ⟨⟩ <;> first | exact h | exact VR.mono l h

/-- where code runs: its environment, the frames around, the frame on top -/
structure CtxR (P : Par) (g : Gh) (Γ : AEnv) (env : Env) (A : Around) (n : Nat) : Prop where
  er : EnvR P g Γ env
  ar : ArR g A Γ.hd n
  top : TopFr g A env Γ.fr
theorem CtxR.mono {g g' : Gh} (l : g.le g') {n : Nat} (h : CtxR P g Γ env A n) : CtxR P g' Γ env A n := ⟨h.er.mono l, h.ar.mono l, h.top.mono l⟩
theorem CtxR.less {n m : Nat} (h : CtxR P g Γ env A n) (l : m ≤ n) : CtxR P g Γ env A m := ⟨h.er, h.ar.less l, h.top⟩

/-- a code that runs on in turns -/
noncomputable def CodeSnd (P : Par) (g : Gh) (A : Around) (env : Env) (m : AM AFlow) (c : Code) : Prop :=
  ∀ g₁ st s, g.le g₁ → RepS P g₁ st s → m st ≠ .stuck → codeS (model P.prog P.w) A c (fun r s' => match r with
    | .ok f => SOk P g₁ m st (FlowR P.ρ) f s'
    | .error e => ∀ B : Around, wpS (model P.prog P.w) B (ownBack env e) (fun _ s'' => SErr P g₁ m st e s'') (fun _ _ => False) s') s
theorem runOwn_ok {m : AM AFlow} {c : Code} {hd : Option Value} (x : CodeSnd P g (A.mark hd) env m c) (hnb : hd ≠ some byPass) : Snd P g A m (runOwn c env hd) (FlowR P.ρ) := by
  intro g₁ st s h R hn
  rw [runOwn_eq]
  refine wpS_onRaise (wpS_run (codeS_mono (x g₁ st s h R hn) fun r s' z => ?_) hnb)
  cases r with
  | ok f => exact z
  | error e => exact wpS_mono (z A) (fun _ _ q => q) fun _ _ q => q.elim

/-- a comprehension's turns, which raise nothing -/
noncomputable def CompSnd (P : Par) (g : Gh) (A : Around) (m : AM Unit) (c : Code) : Prop :=
  ∀ g₁ st s, g.le g₁ → RepS P g₁ st s → (∃ st', m st = .ok () st') → codeS (model P.prog P.w) A c (fun r s' => match r with
    | .ok _ => ∃ st' g', m st = .ok () st' ∧ g₁.le g' ∧ RepS P g' st' s'
    | .error _ => False) s
/-- soundness of a record of the recursion -/
structure RecOK (P : Par) (G : Glob) (r : Rec) (n : Nat) : Prop where
  eval : ∀ {g : Gh} {A : Around} {Γ : AEnv} {env : Env} {e : Expr}, CtxR P g Γ env A n → Snd P g A (r.eval Γ e) (PySem.eval e env) (VR P.ρ)
  isTrue : ∀ {g : Gh} {A : Around} {Γ : AEnv} {env : Env} {e : Expr}, CtxR P g Γ env A n → Snd P g A (r.isTrue Γ e) (PySem.isTrue e env (PySem.eval e env)) (fun _ c b => b = c)
  exec : ∀ {g : Gh} {A : Around} {Γ : AEnv} {env : Env} {x : Stmt}, CtxR P g Γ env A n → Snd P g A (r.exec Γ x) (PySem.exec x env) (FlowR P.ρ)
  assign : ∀ {g : Gh} {A : Around} {Γ : AEnv} {env : Env} {t : Expr} {a : AV} {v : Value}, CtxR P g Γ env A n → VR P.ρ g a v → Snd P g A (r.assign Γ t a) (PySem.assign t env v) (fun _ _ _ => True)
  call : ∀ {g : Gh} {A : Around} {hd : Option Nat} {f : AV} {args : List AV} {v : Value} {vs : List Value}, ArR g A hd n → VR P.ρ g f v → A2 (VR P.ρ g) args vs → Snd P g A (r.call hd f args) (PySem.call v vs) (VR P.ρ)
  whileL : ∀ {g : Gh} {A : Around} {Γ : AEnv} {env : Env} {t : Expr} {b : List Stmt}, CtxR P g Γ env A n → CodeSnd P g A env (r.whileL Γ t b) (.whileLoop t b [] env)
  forL : ∀ {g : Gh} {A : Around} {Γ : AEnv} {env : Env} {t : Expr} {b : List Stmt} {i : Nat} {v : Value}, CtxR P g Γ env A n → ItR g i v → CodeSnd P g A env (r.forL Γ t i b) (.forLoop t v b [] env)
  comp : ∀ {g : Gh} {A : Around} {Γ : AEnv} {env : Env} {elt target iter : Expr} {scope : Scope} {pos : Pos} {i acc : Nat} {v : Value} {a : Addr}, CtxR P g Γ env A n → ItR g i v → g.adr acc = some a →
    CompSnd P g A (r.comp Γ elt target i acc) (.compLoop (.ListComp elt [⟨target, iter, [], 0⟩] scope pos) 0 v (.ref a) env)

theorem execs_ok {n : Nat} (H : RecOK P G r n) : ∀ {ss : List Stmt} {g : Gh}, CtxR P g Γ env A n → Snd P g A (execsW (r.exec Γ) ss) (execs ss env) (FlowR P.ρ)
  | [], g, X => fun g₁ st s h R => .val rfl (wpAny_pure ⟨g₁, .refl _, R, trivial⟩)
  | x :: ss, g, X => by
    unfold execsW
    show Snd P g A _ (do
      match ← exec x env with
      | .next => execs ss env
      | f => pure f) _
    refine (H.exec X).bind fun a b g' l v => ?_
    cases a with
    | next =>
      rcases b with ⟨⟩ <;> first | exact v.elim | skip
      exact execs_ok H (X.mono l)
    | ret a =>
      rcases b with ⟨⟩ <;> first | exact v.elim | skip
      exact .pure fun g'' l' => v.mono l'

theorem SndAt.up {α β : Type} {m : AM α} {t : Sem β} {V : Gh → α → β → Prop} {g' : Gh} (l : g.le g') (h : SndAt P g' st s A m t V) : SndAt P g st s A m t V := fun hn =>
  wpS_mono (h hn) (fun b s' ⟨a, st', g'', e1, l', R', v⟩ => ⟨a, st', g'', e1, l.trans l', R', v⟩) fun e s' ⟨i, st', g'', y, e1, l', z⟩ => ⟨i, st', g'', y, e1, l.trans l', z⟩
/-- a function's environment -/
theorem newEnv_ok {a : Nat} {f : Fn} {o : Obj} {fd : FuncData} (F : FnAt P a f o fd) {args : List AV} {vs : List Value} {hd : Option Nat} (R : RepS P g st s) (va : A2 (VR P.ρ g) args vs) (hl : f.params.args.length = vs.length) :
    SndAt P g st s A (do
      let l ← newO (.frame [])
      let cs ← cellsFor f.scope.names []
      bindAll ⟨f.scope, l, l, cs, f.name ++ ".<locals>.", f.tab, hd⟩ f.params.args args
      pure (⟨f.scope, l, l, cs, f.name ++ ".<locals>.", f.tab, hd⟩ : AEnv)) (newFunctionEnv fd.scope fd.globals fd.closure ((f.params.args.map (·.arg)).zip vs) (f.name ++ ".<locals>.") (some a) fd.code none fd.builtins)
      (fun g' Γ env => EnvR P g' Γ env ∧ Γ.fr = Γ.loc ∧ ∃ l L, Γ = ⟨f.scope, l, l, Γ.cells, f.name ++ ".<locals>.", f.tab, hd⟩ ∧ g'.adr l = some L ∧ env.frame = some L ∧ rnth g'.tg l = some 6) := by
  rw [newEnv_eq, F.closure]
  refine .abs (newO_ok _ _) ?_
  have R1 : RepS P (g.push s.heap.objs.size (.frame [])) (st.push (.frame [])) { s with heap := s.heap.push { cls := .type "frame", data := .dict #[] } } :=
    ⟨R.1.alloc ⟨#[], _, rfl, (fun e he => by simp at he), fun x a h => by cases h⟩, R.2⟩
  have l0 := g.push_le s.heap.objs.size (.frame [])
  have hL : (g.push s.heap.objs.size (.frame [])).adr st.n = some s.heap.objs.size := R.1.adrNew
  have hT : rnth (g.push s.heap.objs.size (.frame [])).tg st.n = some 6 := by
    rw [R1.1.tg]
    show rnth ((AO.frame [] :: st.l).map tagOf) st.n = _
    rw [rnth_map, show st.n = st.l.length from R.1.ok, rnth_cons]; rfl
  refine fun hn => wpS_bind (.of (wpAny_alloc (SndAt.up l0 ?_ hn)))
  rw [F.scope]
  refine (cells_ok (A := A) (names := f.scope.names) R1 (cs := []) (cells := []) trivial).bindAt fun cs cells g' st' s' _ l R' hc => ?_
  have X : EnvR P g' ⟨f.scope, st.n, st.n, cs, f.name ++ ".<locals>.", f.tab, hd⟩ { scope := f.scope, locals := s.heap.objs.size, globals := fd.globals, cells := cells, qual := f.name ++ ".<locals>.", func := some a, code := fd.code, frame := some s.heap.objs.size, builtins := fd.builtins } :=
    ⟨rfl, F.kind, l.adr hL, l.tag hT, F.globals, F.builtins, hc, ⟨_, l.adr hL, rfl⟩, l.tag hT, fun _ => rfl, fun t e => let ⟨c, T, k1, k2, k3⟩ := F.tab t e; ⟨c, T, k1, k2, R'.1.tabs _ k3⟩⟩
  refine (binds_ok (A := A) X R' (va.mono fun _ _ z => (z.mono l0).mono l) hl).bindAt fun _ _ g'' st'' s'' _ l' R'' _ => ?_
  exact .val rfl (wpAny_pure ⟨g'', .refl _, R'', X.mono l', rfl, st.n, s.heap.objs.size, rfl, l'.adr (l.adr hL), rfl, l'.tag (l.tag hT)⟩)
end
end Mine

end
section
set_option maxRecDepth 100000
namespace Mine
open PySem PySem.W PySem.Calls PySem.SeqAt PyProof.Rows

section
variable {P : Par} {G : Glob} {g : Gh} {st : St} {s : Shared} {A : Around} {Γ : AEnv} {env : Env} {r : Rec}

theorem leavingSnd {α β : Type} {m : AM α} {t : Sem β} {V : Gh → α → β → Prop} {fr : Nat} (x : SndAt P g st s A m t V) (T : TopFr g A env fr) :
    SndAt P g st s A (onErr m (leavingA fr)) (t.onRaise (leaving env)) V := by
  intro hn
  have hm : m st ≠ .stuck := fun q => hn (onErr_stuck q)
  refine wpS_onRaise (wpS_mono (x hm) (fun b s' ⟨a, st', g', e, l, R, v⟩ => ⟨a, st', g', onErr_ok e, l, R, v⟩) fun e s' ⟨i, st', g', y, e1, l, R, ha, he⟩ => ?_)
  subst he
  have eq := onErr_err (f := leavingA fr) e1
  have hf : leavingA fr i st' ≠ .stuck := fun q => hn (by rw [eq, q])
  refine wpS_mono (leavingA_ok R (T.mono l) ha hf) (fun _ s₁ ⟨_, st₁, g₁, e2, l2, R2, _⟩ => ?_) fun e' s₁ ⟨j, st₁, g₁, y', e2, _⟩ => ?_
  · exact ⟨i, st₁, g₁, y, by rw [eq, e2], l.trans l2, R2, l2.adr ha, rfl⟩
  · exact absurd (by rw [eq, e2]) hn

theorem codeS_func {prog : Program} {w : World} {R : Result → Shared → Prop} {body : List Stmt}
    (h : wpS (model prog w) (A.deeper env) ((execs body env).onRaise (leaving env)) (fun f s' => R (.ok (.ret (match f with | .ret v => v | _ => .none))) s') (fun e s' => R (.error e) s') s) :
    codeS (model prog w) A (.func body env) R s := by
  refine codeS_of_tree rfl ?_
  show wpS _ (A.deeper env) (do point; match ← (execs body env).onRaise (leaving env) with | .ret v => ret v | _ => ret .none) _ _ s
  refine wpS_bind (.of (wpAny_point ?_))
  refine wpS_bind (wpS_mono h (fun f s' h' => ?_) fun _ _ h' => h')
  rcases f with ⟨⟩ <;> exact wpS_pure h'
theorem codeS_expr {prog : Program} {w : World} {R : Result → Shared → Prop} {body : Expr}
    (h : wpS (model prog w) (A.deeper env) ((eval body env).onRaise (leaving env)) (fun v s' => R (.ok (.ret v)) s') (fun e s' => R (.error e) s') s) :
    codeS (model prog w) A (.expr body env) R s := by
  refine codeS_of_tree rfl ?_
  show wpS _ (A.deeper env) (do point; ret (← (eval body env).onRaise (leaving env))) _ _ s
  refine wpS_bind (.of (wpAny_point ?_))
  exact wpS_bind (wpS_mono h (fun f s' h' => wpS_pure h') fun _ _ h' => h')

theorem codeS_call_function {prog : Program} {w : World} {R : Result → Shared → Prop} {a : Addr} {args : Args} {o : Obj} {fd : FuncData} {code : Env → Code} (hroom : A.depth < recursionLimit)
    (ho : s.heap.get? a = some o)
    (hd' : o.data = .func fd) (hco : fd.scope.isCoroutine = false) (hgen : fd.scope.isGenerator = false) (hbody : (fun env => match fd.body with | .stmts b => Code.func b env | .expr e => Code.expr e env) = code) (hq : ∀ env, (code env).quiet = true) (hcd : s.heap.CodeRec fd.code fd.qualname)
    {binds : List (Str × Value)} (hb : bindArgs fd args = pure binds)
    (h : wpS (model prog w) A.in1 (newFunctionEnv fd.scope fd.globals fd.closure binds (fd.qualname ++ ".<locals>.") (some a) fd.code none fd.builtins)
        (fun env s₂ => s₂.heap.NoLimit ∧ codeS (model prog w) A (code env) R s₂) (fun e s' => R (.error e) s') s) :
    codeS (model prog w) A (.call (.ref a) args) R s := by
  subst hbody
  refine codeS_of_tree rfl ?_
  show wpS _ A.in1 (callAny (.ref a) args) _ _ s
  simp only [callAny]
  refine wpS_bind (.of (wpAny_load ho ?_))
  refine hideGoal fun Φ hΦ => ?_
  obtain ⟨c, oc, vs, tq, hc, hoc, hdc, hq'⟩ := hcd
  refine hΦ ?_
  clear hΦ Φ
  simp only [hd', callFunction, hco, hgen, hc, hb]
  rw [hc] at h
  refine wpS_bind (m := field (.ref c) 1) (.of (wpAny_field hoc hdc hq' ?_))
  refine wpS_bind (wpS_pure ?_)
  refine wpS_bind (wpS_pure ?_)
  refine wpS_bind (wpS_mono h (fun env s₂ h₂ => ?_) fun _ _ h' => h')
  refine wpS_bind (.of (wpAny_enterFrame h₂.1 hroom ?_))
  exact wpS_pure ⟨hq env, h₂.2⟩

theorem am_assoc {α β γ : Type} (m : AM α) (f : α → AM β) (k : β → AM γ) : (m >>= f) >>= k = m >>= fun a => f a >>= k := by
  funext st
  show AM.bind (AM.bind m f) k st = AM.bind m (fun a => AM.bind (f a) k) st
  unfold AM.bind
  cases m st <;> rfl
theorem am_pure {α β : Type} (a : α) (f : α → AM β) : (pure a >>= f : AM β) = f a := by
  funext st; rfl

theorem ArR.deeper {n : Nat} {hd : Option Nat} (X : ArR g A hd (n + 1)) (e : FrOk g env) : ArR g (A.deeper env) hd n := by
  refine hideGoal fun Φ hΦ => ?_
  obtain ⟨h1, h2, h3, l, h4, h5⟩ := X
  refine hΦ ?_
  clear hΦ Φ
  refine ⟨?_, ?_, ?_, env :: l, ?_, ?_⟩
  · rcases hd with ⟨⟩ <;> exact h1
  · show A.depth + 1 + 4 * n + 8 < recursionLimit
    omega
  · rw [Around.deeper_units]; omega
  · show A.frames.map (env :: ·) = _
    rw [h4]; rfl
  · intro x hx
    rcases List.mem_cons.mp hx with rfl | hx
    · exact e
    · exact h5 x hx
theorem TopFr.deeper {n : Nat} {hd : Option Nat} {fr : Nat} {L : Addr} (X : ArR g A hd n) (e : FrOk g env) (h1 : g.adr fr = some L) (h2 : env.frame = some L) (h3 : rnth g.tg fr = some 6) : TopFr g (A.deeper env) env fr := by
  refine hideGoal fun Φ hΦ => ?_
  obtain ⟨_, _, _, l, h4, h5⟩ := X
  refine hΦ ?_
  clear hΦ Φ
  refine ⟨⟨env, l, ?_, rfl, ?_⟩, L, h1, h2, h3⟩
  · show A.frames.map (env :: ·) = _
    rw [h4]; rfl
  · intro x hx
    rcases List.mem_cons.mp hx with rfl | hx
    · exact e
    · exact h5 x hx

/-- a call of a function of the text's -/
theorem callFn_ok {n : Nat} (H : RecOK P G r n) (K : GOK P G) {a : Nat} {f : Fn} {hd : Option Nat} {args : List AV} {vs : List Value} (X : ArR g A hd (n + 1)) (hf : G.fns a = some f) (va : A2 (VR P.ρ g) args vs) :
    Snd P g A (callFn r hd f args) (call (.ref a) vs) (VR P.ρ) := by
  intro g₁ st s l R
  unfold callFn
  cases hl : Nat.beq f.params.args.length args.length with
  | false => exact .stuck
  | true =>
  have hl' : f.params.args.length = vs.length := (Nat.eq_of_beq_eq_true hl).trans va.len
  obtain ⟨o, fd, F⟩ := K.fns a f hf
  have eq : (do
      let l ← newO (.frame [])
      let cs ← cellsFor f.scope.names []
      let Γ : AEnv := ⟨f.scope, l, l, cs, f.name ++ ".<locals>.", f.tab, hd⟩
      bindAll Γ f.params.args args
      match ← onErr (execsW (r.exec Γ) f.body) (leavingA l) with
      | .ret v => pure v
      | .next => pure .none : AM AV) = (do
      let l ← newO (.frame [])
      let cs ← cellsFor f.scope.names []
      bindAll ⟨f.scope, l, l, cs, f.name ++ ".<locals>.", f.tab, hd⟩ f.params.args args
      pure (⟨f.scope, l, l, cs, f.name ++ ".<locals>.", f.tab, hd⟩ : AEnv) : AM AEnv) >>= fun Γ => onErr (execsW (r.exec Γ) f.body) (leavingA Γ.loc) >>= fun x => match x with
      | .ret v => pure v
      | .next => pure .none := by
    simp only [am_assoc, am_pure]
  show SndAt P g₁ st s A (do
      let l ← newO (.frame [])
      let cs ← cellsFor f.scope.names []
      let Γ : AEnv := ⟨f.scope, l, l, cs, f.name ++ ".<locals>.", f.tab, hd⟩
      bindAll Γ f.params.args args
      match ← onErr (execsW (r.exec Γ) f.body) (leavingA l) with
      | .ret v => pure v
      | .next => pure .none : AM AV) _ _
  rw [eq]
  intro hn
  refine wpS_call ?_
  refine codeS_call_function (code := fun env => .func f.body env) (binds := (f.params.args.map (·.arg)).zip vs) (by have := X.depth; omega) (R.1.keep _ _ F.at_) F.data (F.scope ▸ F.co) (F.scope ▸ F.gen) (by funext env; rw [F.body]) (fun _ => rfl) (F.code.keeps R.1.keep) (bind_simple F.params F.defaults hl' F.names) ?_
  rw [F.qual]
  have hm := fun q => hn (bind_stuck q)
  refine wpS_mono (newEnv_ok (A := A.in1) F R (va.mono fun _ _ => VR.mono l) hl' hm) (fun env s' ⟨Γ, st', g', e, l', R', E, hfr, li, L, eqΓ, hL, hLf, hT⟩ => ⟨K.lim.keeps R'.1.keep, ?_⟩) fun e s' ⟨i, st', g', x, e1, l', z⟩ => ⟨i, st', g', x, bind_err e1, l', z⟩
  rw [bind_ok e] at hn
  have hfl : Γ.fr = li := by rw [eqΓ]
  have hlo : Γ.loc = li := by rw [eqΓ]
  have hhd : Γ.hd = hd := by rw [eqΓ]
  have fo : FrOk g' env := ⟨by rw [E.scope, E.kind]; decide, li, L, hT, hL, hLf⟩
  have X' : ArR g' A hd (n + 1) := (X.mono l).mono l'
  have C : CtxR P g' Γ env (A.deeper env) n := ⟨E, hhd ▸ X'.deeper fo, hfl ▸ TopFr.deeper X' fo hL hLf hT⟩
  refine codeS_func ?_
  have ho : onErr (execsW (r.exec Γ) f.body) (leavingA Γ.loc) st' ≠ .stuck := fun q => hn (bind_stuck q)
  refine wpS_mono (leavingSnd (execs_ok H C g' st' s' (.refl _) R') (hlo ▸ hfl ▸ C.top) ho) (fun fl s'' ⟨a', st'', g'', e2, l2, R2, v⟩ => ?_) fun e' s'' ⟨i, st'', g'', x, e2, l2, z⟩ => ⟨i, st'', g'', x, (bind_ok e).trans (bind_err e2), l'.trans l2, z⟩
  cases a' with
  | ret av =>
    rcases fl with ⟨⟩ <;> first | exact v.elim | skip
    exact ⟨av, st'', g'', (bind_ok e).trans (by rw [bind_ok e2]; rfl), l'.trans l2, R2, v⟩
  | next =>
    rcases fl with ⟨⟩ <;> first | exact v.elim | skip
    exact ⟨.none, st'', g'', (bind_ok e).trans (by rw [bind_ok e2]; rfl), l'.trans l2, R2, rfl⟩
end
end Mine

end
section
set_option maxRecDepth 100000
namespace Mine
open PySem PySem.W PySem.Calls PySem.SeqAt PyProof.Rows

section
variable {P : Par} {G : Glob} {g : Gh} {st : St} {s : Shared} {A : Around} {Γ : AEnv} {env : Env} {r : Rec}

theorem ArR.under_type_call {n : Nat} {hd : Option Nat} {C : Addr} {rest : List Value} (X : ArR g A hd (n + 1)) : ArR g (A.under (.builtin "type.__call__" ⟨.ref C :: rest, []⟩)) hd n := by
  have hw : (Code.builtin "type.__call__" ⟨.ref C :: rest, []⟩).weight = 1 := by rfl
  have he : (Code.builtin "type.__call__" ⟨.ref C :: rest, []⟩).envs = [] := by rfl
  have hu : (Code.builtin "type.__call__" ⟨.ref C :: rest, []⟩).cUnits = 1 := by rfl
  refine hideGoal fun Φ hΦ => ?_
  obtain ⟨h1, h2, h3, l, h4, h5⟩ := X
  refine hΦ ?_
  clear hΦ Φ
  refine ⟨?_, ?_, ?_, l, ?_, h5⟩
  · rcases hd with ⟨⟩ <;> exact h1
  · show A.depth + _ + 4 * n + 8 < recursionLimit
    rw [hw]; omega
  · show A.units + _ + 100 * n + 100 < cLine
    rw [hu]; omega
  · show pushEnvs (Code.builtin "type.__call__" ⟨.ref C :: rest, []⟩).envs A.frames = some l
    rw [he]; exact h4

section
variable {prog : Program} {w : World} {E : Value → Shared → Prop}
variable {nm q : Str} {C N : Addr} {bs bm : List Value} {sn : List Str} {sub : List Value} {ab : Bool} {col : Option Bool} {dd : Option Addr} {k0 k1 k2 k3 k5 : Option Value} {newId Bn : String} {mN : Str → Option Value} {fI x : Addr} {oI ox : Obj} {rest : List Value} {h' : Heap} {y : Option Value}

theorem callAny_cls {Q : Fin → Shared → Prop} (hC : s.heap.get? C = some (excClassObj nm q C N bs bm true sn sub ab col dd k0 k1 k2 k3 k5 newId))
    (h : Q (.again (.call (.builtin "type.__call__") ⟨.ref C :: rest, []⟩)) s) : wpAny (model prog w) A (callAny (.ref C) ⟨rest, []⟩) Q E s := by
  have f1 := tc_lookup
  have f2 := tc_bind (.ref C)
  have hT : s.TypeIs (.ref C) "type" := ⟨_, hC, rfl⟩
  refine hideGoal fun Φ hΦ => ?_
  obtain ⟨hp, gn, d, t, os⟩ := s
  refine hΦ ?_
  clear hΦ Φ
  repeat (any_goals (first | assumption | with_reducible refine wpAny_loadPart_at hC ?_ | wp_step))

theorem inst_cls {Q : Bool → Shared → Prop} {gn d t os} (hC : h'.get? C = some (excClassObj nm q C N bs bm true sn sub ab col dd k0 k1 k2 k3 k5 newId)) (hget : h'.get? x = some ox) (hxc : ox.cls = .ref C)
    (h : Q true ⟨h', gn, d, t, os⟩) : wpAny (model prog w) A (isInstance (.ref x) (.ref C)) Q E ⟨h', gn, d, t, os⟩ := by
  have hcC : (Value.ref C :: bm).contains (.ref C) = true := by simp
  have hT : (⟨h', gn, d, t, os⟩ : Shared).heap.get? x = some ox := hget
  unfold isInstance
  repeat (first | (with_reducible refine wpAny_loadPart_at hget ?_; rw [hxc]) | (with_reducible refine wpAny_isSubtype_exc hC ?_; rw [hcC]) | wp_step)
  exact h
theorem special_cls {Q : Option Value → Shared → Prop} {gn d t os} {name : Str} (hC : h'.get? C = some (excClassObj nm q C N bs bm true sn sub ab col dd k0 k1 k2 k3 k5 newId)) (hn : h'.Ns N mN) (hget : h'.get? x = some ox) (hxc : ox.cls = .ref C)
    (hbm : mroOf (.type Bn) = pure bm) (hlk : typeLookup (.type Bn) name = pure y) (h : Q (match mN name with | some v => some v | none => y) ⟨h', gn, d, t, os⟩) :
    wpAny (model prog w) A (specialOf (.ref x) name) Q E ⟨h', gn, d, t, os⟩ := by
  unfold specialOf
  refine wpAny_bind (wpAny_typeOf_ref (s := ⟨h', gn, d, t, os⟩) hget ?_)
  rw [hxc]
  exact wpAny_typeLookup_exc hC hn hbm hlk h

theorem clsCall_ok {Q : Value → Shared → Prop} (hC : s.heap.get? C = some (excClassObj nm q C N bs bm true sn sub ab col dd k0 k1 k2 k3 k5 newId))
    (hnew : wpAny (model prog w) (A.under (.builtin "type.__call__" ⟨.ref C :: rest, []⟩)) (call (.builtin newId) (.ref C :: rest)) (fun v s' => v = .ref x ∧ s' = { s with heap := h' }) (fun _ _ => False) s)
    (hC' : h'.get? C = some (excClassObj nm q C N bs bm true sn sub ab col dd k0 k1 k2 k3 k5 newId)) (hn' : h'.Ns N mN) (hx : h'.get? x = some ox) (hxc : ox.cls = .ref C) (hi : mN "__init__" = some (.ref fI)) (hfI : h'.get? fI = some oI) (hfc : oI.cls = .type "function")
    (hbm : mroOf (.type Bn) = pure bm) (hlk : typeLookup (.type Bn) "__init__" = pure y)
    (hq : wpS (model prog w) (A.under (.builtin "type.__call__" ⟨.ref C :: rest, []⟩)) (call (.ref fI) (.ref x :: rest)) (fun r s' => r = .none ∧ Q (.ref x) s') E { s with heap := h' }) :
    wpS (model prog w) A (call (.ref C) rest) Q E s := by
  refine wpS_call (codeS_of_tree rfl ?_)
  show wpS _ A.in1 (callAny (.ref C) ⟨rest, []⟩) _ _ s
  refine .of (callAny_cls hC ⟨rfl, ?_⟩)
  refine codeS_of_tree rfl ?_
  show wpS _ A.in1 (do checkBuiltinCall "type.__call__" ⟨.ref C :: rest, []⟩; again (.builtin "type.__call__" ⟨.ref C :: rest, []⟩)) _ _ s
  refine wpS_bind (.of ?_)
  have ck : ∀ {hp gn d t os} {Q : Unit → Shared → Prop} {E : Value → Shared → Prop}, hp.get? C = some (excClassObj nm q C N bs bm true sn sub ab col dd k0 k1 k2 k3 k5 newId) → Q () ⟨hp, gn, d, t, os⟩ → wpAny (model prog w) A.in1 (checkBuiltinCall "type.__call__" ⟨.ref C :: rest, []⟩) Q E ⟨hp, gn, d, t, os⟩ := fun h1 h2 => wpAny_check_type_call_sub h1 h2
  refine ck hC (wpS_pure ⟨Code.quiet_builtin _ (by decide +kernel), codeS_builtin F.entry_type_call (by decide +kernel) ?_⟩)
  unfold Builtin.«type.__call__»
  dsimp only
  refine wpS_ifN (by intro z; cases z) ?_
  refine wpS_bind (.of (wpAny_mroOf_exc hC ?_))
  refine wpS_ifN Bool.false_ne_true ?_
  refine wpS_bind (.of (wpAny_madeBy_exc hC ?_))
  dsimp only
  refine wpS_bind (wpS_pure ?_)
  refine wpS_bind (wpS_holding (.of (wpAny_mono hnew (fun v s₁ ⟨e1, e2⟩ => ?_) fun _ _ z => z.elim)))
  subst e1 e2
  refine wpS_bind (.of (inst_cls hC' hx hxc ?_))
  refine wpS_ifN Bool.false_ne_true ?_
  refine wpS_bind (wpS_holding ?_)
  unfold callSpecial?
  refine wpS_bind (.of (special_cls hC' hn' hx hxc hbm hlk ?_))
  rw [hi]
  dsimp only
  refine wpS_holding (wpS_bind ?_)
  unfold bindSpecial
  refine wpS_bind (.of (wpAny_typeOf (T := "function") ⟨_, hfI, hfc⟩ ?_))
  rw [if_pos (by decide)]
  refine wpS_pure (wpS_bind (wpS_mono hq (fun r s' ⟨e1, hQ⟩ => ?_) fun _ _ z => z))
  subst e1
  refine wpS_pure ?_
  show wpS _ _ (if (Value.none != Value.none) = true then _ else _) _ _ _
  rw [if_neg (by decide)]
  exact wpS_pure hQ
end
end
end Mine

end
section
set_option maxRecDepth 100000
namespace Mine
open PySem PySem.W PySem.Calls PySem.SeqAt PyProof.Rows

section
variable {P : Par} {G : Glob} {g : Gh} {st : St} {s : Shared} {A : Around} {Γ : AEnv} {env : Env} {r : Rec}

/-- what `__init__` does with the new object -/
theorem callC_fin {n : Nat} (H : RecOK P G r n) {hd : Option Nat} {f x : Addr} {xi : Nat} {args : List AV} {vs : List Value} {g₁ : Gh} (X : ArR g A hd n) (l2 : g₁.le g) (R2 : RepS P g st s) (hx : g.adr xi = some x) (va : A2 (VR P.ρ g) args vs)
    (hn : (r.call hd (.old f) (.ref xi :: args) >>= fun v => match v with | .none => pure (.ref xi) | _ => stuck : AM AV) st ≠ .stuck) :
    wpS (model P.prog P.w) A (call (.ref f) (.ref x :: vs))
      (fun v s' => v = .none ∧ SOk P g₁ (r.call hd (.old f) (.ref xi :: args) >>= fun v => match v with | .none => pure (.ref xi) | _ => stuck : AM AV) st (VR P.ρ) (.ref x) s')
      (SErr P g₁ (r.call hd (.old f) (.ref xi :: args) >>= fun v => match v with | .none => pure (.ref xi) | _ => stuck : AM AV) st) s := by
  have hm := fun q => hn (bind_stuck q)
  refine wpS_mono ((H.call (f := .old f) (args := .ref xi :: args) (v := .ref f) (vs := .ref x :: vs) X rfl ⟨⟨x, hx, rfl⟩, va⟩) g st s (.refl _) R2 hm) (fun v s' ⟨a, st', g', e1, l, R, hv⟩ => ?_) fun e s' ⟨i, st', g', y, e1, l, z⟩ => ⟨i, st', g', y, bind_err e1, l2.trans l, z⟩
  rw [bind_ok e1] at hn
  rcases a with ⟨⟩ <;> first | exact absurd rfl hn | skip
  exact ⟨hv, _, st', g', bind_ok e1, l2.trans l, R, x, l.adr hx, rfl⟩

theorem callC_ok {n : Nat} (H : RecOK P G r n) (K : GOK P G) {a : Nat} {c : Cls} {hd : Option Nat} {args : List AV} {vs : List Value} (X : ArR g A hd (n + 1)) (hc : G.cls a = some c) (va : A2 (VR P.ρ g) args vs) :
    Snd P g A (do
      let x ← (match c.exc with
        | true => do
          fit args.length
          newO (.exc a none none true)
        | false => do
          let d ← newO (.idict [])
          newO (.inst a d))
      match ← r.call hd (.old c.init) (.ref x :: args) with
      | .none => pure (.ref x)
      | _ => stuck) (call (.ref a) vs) (VR P.ρ) := by
  intro g₁ st s l R
  obtain ⟨W, Z⟩ := K.cls a c hc
  have hC := R.1.keep _ _ Z.at_
  have hN : s.heap.Ns W.N W.mN := Z.ns.keeps R.1.keep
  have hI := R.1.keep _ _ Z.initAt
  have va1 := va.mono fun _ _ => VR.mono l
  have kd := Z.kind
  cases he : c.exc with
  | false =>
    rw [he] at kd
    rw [if_neg Bool.false_ne_true] at kd
    rw [kd.1, kd.2.1, kd.2.2] at hC
    dsimp only
    refine .abs (a := st.n + 1) (st' := (st.push (.idict [])).push (.inst a st.n)) rfl ?_
    intro hn
    have R1 : RepS P (g₁.push s.heap.objs.size (.idict [])) (st.push (.idict [])) { s with heap := s.heap.push { cls := .type "dict", data := .dict #[] } } :=
      ⟨R.1.alloc ⟨#[], _, rfl, (fun e he => by simp at he), (List.Pairwise.nil : UniqKeys #[]), fun y => trivial⟩, R.2⟩
    have R2 : RepS P ((g₁.push s.heap.objs.size (.idict [])).push (s.heap.objs.size + 1) (.inst a st.n)) ((st.push (.idict [])).push (.inst a st.n)) { s with heap := (s.heap.push { cls := .type "dict", data := .dict #[] }).push { cls := .ref a, dict := some s.heap.objs.size, data := .plain } } := by
      have := R1.1.alloc (o := .inst a st.n) (ob := { cls := .ref a, dict := some s.heap.objs.size, data := .plain }) ⟨s.heap.objs.size, (Gh.push_le _ _ _).adr R.1.adrNew, rfl, rfl, (fun c z => by cases z), rfl⟩
      dsimp only at this
      rw [Heap.size_push] at this
      exact ⟨this, R.2⟩
    have l2 : g₁.le ((g₁.push s.heap.objs.size (.idict [])).push (s.heap.objs.size + 1) (.inst a st.n)) := (Gh.push_le _ _ _).trans (Gh.push_le _ _ _)
    have kp : ∀ b o, s.heap.get? b = some o → ((s.heap.push { cls := .type "dict", data := .dict #[] }).push { cls := .ref a, dict := some s.heap.objs.size, data := .plain }).get? b = some o := fun b o e => Heap.get?_push_of_some _ (Heap.get?_push_of_some _ e)
    refine clsCall_ok (x := s.heap.objs.size + 1) (Bn := "object") (mN := W.mN) (y := some (.builtin "object.__init__")) hC ?_ (kp _ _ hC) (hN.keeps kp) (ox := { cls := .ref a, dict := some s.heap.objs.size, data := .plain }) (by heap_get) rfl Z.init (kp _ _ hI) Z.initFn (by kernel_rfl) (by rw [typeLookup_type, builtinLookup_eq_fast]; kernel_rfl) ?_
    · refine hideGoal fun Φ hΦ => ?_
      obtain ⟨hp, gn, d, t, os⟩ := s
      refine hΦ ?_
      clear hΦ Φ
      exact wpAny_call (codeAny_call_builtin_code (Code.quiet_builtin _ F.objNew.quiet) (wpAny_check_obj_new F.objNew hC (codeAny_obj_new F.objNew hC hN Z.init ⟨rfl, rfl⟩)))
    · exact callC_fin H ((X.mono l).mono l2).under_type_call l2 R2 R1.1.adrNew (va1.mono fun _ _ => VR.mono l2) hn
  | true =>
    rw [he] at kd
    rw [if_pos rfl] at kd
    rw [kd.1, kd.2] at hC
    dsimp only
    rw [am_assoc]
    refine .fit fun hfit => .abs (newO_ok _ _) ?_
    intro hn
    have hl : vs.length ≤ sizeLine := le_sizeLine (va.len ▸ hfit)
    have R2 : RepS P (g₁.push (s.heap.objs.size + 1) (.exc a none none true)) (st.push (.exc a none none true)) { s with heap := (s.heap.push { cls := .type "tuple", data := .seq vs.toArray }).push { cls := .ref a, data := .fields #[.ref s.heap.objs.size, .none, .none, .none, .bool false, .none] } } := by
      have R1 := R.1.grow (h' := s.heap.push { cls := .type "tuple", data := .seq vs.toArray }) fun b o e => Heap.get?_push_of_some _ e
      have := R1.alloc (o := .exc a none none true) (ob := { cls := .ref a, data := .fields #[.ref s.heap.objs.size, .none, .none, .none, .bool false, .none] }) ⟨_, rfl, rfl, rfl, by simp, by simp, fun _ => by simp⟩
      rw [Heap.size_push] at this
      exact ⟨this, R.2⟩
    have l2 : g₁.le (g₁.push (s.heap.objs.size + 1) (.exc a none none true)) := Gh.push_le _ _ _
    have kp : ∀ b o, s.heap.get? b = some o → ((s.heap.push { cls := .type "tuple", data := .seq vs.toArray }).push { cls := .ref a, data := .fields #[.ref s.heap.objs.size, .none, .none, .none, .bool false, .none] }).get? b = some o := fun b o e => Heap.get?_push_of_some _ (Heap.get?_push_of_some _ e)
    refine clsCall_ok (x := s.heap.objs.size + 1) (Bn := "Exception") (mN := W.mN) hC ?_ (kp _ _ hC) (hN.keeps kp) (ox := { cls := .ref a, data := .fields #[.ref s.heap.objs.size, .none, .none, .none, .bool false, .none] }) (by heap_get) rfl Z.init (kp _ _ hI) Z.initFn F.excBase_Exception.mroIs F.excBase_Exception.init.lookup ?_
    · refine hideGoal fun Φ hΦ => ?_
      obtain ⟨hp, gn, d, t, os⟩ := s
      refine hΦ ?_
      clear hΦ Φ
      exact wpAny_call (codeAny_call_builtin_code (Code.quiet_builtin _ F.excBase_Exception.quiet) (wpAny_check_new_sub F.excBase_Exception hC (codeAny_exc_new_sub F.excBase_Exception hC ⟨rfl, rfl⟩ hl)))
    · exact callC_fin H ((X.mono l).mono l2).under_type_call l2 R2 R.1.adrNew (va1.mono fun _ _ => VR.mono l2) hn
end
end Mine

end
section
set_option maxRecDepth 100000
namespace Mine
open PySem PySem.W PySem.Calls PySem.SeqAt PyProof.Rows

section
variable {P : Par} {G : Glob} {g : Gh} {st : St} {s : Shared} {A : Around} {Γ : AEnv} {env : Env} {r : Rec}

theorem noCells_val : ∀ {ns : List (Str × NameKind)}, noCells ns st ≠ .stuck → noCells ns st = .ok () st ∧ ∀ p ∈ ns, p.2 ≠ .cell
  | [], _ => ⟨rfl, fun p hp => by cases hp⟩
  | (x, k) :: ns, h => by
    unfold noCells at h ⊢
    rcases k with ⟨⟩ <;> first | exact absurd rfl h | skip
    all_goals
      obtain ⟨h1, h2⟩ := noCells_val h
      refine ⟨h1, fun p hp => ?_⟩
      rcases List.mem_cons.mp hp with rfl | hp
      · intro q; cases q
      · exact h2 p hp
theorem noFree_val : ∀ {ns : List (Str × NameKind)}, noFree ns st ≠ .stuck → noFree ns st = .ok () st ∧ ∀ p ∈ ns, p.2 ≠ .free
  | [], _ => ⟨rfl, fun p hp => by cases hp⟩
  | (x, k) :: ns, h => by
    unfold noFree at h ⊢
    rcases k with ⟨⟩ <;> first | exact absurd rfl h | skip
    all_goals
      obtain ⟨h1, h2⟩ := noFree_val h
      refine ⟨h1, fun p hp => ?_⟩
      rcases List.mem_cons.mp hp with rfl | hp
      · intro q; cases q
      · exact h2 p hp
theorem SndAt.noFree {α β : Type} {ns : List (Str × NameKind)} {f : Unit → AM α} {t : Sem β} {V : Gh → α → β → Prop} (x : (∀ p ∈ ns, p.2 ≠ .free) → SndAt P g st s A (f ()) t V) : SndAt P g st s A (Mine.noFree ns >>= f) t V := by
  intro hn
  have h1 : Mine.noFree ns st ≠ .stuck := fun q => hn (bind_stuck q)
  obtain ⟨e, h2⟩ := noFree_val h1
  exact SndAt.abs e (x h2) hn
theorem SndAt.funScope {α β : Type} {sc : Scope} {f : Unit → AM α} {t : Sem β} {V : Gh → α → β → Prop} (x : sc.kind = .function → sc.isCoroutine = false → sc.isGenerator = false → (∀ p ∈ sc.names, p.2 ≠ .cell) → SndAt P g st s A (f ()) t V) :
    SndAt P g st s A (Mine.funScope sc >>= f) t V := by
  intro hn
  have h1 : Mine.funScope sc st ≠ .stuck := fun q => hn (bind_stuck q)
  have key : Mine.funScope sc st = .ok () st ∧ sc.kind = .function ∧ sc.isCoroutine = false ∧ sc.isGenerator = false ∧ (∀ p ∈ sc.names, p.2 ≠ .cell) := by
    unfold Mine.funScope at h1 ⊢
    cases q1 : sc.kind <;> rw [q1] at h1 <;> first | exact absurd rfl h1 | skip
    cases q2 : sc.isCoroutine <;> rw [q2] at h1 <;> first | exact absurd rfl h1 | skip
    cases q3 : sc.isGenerator <;> rw [q3] at h1 <;> first | exact absurd rfl h1 | skip
    obtain ⟨e, h2⟩ := noCells_val h1
    exact ⟨e, rfl, rfl, rfl, h2⟩
  refine hideGoal fun Φ hΦ => ?_
  obtain ⟨e, k1, k2, k3, k4⟩ := key
  refine hΦ ?_
  clear hΦ Φ
  exact SndAt.abs e (x k1 k2 k3 k4) hn
theorem cellsBody_none : ∀ {ns : List (Str × NameKind)} {cs : List (Str × Addr)}, (∀ p ∈ ns, p.2 ≠ .cell) → forIn ns cs cellBody = (pure cs : Sem _)
  | [], cs, _ => rfl
  | (x, k) :: ns, cs, h => by
    rw [List.forIn_cons]
    have e : cellBody (x, k) cs = pure (.yield cs) := by
      show (if (k == NameKind.cell) = true then _ else _) = _
      rw [if_neg (by simpa using h _ (.head _))]
    rw [e, pure_bind]
    exact cellsBody_none fun p hp => h p (.tail _ hp)

set_option tactic.hygienic true in
/-- a call of a lambda's function -/
theorem callL_ok {n : Nat} (H : RecOK P G r n) (K : GOK P G) {i : Nat} {hd : Option Nat} {args : List AV} {v : Value} {vs : List Value} (X : ArR g A hd (n + 1)) (vi : VR P.ρ g (.ref i) v) (va : A2 (VR P.ρ g) args vs) :
    Snd P g A (do
      match ← getO i with
      | .fn body scope cells qual => (match args with
        | [] => do
          funScope scope
          let l ← newO (.frame [])
          onErr (r.eval ⟨scope, l, l, cells, qual, none, hd⟩ body) (leavingA l)
        | _ => stuck)
      | _ => stuck) (call v vs) (VR P.ρ) := by
  intro g₁ st s l R
  refine .getO fun o ho => ?_
  rcases o with ⟨⟩ <;> first | exact .stuck | skip
  rename_i body scope cells qual
  obtain ⟨x, hx, rfl⟩ := vi
  refine hideGoal fun Φ hΦ => ?_
  obtain ⟨x', ob, h1, h2, name, q, pm, c, ctv, clos, params, rfl, hcs, hcl, hpar⟩ := R.1.at ho
  refine hΦ ?_
  clear hΦ Φ
  have hx1 := l.adr hx
  rw [hx1] at h1; cases h1
  rcases args with ⟨⟩ <;> first | exact .stuck | skip
  rcases vs with ⟨⟩ <;> first | exact va.elim | skip
  dsimp only
  refine .funScope fun k1 k2 k3 k4 => .abs (newO_ok _ _) ?_
  intro hn
  refine wpS_call ?_
  refine codeS_call_function (code := fun env => .expr body env) (binds := []) (by have := X.depth; omega) h2 rfl k2 k3 rfl (fun _ => rfl) (R.1.cds _ hcs).1 (bind_simple (as := []) (vs := []) hpar rfl rfl List.nodup_nil) ?_
  rw [newEnv_eq]
  refine wpS_bind (.of (wpAny_alloc ?_))
  have R1 : RepS P (g₁.push s.heap.objs.size (.frame [])) (st.push (.frame [])) { s with heap := s.heap.push { cls := .type "frame", data := .dict #[] } } :=
    ⟨R.1.alloc ⟨#[], _, rfl, (fun e he => by simp at he), fun x a h => by cases h⟩, R.2⟩
  have l0 := g₁.push_le s.heap.objs.size (.frame [])
  have hL : (g₁.push s.heap.objs.size (.frame [])).adr st.n = some s.heap.objs.size := R.1.adrNew
  have hT : rnth (g₁.push s.heap.objs.size (.frame [])).tg st.n = some 6 := by
    rw [R1.1.tg]
    show rnth ((AO.frame [] :: st.l).map tagOf) st.n = _
    rw [rnth_map, show st.n = st.l.length from R.1.ok, rnth_cons]; rfl
  rw [cellsBody_none k4]
  refine wpS_bind (wpS_pure ?_)
  rw [List.forIn_nil]
  refine wpS_bind (wpS_pure (wpS_pure ⟨K.lim.keeps R1.1.keep, ?_⟩))
  have E : EnvR P (g₁.push s.heap.objs.size (.frame [])) ⟨scope, st.n, st.n, cells, qual, none, hd⟩ { scope := scope, locals := s.heap.objs.size, globals := mainGlobals, cells := clos, qual := q ++ ".<locals>.", func := some x, code := .ref c, frame := some s.heap.objs.size, builtins := builtinsNs } :=
    ⟨rfl, k1, hL, hT, rfl, rfl, hcl.mono fun _ _ z => z.mono l0, ⟨_, hL, rfl⟩, hT, fun q => absurd rfl q, fun t e => by cases e⟩
  have fo : FrOk (g₁.push s.heap.objs.size (.frame [])) { scope := scope, locals := s.heap.objs.size, globals := mainGlobals, cells := clos, qual := q ++ ".<locals>.", func := some x, code := .ref c, frame := some s.heap.objs.size, builtins := builtinsNs : Env } := ⟨by show scope.kind ≠ _; rw [k1]; decide, st.n, _, hT, hL, rfl⟩
  have X' := (X.mono l).mono l0
  refine codeS_expr ?_
  refine wpS_mono (leavingSnd (H.eval ⟨E, X'.deeper fo, TopFr.deeper X' fo hL rfl hT⟩ _ _ _ (.refl _) R1) (TopFr.deeper X' fo hL rfl hT) hn) (fun w s'' ⟨a', st'', g'', e2, l2, R2, v⟩ => ⟨a', st'', g'', e2, l0.trans l2, R2, v⟩) fun e' s'' ⟨i, st'', g'', x, e2, l2, z⟩ => ⟨i, st'', g'', x, e2, l0.trans l2, z⟩

set_option tactic.hygienic true in
theorem callA_ok {n : Nat} (H : RecOK P G r n) (K : GOK P G) {hd : Option Nat} {f : AV} {args : List AV} {v : Value} {vs : List Value} (X : ArR g A hd (n + 1)) (vf : VR P.ρ g f v) (va : A2 (VR P.ρ g) args vs) :
    Snd P g A (callA G r hd f args) (call v vs) (VR P.ρ) := by
  unfold callA
  rcases f with ⟨⟩ <;> first | exact .stuck | skip
  · rename_i i
    exact callL_ok H K X vf va
  · rename_i a
    obtain rfl : v = .ref a := vf
    dsimp only
    cases hf : G.fns a with
    | some fn => simp only [hf]; exact callFn_ok H K X hf va
    | none =>
      simp only [hf]
      cases hc : G.cls a with
      | some c => simp only [hc]; exact callC_ok H K X hc va
      | none => simp only [hc]; exact .stuck
  · rename_i b
    obtain rfl : v = b.val := vf
    intro g₁ st s l R
    exact callB_ok K R (X.mono l).hand (va.mono fun _ _ => VR.mono l)
end
end Mine

end
section
set_option maxRecDepth 100000
namespace Mine
open PySem PySem.W PySem.Calls PySem.SeqAt PyProof.Rows

section
variable {P : Par} {G : Glob} {g : Gh} {st : St} {s : Shared} {A : Around} {Γ : AEnv} {env : Env} {r : Rec}

theorem Snd.plainE {α β : Type} {e : Expr} {f : Unit → AM α} {t : Sem β} {V : Gh → α → β → Prop} (x : (∀ a b, e ≠ .Starred a b) → (∀ a b c, e ≠ .Set a b c) → Snd P g A (f ()) t V) : Snd P g A (Mine.plainE e >>= f) t V := by
  intro g₁ st s l R hn
  have h1 : Mine.plainE e st ≠ .stuck := fun q => hn (bind_stuck q)
  have key : Mine.plainE e st = .ok () st ∧ (∀ a b, e ≠ .Starred a b) ∧ (∀ a b c, e ≠ .Set a b c) := by
    unfold Mine.plainE at h1 ⊢
    cases q : Mine.starE e || Mine.setE e with
    | true => rw [q] at h1; exact absurd rfl h1
    | false =>
      rw [Bool.or_eq_false_iff] at q
      exact ⟨rfl, fun a b z => (by rw [z] at q; cases q.1), fun a b c z => by rw [z] at q; cases q.2⟩
  exact SndAt.abs key.1 (x key.2.1 key.2.2 g₁ st s l R) hn
set_option tactic.hygienic true in
theorem Snd.baseE {α β : Type} {e : Expr} {f : Unit → AM α} {t : Sem β} {V : Gh → α → β → Prop} (x : (∀ a b p, e ≠ .Call (.Name a b) [] [] p) → Snd P g A (f ()) t V) : Snd P g A (Mine.baseE e >>= f) t V := by
  intro g₁ st s l R hn
  have h1 : Mine.baseE e st ≠ .stuck := fun q => hn (bind_stuck q)
  have key : Mine.baseE e st = .ok () st ∧ (∀ a b p, e ≠ .Call (.Name a b) [] [] p) := by
    unfold Mine.baseE at h1 ⊢
    split at h1
    · exact absurd rfl h1
    · rename_i h
      exact ⟨rfl, fun a b p q => h a b p q⟩
  exact SndAt.abs key.1 (x key.2 g₁ st s l R) hn
theorem base_whole {o : Expr} {attr : Str} {w : Sem Value} (h : ∀ a b p, o ≠ .Call (.Name a b) [] [] p) : attributeBase o attr env w = w := by
  unfold attributeBase
  split
  · exact absurd rfl (h _ _ _)
  · rfl

theorem starEach_cons {e : Expr} {es : List Expr} (h : ∀ a b, e ≠ .Starred a b) : starEach (e :: es) env = (false, eval e env) :: starEach es env := by
  rcases e with ⟨⟩ <;> first | rfl | exact absurd rfl (h _ _)
theorem noStar_cons {e : Expr} {es : List Expr} (h : noStar (e :: es) = true) : (∀ a b, e ≠ .Starred a b) ∧ noStar es = true := by
  unfold noStar at h
  cases q : Mine.starE e with
  | true => rw [q] at h; cases h
  | false =>
    rw [q] at h
    exact ⟨fun a b z => (by rw [z] at q; cases q), h⟩
theorem noStar_any {pos : Pos} : ∀ {es : List Expr}, noStar es = true → (backTo pos (starEach es env)).any (·.1) = false
  | [], _ => rfl
  | e :: es, h => by
    obtain ⟨h1, h2⟩ := noStar_cons h
    rw [starEach_cons h1]
    show (false || (backTo pos (starEach es env)).any (·.1)) = false
    rw [noStar_any h2]; rfl
theorem noStar_all {pos : Pos} {es : List Expr} (h : noStar es = true) : (backTo pos (starEach es env)).all (fun x => !x.1) = true := by
  have := noStar_any (pos := pos) (env := env) h
  rw [List.any_eq_false] at this
  rw [List.all_eq_true]
  intro x hx
  have := this x hx
  simpa using this

/-- the items of a display, the arguments of a call -/
theorem evals_ok {n : Nat} (H : RecOK P G r n) {pos : Pos} : ∀ {es : List Expr} {g : Gh}, CtxR P g Γ env A n → Snd P g A (evals (r.eval Γ) es) (spliced (backTo pos (starEach es env))) (fun g' vs ws => A2 (VR P.ρ g') vs ws)
  | [], g, X => .pure fun _ _ => trivial
  | e :: es, g, X => by
    unfold evals
    refine .plainE fun h1 h2 => ?_
    rw [starEach_cons h1]
    show Snd P g A _ (do
      let v ← eval e env
      return [v] ++ (← holding [v] (spliced (backTo pos (starEach es env))))) _
    refine (H.eval X).bind fun a v g' l hv => ?_
    refine (evals_ok H (X.mono l)).holding.bind fun vs ws g'' l' hvs => .pure fun g3 l3 => ?_
    exact ⟨(hv.mono l').mono l3, hvs.mono fun _ _ => VR.mono l3⟩

theorem wpS_evalArgs {M : Model} {f : Value} {args : List (Bool × Sem Value)} {Q : Args → Shared → Prop} {E : Value → Shared → Prop} (hn : args.any (·.1) = false) (h : wpS M A (spliced args) (fun vs s' => Q ⟨vs, []⟩ s') E s) : wpS M A (evalArgs f true args []) Q E s := by
  have fin : wpS M A (spliced args >>= fun vs => pure (vs, (none : Option Value)) >>= fun (x : List Value × Option Value) => holding (x.1 ++ x.2.toList) (do
      let readLate (keep : List Value) : Sem (List Value) := do
        let some s := x.2 | return x.1
        if ← notIterableAtAll s then
          rule "call.star.not-iterable"
          raiseError "TypeError" s!"{← functionStr f} argument after * must be an iterable, not {← typeNameOf s}"
        holding keep (collect s)
      let kw : List (Str × Value) := (([] : List (Option Str × Sem Value)).filterMap (·.1)).zip (← evalAll (([] : List (Option Str × Sem Value)).map (·.2)))
      return (⟨← readLate (kw.map (·.2)), kw⟩ : Args))) Q E s := by
    refine wpS_bind (wpS_mono h (fun vs s' h' => ?_) fun _ _ x => x)
    refine wpS_bind (wpS_pure (wpS_holding ?_))
    exact wpS_bind (wpS_pure (wpS_bind (wpS_pure (wpS_pure h'))))
  unfold evalArgs
  rcases args with _ | ⟨⟨b, x⟩, rest⟩
  · exact fin
  · have hb : b = false := by
      simp only [List.any_cons, Bool.or_eq_false_iff] at hn
      exact hn.1
    subst hb
    exact fin

theorem keeper_fn {M : Model} {a : Addr} {o : Obj} {Q : Keeper → Shared → Prop} {E : Value → Shared → Prop} (ho : s.heap.get? a = some o) (hc : o.cls = .type "function") (h : ∀ k, Q k s) : wpAny M A (keeperOf (.ref a)) Q E s := by
  have hT : s.TypeIs (.ref a) "function" := ⟨o, ho, hc⟩
  have lk : typeLookup (.type "function") "__call__" = pure (some (.builtin "function.__call__")) := by rw [typeLookup_type, builtinLookup_eq_fast]; kernel_rfl
  unfold keeperOf
  refine wpAny_bind (wpAny_load ho ?_)
  split
  · exact wpAny_pure (h _)
  · exact wpAny_bind (wpAny_specialOf hT lk (wpAny_pure (h _)))
  · rw [hc, if_pos (by decide)]
    exact wpAny_pure (h _)
  · exact wpAny_pure (h _)
theorem keeper_cls {M : Model} {nm q : Str} {C N : Addr} {bs bm : List Value} {hdct : Bool} {sn : List Str} {sub : List Value} {ab : Bool} {col : Option Bool} {dd : Option Addr} {k0 k1 k2 k3 k5 : Option Value} {newId : String}
    {Q : Keeper → Shared → Prop} {E : Value → Shared → Prop} (hC : s.heap.get? C = some (excClassObj nm q C N bs bm hdct sn sub ab col dd k0 k1 k2 k3 k5 newId)) (h : ∀ k, Q k s) : wpAny M A (keeperOf (.ref C)) Q E s := by
  have hT : s.TypeIs (.ref C) "type" := ⟨_, hC, rfl⟩
  unfold keeperOf
  refine wpAny_bind (wpAny_load hC ?_)
  dsimp only
  exact wpAny_bind (wpAny_specialOf hT tc_lookup (wpAny_pure (h _)))
set_option tactic.hygienic true in
theorem keeper_ok (O : GOK P G) (R : RepS P g st s) {f : AV} {v : Value} (vf : VR P.ρ g f v) (hn : calleeA G f st ≠ .stuck) {Q : Keeper → Shared → Prop} {E : Value → Shared → Prop} (h : ∀ k, Q k s) : wpAny (model P.prog P.w) A (keeperOf v) Q E s := by
  unfold calleeA at hn
  rcases f with ⟨⟩ <;> first | exact absurd rfl hn | skip
  · rename_i i
    obtain ⟨x, hx, rfl⟩ := vf
    cases e : st.get i with
    | none => exact absurd (bind_stuck (getO_none e)) hn
    | some o =>
      dsimp only at hn
      rw [bind_ok (getO_ok e)] at hn
      rcases o with ⟨⟩ <;> first | exact absurd rfl hn | skip
      refine hideGoal fun Φ hΦ => ?_
      obtain ⟨ob, h2, name, q, pm, c, ctv, clos, params, rfl, _⟩ := R.1.atA hx e
      refine hΦ ?_
      clear hΦ Φ
      exact keeper_fn h2 rfl h
  · rename_i a
    obtain rfl : v = .ref a := vf
    cases hf : G.fns a with
    | some fn =>
      obtain ⟨o, fd, F⟩ := O.fns a fn hf
      exact keeper_fn (R.1.keep _ _ F.at_) F.cls h
    | none =>
      cases hc : G.cls a with
      | none => simp only [hf, hc] at hn; exact absurd rfl hn
      | some c =>
        obtain ⟨W, Z⟩ := O.cls a c hc
        exact keeper_cls (R.1.keep _ _ Z.at_) h
  · rename_i b
    obtain rfl : v = b.val := vf
    rcases b with ⟨⟩ <;> exact wpAny_pure (h _)

theorem wpS_operate {M : Model} {vs : List Value} {m : Sem Value} {Q : Value → Shared → Prop} {E : Value → Shared → Prop} (h : wpS M A m Q E s) : wpS M A (operate vs m) Q E s := by
  unfold operate
  exact wpS_bind (wpS_holding (wpS_mono h (fun r s' q => wpS_bind (.of (wpAny_release (wpS_pure q)))) fun _ _ x => x))

theorem callWith_ok {n : Nat} (H : RecOK P G r n) (X : CtxR P g Γ env A n) {args : List Expr} {m : List AV → AM AV} {v : Value} {first : List Value} {pos pos' : Pos} (hns : noStar args = true)
    (hk : ∀ vs g' st s, g.le g' → RepS P g' st s → m vs st ≠ .stuck → ∀ (Q : Keeper → Shared → Prop) (E : Value → Shared → Prop), (∀ k, Q k s) → wpAny (model P.prog P.w) A (keeperOf v) Q E s)
    (hm : ∀ vs ws g', g.le g' → A2 (VR P.ρ g') vs ws → Snd P g' A (m vs) (call v (first ++ ws)) (VR P.ρ)) :
    Snd P g A (evals (r.eval Γ) args >>= m) (callWith pos v first (backTo pos' (starEach args env)) []) (VR P.ρ) := by
  intro g₁ st s l R hn
  unfold callWith
  have hm' := fun q => hn (bind_stuck q)
  have ha := noStar_any (pos := pos') (env := env) hns
  refine wpS_bind (wpS_holding (wpS_evalArgs ha (wpS_mono (evals_ok H X g₁ st s l R hm') (fun ws s₁ ⟨vs, st', g', e, l', R', hv⟩ => ?_) fun _ _ z => z.fail)))
  refine wpS_bind (wpS_standAt ?_)
  rw [bind_ok e] at hn
  refine wpS_next e ?_
  simp only [ha, List.any_nil, Bool.or_false]
  have ht := hm vs ws g' (l.trans l') hv g' st' s₁ (.refl _) R' hn
  have ht2 : wpS (model P.prog P.w) A (call v (first ++ ws) []) (SOk P g₁ (m vs) st' (VR P.ρ)) (SErr P g₁ (m vs) st') s₁ :=
    wpS_mono ht (fun _ _ z => z.up l') fun _ _ z => z.up l'
  refine wpS_bind (.of (hk vs g' st' s₁ (l.trans l') R' hn _ _ fun k => ?_))
  have tail : ∀ {t : Sem Value} {Q : Value → Shared → Prop} {E : Value → Shared → Prop}, wpS (model P.prog P.w) A t Q E s₁ → wpS (model P.prog P.w) A (t >>= fun r => holding [r] point >>= fun _ => pure r) Q E s₁ :=
    fun ht => wpS_bind (wpS_mono ht (fun r s₂ hr => wpS_bind (wpS_holding (.of (wpAny_point (wpS_pure hr))))) fun _ _ x => x)
  cases k
  · dsimp only
    split
    · exact tail ht2
    · exact tail (wpS_keep ht2)
  · dsimp only
    split
    · exact tail ht2
    · exact tail (wpS_keep ht2)
  · exact tail ht2
  · exact tail (wpS_operate ht2)
end
end Mine

end
section
set_option maxRecDepth 100000
namespace Mine
open PySem PySem.W PySem.Calls PySem.SeqAt PyProof.Rows

section
variable {P : Par} {G : Glob} {g : Gh} {st : St} {s : Shared} {A : Around} {Γ : AEnv} {env : Env} {r : Rec}

theorem keeper_cal (O : GOK P G) (R : RepS P g st s) {c : Callee} {p : Value × List Value} (h : CalR P G g c p) {Q : Keeper → Shared → Prop} {E : Value → Shared → Prop} (hk : ∀ k, Q k s) : wpAny (model P.prog P.w) A (keeperOf p.1) Q E s := by
  obtain ⟨v, first⟩ := p
  cases c with
  | fn f self =>
    refine hideGoal fun Φ hΦ => ?_
    obtain ⟨rfl, ⟨c, C, x, h1, h2⟩, _⟩ := h
    refine hΦ ?_
    clear hΦ Φ
    obtain ⟨W, Z⟩ := O.cls C c h1
    refine hideGoal fun Φ hΦ => ?_
    obtain ⟨_, o, h3, h4, _⟩ := Z.meths _ h2
    refine hΦ ?_
    clear hΦ Φ
    exact keeper_fn (R.1.keep _ _ h3) h4 hk
  | append i => obtain ⟨rfl, _⟩ := h; exact wpAny_pure (hk _)
  | values i => obtain ⟨rfl, _⟩ := h; exact wpAny_pure (hk _)
  | get i => obtain ⟨rfl, _⟩ := h; exact wpAny_pure (hk _)
  | pop i => obtain ⟨rfl, _⟩ := h; exact wpAny_pure (hk _)
  | index vs => obtain ⟨rfl, _⟩ := h; exact wpAny_pure (hk _)
  | init => obtain ⟨rfl, _⟩ := h; exact wpAny_pure (hk _)

/-- the call of what a method's name stands for -/
theorem callM_ok {n : Nat} (H : RecOK P G r n) (O : GOK P G) {hd : Option Nat} (X : ArR g A hd n) {c : Callee} {p : Value × List Value} (hp : CalR P G g c p) {args : List AV} {vs : List Value} (va : A2 (VR P.ρ g) args vs) :
    Snd P g A (callM G r hd c args) (call p.1 (p.2 ++ vs)) (VR P.ρ) := by
  by_cases hc : ∃ f x, c = .fn f x
  · obtain ⟨f, x, rfl⟩ := hc
    obtain ⟨v, first⟩ := p
    refine hideGoal fun Φ hΦ => ?_
    obtain ⟨rfl, _, u, rfl, hu⟩ := hp
    refine hΦ ?_
    clear hΦ Φ
    exact H.call (f := .old f) X rfl ⟨hu, va⟩
  · intro g₁ st s l R
    exact callM_leaf O R (by have := X.units; omega) (fun f x q => hc ⟨f, x, q⟩) (hp.mono l) (va.mono fun _ _ => VR.mono l)

theorem methodCall_ok {n : Nat} (H : RecOK P G r n) (O : GOK P G) (X : CtxR P g Γ env A n) {o : Expr} {x : Str} {apos pos : Pos} {args : List Expr} (hl : Nat.beq apos.endLine pos.line = true) (hn : Nat.blt args.length 30 = true) (hs : noStar args = true) :
    Snd P g A (do
      baseE o
      let ov ← r.eval Γ o
      let c ← methA G ov x
      let vs ← evals (r.eval Γ) args
      callM G r Γ.hd c vs) (eval (.Call (.Attribute o x apos) args [] pos) env) (VR P.ρ) := by
  refine .baseE fun hb => ?_
  rw [arm_eval_Call, base_whole hb]
  refine (H.eval X).bind fun a v g' l hv => .standAt ?_
  unfold methodCall
  have hf : methodCallForm (args.length + ([] : List Keyword).length) (backTo pos (starEach args env)) (backToKw pos (keywordEach [] env)) = true := by
    have hlt : args.length < 30 := by simpa [Nat.blt_eq] using hn
    show ((backTo pos (starEach args env)).all (fun x => !x.1) && true && decide (args.length + 0 + 0 < 30)) = true
    rw [noStar_all hs]
    simpa using hlt
  have hpos : methodCallPos true o env apos pos = pure pos := by
    unfold methodCallPos
    rw [if_pos (by rw [show (apos.endLine == pos.line) = true from by rw [Nat.eq_of_beq_eq_true hl]; exact beq_self_eq_true _]; rfl)]
  rw [hf, hpos]
  have X' := X.mono l
  intro g₁ st s l1 R
  have hm := methA_ok (A := A) O R (x := x) (pl := do return (← importBound o env).getD true) (hv.mono l1)
  refine SndAt.bindAt (t := holding [v] (calleeOf true o env v x)) (fun hq => wpS_holding (hm hq)) fun c p g2 st2 s2 _ l2 R2 hc => ?_
  have X2 := (X'.mono l1).mono l2
  obtain ⟨f, first⟩ := p
  refine .step (wpAny_pure ?_)
  exact callWith_ok H X2 hs (fun vs g' st s l' R' _ Q E hk => keeper_cal O R' (hc.mono l') hk) (fun vs ws g' l' hvs => callM_ok H O (X2.mono l').ar (hc.mono l') hvs) g2 st2 s2 (.refl _) R2

set_option tactic.hygienic true in
theorem callName_ok {n : Nat} (H : RecOK P G r n) (O : GOK P G) (X : CtxR P g Γ env A n) {f : Expr} {pos : Pos} {args : List Expr} (hf : ∀ o x p, f ≠ .Attribute o x p) (hs : noStar args = true) :
    Snd P g A (do
      let fv ← r.eval Γ f
      let vs ← evals (r.eval Γ) args
      calleeA G fv
      r.call Γ.hd fv vs) (eval (.Call f args [] pos) env) (VR P.ρ) := by
  have e : eval (.Call f args [] pos) env = (do callWith pos (← eval f env) [] (backTo pos (starEach args env)) (backToKw pos (keywordEach [] env))) := by
    rcases f with ⟨⟩ <;> first | rfl | exact absurd rfl (hf _ _ _)
  rw [e]
  refine (H.eval X).bind fun a v g' l hv => ?_
  have X' := X.mono l
  refine callWith_ok H X' hs (fun vs g2 st s l' R' hn Q E hk => keeper_ok O R' (hv.mono l') (fun q => hn (bind_stuck q)) hk) (fun vs ws g2 l' hvs => ?_)
  intro g3 st s l3 R hn
  have hc : calleeA G a st = .ok () st := by
    have h1 : calleeA G a st ≠ .stuck := fun q => hn (bind_stuck q)
    unfold calleeA at h1 ⊢
    rcases a with ⟨⟩ <;> first | exact absurd rfl h1 | rfl | skip
    · rename_i i
      dsimp only at h1 ⊢
      cases q : st.get i with
      | none => exact absurd (bind_stuck (getO_none q)) h1
      | some o =>
        rw [bind_ok (getO_ok q)] at h1 ⊢
        rcases o with ⟨⟩ <;> first | exact absurd rfl h1 | rfl
    · rename_i i
      cases q1 : G.fns i <;> cases q2 : G.cls i <;> simp only [q1, q2] at h1 ⊢ <;> first | rfl | exact absurd rfl h1
  exact SndAt.abs hc ((H.call (X'.mono l').ar (hv.mono l') hvs) g3 st s l3 R) hn
end
end Mine

end
section
set_option maxRecDepth 100000
namespace Mine
open PySem PySem.W PySem.Calls PySem.SeqAt PyProof.Rows

section
variable {P : Par} {G : Glob} {g : Gh} {st : St} {s : Shared} {A : Around} {Γ : AEnv} {env : Env} {r : Rec}

/-- a leaf by a rule about a state -/
theorem Snd.leaf {α β : Type} {m : AM α} {t : Sem β} {V : Gh → α → β → Prop} (h : ∀ g₁ st s, g.le g₁ → RepS P g₁ st s → SndAt P g₁ st s A m t V) : Snd P g A m t V := h
theorem wpS_release {M : Model} {vs keep : List Value} {Q : Unit → Shared → Prop} {E : Value → Shared → Prop} (h : Q () s) : wpS M A (release vs keep) Q E s := .of (wpAny_release h)
theorem Snd.operate {α : Type} {m : AM α} {t : Sem Value} {vs : List Value} {V : Gh → α → Value → Prop} (x : Snd P g A m t V) : Snd P g A m (PySem.operate vs t) V := fun g₁ st s h R hn => wpS_operate (x g₁ st s h R hn)

theorem boolA_ok {n : Nat} (H : RecOK P G r n) {op : BoolOp} {pos : Pos} : ∀ {es : List Expr} {g : Gh}, CtxR P g Γ env A n → Snd P g A (boolA r Γ op es) (boolOp pos op (evalEach es env)) (VR P.ρ)
  | [], g, X => .stuck
  | [e], g, X => H.eval X
  | e :: e' :: es, g, X => by
    unfold boolA
    show Snd P g A _ (do
      let v ← eval e env
      standAt pos
      let t ← holding [v] (truthy v)
      match op, t with
      | .And, false | .Or, true => pure v
      | _, _ => boolOp pos op (evalEach (e' :: es) env)) _
    refine (H.eval X).bind fun a v g' l hv => .standAt ?_
    refine Snd.bind (.holding (.leaf fun g₁ st s l1 R => truthyA_ok R (hv.mono l1))) fun c b g2 l2 hb => ?_
    subst hb
    rcases op with ⟨⟩ <;> cases b
    · exact .pure fun g3 l3 => (hv.mono l2).mono l3
    · exact boolA_ok H ((X.mono l).mono l2)
    · exact boolA_ok H ((X.mono l).mono l2)
    · exact .pure fun g3 l3 => (hv.mono l2).mono l3

theorem allTrueA_ok {n : Nat} (H : RecOK P G r n) {op : BoolOp} : ∀ {es : List Expr} {g : Gh}, CtxR P g Γ env A n → Snd P g A (allTrueA r Γ op es) (allTrue op es env) (fun _ c b => b = c)
  | [], g, X => by
    unfold allTrueA allTrue
    rcases op with ⟨⟩ <;> exact .pure fun _ _ => rfl
  | e :: es, g, X => by
    unfold allTrueA
    show Snd P g A _ (do
      match op, ← isTrue e env (eval e env) with
      | .And, false => pure false
      | .Or, true => pure true
      | _, _ => allTrue op es env) _
    refine (H.isTrue X).bind fun c b g' l hb => ?_
    subst hb
    rcases op with ⟨⟩ <;> cases b
    · exact .pure fun g3 l3 => rfl
    · exact allTrueA_ok H (X.mono l)
    · exact allTrueA_ok H (X.mono l)
    · exact .pure fun g3 l3 => rfl

theorem marked_plain {op : CmpOp} {e : Expr} {t : Sem Value} (h : ∀ a b c, e ≠ .Set a b c) : markedBehindIn op e t = t := by
  unfold markedBehindIn
  have : behindInMarks op e = false := by
    rcases e with ⟨⟩ <;> first | rfl | exact absurd rfl (h _ _ _)
  rw [this]

theorem chain_step {n : Nat} (H : RecOK P G r n) (O : GOK P G) {pos : Pos} {op : CmpOp} {ops : List CmpOp} {e : Expr} {es : List Expr} {rest : List (Sem Value)} (X : CtxR P g Γ env A n) {a : AV} {v : Value} (va : VR P.ρ g a v)
    (ih : ∀ {g : Gh} {a : AV} {v : Value}, CtxR P g Γ env A n → VR P.ρ g a v → Snd P g A (chainA G r Γ a ops es) (testChain pos v ops rest) (fun _ c b => b = c)) :
    Snd P g A (do
      plainE e
      let rv ← r.eval Γ e
      match ← cmpA G Γ.hd op a rv with
      | true => chainA G r Γ rv ops es
      | false => pure false) (do
      let rv ← holding [v] (eval e env)
      standAt pos
      let c ← holding [v, rv] (compareOp op v rv)
      release [v, rv] [c]
      if ← holding [c, rv] (truthy c) then testChain pos rv ops rest else pure false) (fun _ c b => b = c) := by
  refine .plainE fun h1 h2 => ?_
  refine (H.eval X).holding.bind fun b u g' l hu => .standAt ?_
  have X' := X.mono l
  refine (cmpA_ok (A := A) (op := op) O (by have := X'.ar.units; omega) (fun g2 l2 => (X'.ar.mono l2).hand) (va.mono l) hu).holding.bind fun c w g2 l2 hw => ?_
  subst hw
  intro g₁ st s l1 R hn
  refine wpS_bind (wpS_release ?_)
  refine wpS_bind (wpS_holding (wpS_mono (truthyA_ok (A := A) (a := .bool c) R rfl (by intro q; cases q)) (fun b s'' ⟨c', st'', g3, e3, l3, R3, hb⟩ => ?_) fun _ _ ⟨_, _, _, _, e3, _⟩ => by cases e3))
  cases e3
  subst hb
  cases b
  · exact wpS_pure ⟨false, _, g3, rfl, l3, R3, rfl⟩
  · exact wpS_mono (ih (((X'.mono l2).mono l1).mono l3) (((hu.mono l2).mono l1).mono l3) g3 _ s'' (.refl _) R3 hn) (fun b s' ⟨a, st', g', e, l, z⟩ => ⟨a, st', g', e, l3.trans l, z⟩) fun e s' ⟨i, st', g', x, e1, l, z⟩ => ⟨i, st', g', x, e1, l3.trans l, z⟩
/-- a comparison's chain, as a test and as a value -/
theorem chain_ok {n : Nat} (H : RecOK P G r n) (O : GOK P G) {pos : Pos} : ∀ {ops : List CmpOp} {es : List Expr} {g : Gh} {a : AV} {v : Value}, CtxR P g Γ env A n → VR P.ρ g a v →
    Snd P g A (chainA G r Γ a ops es) (testChain pos v ops (markedEach ops es (evalEach es env))) (fun _ c b => b = c)
  | [op], [e], g, a, v, X, va => by
    unfold chainA
    refine .plainE fun h1 h2 => ?_
    show Snd P g A _ (do
      let rv ← holding [v] (markedBehindIn op e (eval e env))
      standAt pos
      let c ← operate [v, rv] (compareOp op v rv)
      holding [c] (truthy c)) _
    rw [marked_plain h2]
    refine (H.eval X).holding.bind fun b u g' l hu => .standAt ?_
    have X' := X.mono l
    have h := (cmpA_ok (A := A) (op := op) O (by have := X'.ar.units; omega) (fun g2 l2 => (X'.ar.mono l2).hand) (va.mono l) hu).operate (vs := [v, u])
    intro g₁ st s l1 R hn
    refine wpS_bind (wpS_mono (h g₁ st s l1 R hn) (fun w s' ⟨c, st', g2, e1, l2, R', hw⟩ => ?_) fun _ _ z => z)
    subst hw
    exact wpS_holding (wpS_mono (truthyA_ok (A := A) (a := .bool c) R' rfl (by intro q; cases q)) (fun b s'' ⟨c', st'', g3, e3, l3, R3, hb⟩ => by
      cases e3
      exact ⟨c, _, g3, e1, l2.trans l3, R3, hb⟩) fun _ _ ⟨_, _, _, _, e3, _⟩ => by cases e3)
  | op :: op' :: ops, e :: es, g, a, v, X, va => by
    have ih := fun {g : Gh} {a : AV} {v : Value} => chain_ok H O (pos := pos) (ops := op' :: ops) (es := es) (g := g) (a := a) (v := v)
    unfold chainA
    exact chain_step (rest := markedEach (op' :: ops) es (evalEach es env)) H O X va ih
  | [op], e :: e' :: es, g, a, v, X, va => by
    unfold chainA
    exact chain_step (rest := markedEach [] (e' :: es) (evalEach (e' :: es) env)) H O X va fun X va => by unfold chainA; exact .stuck
  | [], _, _, _, _, _, _ => by unfold chainA; exact .stuck
  | [_], [], _, _, _, _, _ => by unfold chainA; exact .stuck
  | _ :: _ :: _, [], _, _, _, _, _ => by unfold chainA; exact .stuck
end
end Mine

end
section
set_option maxRecDepth 100000
namespace Mine
open PySem PySem.W PySem.Calls PySem.SeqAt PyProof.Rows

section
variable {P : Par} {G : Glob} {g : Gh} {st : St} {s : Shared} {A : Around} {Γ : AEnv} {env : Env} {r : Rec}

theorem cchain_step {n : Nat} (H : RecOK P G r n) (O : GOK P G) {pos : Pos} {op : CmpOp} {ops : List CmpOp} {e : Expr} {es : List Expr} {rest : List (Sem Value)} (X : CtxR P g Γ env A n) {a : AV} {v : Value} (va : VR P.ρ g a v)
    (ih : ∀ {g : Gh} {a : AV} {v : Value}, CtxR P g Γ env A n → VR P.ρ g a v → Snd P g A (chainA G r Γ a ops es) (compareChain pos v ops rest) (fun _ c w => w = .bool c)) :
    Snd P g A (do
      plainE e
      let rv ← r.eval Γ e
      match ← cmpA G Γ.hd op a rv with
      | true => chainA G r Γ rv ops es
      | false => pure false) (do
      let rv ← holding [v] (eval e env)
      standAt pos
      let c ← holding [v, rv] (compareOp op v rv)
      release [v, rv] [c]
      if ← holding [c, rv] (truthy c) then compareChain pos rv ops rest else pure c) (fun _ c w => w = .bool c) := by
  refine .plainE fun h1 h2 => ?_
  refine (H.eval X).holding.bind fun b u g' l hu => .standAt ?_
  have X' := X.mono l
  refine (cmpA_ok (A := A) (op := op) O (by have := X'.ar.units; omega) (fun g2 l2 => (X'.ar.mono l2).hand) (va.mono l) hu).holding.bind fun c w g2 l2 hw => ?_
  subst hw
  intro g₁ st s l1 R hn
  refine wpS_bind (wpS_release ?_)
  refine wpS_bind (wpS_holding (wpS_mono (truthyA_ok (A := A) (a := .bool c) R rfl (by intro q; cases q)) (fun b s'' ⟨c', st'', g3, e3, l3, R3, hb⟩ => ?_) fun _ _ ⟨_, _, _, _, e3, _⟩ => by cases e3))
  cases e3
  subst hb
  cases b
  · exact wpS_pure ⟨false, _, g3, rfl, l3, R3, rfl⟩
  · exact wpS_mono (ih (((X'.mono l2).mono l1).mono l3) (((hu.mono l2).mono l1).mono l3) g3 _ s'' (.refl _) R3 hn) (fun b s' ⟨a, st', g', e, l, z⟩ => ⟨a, st', g', e, l3.trans l, z⟩) fun e s' ⟨i, st', g', x, e1, l, z⟩ => ⟨i, st', g', x, e1, l3.trans l, z⟩
/-- a comparison's chain as a value -/
theorem cchain_ok {n : Nat} (H : RecOK P G r n) (O : GOK P G) {pos : Pos} : ∀ {ops : List CmpOp} {es : List Expr} {g : Gh} {a : AV} {v : Value}, CtxR P g Γ env A n → VR P.ρ g a v →
    Snd P g A (chainA G r Γ a ops es) (compareChain pos v ops (markedEach ops es (evalEach es env))) (fun _ c w => w = .bool c)
  | [op], [e], g, a, v, X, va => by
    unfold chainA
    refine .plainE fun h1 h2 => ?_
    show Snd P g A _ (do
      let rv ← holding [v] (markedBehindIn op e (eval e env))
      standAt pos
      operate [v, rv] (compareOp op v rv)) _
    rw [marked_plain h2]
    refine (H.eval X).holding.bind fun b u g' l hu => .standAt ?_
    have X' := X.mono l
    exact (cmpA_ok (A := A) (op := op) O (by have := X'.ar.units; omega) (fun g2 l2 => (X'.ar.mono l2).hand) (va.mono l) hu).operate
  | op :: op' :: ops, e :: es, g, a, v, X, va => by
    have ih := fun {g : Gh} {a : AV} {v : Value} => cchain_ok H O (pos := pos) (ops := op' :: ops) (es := es) (g := g) (a := a) (v := v)
    unfold chainA
    exact cchain_step (rest := markedEach (op' :: ops) es (evalEach es env)) H O X va ih
  | [op], e :: e' :: es, g, a, v, X, va => by
    unfold chainA
    exact cchain_step (rest := markedEach [] (e' :: es) (evalEach (e' :: es) env)) H O X va fun X va => by unfold chainA; exact .stuck
  | [], _, _, _, _, _, _ => by unfold chainA; exact .stuck
  | [_], [], _, _, _, _, _ => by unfold chainA; exact .stuck
  | _ :: _ :: _, [], _, _, _, _, _ => by unfold chainA; exact .stuck

set_option tactic.hygienic true in
/-- a condition -/
theorem isTrueA_ok {n : Nat} (H : RecOK P G r n) (O : GOK P G) (X : CtxR P g Γ env A n) {e : Expr} : Snd P g A (isTrueA G r Γ e) (isTrue e env (eval e env)) (fun _ c b => b = c) := by
  have whole : ∀ e', (e' = e) → (∀ w, isTrue e' env w = (do let v ← w; standAt e'.pos; holding [v] (truthy v))) → Snd P g A (do truthyA (← r.eval Γ e')) (isTrue e' env (eval e' env)) (fun _ c b => b = c) := by
    intro e' _ h
    rw [h]
    exact (H.eval X).bind fun a v g' l hv => .standAt (.holding (.leaf fun g₁ st s l1 R => truthyA_ok R (hv.mono l1)))
  unfold isTrueA
  split
  · rename_i op x p
    cases op
    · exact whole _ rfl fun w => rfl
    · show Snd P g A (do pure (!(← r.isTrue Γ x))) (do return !(← isTrue x env (eval x env))) _
      exact (H.isTrue X).bind fun c b g' l hb => .pure fun _ _ => by rw [hb]
    · exact whole _ rfl fun w => rfl
    · exact whole _ rfl fun w => rfl
  · exact allTrueA_ok H X
  · rename_i t b o p
    show Snd P g A _ (do if ← isTrue t env (eval t env) then isTrue b env (eval b env) else isTrue o env (eval o env)) _
    refine (H.isTrue X).bind fun c b g' l hb => ?_
    subst hb
    cases b
    · exact H.isTrue (X.mono l)
    · exact H.isTrue (X.mono l)
  · rename_i l ops es p
    show Snd P g A _ (do testChain p (← eval l env) ops (markedEach ops es (evalEach es env))) _
    exact (H.eval X).bind fun a v g' l hv => chain_ok H O (X.mono l) hv
  · rename_i h1 h2 h3 h4
    refine whole _ rfl fun w => ?_
    rcases e with ⟨⟩ <;> first | rfl | exact absurd rfl (h1 _ _ _) | exact absurd rfl (h2 _ _ _) | exact absurd rfl (h3 _ _ _ _) | exact absurd rfl (h4 _ _ _ _)
end
end Mine

end
section
set_option maxRecDepth 100000
namespace Mine
open PySem PySem.W PySem.Calls PySem.SeqAt PyProof.Rows

section
variable {P : Par} {G : Glob} {g : Gh} {st : St} {s : Shared} {A : Around} {Γ : AEnv} {env : Env} {r : Rec}

set_option tactic.hygienic true in
/-- a dict's display with one pair -/
theorem dict1_ok {n : Nat} (H : RecOK P G r n) (O : GOK P G) (X : CtxR P g Γ env A n) {k v : Expr} {pos : Pos} : Snd P g A (do
      let d ← newO (.dict [] (some 0))
      let kv ← r.eval Γ k
      let vv ← r.eval Γ v
      match kv with
      | .int (.lit n) => do
        match ← getO d with
        | .dict [] _ => do
          setO d (.dict [(n, vv)] none)
          pure (.ref d)
        | _ => stuck
      | _ => stuck) (eval (.Dict [some k] [v] pos) env) (VR P.ρ) := by
  intro g₁ st s l R
  rw [arm_eval_Dict]
  have sh : (evalEachOpt [some k] env).zip ((evalEach [v] env).map fun v => do let x ← v; standAt pos; pure x) = [((eval k env), (do let x ← eval v env; standAt pos; pure x : Sem Value))].map fun p => (some p.1, p.2) := rfl
  rw [sh, dictDisplay_pairs _ (by simp) (by simp)]
  refine .abs (newO_ok _ _) ?_
  intro hn
  refine wpS_bind (wpS_standAt (wpS_bind ?_))
  unfold subDict
  refine wpS_bind (.of (wpAny_alloc ?_))
  have R1 : RepS P (g₁.push s.heap.objs.size (.dict [] (some 0))) (st.push (.dict [] (some 0))) { s with heap := s.heap.push { cls := .type "dict", data := .dict #[] } } :=
    ⟨R.1.alloc ⟨⟨rfl, rfl, rfl⟩, _, _, [], rfl, (fun k hk => by cases hk; rfl), (fun e he => by simp at he), .nil, List.nodup_nil, trivial⟩, R.2⟩
  have l0 := g₁.push_le s.heap.objs.size (.dict [] (some 0))
  have hd : (g₁.push s.heap.objs.size (.dict [] (some 0))).adr st.n = some s.heap.objs.size := R.1.adrNew
  have X1 := (X.mono l).mono l0
  have hk := fun q => hn (bind_stuck q)
  rw [if_pos (by simp)]
  refine wpS_bind (wpS_holding (wpS_bind ?_))
  show wpS _ _ (do
    let kv ← eval k env
    let vv ← holding [kv] (do let x ← eval v env; standAt pos; pure x)
    return (kv, vv) :: (← holding [kv, vv] (pure []))) _ _ _
  refine wpS_bind (wpS_mono (H.eval X1 _ _ _ (.refl _) R1 hk) (fun kv s2 ⟨ka, st2, g2, e1, l1, R2, hkv⟩ => ?_) fun e s' ⟨i, st', g', x, e1, l', z⟩ => ⟨i, st', g', x, bind_err e1, l0.trans l', z⟩)
  rw [bind_ok e1] at hn
  have X2 := X1.mono l1
  have hv := fun q => hn (bind_stuck q)
  refine wpS_bind (wpS_holding (wpS_bind (wpS_mono (H.eval X2 _ _ _ (.refl _) R2 hv) (fun vv s3 ⟨va, st3, g3, e2, l2, R3, hvv⟩ => wpS_bind (wpS_standAt (wpS_pure ?_))) fun e s' ⟨i, st', g', x, e', l', z⟩ => ⟨i, st', g', x, (bind_ok e1).trans (bind_err e'), (l0.trans l1).trans l', z⟩)))
  rw [bind_ok e2] at hn
  refine wpS_bind (wpS_holding (wpS_pure (wpS_pure (wpS_holding ?_))))
  refine wpS_bind ?_
  show wpS _ _ (forIn [(kv, vv)] PUnit.unit fun x (_ : PUnit) => (dictSet s.heap.objs.size x.1 x.2 >>= fun _ => pure (ForInStep.yield PUnit.unit))) _ _ _
  rcases ka with ⟨⟩ <;> first | exact absurd rfl hn | skip
  rename_i e
  rcases e with ⟨⟩ <;> first | exact absurd rfl hn | skip
  rename_i m
  obtain ⟨t, rfl, sk⟩ := hkv
  have sk : Small m := sk
  dsimp only at hn
  cases ho : st3.get st.n with
  | none => exact absurd (bind_stuck (getO_none ho)) hn
  | some ob =>
    rw [bind_ok (getO_ok ho)] at hn
    rcases ob with ⟨⟩ <;> first | exact absurd rfl hn | skip
    rename_i es ep
    rcases es with ⟨⟩ <;> first | exact absurd rfl hn | skip
    refine hideGoal fun Φ hΦ => ?_
    obtain ⟨kvs, ep', D, he, hr⟩ := R3.dict ho (l2.adr (l1.adr hd))
    refine hΦ ?_
    clear hΦ Φ
    have hkey : (intKind P.prog P.w).is m (.int m t) = true := by simp [intKind, Value.isInt]
    rw [List.forIn_cons]
    refine wpS_bind (wpS_bind (.of (dictSetAt hkey D (fun h' D' hs => wpS_pure ?_) (by rw [← hr.len]; exact Nat.zero_le _))))
    dsimp only
    rw [List.forIn_nil]
    refine wpS_pure (wpS_pure (wpS_pure (wpS_pure ⟨_, _, g3, (bind_ok e1).trans ((bind_ok e2).trans (bind_ok (getO_ok ho))), (l0.trans l1).trans l2, ?_, _, l2.adr (l1.adr hd), rfl⟩)))
    obtain ⟨ob', k1, k2⟩ := DictAt.OR D' (e := none) (fun n hn => by cases hn) (dput_rel (k := m) sk hvv hr (DictAt.nodup D))
    exact R3.set (tk := s3.toks + 1) ho (l2.adr (l1.adr hd)) hs.extBut k1 k2 rfl

theorem wpS_holding_bind {α β : Type} {M : Model} {vs : List Value} {m : Sem α} {f : α → Sem β} {Q : β → Shared → Prop} {E : Value → Shared → Prop} (h : wpS M A (m >>= f) Q E s) : wpS M A (holding vs m >>= f) Q E s := fun Γ p hΓ hk => by
  have := h Γ p hΓ hk
  rw [Sem.wp_bind'] at this ⊢
  rw [Sem.wp_holding]
  exact this

theorem attr_ok {n : Nat} (H : RecOK P G r n) (O : GOK P G) (X : CtxR P g Γ env A n) {o : Expr} {x : Str} {pos : Pos} : Snd P g A (do
    baseE o
    let v ← r.eval Γ o
    getAttrA G v x) (eval (.Attribute o x pos) env) (VR P.ρ) := by
  refine .baseE fun hb => ?_
  rw [arm_eval_Attribute, base_whole hb]
  refine (H.eval X).bind fun a v g' l hv => .standAt ?_
  intro g₁ st s l1 R hn
  exact wpS_bind (wpS_holding (wpS_mono (getAttrA_ok O R (hv.mono l1) hn) (fun w s' h => wpS_bind (.of (wpAny_letTemporaryGo (wpS_pure h)))) fun _ _ z => z))

set_option tactic.hygienic true in
theorem item_ok {n : Nat} (H : RecOK P G r n) (O : GOK P G) (X : CtxR P g Γ env A n) {o i : Expr} {pos : Pos} : Snd P g A (do
    let ov ← r.eval Γ o
    let iv ← r.eval Γ i
    itemA G ov iv) (eval (.Subscript o i pos) env) (VR P.ρ) := by
  show Snd P g A _ (do
    let ov ← eval o env
    let iv ← holding [ov] (eval i env)
    standAt pos
    subscriptTail o i ov iv) _
  refine (H.eval X).bind fun a v g' l hv => ?_
  refine (H.eval (X.mono l)).holding.bind fun b u g2 l2 hu => .standAt ?_
  intro g₁ st s l1 R
  refine itemA_ok O R ((hv.mono l2).mono l1) (hu.mono l1) ?_
  rcases i with ⟨⟩ <;> first | exact ⟨_, rfl⟩ | skip
  rename_i x y z p
  rcases z with ⟨⟩ <;> exact ⟨_, rfl⟩

set_option tactic.hygienic true in
theorem bound_ok {n k d : Nat} (H : RecOK P G r n) (X : CtxR P g Γ env A n) {x : Option Expr} : Snd P g A (boundA r Γ k d x) (valueOrNone (evalOpt x env)) (fun _ a v => ∃ lo, IsPart v lo ∧ a = lo.elim d (clipAt k)) := by
  cases x with
  | none => exact .pure fun _ _ => ⟨none, .none, rfl⟩
  | some e =>
    show Snd P g A (do match ← r.eval Γ e with | .int (.lit i) => pure (clampI i k) | _ => stuck) (eval e env) _
    intro g₁ st s l R hn
    have hm := fun q => hn (bind_stuck q)
    refine wpS_mono (H.eval (X.mono l) g₁ st s (.refl _) R hm) (fun v s' ⟨a, st', g', e1, l1, R1, hv⟩ => ?_) fun _ _ z => z.fail
    rw [bind_ok e1] at hn
    rcases a with ⟨⟩ <;> first | exact absurd rfl hn | skip
    rename_i q
    rcases q with ⟨⟩ <;> first | exact absurd rfl hn | skip
    rename_i i
    obtain ⟨t, rfl, _⟩ := hv
    exact ⟨_, _, g', bind_ok e1, l1, R1, some i, .int i t, clampI_eq i k⟩

set_option tactic.hygienic true in
theorem sliced_ok {n : Nat} (H : RecOK P G r n) (O : GOK P G) (X : CtxR P g Γ env A n) {o : Expr} {lo hi : Option Expr} {p pos : Pos} : Snd P g A (do
    let ov ← r.eval Γ o
    sliceA r Γ ov lo hi) (eval (.Subscript o (.Slice lo hi none p) pos) env) (VR P.ρ) := by
  show Snd P g A _ (do
    let ov ← eval o env
    let iv ← holding [ov] (do
      let l ← valueOrNone (evalOpt lo env)
      let u ← holding [l] (valueOrNone (evalOpt hi env))
      let s ← holding [l, u] (pure Value.none)
      newFields "slice" [l, u, s])
    standAt pos
    subscriptTail o (.Slice lo hi none p) ov iv) _
  refine (H.eval X).bind fun a v g' l hv => ?_
  have X' := X.mono l
  intro g₁ st s l1 R
  rcases a with ⟨⟩ <;> first | exact .stuck | skip
  rename_i bs
  unfold sliceA
  refine .fit fun hf hn => ?_
  refine wpS_holding_bind ?_
  simp only [bind_assoc]
  have hm := fun q => hn (bind_stuck q)
  refine wpS_bind (wpS_mono (bound_ok H X' g₁ st s l1 R hm) (fun lv s2 ⟨a1, st2, g2, e1, l2, R2, lo', hl, ha1⟩ => ?_) fun _ _ z => z.fail)
  rw [bind_ok e1] at hn
  refine wpS_next e1 ?_
  have hm := fun q => hn (bind_stuck q)
  refine wpS_holding_bind (wpS_bind (wpS_mono (bound_ok H X' g2 st2 s2 (l1.trans l2) R2 hm) (fun uv s3 ⟨a2, st3, g3, e2, l3, R3, hi', hu, ha2⟩ => ?_) fun e s' ⟨i, st', g', x, e1, l', z⟩ => ⟨i, st', g', x, bind_err e1, l2.trans l', z⟩))
  rw [bind_ok e2] at hn
  refine wpS_next e2 ?_
  refine wpS_holding_bind (wpS_bind (wpS_pure ?_))
  subst ha1 ha2
  exact wpS_mono (slice_ok (A := A) (x := lo) (y := hi) (p := p) (pos := pos) (value := o) R3 (((hv.mono l1).mono l2).mono l3) hl hu hf hn) (fun b s' ⟨a, st', g', e, l, z⟩ => ⟨a, st', g', e, (l2.trans l3).trans l, z⟩) fun e s' ⟨i, st', g', x, e1, l, z⟩ => ⟨i, st', g', x, e1, (l2.trans l3).trans l, z⟩
end
end Mine

end
section
set_option maxRecDepth 100000
namespace Mine
open PySem PySem.W PySem.Calls PySem.SeqAt PyProof.Rows

section
variable {P : Par} {G : Glob} {g : Gh} {st : St} {s : Shared} {A : Around} {Γ : AEnv} {env : Env} {r : Rec}

theorem A2.app {α β : Type} {R : α → β → Prop} : ∀ {as as' : List α} {bs bs' : List β}, A2 R as bs → A2 R as' bs' → A2 R (as ++ as') (bs ++ bs')
  | [], _, [], _, _, h => h
  | _ :: _, _, _ :: _, _, h, h' => ⟨h.1, h.2.app h'⟩
  | [], _, _ :: _, _, h, _ => h.elim
  | _ :: _, _, [], _, h, _ => h.elim

noncomputable def closBody (env : Env) (x : Str × NameKind) (cs : List (Str × Addr)) : Sem (ForInStep (List (Str × Addr))) := match x with
  | (name, kind) => if kind == .free then do
      let a ← cellOf env name
      pure (.yield ((name, a) :: cs))
    else pure (.yield cs)
theorem closureFor_eq (sc : Scope) : closureFor sc env = forIn sc.names [] (closBody env) := by
  show (forIn sc.names [] (closBody env) >>= fun cs => pure cs) = _
  exact bind_pure _

theorem closure_val (hc : A2 (CellR g) Γ.cells env.cells) : ∀ {ns : List (Str × NameKind)} {acc : List (Str × Addr)}, closureA Γ ns st ≠ .stuck →
    ∃ cs clos, closureA Γ ns st = .ok cs st ∧ forIn ns acc (closBody env) = (pure (clos ++ acc) : Sem _) ∧ A2 (CellR g) cs clos
  | [], acc, _ => ⟨[], [], rfl, rfl, trivial⟩
  | (x, k) :: ns, acc, h => by
    rw [List.forIn_cons]
    unfold closureA at h ⊢
    have other : k ≠ .free → closureA Γ ns st ≠ .stuck → ∃ cs clos, closureA Γ ns st = .ok cs st ∧ (closBody env (x, k) acc >>= fun r => match r with | .done b => pure b | .yield b => forIn ns b (closBody env)) = (pure (clos ++ acc) : Sem _) ∧ A2 (CellR g) cs clos := by
      intro hk h
      have e : closBody env (x, k) acc = pure (.yield acc) := by
        show (if (k == NameKind.free) = true then _ else _) = _
        rw [if_neg (by simpa using hk)]
      rw [e, pure_bind]
      exact closure_val hc h
    cases k with
    | free =>
      dsimp only at h ⊢
      cases q : fget x Γ.cells with
      | none => rw [q] at h; exact absurd (bind_stuck rfl) h
      | some i =>
        rw [q] at h
        rw [bind_ok (ofO_some i st)] at h ⊢
        obtain ⟨a, h1, h2⟩ := cells_lookup hc q
        have e : closBody env (x, .free) acc = pure (.yield ((x, a) :: acc)) := by
          have e0 : closBody env (x, .free) acc = (cellOf env x >>= fun a => pure (ForInStep.yield ((x, a) :: acc))) :=
            if_pos (e := pure (ForInStep.yield acc)) (show (NameKind.free == NameKind.free) = true by decide)
          rw [e0]
          unfold cellOf
          rw [h1]
          exact pure_bind _ _
        rw [e, pure_bind]
        have hm := fun z => h (bind_stuck z)
        refine hideGoal fun Φ hΦ => ?_
        obtain ⟨cs, clos, k1, k2, k3⟩ := closure_val hc (acc := (x, a) :: acc) hm
        refine hΦ ?_
        clear hΦ Φ
        rw [bind_ok k1]
        refine ⟨cs ++ [(x, i)], clos ++ [(x, a)], rfl, ?_, k3.app ⟨⟨rfl, h2⟩, trivial⟩⟩
        dsimp only
        rw [k2, List.append_assoc]; rfl
    | _ => exact other (by intro z; cases z) h

set_option tactic.hygienic true in
theorem codeAmong_app {pos : Pos} {t : List Value} {cv : Value} : ∀ {l : List Value}, TriplesOk l → codeAmong pos (l ++ t) = some cv → codeAmong pos l = some cv ∨ codeAmong pos t = some cv
  | [], _, h => .inr h
  | .int a _ :: .int b _ :: c :: rest, hl, h => by
    have hr : TriplesOk rest := hl
    show (if (a == pos.line && b == pos.col) = true then some c else codeAmong pos rest) = some cv ∨ _
    have h : (if (a == pos.line && b == pos.col) = true then some c else codeAmong pos (rest ++ t)) = some cv := h
    split at h
    · rename_i q; rw [if_pos q]; exact .inl h
    · rename_i q; rw [if_neg q]; exact codeAmong_app hr h
theorem codeAmong_one {pos : Pos} {a b : Int} {c cv : Value} (h : codeAmong pos [rawInt a, rawInt b, c] = some cv) : cv = c := by
  have h : (if (a == pos.line && b == pos.col) = true then some c else codeAmong pos []) = some cv := h
  split at h
  · exact (Option.some.inj h).symm
  · cases h
end
end Mine

end
section
set_option maxRecDepth 100000
namespace Mine
open PySem PySem.W PySem.Calls PySem.SeqAt PyProof.Rows

section
variable {P : Par} {G : Glob} {g : Gh} {st : St} {s : Shared} {A : Around} {Γ : AEnv} {env : Env} {r : Rec}

/-- a new code record, noted in its table -/
theorem Rep.noted {h h' : Heap} (R : Rep P g st h) {t : Nat} {T c : Addr} {q : Str} {ob : Obj} (ht : st.get t = some (.tab q)) (hT : g.adr t = some T) (hx : Heap.ExtBut T h h') (hc : h'.CodeRec (.ref c) (q ++ "<lambda>")) (hn : h.objs.size ≤ c)
    (hb : h'.get? T = some ob) (hO : OR P.prog P.w P.ρ (g.code c (q ++ "<lambda>")) (.tab q) ob) : Rep P (g.code c (q ++ "<lambda>")) st h' := by
  have hTm : T ∈ g.as := rnth_mem hT
  have ne : ∀ b o, P.h₀.get? b = some o → b ≠ T := fun b o e q => by rw [q, R.fresh _ hTm] at e; cases e
  refine ⟨R.ok, R.na, R.tg, fun b o e => hx _ _ (ne b o e) (R.keep b o e), R.fresh, R.nodup, R.tabs, fun p hp => ?_, fun i o e => ?_⟩
  · rcases List.mem_cons.mp hp with rfl | hp
    · exact ⟨hc, fun z => Nat.not_lt.mpr hn (R.ltSize z)⟩
    · refine hideGoal fun Φ hΦ => ?_
      obtain ⟨⟨c', oc, vs, u, e1, e2, e3⟩, h2⟩ := R.cds p hp
      refine hΦ ?_
      clear hΦ Φ
      cases e1
      exact ⟨⟨_, oc, vs, u, rfl, hx _ _ (fun z => h2 (z ▸ hTm)) e2, e3⟩, h2⟩
  · refine hideGoal fun Φ hΦ => ?_
    obtain ⟨a, oa, h1, h2, h3⟩ := R.obj i o e
    refine hΦ ?_
    clear hΦ Φ
    by_cases z : a = T
    · subst z
      obtain rfl := rnth_inj R.nodup h1 hT
      have : o = .tab q := by
        rw [St.get_eq R.ok] at ht
        rw [ht] at e
        exact (Option.some.inj e).symm
      subst this
      exact ⟨a, ob, h1, hb, hO⟩
    · exact ⟨a, oa, (g.code_le c _).adr h1, hx _ _ z h2, h3.mono (g.code_le c _)⟩

set_option tactic.hygienic true in
theorem lambda_ok (O : GOK P G) {n : Nat} (X : CtxR P g Γ env A n) {body : Expr} {scope : Scope} {pos : Pos} {t : Nat} (htab : Γ.tab = some t) : Snd P g A (do
      let cs ← closureA Γ scope.names
      match ← getO t with
      | .tab q => (match strEq q Γ.qual with
        | true => do pure (.ref (← newO (.fn body scope cs q)))
        | false => stuck)
      | _ => stuck) (eval (.Lambda ⟨[], [], none, [], [], none, []⟩ body scope pos) env) (VR P.ρ) := by
  intro g₁ st s l R
  have X1 := X.mono l
  intro hn
  have hm := fun q => hn (bind_stuck q)
  refine hideGoal fun Φ hΦ => ?_
  obtain ⟨cs, clos, k1, k2, k3⟩ := closure_val X1.er.cells (acc := []) hm
  refine hΦ ?_
  clear hΦ Φ
  rw [bind_ok k1] at hn
  refine wpS_next k1 ?_
  have hcl : closureFor scope env = pure clos := by rw [closureFor_eq, k2, List.append_nil]
  cases ho : st.get t with
  | none => exact absurd (bind_stuck (getO_none ho)) hn
  | some o =>
    rw [bind_ok (getO_ok ho)] at hn
    refine wpS_next (getO_ok ho) ?_
    rcases o with ⟨⟩ <;> first | exact absurd rfl hn | skip
    rename_i q
    dsimp only at hn ⊢
    cases hq : strEq q Γ.qual with
    | false => rw [hq] at hn; exact absurd rfl hn
    | true =>
      simp only [hq] at hn ⊢
      obtain rfl := strEq_true hq
      have hqe : env.qual = Γ.qual := X1.er.qual (by rw [htab]; intro z; cases z)
      refine hideGoal fun Φ hΦ => ?_
      obtain ⟨c, T, c1, c2, c3⟩ := X1.er.tab t htab
      refine hΦ ?_
      clear hΦ Φ
      refine hideGoal fun Φ hΦ => ?_
      obtain ⟨ob, d2, ps, rfl, d3, d4⟩ := R.1.atA c3 ho
      refine hΦ ?_
      clear hΦ Φ
      have C := c2.keeps R.1.keep
      refine hideGoal fun Φ hΦ => ?_
      obtain ⟨mg, bm, ob, b1, b2, b3, b4, b5, b6, b7, b8⟩ := O.main
      refine hΦ ?_
      clear hΦ Φ
      have hg := b1.keeps R.1.keep
      have hTm : T ∈ g₁.as := rnth_mem c3
      have neT : ∀ b o, P.h₀.get? b = some o → b ≠ T := fun b o e q => by rw [q, R.1.fresh _ hTm] at e; cases e
      have hB : s.heap.BuiltinsAt mg T := ⟨bm, ob, b2, b3, b4, neT _ _ b5, R.1.keep _ _ b5, b6, b7, b8⟩
      have hgT : mainGlobals ≠ T := by
        refine hideGoal fun Φ hΦ => ?_
        obtain ⟨o, _, _, e, _⟩ := b1
        refine hΦ ?_
        clear hΦ Φ
        exact neT _ _ e
      rw [arm_eval_Lambda]
      show wpS _ _ (do
        let dv ← pure []
        let kdv ← holding dv (pure [])
        makeFunction "<lambda>" (env.qual ++ "<lambda>") ⟨[], [], none, [], [], none, []⟩ (.expr body) scope env dv kdv [] pos pos.line) _ _ _
      refine wpS_bind (wpS_pure (wpS_bind (wpS_holding (wpS_pure ?_))))
      rw [hqe]
      cases hf : codeAmong pos ps.toList with
      | some cv =>
        obtain ⟨c', rfl, hmem⟩ := d4 pos cv hf
        refine .of (kla_makeFunctionHit hcl X1.er.glob hg c1 C d2 d3 hf hB fun ctv h' tk kp hsz => ?_)
        have R1 := R.1.grow kp
        exact ⟨_, _, g₁.push h'.objs.size (.fn body scope cs Γ.qual), rfl, g₁.push_le _ _, ⟨R1.alloc ⟨_, _, _, _, _, _, _, rfl, (g₁.push_le _ _).cs _ hmem, k3.mono fun _ _ z => z.mono (g₁.push_le _ _), rfl⟩, R.2⟩, _, R1.adrNew, rfl⟩
      | none =>
        refine .of (kla_makeFunction hcl X1.er.glob hg c1 C d2 d3 hf hgT hB fun c' ctv h' tk hx hge hlt hrec htb => ?_)
        have l1 := g₁.code_le c' (Γ.qual ++ "<lambda>")
        have R1 := R.1.noted ho c3 hx hrec hge htb ⟨_, rfl, by simpa using TriplesOk_snoc _ _ _ _ d3, fun pos' cv e => by
          have e : codeAmong pos' (ps.toList ++ [rawInt pos.line, rawInt pos.col, .ref c']) = some cv := by simpa using e
          rcases codeAmong_app d3 e with e | e
          · obtain ⟨c2, e1, e2⟩ := d4 pos' cv e
            exact ⟨c2, e1, l1.cs _ e2⟩
          · exact ⟨c', codeAmong_one e, .head _⟩⟩
        have l2 := (g₁.code c' (Γ.qual ++ "<lambda>")).push_le h'.objs.size (.fn body scope cs Γ.qual)
        exact ⟨_, _, _, rfl, l1.trans l2, ⟨R1.alloc ⟨_, _, _, _, _, _, _, rfl, l2.cs _ (.head _), k3.mono fun _ _ z => (z.mono l1).mono l2, rfl⟩, R.2⟩, _, R1.adrNew, rfl⟩
end
end Mine

end
section
set_option maxRecDepth 100000
namespace Mine
open PySem PySem.W PySem.Calls PySem.SeqAt PyProof.Rows

section
variable {P : Par} {G : Glob} {g : Gh} {st : St} {s : Shared} {A : Around} {Γ : AEnv} {env : Env} {r : Rec}

set_option tactic.hygienic true in
theorem evalA_ok {n : Nat} (H : RecOK P G r n) (O : GOK P G) (X : CtxR P g Γ env A n) {e : Expr}
    (hcomp : ∀ elt gens scope pos, e = .ListComp elt gens scope pos → Snd P g A (evalA G r Γ e) (eval e env) (VR P.ρ)) : Snd P g A (evalA G r Γ e) (eval e env) (VR P.ρ) := by
  rcases e with ⟨⟩ <;> first | exact .stuck | skip
  case BoolOp op es pos => exact boolA_ok H X
  case BinOp a op b pos =>
    show Snd P g A _ (do
      let a ← eval a env
      let b ← holding [a] (eval b env)
      standAt pos
      operate [a, b] (binaryOp op a b)) _
    refine (H.eval X).bind fun x v g' l hv => ?_
    refine (H.eval (X.mono l)).holding.bind fun y u g2 l2 hu => .standAt (.operate ?_)
    exact fun g₁ st s l1 R => binopA_ok O R ((hv.mono l2).mono l1) (hu.mono l1)
  case UnaryOp op x pos =>
    show Snd P g A _ (do let v ← eval x env; standAt pos; holding [v] (unaryOp op v)) _
    refine (H.eval X).bind fun a v g' l hv => .standAt (.holding ?_)
    rcases op with ⟨⟩ <;> first | exact .stuck | skip
    · exact fun g₁ st s l1 R => notA_ok R (hv.mono l1)
    · rcases a with ⟨⟩ <;> first | exact .stuck | skip
      rename_i q
      rcases q with ⟨⟩ <;> first | exact .stuck | skip
      dsimp only
      split
      · rename_i h
        exact fun g₁ st s l1 R => negA_ok R (hv.mono l1) h
      · exact .stuck
  case Lambda args body scope pos =>
    unfold evalA
    dsimp only
    split
    · rename_i h
      exact lambda_ok O X h
    · exact .stuck
  case IfExp t b o pos =>
    show Snd P g A _ (do if ← isTrue t env (eval t env) then eval b env else eval o env) _
    refine (H.isTrue X).bind fun c b g' l hb => ?_
    subst hb
    cases b
    · exact H.eval (X.mono l)
    · exact H.eval (X.mono l)
  case Dict ks vs pos =>
    unfold evalA
    dsimp only
    split
    · show Snd P g A _ (do standAt pos; newDict) _
      exact .standAt fun g₁ st s l1 R => newDict_ok R
    · exact dict1_ok H O X
    · exact .stuck
  case List es pos =>
    show Snd P g A _ (do standAt pos; newList (← spliced (backTo pos (starEach es env)))) _
    refine .standAt ((evals_ok H X).bind fun vs ws g' l hv => ?_)
    exact fun g₁ st s l1 R => .fit fun hf => newLst_ok R (hv.mono fun _ _ => VR.mono l1) hf
  case Tuple es c pos =>
    show Snd P g A _ (do standAt pos; newTuple (← spliced (backTo pos (starEach es env)))) _
    refine .standAt ((evals_ok H X).bind fun vs ws g' l hv => ?_)
    exact fun g₁ st s l1 R => .fit fun hf => newTup_ok R (hv.mono fun _ _ => VR.mono l1) hf
  case Compare x ops es pos =>
    rw [arm_eval_Compare]
    refine (H.eval X).bind fun a v g' l hv => ?_
    have h := cchain_ok H O (X.mono l) hv (pos := pos) (ops := ops) (es := es)
    intro g₁ st s l1 R hn
    have hm := fun q => hn (bind_stuck q)
    exact wpS_mono (h g₁ st s l1 R hm) (fun w s' ⟨c, st', g2, e1, l2, R2, hw⟩ => ⟨.bool c, st', g2, by rw [bind_ok e1]; rfl, l2, R2, hw⟩) fun _ _ z => z.fail
  case Call f args kws pos =>
    unfold evalA
    dsimp only
    split
    · split
      · split
        · exact .stuck
        · rename_i h
          simp only [Bool.and_eq_true] at h
          exact methodCall_ok H O X h.1.1 h.1.2 h.2
      · rename_i h
        split
        · exact .stuck
        · rename_i h2
          exact callName_ok H O X (fun o x p q => h o x p q) h2
    · exact .stuck
  case Attribute o x pos => exact attr_ok H O X
  case Subscript o i pos =>
    rcases i with ⟨⟩ <;> first | exact item_ok H O X | skip
    rename_i lo hi z p
    cases z with
    | none => exact sliced_ok H O X
    | some z =>
      show Snd P g A (do
        let ov ← r.eval Γ o
        stuck) (do
        let ov ← eval o env
        let iv ← holding [ov] (eval (.Slice lo hi (some z) p) env)
        standAt pos
        subscriptTail o (.Slice lo hi (some z) p) ov iv) _
      exact (H.eval X).bind fun _ _ _ _ _ => .stuck
  case ListComp elt gens scope pos => exact hcomp _ _ _ _ rfl
  case Constant c k pos => exact constV_ok
  case Name x pos =>
    unfold evalA
    dsimp only
    split
    · exact .stuck
    · rename_i h
      rw [Bool.or_eq_false_iff] at h
      show Snd P g A _ (do standAt pos; if x == ("__debug__" : Str) then debugConstant else loadName env x) _
      have hx : (x == ("__debug__" : Str)) = false := by
        rw [beq_eq_false_iff_ne]
        intro e
        rw [e, (strEq_iff _ _).mpr rfl] at h
        cases h.1
      rw [hx]
      exact .standAt (loadN_ok O X.er h.2)
end
end Mine

end
section
set_option maxRecDepth 100000
namespace Mine
open PySem PySem.W PySem.Calls PySem.SeqAt PyProof.Rows

section
variable {P : Par} {G : Glob} {g : Gh} {st : St} {s : Shared} {A : Around} {Γ : AEnv} {env : Env} {r : Rec}

set_option tactic.hygienic true in
theorem SndAt.itemsT {α β : Type} {a : AV} {v : Value} {f : List AV → AM α} {t' : Sem β} {V : Gh → α → β → Prop} (O : GOK P G) (R : RepS P g st s) (va : VR P.ρ g a v)
    (x : ∀ vs t items, v = .ref t → IsTup s.heap t items → A2 (VR P.ρ g) vs items.toList → SndAt P g st s A (f vs) t' V) : SndAt P g st s A (Mine.itemsT G a >>= f) t' V := by
  intro hn
  have h1 : Mine.itemsT G a st ≠ .stuck := fun q => hn (bind_stuck q)
  have key : ∃ vs t items, Mine.itemsT G a st = .ok vs st ∧ v = .ref t ∧ IsTup s.heap t items ∧ A2 (VR P.ρ g) vs items.toList := by
    unfold Mine.itemsT at h1 ⊢
    rcases a with ⟨⟩ <;> first | exact absurd rfl h1 | skip
    · rename_i i
      obtain ⟨y, hy, rfl⟩ := va
      dsimp only at h1 ⊢
      cases q : st.get i with
      | none => exact absurd (bind_stuck (getO_none q)) h1
      | some o =>
        rw [bind_ok (getO_ok q)] at h1 ⊢
        rcases o with ⟨⟩ <;> first | exact absurd rfl h1 | skip
        rename_i vs
        refine hideGoal fun Φ hΦ => ?_
        obtain ⟨ob, k2, k3, ws, n, k4, k5⟩ := R.1.atA hy q
        refine hΦ ?_
        clear hΦ Φ
        exact ⟨vs, y, ws, rfl, rfl, ⟨ob, k2, k3, n, k4⟩, k5⟩
    · rename_i b
      obtain rfl : v = .ref b := va
      dsimp only at h1 ⊢
      cases q : G.tups b with
      | none => rw [q] at h1; exact absurd rfl h1
      | some vs =>
        refine hideGoal fun Φ hΦ => ?_
        obtain ⟨o, ws, n, k1, k2, k3, k4, k5⟩ := O.tups b vs q
        refine hΦ ?_
        clear hΦ Φ
        exact ⟨vs, b, ws, rfl, rfl, ⟨o, R.1.keep _ _ k1, k2, n, k3⟩, k4 g⟩
  refine hideGoal fun Φ hΦ => ?_
  obtain ⟨vs, t, items, e, k1, k2, k3⟩ := key
  refine hΦ ?_
  clear hΦ Φ
  exact SndAt.abs e (x vs t items k1 k2 k3) hn

theorem bindName_ok (X : EnvR P g Γ env) {x : Str} {a : AV} {v : Value} (hv : VR P.ρ g a v) : Snd P g A (storeN Γ x a) (bindName env x v) (fun _ _ _ => True) := by
  intro g₁ st s l R hn
  unfold bindName
  refine wpS_bind (wpS_holding (.of (wpAny_point ?_)))
  exact wpS_bind (wpS_mono (storeN_ok X hv g₁ st s l R hn) (fun u s' h => .of (wpAny_point h)) fun _ _ z => z)

theorem assignEach_cons {e : Expr} {es : List Expr} (h : ∀ a b, e ≠ .Starred a b) : PySem.assignEach (e :: es) env = (false, PySem.assign e env) :: PySem.assignEach es env := by
  rcases e with ⟨⟩ <;> first | rfl | exact absurd rfl (h _ _)
theorem assignEach_len : ∀ {es : List Expr}, (PySem.assignEach es env).length = es.length
  | [] => rfl
  | e :: es => by rcases e with ⟨⟩ <;> exact congrArg (· + 1) (assignEach_len (es := es))
theorem assignEach_find : ∀ {es : List Expr}, noStar es = true → (PySem.assignEach es env).findIdx? (·.1) = none
  | [], _ => rfl
  | e :: es, h => by
    obtain ⟨h1, h2⟩ := noStar_cons h
    rw [assignEach_cons h1, List.findIdx?_cons, assignEach_find h2]
    rfl
/-- the items to the targets, in order -/
theorem assignEach_ok {n : Nat} (H : RecOK P G r n) : ∀ {ts : List Expr} {vs : List AV} {ws : List Value} {g : Gh}, CtxR P g Γ env A n → noStar ts = true → A2 (VR P.ρ g) vs ws →
    Snd P g A (Mine.assignEach r Γ ts vs) (assignInOrder ((PySem.assignEach ts env).map (·.2)) ws) (fun _ _ _ => True)
  | [], [], [], g, X, _, _ => .pure fun _ _ => trivial
  | t :: ts, v :: vs, w :: ws, g, X, h, ⟨hv, hvs⟩ => by
    obtain ⟨h1, h2⟩ := noStar_cons h
    unfold Mine.assignEach
    rw [assignEach_cons h1]
    show Snd P g A _ (do holding ws (PySem.assign t env w); assignInOrder ((PySem.assignEach ts env).map (·.2)) ws) _
    refine .plainE fun _ _ => ?_
    exact (H.assign X hv).holding.bind fun _ _ g' l _ => assignEach_ok H (X.mono l) h2 (hvs.mono fun _ _ => VR.mono l)
  | [], _ :: _, _, _, _, _, _ => .stuck
  | _ :: _, [], _, _, _, _, _ => .stuck
  | [], [], _ :: _, _, _, _, h => h.elim
  | _ :: _, _ :: _, [], _, _, _, h => h.elim

set_option tactic.hygienic true in
theorem assignA_ok {n : Nat} (H : RecOK P G r n) (O : GOK P G) (X : CtxR P g Γ env A n) {t : Expr} {a : AV} {v : Value} (va : VR P.ρ g a v) : Snd P g A (assignA G r Γ t a) (PySem.assign t env v) (fun _ _ _ => True) := by
  unfold assignA
  rcases t with ⟨⟩ <;> first | exact .stuck | skip
  case Name x pos => exact .standAt (bindName_ok X.er va)
  case Attribute o x pos =>
    show Snd P g A _ (do
      let ov ← holding [v] (eval o env)
      standAt pos.atName
      holding [v, ov] (setAttr ov x v)
      release [v, ov] []) _
    refine (H.eval X).holding.bind fun b w g' l hw => .standAt ?_
    intro g₁ st s l1 R hn
    exact wpS_bind (wpS_holding (wpS_mono (setAttrA_ok O R (hw.mono l1) ((va.mono l).mono l1) hn) (fun u s' h => wpS_release h) fun _ _ z => z))
  case Subscript o i pos =>
    show Snd P g A _ (do
      let ov ← holding [v] (eval o env)
      let iv ← holding [v, ov] (eval i env)
      standAt pos
      holding [v, ov, iv] (setItem ov iv v)
      release (match i with | .Slice _ _ none _ => [iv, v, ov] | _ => [v, ov, iv]) []) _
    refine (H.eval X).holding.bind fun b w g' l hw => ?_
    refine (H.eval (X.mono l)).holding.bind fun c u g2 l2 hu => .standAt ?_
    intro g₁ st s l1 R hn
    exact wpS_bind (wpS_holding (wpS_mono (setItemA_ok O R ((hw.mono l2).mono l1) (hu.mono l1) (((va.mono l).mono l2).mono l1) hn) (fun u s' h => wpS_release h) fun _ _ z => z))
  case Tuple ts c pos =>
    show Snd P g A _ (do standAt pos; unpack v (PySem.assignEach ts env)) _
    refine .standAt ?_
    cases hh : Γ.hd with
    | some _ => exact .stuck
    | none =>
      intro g₁ st s l R
      have X1 := X.mono l
      refine .itemsT O R (va.mono l) fun vs t items e it hvs => ?_
      subst e
      cases q : Nat.beq vs.length ts.length && noStar ts with
      | false => exact .stuck
      | true =>
        rw [Bool.and_eq_true] at q
        unfold unpack
        rw [assignEach_len, assignEach_find q.2]
        have hlen : ts.length = items.size := by rw [← Nat.eq_of_beq_eq_true q.1, hvs.len, Array.length_toList]
        rw [hlen]
        have hA : A.handled = none := by have := X1.ar.hand; rw [hh] at this; exact this
        intro hn
        refine wpS_bind (wpS_holding (.of (unpackItems_tuple hA it fun h' hx => ?_)))
        have R1 : RepS P g₁ st { s with heap := h' } := ⟨R.1.grow fun b o e => hx _ _ (Nat.ne_of_lt (Heap.lt_size e)) e, R.2⟩
        exact assignEach_ok H X1 q.2 hvs g₁ st _ (.refl _) R1 hn
end
end Mine

end
section
set_option maxRecDepth 100000
namespace Mine
open PySem PySem.W PySem.Calls PySem.SeqAt PyProof.Rows

section
variable {P : Par} {G : Glob} {g : Gh} {st : St} {s : Shared} {A : Around} {Γ : AEnv} {env : Env} {r : Rec}

theorem Snd.ifN {α β : Type} {m : AM α} {V : Gh → α → β → Prop} {c : Prop} [Decidable c] {a b : Sem β} (h : ¬ c) (k : Snd P g A m b V) : Snd P g A m (if c then a else b) V := by rw [if_neg h]; exact k
theorem Snd.pureBind {α β γ : Type} {m : AM α} {V : Gh → α → β → Prop} {a : γ} {f : γ → Sem β} (k : Snd P g A m (f a) V) : Snd P g A m ((Pure.pure a : Sem γ) >>= f) V := fun g₁ st s l R => .step (wpAny_pure (k g₁ st s l R))
theorem snd_noComp {α β : Type} {e : Expr} {f : Unit → AM α} {t : Sem β} {V : Gh → α → β → Prop} (x : (∀ tgt line, swapsWith e tgt line env = pure false) → Snd P g A (f ()) t V) : Snd P g A (Mine.noComp e >>= f) t V := by
  intro g₁ st s l R hn
  have h1 : Mine.noComp e st ≠ .stuck := fun q => hn (bind_stuck q)
  have key : Mine.noComp e st = .ok () st ∧ (∀ tgt line, swapsWith e tgt line env = pure false) := by
    rcases e with ⟨⟩ <;> first | exact absurd rfl h1 | exact ⟨rfl, fun _ _ => rfl⟩
  exact SndAt.abs key.1 (x key.2 g₁ st s l R) hn
theorem EnvR.notInteractive (X : EnvR P g Γ env) : interactive env = false := by
  unfold interactive
  rw [X.scope, X.kind]; rfl

theorem execExpr_ok {n : Nat} (H : RecOK P G r n) (X : CtxR P g Γ env A n) {e : Expr} {pos : Pos} : Snd P g A (do
    noComp e
    let _ ← r.eval Γ e
    pure .next) (exec (.Expr e pos) env) (FlowR P.ρ) := by
  refine snd_noComp (env := env) fun hs => ?_
  show Snd P g A _ (do
    standAt pos
    if interactive env then printExpr (eval e env)
    else if ← swapsWith e none pos.line env then do evalThenUse e env fun _ => point; pure .next
    else do dropValue e pos (← eval e env)) _
  rw [X.er.notInteractive, hs]
  refine .standAt (.ifN Bool.false_ne_true (.pureBind (.ifN Bool.false_ne_true ?_)))
  refine Snd.bind (H.eval X) fun a v g' l hv => ?_
  exact fun g₁ st s l1 R => .val rfl (wpAny_dropValue ⟨g₁, .refl _, R, trivial⟩)
end
end Mine

end
section
set_option maxRecDepth 100000
namespace Mine
open PySem PySem.W PySem.Calls PySem.SeqAt PyProof.Rows

section
variable {P : Par} {G : Glob} {g : Gh} {st : St} {s : Shared} {A : Around} {Γ : AEnv} {env : Env} {r : Rec}

theorem mark_none : A.mark none = A := by
  unfold Around.mark
  rw [Option.none_or]
theorem runOwn_none {m : AM AFlow} {c : Code} (x : CodeSnd P g A env m c) : Snd P g A m (runOwn c env) (FlowR P.ρ) :=
  runOwn_ok (hd := none) (by rw [mark_none]; exact x) (by intro z; cases z)

theorem execReturn_ok {n : Nat} (H : RecOK P G r n) (X : CtxR P g Γ env A n) {v : Option Expr} {pos : Pos} : Snd P g A (match v with
    | some e => do pure (.ret (← r.eval Γ e))
    | none => pure (.ret .none)) (exec (.Return v pos) env) (FlowR P.ρ) := by
  cases v with
  | none => exact .standAt (.pure fun _ _ => rfl)
  | some e =>
    show Snd P g A _ (standAt pos >>= fun _ => eval e env >>= fun v => pure (Flow.ret v)) _
    exact .standAt ((H.eval X).bind fun a v g' l hv => .pure fun _ l' => hv.mono l')

theorem execIf_ok {n : Nat} (H : RecOK P G r n) (X : CtxR P g Γ env A n) {t : Expr} {b o : List Stmt} {pos : Pos} : Snd P g A (do
    match ← r.isTrue Γ t with
    | true => execsW (r.exec Γ) b
    | false => execsW (r.exec Γ) o) (exec (.If t b o pos) env) (FlowR P.ρ) := by
  show Snd P g A _ (do standAt pos; if ← isTrue t env (eval t env) then execs b env else execs o env) _
  refine .standAt ((H.isTrue X).bind fun c d g' l hd => ?_)
  subst hd
  cases d
  · exact execs_ok H (X.mono l)
  · exact execs_ok H (X.mono l)

theorem execWhile_ok {n : Nat} (H : RecOK P G r n) (X : CtxR P g Γ env A n) {t : Expr} {b : List Stmt} {pos : Pos} : Snd P g A (r.whileL Γ t b) (exec (.While t b [] pos) env) (FlowR P.ρ) := by
  show Snd P g A _ (do standAt pos; runOwn (.whileLoop t b [] env) env) _
  exact .standAt (runOwn_none (H.whileL X))

theorem execFor_ok {n : Nat} (H : RecOK P G r n) (O : GOK P G) (X : CtxR P g Γ env A n) {t e : Expr} {b : List Stmt} {pos : Pos} : Snd P g A (do
    plainE e
    let x ← r.eval Γ e
    let it ← iterA G x
    r.forL Γ t it b) (exec (.For t e b [] pos) env) (FlowR P.ρ) := by
  refine .plainE fun _ h => ?_
  show Snd P g A _ (do
    standAt pos
    let x ← foldedSetIterable e env (← eval e env)
    standAt e.pos
    runOwn (.forLoop t (← holding [x] (pyIter x)) b [] env) env) _
  refine .standAt ((H.eval X).bind fun a v g' l hv => ?_)
  have hf : foldedSetIterable e env v = pure v := by
    rcases e with ⟨⟩ <;> first | rfl | exact absurd rfl (h _ _ _)
  rw [hf, pure_bind]
  refine .standAt ?_
  have X' := X.mono l
  refine Snd.bind (.holding (.leaf fun g₁ st s l1 R => iterA_ok O R (hv.mono l1))) fun i w g2 l2 hi => ?_
  exact runOwn_none (H.forL (X'.mono l2) hi)
end
end Mine

end
section
set_option maxRecDepth 100000
namespace Mine
open PySem PySem.W PySem.Calls PySem.SeqAt PyProof.Rows

section
variable {P : Par} {G : Glob} {g : Gh} {st : St} {s : Shared} {A : Around} {Γ : AEnv} {env : Env} {r : Rec}

/-- how a turn ends -/
noncomputable def GoR (ρ : Nat → Int) (c : Code) (env : Env) (g : Gh) : Sum Unit AFlow → Fin → Prop
  | .inl _, fin => fin = .again c
  | .inr f, fin => (∃ fl, fin = .done fl ∧ FlowR ρ g f fl) ∨ (fin = .again (.block [] env) ∧ f = .next)

theorem codeS_block {prog : Program} {w : World} {R : Result → Shared → Prop} (h : R (.ok .next) s) : codeS (model prog w) A (.block [] env) R s := by
  refine codeS_of_tree rfl ?_
  show wpS _ A (do return Fin.done (← (execs [] env).onRaise (fun x => do noteFrame x env; theTreesLotGoes x))) _ _ s
  refine wpS_bind (wpS_onRaise (wpS_pure ?_))
  exact wpS_pure h

set_option tactic.hygienic true in
/-- a loop of the frame's own -/
theorem loop_ok {m : AM (Sum Unit AFlow)} {k : AM AFlow} {c : Code} {t : Sem Fin} {n : Nat} (X : CtxR P g Γ env A n) (hb : badCode c = false)
    (hden : (model P.prog P.w).den c = t.onRaise fun x => do noteFrame x env; theTreesLotGoes x) (hund : A.under c = A) (hq : c.quiet = true)
    (turn : Snd P g A m t (GoR P.ρ c env)) (next : ∀ g', g.le g' → CodeSnd P g' A env k c) : CodeSnd P g A env (ownA Γ m >>= fun go => match go with
      | .inl _ => k
      | .inr f => pure f) c := by
  intro g₁ st s l R hn
  have hm := fun q => hn (bind_stuck q)
  refine codeS_of_tree hb ?_
  rw [hden, hund]
  refine wpS_mono (ownTurn (turn g₁ st s l R) (X.mono l).top hm) (fun fin s' ⟨go, st', g', e, l', R', v⟩ => ?_) fun e s' z B => ?_
  · rw [bind_ok e] at hn
    cases go with
    | inl u =>
      obtain rfl : fin = .again c := v
      refine ⟨hq, codeS_mono (next g' (l.trans l') g' st' s' (.refl _) R' hn) fun r s'' z => ?_⟩
      cases r with
      | ok f => exact (SOk.up l' z).next e
      | error d => exact fun B => wpS_mono (z B) (fun _ s3 q => (SErr.up l' q).next e) fun _ _ q => q
    | inr f =>
      rcases v with ⟨fl, rfl, v⟩ | ⟨rfl, rfl⟩
      · exact ⟨f, st', g', bind_ok e, l', R', v⟩
      · exact ⟨rfl, codeS_block ⟨.next, st', g', bind_ok e, l', R', trivial⟩⟩
  · exact wpS_mono (z B) (fun _ s3 q => q.fail) fun _ _ q => q

theorem body_ok {n : Nat} (H : RecOK P G r n) (X : CtxR P g Γ env A n) {b : List Stmt} {c : Code} : Snd P g A (do
      match ← execsW (r.exec Γ) b with
      | .next => pure (Sum.inl ())
      | .ret v => pure (Sum.inr (AFlow.ret v))) (do
      match ← execs b env with
      | .next | .cont => again c
      | .brk => pure (.done .next)
      | .ret v => pure (.done (.ret v))) (GoR P.ρ c env) := by
  refine (execs_ok H X).bind fun a f g' l v => ?_
  cases a with
  | next =>
    rcases f with ⟨⟩ <;> first | exact v.elim | skip
    exact .pure fun _ _ => rfl
  | ret a =>
    rcases f with ⟨⟩ <;> first | exact v.elim | skip
    exact .pure fun g'' l' => .inl ⟨_, rfl, v.mono l'⟩

theorem whileA_ok {n : Nat} (H : RecOK P G r n) (X : CtxR P g Γ env A n) {t : Expr} {b : List Stmt} : CodeSnd P g A env (whileA r Γ t b) (.whileLoop t b [] env) := by
  refine loop_ok X rfl rfl rfl rfl (t := whileTurn t b [] env) ?_ fun g' l => H.whileL (X.mono l)
  unfold whileTurn
  refine (H.isTrue X).bind fun c d g' l hd => ?_
  subst hd
  cases d
  · exact .pure fun _ _ => .inl ⟨_, rfl, trivial⟩
  · exact body_ok H (X.mono l)

set_option tactic.hygienic true in
theorem SndAt.onRaiseStand {α β : Type} {m : AM α} {t : Sem β} {V : Gh → α → β → Prop} {pos : Pos} (x : SndAt P g st s A m t V) : SndAt P g st s A m (t.onRaise fun _ => PySem.standAt pos) V :=
  fun hn => wpS_onRaise (wpS_mono (x hn) (fun _ _ z => z) fun _ _ z => wpS_standAt z)

set_option tactic.hygienic true in
/-- the next item to its target -/
theorem nextTo_ok {α β : Type} {n : Nat} (H : RecOK P G r n) (O : GOK P G) (X : CtxR P g Γ env A n) {target : Expr} {i : Nat} {v : Value} (hi : ItR g i v) {k₀ : AM α} {k : AM α} {t₀ : Sem β} {t : Sem β} {V : Gh → α → β → Prop}
    {tn : Sem (Option Value)} (hn : ∀ {g' st s}, SndAt P g' st s A (nextA G Γ.hd i) (pyNext v) (fun g' c w => NxR P.ρ g' c w) → SndAt P g' st s A (nextA G Γ.hd i) tn (fun g' c w => NxR P.ρ g' c w))
    (h0 : ∀ g', g.le g' → Snd P g' A k₀ t₀ V) (h1 : ∀ g', g.le g' → Snd P g' A k t V) : Snd P g A (do
      match ← nextA G Γ.hd i with
      | none => k₀
      | some v => do
        Mine.alive i
        r.assign Γ target v
        k) (do
      match ← tn with
      | none => t₀
      | some w =>
        letOwnedTupleGo target v w
        PySem.assign target env w
        t) V := by
  intro g₁ st s l R
  have X1 := X.mono l
  refine (hn (nextA_ok O R X1.ar.hand (hi.mono l))).bindAt fun a w g' st' s' e l' R' va => ?_
  cases a with
  | none =>
    rcases w with ⟨⟩ <;> first | exact va.elim | skip
    exact h0 g' (l.trans l') g' st' s' (.refl _) R'
  | some a =>
    rcases w with ⟨⟩ <;> first | exact va.elim | skip
    rename_i w
    refine .alive fun hlive => .step (letOwned_ok R' (hi.mono (l.trans l')) hlive ?_)
    exact ((H.assign (X1.mono l') va).bind fun _ _ g'' l'' _ => h1 g'' ((l.trans l').trans l'')) g' st' s' (.refl _) R'

theorem forA_ok {n : Nat} (H : RecOK P G r n) (O : GOK P G) (X : CtxR P g Γ env A n) {t : Expr} {i : Nat} {v : Value} {b : List Stmt} (hi : ItR g i v) : CodeSnd P g A env (forA G r Γ t i b) (.forLoop t v b [] env) := by
  refine loop_ok X rfl rfl rfl rfl (t := forTurn t v b [] env) ?_ fun g' l => H.forL (X.mono l) (hi.mono l)
  unfold forTurn
  refine .standAt ?_
  exact nextTo_ok H O X hi (tn := (pyNext v).onRaise (fun _ => PySem.standAt { t.pos with line := 0 })) (fun h => h.onRaiseStand) (fun g' l => .pure fun _ _ => .inr ⟨rfl, rfl⟩) fun g' l => body_ok H (X.mono l)
end
end Mine

end
section
set_option maxRecDepth 100000
namespace Mine
open PySem PySem.W PySem.Calls PySem.SeqAt PyProof.Rows

section
variable {P : Par} {G : Glob} {g : Gh} {st : St} {s : Shared} {A : Around} {Γ : AEnv} {env : Env} {r : Rec}

theorem EnvR.block (X : EnvR P g Γ env) : env.blockKind = .function := by
  unfold Env.blockKind
  rw [X.fn]; rfl

theorem nameE_eq {e : Expr} {p : Str × Pos} (h : nameE e = some p) : e = .Name p.1 p.2 := by
  rcases e with ⟨⟩ <;> first | (cases h; done) | skip
  cases h; rfl
set_option tactic.hygienic true in
theorem openE_fold {a : Expr} (h : openE a = true) : foldedForSure 8 a = false ∧ constantsAlone 8 a = false ∧ starE a = false := by
  rcases a with ⟨⟩ <;> first | (cases h; done) | exact ⟨rfl, rfl, rfl⟩ | skip
  rename_i u op b q
  refine ⟨rfl, ?_, rfl⟩
  rcases u with ⟨⟩ <;> first | (cases h; done) | skip
  rename_i x p
  have h : (!strEq x "__debug__") = true := h
  show ((x == ("__debug__" : Str)) && constantsAlone 7 b) = false
  have : (x == ("__debug__" : Str)) = false := by
    rw [beq_eq_false_iff_ne]
    intro e
    rw [e, (strEq_iff _ _).mpr rfl] at h
    cases h
  rw [this, Bool.false_and]

/-- a local and a cell: nothing is turned about -/
theorem swap_mixed (X : EnvR P g Γ env) {x y : Str} {px py q p : Pos} {c k : Nat} {a b : Expr} (k1 : kindOf Γ x = some .local) (k2 : kindOf Γ y = some .cell) : swappedStores [.Tuple [.Name x px, .Name y py] c q] (.Tuple [a, b] k p) env = pure none := by
  have kx : env.kindOf x = some .local := by rw [X.kindOf, k1]
  have ky : env.kindOf y = some .cell := by rw [X.kindOf, k2]
  unfold swappedStores
  dsimp only
  rw [X.block]
  rw [if_neg (by simp)]
  by_cases hs : [a, b].any starE = true
  · exact if_pos hs
  · refine (if_neg hs).trans ?_
    simp only [List.filterMap_cons, List.filterMap_nil, kx, ky, List.head?_cons, Option.map_some, Option.getD_some]
    rw [if_pos (show (some NameKind.local == some NameKind.local && px.line == (Expr.Name x px).pos.line) = true by rw [show (some NameKind.local == some NameKind.local) = true by decide, Bool.true_and]; exact beq_self_eq_true _),
      if_neg (show ¬ ((some NameKind.cell == some NameKind.local && py.line == (Expr.Name x px).pos.line) = true) by rw [show (some NameKind.cell == some NameKind.local) = false by decide, Bool.false_and]; exact Bool.false_ne_true)]
    exact if_pos (by rfl)
/-- two locals: stored from the last to the first -/
theorem swap_both (X : EnvR P g Γ env) {x y : Str} {px py q p : Pos} {c k : Nat} {a b' : Expr} (k1 : kindOf Γ x = some .local) (k2 : kindOf Γ y = some .local) (q1 : Nat.beq px.line py.line = true) (q2 : strEq x y = false) (q3 : openE a = true) (q4 : starE b' = false) :
    swappedStores [.Tuple [.Name x px, .Name y py] c q] (.Tuple [a, b'] k p) env = pure (some [x, y]) := by
  have kx : env.kindOf x = some .local := by rw [X.kindOf, k1]
  have ky : env.kindOf y = some .local := by rw [X.kindOf, k2]
  obtain ⟨f1, f2, f3⟩ := openE_fold q3
  have hyx : (y == x) = false := by rw [beq_eq_false_iff_ne]; intro z; rw [z, (strEq_iff _ _).mpr rfl] at q2; cases q2
  have ln : (py.line == px.line) = true := by rw [Nat.eq_of_beq_eq_true q1]; exact beq_self_eq_true _
  have hall1 : ([a, b'].all (foldedForSure 8)) = false := by rw [List.all_cons, f1, Bool.false_and]
  have hall2 : ([a, b'].all (constantsAlone 8)) = false := by rw [List.all_cons, f2, Bool.false_and]
  have hed : [x, y].eraseDups = [x, y] := by
    simp [List.eraseDups, List.eraseDupsBy, List.eraseDupsBy.loop]
    rw [hyx]
  unfold swappedStores
  dsimp only
  rw [X.block]
  rw [if_neg (by simp)]
  have hs : ¬ ([a, b'].any starE = true) := by rw [List.any_cons, List.any_cons, List.any_nil, f3, q4]; exact Bool.false_ne_true
  refine (if_neg hs).trans ?_
  simp only [List.filterMap_cons, List.filterMap_nil, kx, ky, List.head?_cons, Option.map_some, Option.getD_some]
  rw [if_pos (show (some NameKind.local == some NameKind.local && px.line == (Expr.Name x px).pos.line) = true by rw [show (some NameKind.local == some NameKind.local) = true by decide, Bool.true_and]; exact beq_self_eq_true _),
    if_pos (show (some NameKind.local == some NameKind.local && py.line == (Expr.Name x px).pos.line) = true by rw [show (some NameKind.local == some NameKind.local) = true by decide, Bool.true_and]; exact ln)]
  dsimp only
  rw [hed, if_neg (by simp), hall1, hall2]
  rfl
theorem pairOf_inv {t u a b : Expr} {z : Swap} (h : pairOf Γ t u a b = z) (hz : z ≠ .bad) : ∃ x px y py, t = .Name x px ∧ u = .Name y py ∧ pairForm Γ x px y py a b = z := by
  unfold pairOf at h
  cases e1 : nameE t with
  | none => rw [e1] at h; exact absurd h.symm hz
  | some p =>
    rw [e1] at h
    cases e2 : nameE u with
    | none => rw [e2] at h; exact absurd h.symm hz
    | some q => rw [e2] at h; exact ⟨_, _, _, _, nameE_eq e1, nameE_eq e2, h⟩
theorem pairsOf_inv {ts vs : List Expr} {z : Swap} (h : pairsOf Γ ts vs = z) (hz : z ≠ .bad) : ∃ x px y py a b, ts = [.Name x px, .Name y py] ∧ vs = [a, b] ∧ pairForm Γ x px y py a b = z := by
  rcases ts with _ | ⟨t, _ | ⟨u, _ | ⟨_, _⟩⟩⟩ <;> try exact absurd h.symm hz
  rcases vs with _ | ⟨a, _ | ⟨b, _ | ⟨_, _⟩⟩⟩ <;> try exact absurd h.symm hz
  refine hideGoal fun Φ hΦ => ?_
  obtain ⟨x, px, y, py, rfl, rfl, h⟩ := pairOf_inv h hz
  refine hΦ ?_
  clear hΦ Φ
  exact ⟨x, px, y, py, a, b, rfl, rfl, h⟩
theorem pairForm_no {x y : Str} {px py : Pos} {a b : Expr} (h : pairForm Γ x px y py a b = .no) : kindOf Γ x = some .local ∧ kindOf Γ y = some .cell := by
  unfold pairForm at h
  cases k1 : kindOf Γ x with
  | none => rw [k1] at h; cases h
  | some kx =>
    rw [k1] at h
    cases k2 : kindOf Γ y with
    | none => rw [k2] at h; rcases kx with ⟨⟩ <;> cases h
    | some ky =>
      rw [k2] at h
      rcases kx with ⟨⟩ <;> first | (cases h; done) | skip
      rcases ky with ⟨⟩ <;> first | (cases h; done) | exact ⟨rfl, rfl⟩ | skip
      dsimp only at h
      cases q : (Nat.beq px.line py.line && (!strEq x y && (openE a && !starE b))) with
      | true => rw [q] at h; cases h
      | false => rw [q] at h; cases h
theorem pairForm_yes {x y x' y' : Str} {px py : Pos} {a b : Expr} (h : pairForm Γ x px y py a b = .yes x' y') : x' = x ∧ y' = y ∧ kindOf Γ x = some .local ∧ kindOf Γ y = some .local ∧ Nat.beq px.line py.line = true ∧ strEq x y = false ∧ openE a = true ∧ starE b = false := by
  unfold pairForm at h
  cases k1 : kindOf Γ x with
  | none => rw [k1] at h; cases h
  | some kx =>
    rw [k1] at h
    cases k2 : kindOf Γ y with
    | none => rw [k2] at h; rcases kx with ⟨⟩ <;> cases h
    | some ky =>
      rw [k2] at h
      rcases kx with ⟨⟩ <;> first | (cases h; done) | skip
      rcases ky with ⟨⟩ <;> first | (cases h; done) | skip
      dsimp only at h
      cases q : (Nat.beq px.line py.line && (!strEq x y && (openE a && !starE b))) with
      | false => rw [q] at h; cases h
      | true =>
        rw [q] at h
        cases h
        rw [Bool.and_eq_true, Bool.and_eq_true, Bool.and_eq_true, Bool.not_eq_true', Bool.not_eq_true'] at q
        exact ⟨rfl, rfl, rfl, rfl, q.1, q.2.1, q.2.2.1, q.2.2.2⟩
set_option tactic.hygienic true in
theorem swap_no (X : EnvR P g Γ env) {t e : Expr} (h : swapForm Γ t e = .no) : swappedStores [t] e env = pure none := by
  rcases t with ⟨⟩ <;> first | (cases h; done) | rfl | skip
  rename_i ts c q
  rcases e with ⟨⟩ <;> first | (cases h; done) | rfl | skip
  rename_i vs k p
  refine hideGoal fun Φ hΦ => ?_
  obtain ⟨x, px, y, py, a, b, rfl, rfl, h⟩ := pairsOf_inv (ts := ts) (vs := vs) h (by intro z; cases z)
  refine hΦ ?_
  clear hΦ Φ
  obtain ⟨k1, k2⟩ := pairForm_no h
  exact swap_mixed X k1 k2
set_option tactic.hygienic true in
theorem swap_yes (X : EnvR P g Γ env) {t e : Expr} {x y : Str} (h : swapForm Γ t e = .yes x y) :
    ∃ px py a b k1 p1 k2 p2, t = .Tuple [.Name x px, .Name y py] k1 p1 ∧ e = .Tuple [a, b] k2 p2 ∧ swappedStores [t] e env = pure (some [x, y]) := by
  rcases t with ⟨⟩ <;> first | (cases h; done) | skip
  rename_i ts c q
  rcases e with ⟨⟩ <;> first | (cases h; done) | skip
  rename_i vs k p
  refine hideGoal fun Φ hΦ => ?_
  obtain ⟨x', px, y', py, a, b, rfl, rfl, h⟩ := pairsOf_inv (ts := ts) (vs := vs) h (by intro z; cases z)
  refine hΦ ?_
  clear hΦ Φ
  refine hideGoal fun Φ hΦ => ?_
  obtain ⟨rfl, rfl, k1, k2, q1, q2, q3, q4⟩ := pairForm_yes h
  refine hΦ ?_
  clear hΦ Φ
  exact ⟨px, py, a, b, c, q, k, p, rfl, rfl, swap_both X k1 k2 q1 q2 q3 q4⟩

theorem wpS_rule {M : Model} {E : Value → Shared → Prop} {tag : String} {Q : Unit → Shared → Prop} (h : Q () s) : wpS M A (rule tag) Q E s := .of (wpAny_rule h)
theorem execAssign_ok {n : Nat} (H : RecOK P G r n) (O : GOK P G) (X : CtxR P g Γ env A n) {t e : Expr} {pos : Pos} : Snd P g A (match swapForm Γ t e with
      | .no => do
        noComp e
        plainE t
        let v ← r.eval Γ e
        r.assign Γ t v
        pure .next
      | .yes x y => do
        noComp e
        let v ← r.eval Γ e
        let vs ← itemsT G v
        match Γ.hd, vs with
        | none, [a, b] => do
          storeN Γ y b
          storeN Γ x a
          pure .next
        | _, _ => stuck
      | .bad => stuck) (exec (.Assign [t] e pos) env) (FlowR P.ρ) := by
  rw [arm_exec_Assign]
  refine .standAt ?_
  cases hs : swapForm Γ t e with
  | bad => exact .stuck
  | no =>
    refine snd_noComp (env := env) fun hw => ?_
    show Snd P g A _ (swapsWith e (some t) pos.line env >>= _) _
    rw [hw, swap_no X.er hs]
    refine .pureBind (.ifN Bool.false_ne_true ?_)
    refine .plainE fun h1 h2 => ?_
    refine (H.eval X).bind fun a v g' l hv => .pureBind ?_
    rw [assignEach_cons h1]
    show Snd P g' A _ (PySem.assign t env v >>= fun _ => pure Flow.next) _
    exact (H.assign (X.mono l) hv).bind fun _ _ g2 l2 _ => .pure fun _ _ => trivial
  | yes x y =>
    refine hideGoal fun Φ hΦ => ?_
    obtain ⟨px, py, a, b, k1, p1, k2, p2, rfl, rfl, hsw⟩ := swap_yes X.er hs
    refine hΦ ?_
    clear hΦ Φ
    refine snd_noComp (env := env) fun hw => ?_
    show Snd P g A _ (swapsWith (.Tuple [a, b] k2 p2) (some (.Tuple [.Name x px, .Name y py] k1 p1)) pos.line env >>= _) _
    rw [hw, hsw]
    refine .pureBind (.ifN Bool.false_ne_true ?_)
    refine (H.eval X).bind fun a v g' l hv => .pureBind ?_
    intro g₁ st s l1 R
    have X1 := (X.mono l).mono l1
    refine .itemsT O R (hv.mono l1) fun vs t items e it hvs => ?_
    subst e
    cases hh : Γ.hd with
    | some _ => exact .stuck
    | none =>
      have hA : A.handled = none := by have := X1.ar.hand; rw [hh] at this; exact this
      rcases vs with _ | ⟨va, _ | ⟨vb, _ | ⟨_, _⟩⟩⟩ <;> try exact .stuck
      dsimp only
      have hz : items.size = 2 := by rw [← Array.length_toList, ← hvs.len]; rfl
      obtain ⟨il⟩ := items
      dsimp only at hvs
      rcases il with _ | ⟨wa, _ | ⟨wb, _ | ⟨_, _⟩⟩⟩ <;> try (first | (cases hz; done) | (simp at hz; done))
      obtain ⟨h1, h2, _⟩ := hvs
      have U : ∀ (Q : List Value → Shared → Prop) (E : Value → Shared → Prop), (∀ h', Heap.ExtBut s.heap.objs.size s.heap h' → Q [wa, wb] { s with heap := h' }) → wpAny (model P.prog P.w) A (unpackItems (.ref t) 2 none) Q E s := by
        intro Q E hQ
        have z := unpackItems_tuple (prog := P.prog) (w := P.w) (A := A) (E := E) (s := s) (Q := Q) hA it (by exact hQ)
        rw [hz] at z
        exact z
      show SndAt P g₁ st s A _ (do
          rule "assign.swapped-stores"
          let items ← unpackItems (.ref t) 2 none
          assignInOrder (([x, y] : List Str).reverse.map fun n => bindName env n) items.reverse
          pure Flow.next) _
      refine .step (wpAny_rule ?_)
      refine .step (U _ _ fun h' hx => ?_)
      have R1 : RepS P g₁ st { s with heap := h' } := ⟨R.1.grow fun b o e => hx _ _ (Nat.ne_of_lt (Heap.lt_size e)) e, R.2⟩
      have Y : Snd P g₁ A (do
          storeN Γ y vb
          storeN Γ x va
          pure ()) (do
          holding [wa] (bindName env y wb)
          holding [] (bindName env x wa)
          pure ()) (fun _ _ _ => True) :=
        (bindName_ok X1.er h2).holding.bind fun _ _ g2 l2 _ => (bindName_ok (X1.er.mono l2) (h1.mono l2)).holding.bind fun _ _ g3 l3 _ => .pure fun _ _ => trivial
      have Z := (Y.bind (f := fun _ => pure AFlow.next) (k := fun _ => pure Flow.next) (W := FlowR P.ρ) fun _ _ g' l _ => .pure fun _ _ => trivial) g₁ st _ (.refl _) R1
      simp only [am_assoc, am_pure] at Z
      exact Z
end
end Mine

end
section
set_option maxRecDepth 100000
namespace Mine
open PySem PySem.W PySem.Calls PySem.SeqAt PyProof.Rows

section
variable {P : Par} {G : Glob} {g : Gh} {st : St} {s : Shared} {A : Around} {Γ : AEnv} {env : Env} {r : Rec}

theorem execRaise_ok {n : Nat} (H : RecOK P G r n) (O : GOK P G) (X : CtxR P g Γ env A n) {e : Expr} {pos : Pos} : Snd P g A (do
      let v ← r.eval Γ e
      match v with
      | .ref i => do
        match ← getO i with
        | .exc C d tb ctx => do
          excCls G C
          flightA i none
          match Γ.hd with
          | none => raiseA i
          | some h => do
            match ← getO h with
            | .exc _ _ _ true => (match Nat.beq h i with
              | true => stuck
              | false => do
                setO i (.exc C d tb false)
                raiseA i)
            | _ => stuck
        | _ => stuck
      | _ => stuck) (exec (.Raise (some e) none pos) env) (FlowR P.ρ) := by
  rw [arm_exec_Raise]
  refine .standAt ?_
  have eq : raiseStmt env ((evalOpt (some e) env).map fun x => do let v ← x; standAt pos; pure v) ((evalOpt none env).map fun c => do let v ← c; standAt pos; pure v) =
      (eval e env >>= fun v => standAt pos >>= fun _ => raiseStmt env (some (pure v)) none) := by
    show raiseStmt env (some (do let v ← eval e env; standAt pos; pure v)) none = _
    unfold raiseStmt
    simp only [bind_assoc, pure_bind]
  rw [eq]
  refine (H.eval X).bind fun a v g' l hv => .standAt ?_
  rcases a with ⟨⟩ <;> first | exact .stuck | skip
  intro g₁ st s l1 R hn
  exact wpS_mono (raise_ok O R ((X.mono l).mono l1).ar.hand (hv.mono l1) hn) (fun _ _ ⟨_, _, _, _, _, _, z⟩ => z.elim) fun _ _ z => z

theorem EnvR.hd' (X : EnvR P g Γ env) (h : Option Nat) : EnvR P g { Γ with hd := h } env := ⟨X.scope, X.kind, X.loc, X.locT, X.glob, X.blt, X.cells, X.frame, X.frT, X.qual, X.tab⟩
/-- while an exception is handled -/
theorem CtxR.handling {n i : Nat} {x : Addr} (X : CtxR P g Γ env A n) (hx : g.adr i = some x) : CtxR P g { Γ with hd := some i } env (A.mark (some (.ref x))) n :=
  ⟨X.er.hd' _, ⟨⟨x, hx, rfl⟩, X.ar.depth, X.ar.units, X.ar.frames⟩, ⟨X.top.frames, X.top.frame⟩⟩

theorem noErr_ok {α : Type} {m : AM α} {a : α} {st' : St} (h : m st = .ok a st') : noErr m st = .ok a st' := by unfold noErr; rw [h]
theorem noErr_err {α : Type} {m : AM α} {i : Nat} {st' : St} (h : m st = .err i st') : noErr m st = .stuck := by unfold noErr; rw [h]
theorem noErr_stuck {α : Type} {m : AM α} (h : m st = .stuck) : noErr m st = .stuck := by unfold noErr; rw [h]
theorem noErr_attempt {α β : Type} {m : AM α} {t : Sem β} {V : Gh → α → β → Prop} {k : Except Value β → Sem β} (hk : ∀ f, k (.ok f) = pure f) (x : SndAt P g st s A m t V) : SndAt P g st s A (noErr m) (t.attempt >>= k) V := by
  intro hn
  refine wpS_bind (wpS_attempt (wpS_mono (x fun q => hn (noErr_stuck q)) (fun b s' ⟨a, st', g', e, z⟩ => by rw [hk]; exact wpS_pure ⟨a, st', g', noErr_ok e, z⟩) fun e s' ⟨i, st', g', y, e1, z⟩ => absurd (noErr_err e1) hn))

set_option tactic.hygienic true in
/-- the clause's class -/
theorem test_ok {n : Nat} (H : RecOK P G r n) (O : GOK P G) (X : CtxR P g Γ env A n) {i : Nat} {x : Addr} {t : Expr} {pos : Pos} (hx : g.adr i = some x) (R : RepS P g st s) :
    SndAt P g st s A (noErr (do matchA G i (← r.eval { Γ with hd := some i } t))) (runOwn (.handlers (.ref x) [.ExceptHandler (some t) none [] pos] env) env (some (.ref x))) (fun _ hit fl => fl = if hit then .brk else .next) := by
  intro hn
  have X' := X.handling hx
  rw [runOwn_eq]
  have hm : (do matchA G i (← r.eval { Γ with hd := some i } t) : AM Bool) st ≠ .stuck := fun q => hn (noErr_stuck q)
  have hm1 := fun q => hm (bind_stuck q)
  refine wpS_onRaise (wpS_run (codeS_of_tree rfl ?_) (by intro z; cases z))
  show wpS _ (A.mark (some (.ref x))) (do return Fin.done (← (handleWith (.ref x) env [.ExceptHandler (some t) none [] pos]).onRaise (fun x => do noteFrame x env; theTreesLotGoes x))) _ _ s
  refine wpS_bind (wpS_onRaise ?_)
  unfold handleWith
  refine wpS_bind (wpS_standAt (wpS_bind (wpS_mono (H.eval X' g st s (.refl _) R hm1) (fun c s₁ ⟨a, st', g', e, l, R', va⟩ => wpS_bind (wpS_standAt ?_)) fun e s' ⟨j, st', g', y, e1, _⟩ => ?_)))
  · rw [bind_ok e] at hm
    have hn2 := hn
    unfold matchA at hm
    rcases a with ⟨⟩ <;> first | exact absurd rfl hm | skip
    rename_i b
    obtain rfl : c = .ref b := va
    dsimp only at hm
    cases q : st'.get i with
    | none => exact absurd (bind_stuck (getO_none q)) hm
    | some o =>
      rw [bind_ok (getO_ok q)] at hm
      rcases o with ⟨⟩ <;> first | exact absurd rfl hm | skip
      rename_i C d tb ctx
      dsimp only at hm
      refine hideGoal fun Φ hΦ => ?_
      obtain ⟨ob, vs, k1, k2, k3, k4, _⟩ := R'.excAt q (l.adr hx)
      refine hΦ ?_
      clear hΦ Φ
      cases q1 : G.cls C with
      | none => exact absurd (bind_stuck (by unfold excCls; rw [q1]; rfl)) hm
      | some cC =>
        cases q2 : cC.exc with
        | false => exact absurd (bind_stuck (by unfold excCls; simp only [q1, q2]; rfl)) hm
        | true =>
          have e3 : excCls G C st' = .ok () st' := by unfold excCls; simp only [q1, q2]; rfl
          rw [bind_ok e3] at hm
          cases q3 : G.cls b with
          | none => exact absurd (bind_stuck (by unfold excCls; rw [q3]; rfl)) hm
          | some cb =>
            cases q4 : cb.exc with
            | false => exact absurd (bind_stuck (by unfold excCls; simp only [q3, q4]; rfl)) hm
            | true =>
              have e4 : excCls G b st' = .ok () st' := by unfold excCls; simp only [q3, q4]; rfl
              refine wpS_bind (.of (excMatches_ok O R' q1 q2 q3 q4 k1 k2 k4 ?_))
              refine wpS_pure (wpS_pure ⟨Nat.beq C b, st', g', noErr_ok ?_, l, R', ?_⟩)
              · rw [bind_ok e]
                unfold matchA
                dsimp only
                rw [bind_ok (getO_ok q)]
                dsimp only
                rw [bind_ok e3, bind_ok e4]
                rfl
              · rfl
  · exact absurd (noErr_err (bind_err e1)) hn

/-- the clause's suite -/
theorem suite_ok {n : Nat} (H : RecOK P G r n) (X : CtxR P g Γ env A n) {i : Nat} {x : Addr} {name : Option Str} {body : List Stmt} {pos : Pos} (hx : g.adr i = some x) :
    CodeSnd P g (A.mark (some (.ref x))) env (ownA Γ (do
        flightA i none
        match name with
        | some x => do
          storeN { Γ with hd := some i } x (.ref i)
          noErr (execsW (r.exec { Γ with hd := some i }) body)
        | none => execsW (r.exec { Γ with hd := some i }) body)) (.handlers (.ref x) [.ExceptHandler none name body pos] env) := by
  intro g₁ st s l R hn
  have X1 := (X.mono l).handling (l.adr hx)
  have hx1 := l.adr hx
  refine codeS_of_tree rfl ?_
  show wpS _ (A.mark (some (.ref x))) (do return Fin.done (← (handleWith (.ref x) env [.ExceptHandler none name body pos]).onRaise (fun x => do noteFrame x env; theTreesLotGoes x))) _ _ s
  have turn : SndAt P g₁ st s (A.mark (some (.ref x))) (do
        flightA i none
        match name with
        | some x => do
          storeN { Γ with hd := some i } x (.ref i)
          noErr (execsW (r.exec { Γ with hd := some i }) body)
        | none => execsW (r.exec { Γ with hd := some i }) body) (handleWith (.ref x) env [.ExceptHandler none name body pos]) (FlowR P.ρ) := by
    unfold handleWith
    refine .step (wpAny_standAt ?_)
    refine (flightA_ok (fl := none) (fr := none) R hx1 rfl).bindAt fun _ _ g' st' s' _ l' R' _ => ?_
    cases name with
    | none => exact execs_ok H (X1.mono l') g' st' s' (.refl _) R'
    | some y =>
      refine (bindName_ok (A := A.mark (some (.ref x))) (X1.er.mono l') (a := .ref i) (v := .ref x) ⟨x, l'.adr hx1, rfl⟩ g' st' s' (.refl _) R').bindAt fun _ _ g2 st2 s2 _ l2 R2 _ => ?_
      exact noErr_attempt (fun _ => rfl) (execs_ok H ((X1.mono l').mono l2) g2 st2 s2 (.refl _) R2)
  refine wpS_bind (wpS_mono (ownTurn (Γ := Γ) turn X1.top hn) (fun f s' z => wpS_pure z) fun e s' z => z)

set_option tactic.hygienic true in
theorem execTry_ok {n : Nat} (H : RecOK P G r n) (O : GOK P G) (X : CtxR P g Γ env A n) {b : List Stmt} {hs : List ExceptHandler} {pos : Pos} : Snd P g A (do
      match ← attemptA (execsW (r.exec Γ) b) with
      | .ok fl => pure fl
      | .error i => (match hs with
        | [] => stuck
        | _ :: _ => do
          noteA Γ.fr i
          flightA i none
          handleA G r Γ i hs)) (exec (.Try b hs [] [] pos) env) (FlowR P.ρ) := by
  rw [arm_exec_Try]
  refine .standAt ?_
  intro g₁ st s l R hn
  have X1 := X.mono l
  have hm : execsW (r.exec Γ) b st ≠ .stuck := fun q => hn (bind_stuck (by unfold attemptA; rw [q]))
  unfold tryStmt
  simp only [List.isEmpty_nil, if_true, Bool.false_and, Bool.false_eq_true, if_false]
  refine wpS_bind (wpS_attempt (wpS_mono (execs_ok H X1 g₁ st s (.refl _) R hm) (fun f s₁ ⟨a, st', g', e, l', R', v⟩ => ?_) fun e s₁ ⟨i, st', g', x, e1, l', R', ha, he⟩ => ?_))
  · have eq : attemptA (execsW (r.exec Γ) b) st = .ok (.ok a) st' := by unfold attemptA; rw [e]
    refine wpS_next eq ?_
    cases a with
    | next =>
      rcases f with ⟨⟩ <;> first | exact v.elim | skip
      exact wpS_pure ⟨.next, st', g', rfl, l', R', trivial⟩
    | ret w =>
      rcases f with ⟨⟩ <;> first | exact v.elim | skip
      exact wpS_pure ⟨.ret w, st', g', rfl, l', R', v⟩
  · subst he
    have eq : attemptA (execsW (r.exec Γ) b) st = .ok (.error i) st' := by unfold attemptA; rw [e1]
    rw [bind_ok eq] at hn
    refine wpS_next eq ?_
    have X2 := X1.mono l'
    refine SndAt.up l' ?_ hn
    cases hs with
    | nil => exact .stuck
    | cons h hs =>
    dsimp only
    refine (noteA_ok R' X2.top ha).bindAt fun _ _ g2 st2 s2 _ l2 R2 _ => ?_
    rw [if_neg (by rw [List.isEmpty_cons]; exact Bool.false_ne_true)]
    have ha2 := l2.adr ha
    refine (flightA_ok (fl := none) (fr := none) R2 ha2 rfl).bindAt fun _ _ g3 st3 s3 _ l3 R3 _ => ?_
    have X3 := (X2.mono l2).mono l3
    have ha3 := l3.adr ha2
    unfold handleA
    split
    · rename_i t name body hp hh
      cases hh
      have fin : ∀ {g' : Gh} {st s}, RepS P g' st s → g3.le g' → SndAt P g' st s A (do
          let f ← ownA Γ (do
            flightA i none
            match name with
            | some x => do
              storeN { Γ with hd := some i } x (.ref i)
              noErr (execsW (r.exec { Γ with hd := some i }) body)
            | none => execsW (r.exec { Γ with hd := some i }) body)
          match name with
          | some x => do
            delN Γ x
            pure f
          | none => pure f) (do
          let f ← holding [.ref x] (runOwn (.handlers (.ref x) [.ExceptHandler none name body hp] env) env (some (.ref x)))
          if let some n := name then
            holding (match f with | .ret v => [v] | _ => []) do
              bindName env n .none
              unbindBehindTheSuite env n hp
          pure f) (FlowR P.ρ) := by
        intro g' st s R l
        have X4 := X3.mono l
        refine ((runOwn_ok (hd := some (.ref x)) (suite_ok H X4 (l.adr ha3)) (by intro z; cases z)).holding g' st s (.refl _) R).bindAt fun f w g'' st'' s'' _ l2 R2 v => ?_
        cases name with
        | none => exact .val rfl (wpAny_pure ⟨g'', .refl _, R2, v⟩)
        | some y =>
          dsimp only
          intro hn
          have hd := fun q => hn (bind_stuck q)
          refine wpS_bind (wpS_holding (wpS_mono (delN_ok (A := A) R2 (X4.mono l2).er hd) (fun _ s4 ⟨_, st4, g4, e4, l4, R4, _⟩ => ?_) fun e s4 ⟨i, st4, g4, y, e4, z⟩ => ⟨i, st4, g4, y, bind_err e4, z⟩))
          exact wpS_pure ⟨f, st4, g4, by rw [bind_ok e4]; rfl, l4, R4, v.mono l4⟩
      unfold handleBy
      dsimp only
      intro hn
      have hm := fun q => hn (bind_stuck q)
      refine wpS_bind (wpS_holding (wpS_mono (test_ok H O X3 ha3 R3 hm) (fun fl s4 ⟨hit, st4, g4, e4, l4, R4, v⟩ => ?_) fun e s4 ⟨i, st4, g4, y, e4, z⟩ => ⟨i, st4, g4, y, bind_err e4, z⟩))
      subst v
      rw [bind_ok e4] at hn
      refine wpS_next e4 ?_
      cases hit with
      | false => exact absurd rfl hn
      | true => exact wpS_bind (wpS_pure (SndAt.up l4 (fin R4 l4) hn))
    · exact .stuck
end
end Mine

end
section
set_option maxRecDepth 100000
namespace Mine
open PySem PySem.W PySem.Calls PySem.SeqAt PyProof.Rows

section
variable {P : Par} {G : Glob} {g : Gh} {st : St} {s : Shared} {A : Around} {Γ : AEnv} {env : Env} {r : Rec}

set_option tactic.hygienic true in
theorem appendA_ok (R : RepS P g st s) {acc : Nat} {a : Addr} {w : AV} {x : Value} (ha : g.adr acc = some a) (vx : VR P.ρ g w x) :
    SndAt P g st s A (appendA acc w) (call (.builtin "list.append") [.ref a, x]) (fun _ _ _ => True) := by
  unfold appendA
  refine .getO fun o ho => ?_
  rcases o with ⟨⟩ <;> first | exact .stuck | skip
  rename_i us
  refine hideGoal fun Φ hΦ => ?_
  obtain ⟨ws, n, h1, h2⟩ := R.lstX ho ha
  refine hΦ ?_
  clear hΦ Φ
  have hz := size_of h2
  refine .fit fun hf => .val set_ok (append_lst h1 (by rw [sizeLine_eq]; omega) ⟨g, .refl _, ?_, trivial⟩)
  refine R.set (tk := s.toks) ho ha (Heap.SameBut.update ..).extBut (Heap.get?_update_self _ h1 rfl) ⟨rfl, _, _, rfl, ?_, rfl, rfl⟩ rfl
  rw [Array.toList_push]
  exact h2.append ⟨vx, trivial⟩

noncomputable def GoC (c : Code) : Sum Unit Unit → Fin → Prop
  | .inl _, fin => fin = .again c
  | .inr _, fin => fin = .done .next

theorem compA_ok {n : Nat} (H : RecOK P G r n) (O : GOK P G) (X : CtxR P g Γ env A n) {elt target iter : Expr} {scope : Scope} {pos : Pos} {i acc : Nat} {v : Value} {a : Addr} (hi : ItR g i v) (ha : g.adr acc = some a) :
    CompSnd P g A (compA G r Γ elt target i acc) (.compLoop (.ListComp elt [⟨target, iter, [], 0⟩] scope pos) 0 v (.ref a) env) := by
  intro g₁ st s l R ⟨stf, hf⟩
  have X1 := X.mono l
  refine codeS_of_tree rfl ?_
  show wpS _ A ((compTurn (.ListComp elt [⟨target, iter, [], 0⟩] scope pos) 0 v (.ref a) env).onRaise (fun x => do noteFrame x env; theTreesLotGoes x)) _ _ s
  rw [compTurn_list1]
  have turn := nextTo_ok H O X hi (target := target) (k₀ := (pure (Sum.inr ()) : AM (Sum Unit Unit))) (k := (do
      let w ← r.eval Γ elt
      appendA acc w
      pure (Sum.inl ()) : AM (Sum Unit Unit))) (t₀ := pure (Fin.done .next)) (t := (eval elt env >>= fun x => call (.builtin "list.append") [.ref a, x] >>= fun _ => pure ()) >>= fun _ => again (.compLoop (.ListComp elt [⟨target, iter, [], 0⟩] scope pos) 0 v (.ref a) env))
    (V := fun _ => GoC (.compLoop (.ListComp elt [⟨target, iter, [], 0⟩] scope pos) 0 v (.ref a) env)) (tn := pyNext v) (fun h => h) (fun g' l' => .pure fun _ _ => rfl) (fun g' l' => by
      rw [bind_assoc]
      refine (H.eval (X.mono l')).bind fun w x g2 l2 vx => ?_
      rw [bind_assoc]
      intro g3 st s l3 R
      exact (appendA_ok R (l3.adr (l2.adr (l'.adr ha))) (vx.mono l3)).bindAt fun _ _ g4 st4 s4 _ l4 R4 _ => .val rfl (wpAny_pure ⟨g4, .refl _, R4, rfl⟩))
  have hm : (do
    match ← nextA G Γ.hd i with
    | none => pure (Sum.inr ())
    | some v => do
      Mine.alive i
      r.assign Γ target v
      let w ← r.eval Γ elt
      appendA acc w
      pure (Sum.inl ()) : AM (Sum Unit Unit)) st ≠ .stuck := fun q => by
    have z : compA G r Γ elt target i acc st = .stuck := bind_stuck q
    rw [z] at hf
    cases hf
  refine wpS_onRaise (wpS_bind (wpS_standAt (wpS_mono (turn g₁ st s l R hm) (fun fin s' ⟨go, st1, g1, e, l1, R1, hv⟩ => ?_) fun e s' ⟨j, st1, g1, y, e1, _⟩ => ?_)))
  · have eq : compA G r Γ elt target i acc st = (match go with
        | .inl _ => r.comp Γ elt target i acc
        | .inr _ => pure ()) st1 := bind_ok e
    cases go with
    | inl u =>
      obtain rfl : fin = _ := hv
      rw [eq] at hf
      refine ⟨rfl, codeS_mono (H.comp (X1.mono l1) (hi.mono (l.trans l1)) (l1.adr (l.adr ha)) g1 st1 s' (.refl _) R1 ⟨stf, hf⟩) fun r s2 z => ?_⟩
      cases r with
      | ok f => obtain ⟨st2, g2, e2, l2, R2⟩ := z; exact ⟨st2, g2, by rw [eq]; exact e2, l1.trans l2, R2⟩
      | error e => exact z
    | inr u =>
      obtain rfl : fin = _ := hv
      exact ⟨st1, g1, eq, l1, R1⟩
  · exfalso
    have : compA G r Γ elt target i acc st = .err j st1 := bind_err e1
    rw [this] at hf
    cases hf
end
end Mine

end
section
set_option maxRecDepth 100000
namespace Mine
open PySem PySem.W PySem.Calls PySem.SeqAt PyProof.Rows

section
variable {P : Par} {G : Glob} {g : Gh} {st : St} {s : Shared} {A : Around} {Γ : AEnv} {env : Env} {r : Rec}

theorem codeS_compStart {prog : Program} {w : World} {Rr : Result → Shared → Prop} {elt target iter : Expr} {scope : Scope} {pos : Pos} {it l : Addr} {k : Nat} {acc : Value} (hit : s.heap.IsListIter it l k)
    (h0 : codeS (model prog w) A (.compLoop (.ListComp elt [⟨target, iter, [], 0⟩] scope pos) 0 (.ref it) acc env) Rr s) :
    codeS (model prog w) A (.compStart (.ListComp elt [⟨target, iter, [], 0⟩] scope pos) 0 (.ref it) acc env) Rr s := by
  refine codeS_of_tree rfl ?_
  show wpS _ A ((compStart (.ListComp elt [⟨target, iter, [], 0⟩] scope pos) 0 (.ref it) acc env).onRaise (fun x => do noteFrame x env; standAt theWindowsPlace)) _ _ s
  refine wpS_onRaise ?_
  unfold compStart
  show wpS _ _ (ask >>= _) _ _ s
  refine wpS_bind (.of (wpAny_askSetting (wpS_ite (fun _ => ?_) fun _ => ?_)))
  · first
      | exact wpS_bind (wpS_pure (wpS_pure (And.intro rfl h0)))
      | exact wpS_pure (And.intro rfl h0)
  · refine wpS_bind (wpS_rule ?_)
    show wpS _ _ (standAt iter.pos >>= _) _ _ s
    refine wpS_bind (wpS_standAt (wpS_bind (.of (wpAny_pyIter_listiter hit ?_))))
    exact wpS_pure (And.intro rfl h0)

theorem get_push {st : St} (h : st.ok) {i : Nat} {o o' : AO} (e : st.get i = some o) : (st.push o').get i = some o := by
  have hok : (st.push o').ok := by show st.n + 1 = (o' :: st.l).length; rw [List.length_cons]; exact congrArg (· + 1) h
  rw [St.get_eq hok]
  rw [St.get_eq h] at e
  show rnth (o' :: st.l) i = _
  rw [rnth_old (rnth_lt e)]; exact e
theorem get_new {st : St} (h : st.ok) (o : AO) : (st.push o).get st.n = some o := by
  have hok : (st.push o).ok := by show st.n + 1 = (o :: st.l).length; rw [List.length_cons]; exact congrArg (· + 1) h
  rw [St.get_eq hok]
  show rnth (o :: st.l) st.n = _
  rw [show st.n = st.l.length from h]; exact rnth_cons _ _

/-- the iterator over a list stands as one -/
theorem listIter_is (R : RepS P g st s) {i j : Nat} {a : Addr} {vs : List AV} (hi : st.get i = some (.it (.seq (.ref j) 0))) (hj : st.get j = some (.lst vs)) (ha : g.adr i = some a) : ∃ l, s.heap.IsListIter a l 0 := by
  refine hideGoal fun Φ hΦ => ?_
  obtain ⟨ob, h2, b, h3, h4, ⟨h5, _⟩, h6⟩ := R.1.atA ha hi
  refine hΦ ?_
  clear hΦ Φ
  have t := R.1.tag hj
  rw [h5 j rfl] at t
  rcases h4 with h4 | h4
  · rw [if_pos h4] at t; cases t
  · exact ⟨b, ob, h2, h4, h6⟩

theorem locOk_val {all : List (Str × NameKind)} : ∀ {ns : List (Str × NameKind)}, locOk all ns st ≠ .stuck → locOk all ns st = .ok () st ∧ ∀ p ∈ ns, p.2 = .local → all.lookup p.1 = some .local
  | [], _ => ⟨rfl, fun p hp => by cases hp⟩
  | (x, k) :: ns, h => by
    have other : k ≠ .local → locOk all ns st ≠ .stuck → locOk all ns st = .ok () st ∧ ∀ p ∈ (x, k) :: ns, p.2 = .local → all.lookup p.1 = some .local := by
      intro hk h
      obtain ⟨h1, h2⟩ := locOk_val h
      refine ⟨h1, fun p hp => ?_⟩
      rcases List.mem_cons.mp hp with rfl | hp
      · exact fun q => absurd q hk
      · exact h2 p hp
    unfold locOk at h ⊢
    cases k with
    | «local» =>
      dsimp only at h ⊢
      cases q : fget x all with
      | none => rw [q] at h; exact absurd rfl h
      | some k =>
        rw [q] at h
        rcases k with ⟨⟩ <;> first | exact absurd rfl h | skip
        obtain ⟨h1, h2⟩ := locOk_val h
        refine ⟨h1, fun p hp => ?_⟩
        rcases List.mem_cons.mp hp with rfl | hp
        · exact fun _ => by rw [← fget_lookup]; exact q
        · exact h2 p hp
    | _ => exact other (by intro q; cases q) h
theorem SndAt.locOk {α β : Type} {all ns : List (Str × NameKind)} {f : Unit → AM α} {t : Sem β} {V : Gh → α → β → Prop} (x : (∀ p ∈ ns, p.2 = .local → all.lookup p.1 = some .local) → SndAt P g st s A (f ()) t V) : SndAt P g st s A (Mine.locOk all ns >>= f) t V := by
  intro hn
  have h1 : Mine.locOk all ns st ≠ .stuck := fun q => hn (bind_stuck q)
  obtain ⟨e, h2⟩ := locOk_val h1
  exact SndAt.abs e (x h2) hn
theorem wpS_standIf {α : Type} {M : Model} {E : Value → Shared → Prop} {c : Prop} [Decidable c] {pos : Pos} {k : PUnit → Sem α} {Q : α → Shared → Prop} (h : wpS M A (k ()) Q E s) :
    wpS M A (if c then (standAt pos >>= k) else k ()) Q E s := by
  split
  · exact wpS_bind (wpS_standAt h)
  · exact h
theorem newEnv_in (scope : Scope) (globals : Addr) (qual : Str) (outer : Env) :
    newFunctionEnv scope globals [] [] qual none .none (some outer) = (do
      let locals ← alloc { cls := .type "dict", data := .dict #[] }
      let cells ← forIn scope.names [] cellBody
      pure { scope, locals, globals, cells, qual, func := none, code := outer.code, frame := outer.frame, builtins := outer.builtins }) := by
  rfl
theorem scope_names {sc : Scope} {env' : Env} (hk : ∀ x ∈ sc.names, x.2 ≠ .free) : (sc.names.map fun (x : Str × NameKind) => match x with
    | (n, k) => if (k == .free && env.scope.kind == .function && env.kindOf n == some .cell) = true then (n, NameKind.cell) else (n, k)) = sc.names :=
  map_eq_self fun x hx => by
    obtain ⟨n, k⟩ := x
    have : (k == NameKind.free) = false := by simpa using hk _ hx
    simp [this]

set_option tactic.hygienic true in
theorem comp_ok {n : Nat} (H : RecOK P G r n) (O : GOK P G) (X : CtxR P g Γ env A n) {elt target iter : Expr} {scope : Scope} {pos : Pos} : Snd P g A (do
      plainE iter
      let x ← r.eval Γ iter
      let it ← listIter x
      let acc ← newO (.lst [])
      funScope scope
      noFree scope.names
      locOk scope.names scope.names
      let l ← newO (.frame [])
      noErr (r.comp ⟨scope, l, Γ.fr, [], Γ.qual, none, Γ.hd⟩ elt target it acc)
      setO l (.frame [])
      pure (.ref acc)) (eval (.ListComp elt [⟨target, iter, [], 0⟩] scope pos) env) (VR P.ρ) := by
  refine .plainE fun _ hset => ?_
  rw [eval_ListComp]
  intro g₁ st s l R hn
  have X1 := X.mono l
  have hm := fun q => hn (bind_stuck q)
  unfold comprehension
  refine wpS_bind (wpS_mono (H.eval X1 g₁ st s (.refl _) R hm) (fun v s1 ⟨a, st1, g1, e1, l1, R1, va⟩ => ?_) fun _ _ z => z.fail)
  rw [bind_ok e1] at hn
  refine wpS_next e1 ?_
  refine wpS_bind (wpS_standAt ?_)
  have hfs : foldedSetIterable iter env v = pure v := by
    rcases iter with ⟨⟩ <;> first | rfl | exact absurd rfl (hset _ _ _)
  show wpS _ A (foldedSetIterable iter env v >>= _) _ _ s1
  rw [hfs, pure_bind]
  -- the list and its iterator
  rcases a with ⟨⟩ <;> first | exact absurd (bind_stuck rfl) hn | skip
  rename_i j
  cases qj : st1.get j with
  | none => exact absurd (bind_stuck (bind_stuck (getO_none qj))) hn
  | some oj =>
  have ej : ∀ o, st1.get j = some o → listIter (.ref j) st1 = (match o with | .lst _ => newO (.it (.seq (.ref j) 0)) | _ => stuck : AM Nat) st1 := fun o h => bind_ok (getO_ok h)
  rcases oj with ⟨⟩ <;> first | exact absurd (bind_stuck (ej _ qj)) hn | skip
  rename_i us
  have e2 : listIter (.ref j) st1 = .ok st1.n (st1.push (.it (.seq (.ref j) 0))) := ej _ qj
  have e3 : iterA G (.ref j) st1 = .ok st1.n (st1.push (.it (.seq (.ref j) 0))) := bind_ok (getO_ok qj)
  rw [bind_ok e2] at hn
  refine wpS_next e2 ?_
  refine wpS_bind (wpS_holding (wpS_mono (iterA_ok O R1 va (by rw [e3]; intro z; cases z)) (fun itv s2 ⟨i2, st2, g2, e4, l2, R2, hi⟩ => ?_) fun e s' ⟨i, st', g', y, e4, _⟩ => absurd (e3.symm.trans e4) (by intro z; cases z)))
  rw [e3] at e4
  cases e4
  have hit0 := get_new R1.1.ok (.it (.seq (.ref j) 0))
  have hj0 := get_push (o' := .it (.seq (.ref j) 0)) R1.1.ok qj
  -- the list that is made
  refine SndAt.up (l1.trans l2) ?_ hn
  refine .abs (newO_ok _ _) (.funScope fun k1 k2 k3 k4 => .noFree fun k5 => .locOk fun k6 => .abs (newO_ok _ _) ?_)
  intro hn
  have hm2 := fun q => hn (bind_stuck q)
  refine wpS_standIf ?_
  refine wpS_bind (.of (wpAny_newList ?_ (Nat.zero_le _)))
  have R3 : RepS P (g2.push s2.heap.objs.size (.lst [])) ((st1.push (.it (.seq (.ref j) 0))).push (.lst [])) { s2 with heap := s2.heap.push { cls := .type "list", data := .seq #[] } } := ⟨R2.1.alloc ⟨rfl, #[], _, rfl, trivial, rfl, rfl⟩, R2.2⟩
  have l3 := g2.push_le s2.heap.objs.size (.lst [])
  have ha3 : (g2.push s2.heap.objs.size (.lst [])).adr (st1.push (.it (.seq (.ref j) 0))).n = some s2.heap.objs.size := R2.1.adrNew
  rw [closureFor_none k5, pure_bind, newEnv_in, cellsBody_none k4]
  refine wpS_bind (wpS_bind (.of (wpAny_alloc (wpS_bind (wpS_pure (wpS_pure ?_))))))
  dsimp only
  rw [map_eq_self (l := scope.names) (fun x hx => by
    obtain ⟨n, k⟩ := x
    have : (k == NameKind.free) = false := by simpa using k5 _ hx
    simp [this])]
  have R4 : RepS P ((g2.push s2.heap.objs.size (.lst [])).push (s2.heap.push { cls := .type "list", data := .seq #[] }).objs.size (.frame [])) (((st1.push (.it (.seq (.ref j) 0))).push (.lst [])).push (.frame []))
      { s2 with heap := (s2.heap.push { cls := .type "list", data := .seq #[] }).push { cls := .type "dict", data := .dict #[] } } :=
    ⟨R3.1.alloc ⟨#[], _, rfl, (fun e he => by simp at he), fun x a h => by cases h⟩, R3.2⟩
  have l4 := (g2.push s2.heap.objs.size (.lst [])).push_le (s2.heap.push { cls := .type "list", data := .seq #[] }).objs.size (.frame [])
  have hL := R3.1.adrNew (a := (s2.heap.push { cls := .type "list", data := .seq #[] }).objs.size) (o := .frame [])
  have hT := R3.tagNew (s2.heap.push { cls := .type "list", data := .seq #[] }).objs.size (.frame [])
  refine hideGoal fun Φ hΦ => ?_
  obtain ⟨ita, hia, rfl, hit⟩ := hi
  refine hΦ ?_
  clear hΦ Φ
  have hit4 := get_push (o' := .frame []) R3.1.ok (get_push (o' := .lst []) R2.1.ok hit0)
  have hj4 := get_push (o' := .frame []) R3.1.ok (get_push (o' := .lst []) R2.1.ok hj0)
  obtain ⟨al, hal⟩ := listIter_is R4 hit4 hj4 (l4.adr (l3.adr hia))
  generalize hg4 : (g2.push s2.heap.objs.size (.lst [])).push (s2.heap.push { cls := .type "list", data := .seq #[] }).objs.size (.frame []) = g4 at *
  generalize hs4 : ({ s2 with heap := (s2.heap.push { cls := .type "list", data := .seq #[] }).push { cls := .type "dict", data := .dict #[] } } : Shared) = s4 at *
  generalize hst3 : (st1.push (.it (.seq (.ref j) 0))).push (.lst []) = st3 at *
  generalize hac : (st1.push (.it (.seq (.ref j) 0))).n = ac at *
  generalize hLL : (s2.heap.push { cls := .type "list", data := .seq #[] }).objs.size = L at *
  have X2 := ((X1.mono l1).mono l2).mono (l3.trans l4)
  have X4 : CtxR P g4 ⟨scope, st3.n, Γ.fr, [], Γ.qual, none, Γ.hd⟩ { scope := scope, locals := L, globals := env.globals, cells := [], qual := env.qual, code := env.code, frame := env.frame, builtins := env.builtins } A n :=
    ⟨⟨rfl, k1, hL, hT, X2.er.glob, X2.er.blt, trivial, X2.er.frame, X2.er.frT, fun q => absurd rfl q, fun t e => by cases e⟩, X2.ar, ⟨X2.top.frames, X2.top.frame⟩⟩
  obtain ⟨stf, hf⟩ : ∃ stf, r.comp ⟨scope, st3.n, Γ.fr, [], Γ.qual, none, Γ.hd⟩ elt target st1.n ac (st3.push (.frame [])) = .ok () stf := by
    cases q : r.comp ⟨scope, st3.n, Γ.fr, [], Γ.qual, none, Γ.hd⟩ elt target st1.n ac (st3.push (.frame [])) with
    | ok u s' => exact ⟨s', rfl⟩
    | err i s' => exact absurd (noErr_err q) hm2
    | stuck => exact absurd (noErr_stuck q) hm2
  have hloop := H.comp (elt := elt) (target := target) (iter := iter) (scope := scope) (pos := pos) X4 ⟨ita, l4.adr (l3.adr hia), rfl, (l3.trans l4).tag hit⟩ (l4.adr ha3) g4 _ s4 (.refl _) R4 ⟨stf, hf⟩
  refine wpS_holding (wpS_bind (wpS_attempt (wpS_holding (wpS_run (by
    rw [mark_none]
    refine codeS_mono (codeS_compStart hal hloop) fun rr s5 z => ?_
    cases rr with
    | error e => exact z.elim
    | ok f =>
      refine hideGoal fun Φ hΦ => ?_
      obtain ⟨st5, g5, e5, l5, R5⟩ := z
      refine hΦ ?_
      clear hΦ Φ
      obtain ⟨o5, ho5, ht5⟩ := R5.1.ofTag (l5.tag hT)
      obtain ⟨m5, rfl⟩ : ∃ m, o5 = .frame m := by
        rcases o5 with ⟨⟩ <;> first | exact ⟨_, rfl⟩ | (exfalso; revert ht5; simp [tagOf])
      obtain ⟨mv, hns, _⟩ := R5.ns ho5 (l5.adr hL)
      refine wpS_bind (wpS_holding (.of (wpAny_comp_letGo k1 _ s5 mv ?_ hns fun h' m' hn' hs' => wpS_pure ?_)))
      · intro x hx hl
        exact k6 x (List.mem_filter.mp (List.mem_reverse.mp hx)).1 hl
      · refine hideGoal fun Φ hΦ => ?_
        obtain ⟨o', es, ep, q1, q2, q3, q4⟩ := hn'
        refine hΦ ?_
        clear hΦ Φ
        refine ⟨.ref ac, st5.set st3.n (.frame []), g5, ?_, l3.trans (l4.trans l5), ?_, ⟨_, l5.adr (l4.adr ha3), rfl⟩⟩
        · rw [bind_ok (noErr_ok e5)]; rfl
        · exact R5.set (tk := s5.toks) ho5 (l5.adr hL) hs'.extBut q1 ⟨es, ep, q2, q3, fun x a h => by cases h⟩ rfl) (by intro z; cases z)))))
end
end Mine

end
section
set_option maxRecDepth 100000
namespace Mine
open PySem PySem.W PySem.Calls PySem.SeqAt PyProof.Rows

section
variable {P : Par} {G : Glob} {g : Gh} {st : St} {s : Shared} {A : Around} {Γ : AEnv} {env : Env} {r : Rec}

set_option tactic.hygienic true in
theorem execA_ok {n : Nat} (H : RecOK P G r n) (O : GOK P G) (X : CtxR P g Γ env A n) {x : Stmt} : Snd P g A (execA G r Γ x) (exec x env) (FlowR P.ρ) := by
  rcases x with ⟨⟩ <;> first | exact .stuck | skip
  case Return v pos => exact execReturn_ok H X
  case Assign ts e pos =>
    rcases ts with _ | ⟨t, _ | ⟨_, _⟩⟩ <;> try exact .stuck
    exact execAssign_ok H O X
  case For t e b o pos =>
    rcases o with ⟨⟩ <;> try exact .stuck
    exact execFor_ok H O X
  case While t b o pos =>
    rcases o with ⟨⟩ <;> try exact .stuck
    exact execWhile_ok H X
  case If t b o pos => exact execIf_ok H X
  case Raise e c pos =>
    rcases e with ⟨⟩ <;> rcases c with ⟨⟩ <;> try exact .stuck
    exact execRaise_ok H O X
  case Try b hs o f pos =>
    rcases o with ⟨⟩ <;> rcases f with ⟨⟩ <;> try exact .stuck
    exact execTry_ok H O X
  case Expr e pos => exact execExpr_ok H X

theorem step_ok {n : Nat} (O : GOK P G) (H : RecOK P G r n) : RecOK P G (step G r) (n + 1) where
  eval X := evalA_ok H O (X.less (Nat.le_succ n)) fun elt gens scope pos h => by
    subst h
    unfold evalA
    dsimp only
    split
    · exact comp_ok H O (X.less (Nat.le_succ n))
    · exact .stuck
  isTrue X := isTrueA_ok H O (X.less (Nat.le_succ n))
  exec X := execA_ok H O (X.less (Nat.le_succ n))
  assign X va := assignA_ok H O (X.less (Nat.le_succ n)) va
  call X vf va := callA_ok H O X vf va
  whileL X := whileA_ok H (X.less (Nat.le_succ n))
  forL X hi := forA_ok H O (X.less (Nat.le_succ n)) hi
  comp X hi ha := compA_ok H O (X.less (Nat.le_succ n)) hi ha

theorem none_ok (n : Nat) : RecOK P G Rec.none n where
  eval X := .stuck
  isTrue X := .stuck
  exec X := .stuck
  assign X va := .stuck
  call X vf va := .stuck
  whileL X := fun _ _ _ _ _ h => absurd rfl h
  forL X hi := fun _ _ _ _ _ h => absurd rfl h
  comp X hi ha := fun _ _ _ _ _ ⟨_, h⟩ => by cases h

/-- the interpreter is sound -/
theorem bev_ok (O : GOK P G) : ∀ n, RecOK P G (bev G n) n
  | 0 => none_ok 0
  | n + 1 => step_ok O (bev_ok O n)
end
end Mine

end
section
namespace Mine
open PySem

/-- the def at a road of places in the text -/
noncomputable def fnAt (tab : Option Nat) (q : Str) : List Nat → List Stmt → Option Fn
  | [i], ss => match nth ss i with
    | some (.FunctionDef _ args body _ _ _ scope _ _ _) => some ⟨q, args, body, scope, tab⟩
    | _ => none
  | i :: is, ss => match nth ss i with
    | some (.ClassDef _ _ _ body _ _ _ _ _ _ _) => fnAt tab q is body
    | _ => none
  | [], _ => none
noncomputable def pmain : List Stmt := PySem.Challenge.pw_pq0975_01.main.body

noncomputable def fnRows : List (Nat × Option Nat × Str × List Nat) := [
  (28, none, "QuicError.__init__", [2, 0]), (48, none, "H3Error.__init__", [3, 0]), (68, none, "Short.__init__", [4, 0]),
  (82, none, "put_whole", [7]), (89, none, "get_whole", [8]), (96, none, "varint_size", [9]), (103, none, "put_varint", [10]), (110, none, "get_varint", [11]),
  (123, none, "put_plain", [27]), (130, none, "put_settings", [28]), (137, none, "put_h3", [29]), (144, none, "whole_varint", [30]), (149, none, "read_settings", [31]),
  (156, none, "read_only_id", [32]), (163, none, "read_payload", [33]),
  (177, none, "FrameStream.__init__", [34, 0]), (184, none, "FrameStream.take", [34, 1]), (191, none, "FrameStream.next_frame", [34, 2]), (198, none, "FrameStream.end", [34, 3]),
  (218, none, "put_stream_type", [42]), (225, none, "name_of_type", [43]),
  (239, none, "PeerStreams.__init__", [44, 0]), (246, none, "PeerStreams.on_type", [44, 1]), (253, none, "PeerStreams.on_both_ways", [44, 2]), (260, none, "PeerStreams.on_closed", [44, 3]), (267, none, "PeerStreams.stream_of", [44, 4]),
  (281, none, "_law_heard", [46]), (288, none, "_law_frame_case", [47]), (295, some 1, "_law_frame_right", [48]), (300, some 2, "_law_sorts_right", [49]), (307, some 3, "_law_streams_right", [50])]

noncomputable def nget (k : Nat) : List (Nat × α) → Option α
  | [] => none
  | p :: r => match Nat.beq p.1 k with | true => some p.2 | false => nget k r

noncomputable def theFns (a : Nat) : Option Fn := match nget a fnRows with
  | some (t, q, p) => fnAt t q p pmain
  | none => none
noncomputable def clsRows : List (Nat × Cls) := [
  (31, ⟨true, 28, ["code", "frame_type", "text"], []⟩), (51, ⟨true, 48, ["code", "text"], []⟩), (71, ⟨true, 68, ["text"], []⟩),
  (201, ⟨false, 177, ["most", "rest"], [("take", 184), ("next_frame", 191), ("end", 198)]⟩),
  (270, ⟨false, 239, ["role", "names"], [("on_type", 246), ("on_both_ways", 253), ("on_closed", 260), ("stream_of", 267)]⟩)]
noncomputable def theCls (a : Nat) : Option Cls := nget a clsRows
noncomputable def iv (n : Int) : AV := .int (.lit n)
noncomputable def tupRows : List (Nat × List AV) := [
  (75, [iv 1, iv 2, iv 4, iv 8]),
  (111, [iv 3, .str "cancel_push"]), (112, [iv 7, .str "goaway"]), (113, [iv 13, .str "max_push"]), (114, [.old 111, .old 112, .old 113]),
  (115, [iv 2, iv 6, iv 8, iv 9]), (116, [iv 2, iv 3, iv 4, iv 5]),
  (206, [iv 0, .str "control"]), (207, [iv 1, .str "push"]), (208, [iv 2, .str "encoder"]), (209, [iv 3, .str "decoder"]), (210, [.old 206, .old 207, .old 208, .old 209]),
  (211, [.str "control", .str "encoder", .str "decoder"])]
noncomputable def theTups (a : Nat) : Option (List AV) := nget a tupRows
@[reducible] noncomputable def nm (x : String) (v : AV) : Str × AV := (Str.ofString x, v)
noncomputable def theNames : List (Str × AV) := [
   nm "INTERNAL_ERROR" (iv 1),  nm "QuicError" (.old 31),  nm "H3Error" (.old 51),  nm "Short" (.old 71),  nm "VARINT_SIZES" (.old 75),
   nm "put_whole" (.old 82),  nm "get_whole" (.old 89),  nm "varint_size" (.old 96),  nm "put_varint" (.old 103),  nm "get_varint" (.old 110),
   nm "H3_INTERNAL_ERROR" (iv 258),  nm "H3_STREAM_CREATION_ERROR" (iv 259),  nm "H3_CLOSED_CRITICAL_STREAM" (iv 260),  nm "H3_FRAME_UNEXPECTED" (iv 261),  nm "H3_FRAME_ERROR" (iv 262),  nm "H3_EXCESSIVE_LOAD" (iv 263),  nm "H3_SETTINGS_ERROR" (iv 265),
   nm "TYPE_DATA" (iv 0),  nm "TYPE_HEADERS" (iv 1),  nm "TYPE_SETTINGS" (iv 4),  nm "TYPE_PUSH_PROMISE" (iv 5),  nm "ID_TYPES" (.old 114),  nm "OLD_TYPES" (.old 115),  nm "OLD_SETTINGS" (.old 116),
   nm "put_plain" (.old 123),  nm "put_settings" (.old 130),  nm "put_h3" (.old 137),  nm "whole_varint" (.old 144),  nm "read_settings" (.old 149),  nm "read_only_id" (.old 156),  nm "read_payload" (.old 163),  nm "FrameStream" (.old 201),
   nm "STREAM_CONTROL" (iv 0),  nm "STREAM_PUSH" (iv 1),  nm "STREAM_ENCODER" (iv 2),  nm "STREAM_DECODER" (iv 3),  nm "STREAM_NAMES" (.old 210),  nm "CRITICAL" (.old 211),
   nm "put_stream_type" (.old 218),  nm "name_of_type" (.old 225),  nm "PeerStreams" (.old 270),
   nm "_law_heard" (.old 281),  nm "_law_frame_case" (.old 288),  nm "_law_frame_right" (.old 295),  nm "_law_sorts_right" (.old 300),  nm "_law_streams_right" (.old 307),
   nm "len" (.bi .len),  nm "range" (.bi .range),  nm "bytes" (.bi .bytes),  nm "bytearray" (.bi .bytearray),  nm "isinstance" (.bi .isinstance),  nm "str" (.bi .str),  nm "int" (.bi .int),  nm "Exception" (.bi .exception)]
noncomputable def theG (orc : Orc) : Glob := ⟨theNames, theFns, theCls, theTups, orc⟩
noncomputable def st0 : St := ⟨4, [.tab "_law_streams_right.<locals>.", .tab "_law_sorts_right.<locals>.", .tab "_law_frame_right.<locals>.", .frame []]⟩
noncomputable def isTT : R AV → Bool
  | .ok (.bool b) _ => b
  | _ => false
noncomputable def tryIt (orc : Orc) (f : Nat) (e : SI) : Bool := isTT ((bev (theG orc) 60).call none (.old f) [.int e] st0)
end Mine

end
section
set_option maxRecDepth 100000
namespace Mine
open PySem PySem.W PySem.Calls PySem.SeqAt PyProof.Rows

/-! ## what the top says, as the interpreter takes it -/
section
variable {K : Frag} {h : Heap} {P : Par} {ρ : Nat → Int}

/-- a heap without an object -/
noncomputable def dropAt (h : Heap) (a : Addr) : Heap := h.update a fun _ => { cls := .none, dict := none, data := .freed, slots := #[] }
theorem dropAt_get (h : Heap) (a b : Addr) : (dropAt h a).get? b = if b = a then none else h.get? b := by
  by_cases e : b = a
  · subst e
    rw [if_pos rfl]
    cases q : (dropAt h b).get? b with
    | none => rfl
    | some o =>
      obtain ⟨h1, h2⟩ := Heap.get?_some_iff.mp q
      unfold dropAt at h1
      obtain ⟨objs, l⟩ := h
      change (objs.modify b _)[b]? = _ at h1
      rw [Array.getElem?_modify] at h1
      rw [if_pos rfl] at h1
      cases z : objs[b]? with
      | none => rw [z] at h1; cases h1
      | some x => rw [z] at h1; cases h1; cases h2
  · rw [if_neg e]
    exact (Heap.SameBut.update h a _).2 b e
noncomputable def dropAll (h : Heap) : List Addr → Heap
  | [] => h
  | a :: as => dropAt (dropAll h as) a
theorem dropAll_get (h : Heap) (b : Addr) : ∀ as : List Addr, (dropAll h as).get? b = if b ∈ as then none else h.get? b
  | [] => by simp [dropAll]
  | a :: as => by
    unfold dropAll
    rw [dropAt_get, dropAll_get h b as]
    by_cases e : b = a
    · simp [e]
    · simp [e]
theorem dropAll_sub {as : List Addr} {b : Addr} {o : Obj} (e : (dropAll h as).get? b = some o) : h.get? b = some o := by
  rw [dropAll_get] at e
  split at e
  · cases e
  · exact e
theorem dropAll_at {as : List Addr} {b : Addr} {o : Obj} (e : h.get? b = some o) (hb : b ∉ as) : (dropAll h as).get? b = some o := by
  rw [dropAll_get, if_neg hb]; exact e
theorem dropAll_ns {as : List Addr} {b : Addr} {m : Str → Option Value} (e : h.Ns b m) (hb : b ∉ as) : (dropAll h as).Ns b m :=
  let ⟨o, es, ep, e1, r⟩ := e; ⟨o, es, ep, dropAll_at e1 hb, r⟩
theorem dropAll_in {as : List Addr} (X : K.In h) (hn : as.all (fun a => (K.lookup a).isNone) = true) : K.In (dropAll h as) := fun a o e => dropAll_at (X a o e) fun q => by
  have := List.all_eq_true.mp hn a q
  rw [e] at this
  cases this

/-- a value of the top -/
noncomputable def avIs : AV → Value → Bool
  | .int (.lit n), .int m _ => decide (n = m) && small n
  | .str x, .str y _ => strEq x y
  | .old a, .ref b => Nat.beq a b
  | _, _ => false
theorem avIs_ok {a : AV} {v : Value} (h : avIs a v = true) (g : Gh) : VR ρ g a v := by
  unfold avIs at h
  split at h
  · simp only [Bool.and_eq_true, decide_eq_true_eq] at h
    obtain ⟨rfl, h2⟩ := h
    exact ⟨_, rfl, small_iff.mp h2⟩
  · obtain rfl := (strEq_iff _ _).mp h
    exact ⟨_, rfl⟩
  · obtain rfl := Nat.eq_of_beq_eq_true h
    rfl
  · cases h
noncomputable def avsAre : List AV → List Value → Bool
  | [], [] => true
  | a :: as, v :: vs => (match avIs a v with | true => avsAre as vs | false => false)
  | _, _ => false
set_option tactic.hygienic true in
theorem avsAre_ok : ∀ {as : List AV} {vs : List Value}, avsAre as vs = true → ∀ g, A2 (VR ρ g) as vs
  | [], [], _, _ => trivial
  | a :: as, v :: vs, h, g => by
    unfold avsAre at h
    split at h
    · rename_i q; exact ⟨avIs_ok q g, avsAre_ok h g⟩
    · cases h
  | [], _ :: _, h, _ => by cases h
  | _ :: _, [], h, _ => by cases h

/-- a name of the top, or of the built-ins -/
noncomputable def nameB (K : Frag) (p : Str × AV) : Bool := match p.2 with
  | .bi b => (match nsIn K mainGlobals p.1, bootBuiltins p.1 with
    | some none, some v => (!strEq p.1 "__name__") && (v == b.val)
    | _, _ => false)
  | a => (match nsIn K mainGlobals p.1 with
    | some (some v) => avIs a v
    | _ => false)
noncomputable def namesB (K : Frag) : List (Str × AV) → Bool
  | [] => true
  | p :: r => nameB K p && namesB K r
set_option tactic.hygienic true in
theorem fget_in {α : Type} {x : Str} {a : α} : ∀ {l : List (Str × α)}, fget x l = some a → (x, a) ∈ l
  | [], h => by cases h
  | p :: r, h => by
    rw [fget_cons] at h
    split at h
    · rename_i q; cases h; subst q; exact .head _
    · exact .tail _ (fget_in h)
theorem namesB_in : ∀ {l : List (Str × AV)}, namesB K l = true → ∀ p ∈ l, nameB K p = true
  | [], _, _, h => by cases h
  | q :: r, e, p, h => by
    unfold namesB at e
    rw [Bool.and_eq_true] at e
    rcases List.mem_cons.mp h with rfl | h
    · exact e.1
    · exact namesB_in e.2 p h
set_option tactic.hygienic true in
theorem names_ok {M : Model} {l : List (Str × AV)} {mb : Str → Option Value} (X : K.In h) (hb : h.Ns builtinsNs mb) (hbb : ∀ x : Str, x ≠ "__name__" → mb x = bootBuiltins x) (e : namesB K l = true) (x : Str) (a : AV) (hx : fget x l = some a) :
    ∃ v, (∀ g, VR ρ g a v) ∧ (Looks M h (nsGet mainGlobals x) (some v) ∨ (Looks M h (nsGet mainGlobals x) none ∧ Looks M h (nsGet builtinsNs x) (some v))) := by
  have q := namesB_in e _ (fget_in hx)
  unfold nameB at q
  dsimp only at q
  split at q
  · rename_i b
    split at q
    · rename_i v h1 h2
      simp only [Bool.and_eq_true, Bool.not_eq_true'] at q
      have hv : v = b.val := eq_of_beq q.2
      subst hv
      refine ⟨b.val, fun g => rfl, .inr ⟨looks_nsIn X h1, fun A Q E s k hq => ?_⟩⟩
      have hne : x ≠ "__name__" := fun z => by rw [z, (strEq_iff _ _).mpr rfl] at q; cases q.1
      refine wpAny_nsGet (hb.keeps k) ?_
      rw [hbb x hne, h2]
      exact hq
    · cases q
  · split at q
    · rename_i v h1
      exact ⟨v, avIs_ok q, .inl (looks_nsIn X h1)⟩
    · cases q

/-- a tuple of the top -/
noncomputable def tupB (K : Frag) (p : Nat × List AV) : Bool := match K.lookup p.1 with
  | some ⟨.type "tuple", none, .seq ws _, _⟩ => avsAre p.2 ws.toList
  | _ => false
noncomputable def tupsB (K : Frag) : List (Nat × List AV) → Bool
  | [] => true
  | p :: r => tupB K p && tupsB K r
set_option tactic.hygienic true in
theorem nget_in {α : Type} {a : Nat} {v : α} : ∀ {l : List (Nat × α)}, nget a l = some v → (a, v) ∈ l
  | [], h => by cases h
  | p :: r, h => by
    unfold nget at h
    split at h
    · rename_i q; cases h; obtain rfl := Nat.eq_of_beq_eq_true q; exact .head _
    · exact .tail _ (nget_in h)
theorem tupsB_in : ∀ {l : List (Nat × List AV)}, tupsB K l = true → ∀ p ∈ l, tupB K p = true
  | [], _, _, h => by cases h
  | q :: r, e, p, h => by
    unfold tupsB at e
    rw [Bool.and_eq_true] at e
    rcases List.mem_cons.mp h with rfl | h
    · exact e.1
    · exact tupsB_in e.2 p h
set_option tactic.hygienic true in
theorem tups_ok {l : List (Nat × List AV)} (X : K.In h) (e : tupsB K l = true) (a : Nat) (vs : List AV) (hx : nget a l = some vs) :
    ∃ o ws n, h.get? a = some o ∧ o.cls = .type "tuple" ∧ o.data = .seq ws n ∧ (∀ g, A2 (VR ρ g) vs ws.toList) ∧ o.dict = none := by
  have q := tupsB_in e _ (nget_in hx)
  unfold tupB at q
  split at q
  · rename_i ws n sl h1
    exact ⟨_, ws, n, X _ _ h1, rfl, rfl, avsAre_ok q, rfl⟩
  · cases q

/-- a function of the top -/
structure FnK (K : Frag) (tabs : List (Nat × Addr)) (a : Nat) (f : Fn) (o : Obj) (fd : FuncData) (c : Addr) (co : Obj) (vs : Array Value) (t : Tok) : Prop where
  at_ : K.lookup a = some o
  cls : o.cls = .type "function"
  data : o.data = .func fd
  params : fd.params = { posonlyargs := [], args := f.params.args, vararg := none, kwonlyargs := [], kw_defaults := [], kwarg := none, defaults := [] }
  names : decide ((f.params.args.map (·.arg)).Nodup) = true
  defaults : fd.defaults = .none
  kind : f.scope.kind = .function
  cor : f.scope.isCoroutine = false
  gen : f.scope.isGenerator = false
  body : fd.body = .stmts f.body
  scope : fd.scope = f.scope
  qual : fd.qualname = f.name
  globals : fd.globals = mainGlobals
  builtins : fd.builtins = builtinsNs
  closure : fd.closure = []
  code : fd.code = .ref c
  codeAt : K.lookup c = some co
  codeData : co.data = .fields vs
  codeQ : vs[1]? = some (.str fd.qualname t)
  tab : ∀ k, f.tab = some k → ∃ T, codeHdIn K c T = true ∧ (k, T) ∈ tabs
theorem FnK.fnAt {a : Nat} {f : Fn} {o : Obj} {fd : FuncData} {c : Addr} {co : Obj} {vs : Array Value} {t : Tok} (F : FnK K P.tabs a f o fd c co vs t) (X : K.In P.h₀) : FnAt P a f o fd where
  at_ := X _ _ F.at_
  cls := F.cls
  data := F.data
  params := F.params
  names := of_decide_eq_true F.names
  defaults := F.defaults
  kind := F.kind
  co := F.cor
  gen := F.gen
  body := F.body
  scope := F.scope
  qual := F.qual
  globals := F.globals
  builtins := F.builtins
  closure := F.closure
  code := ⟨c, co, vs, t, F.code, X _ _ F.codeAt, F.codeData, F.codeQ⟩
  tab := fun k hk => let ⟨T, h1, h2⟩ := F.tab k hk; ⟨c, T, F.code, codeHd_of_K X h1, h2⟩
noncomputable def FnRow (K : Frag) (tabs : List (Nat × Addr)) (p : Nat × Option Nat × Str × List Nat) : Prop := ∃ f, fnAt p.2.1 p.2.2.1 p.2.2.2 pmain = some f ∧ ∃ o fd c co vs t, FnK K tabs p.1 f o fd c co vs t
noncomputable def FnRows (K : Frag) (tabs : List (Nat × Addr)) : List (Nat × Option Nat × Str × List Nat) → Prop
  | [] => True
  | p :: r => FnRow K tabs p ∧ FnRows K tabs r
theorem FnRows.in_ {tabs : List (Nat × Addr)} : ∀ {l : List (Nat × Option Nat × Str × List Nat)}, FnRows K tabs l → ∀ p ∈ l, FnRow K tabs p
  | [], _, _, h => by cases h
  | q :: r, e, p, h => by
    rcases List.mem_cons.mp h with rfl | h
    · exact e.1
    · exact e.2.in_ p h
theorem fns_ok (X : K.In P.h₀) (H : FnRows K P.tabs fnRows) (a : Nat) (f : Fn) (hf : theFns a = some f) : ∃ o fd, FnAt P a f o fd := by
  unfold theFns at hf
  cases q : nget a fnRows with
  | none => rw [q] at hf; cases hf
  | some r =>
    obtain ⟨t, qn, p⟩ := r
    rw [q] at hf
    dsimp only at hf
    refine hideGoal fun Φ hΦ => ?_
    obtain ⟨f', h1, o, fd, c, co, vs, t', F⟩ := H.in_ _ (nget_in q)
    refine hΦ ?_
    clear hΦ Φ
    rw [hf] at h1
    cases h1
    exact ⟨o, fd, F.fnAt X⟩

/-- a class of the top -/
noncomputable def keysStr : List DictEntry → Bool
  | [] => true
  | e :: r => (match e.key with | .str _ _ => keysStr r | _ => false)
set_option tactic.hygienic true in
theorem keysStr_ok : ∀ {l : List DictEntry}, keysStr l = true → ∀ e ∈ l, ∃ n t, e.key = .str n t
  | [], _, _, h => by cases h
  | x :: r, e, y, h => by
    unfold keysStr at e
    split at e
    · rename_i q
      rcases List.mem_cons.mp h with rfl | h
      · exact ⟨_, _, q⟩
      · exact keysStr_ok e y h
    · cases e
theorem lookup_ns {N : Addr} {cl : Value} {dd : Option Addr} {es : List DictEntry} {ep : Nat} {sl : Array (Option Value)} (X : K.In h) (e : K.lookup N = some ⟨cl, dd, .dict ⟨es⟩ ep, sl⟩) (hk : keysStr es = true) : h.Ns N (nsFind ⟨es⟩) :=
  ⟨_, _, ep, X _ _ e, rfl, fun x hx => keysStr_ok hk x (Array.mem_toList_iff.mpr hx), fun _ => rfl⟩
noncomputable def ClsRow (P : Par) (p : Nat × Cls) : Prop := ∃ W, ClsAt P p.1 p.2 W
noncomputable def attrsB (es : Array DictEntry) : List Str → Bool
  | [] => true
  | x :: r => (match nsFind es x, fastLookup "object" x, fastLookup "Exception" x with
    | none, some none, some none => attrsB es r
    | _, _, _ => false)
set_option tactic.hygienic true in
theorem attrsB_ok {es : Array DictEntry} : ∀ {l : List Str}, attrsB es l = true → ∀ x ∈ l, nsFind es x = none ∧ typeLookup (.type "object") x = pure none ∧ typeLookup (.type "Exception") x = pure none
  | [], _, _, h => by cases h
  | y :: r, e, x, h => by
    unfold attrsB at e
    split at e
    · rename_i h1 h2 h3
      rcases List.mem_cons.mp h with rfl | h
      · refine ⟨h1, ?_, ?_⟩
        · rw [typeLookup_type, builtinLookup_eq_fast, h2]
        · rw [typeLookup_type, builtinLookup_eq_fast, h3]
      · exact attrsB_ok e x h
    · cases e
noncomputable def isFn (K : Frag) (a : Addr) : Bool := match K.lookup a with
  | some o => (match o.cls with | .type n => n == "function" | _ => false)
  | none => false
noncomputable def methsB (K : Frag) (es : Array DictEntry) : List (Str × Nat) → Bool
  | [] => true
  | p :: r => (match nsFind es p.1, fastLookup "object" p.1 with
    | some (.ref a), some _ => (Nat.beq a p.2 && isFn K a) && methsB K es r
    | _, _ => false)
set_option tactic.hygienic true in
theorem isFn_ok {a : Addr} (X : K.In h) (e : isFn K a = true) : ∃ o, h.get? a = some o ∧ o.cls = .type "function" := by
  unfold isFn at e
  split at e
  · rename_i o h1
    split at e
    · rename_i n h2
      exact ⟨o, X _ _ h1, by rw [h2, eq_of_beq e]⟩
    · cases e
  · cases e
set_option tactic.hygienic true in
theorem methsB_ok {es : Array DictEntry} (X : K.In h) : ∀ {l : List (Str × Nat)}, methsB K es l = true → ∀ p ∈ l, nsFind es p.1 = some (.ref p.2) ∧ ∃ o, h.get? p.2 = some o ∧ o.cls = .type "function" ∧ ∃ y, typeLookup (.type "object") p.1 = pure y
  | [], _, _, h => by cases h
  | y :: r, e, x, h => by
    unfold methsB at e
    split at e
    · rename_i a y h1 h2
      simp only [Bool.and_eq_true] at e
      rcases List.mem_cons.mp h with rfl | h
      · obtain rfl := Nat.eq_of_beq_eq_true e.1.1
        obtain ⟨o, k1, k2⟩ := isFn_ok X e.1.2
        exact ⟨h1, o, k1, k2, y, by rw [typeLookup_type, builtinLookup_eq_fast, h2]⟩
      · exact methsB_ok X e.2 x h
    · cases e
theorem clsRow_of {C : Nat} {c : Cls} {nm q : Str} {N : Addr} {bs bm : List Value} {sn : List Str} {sub : List Value} {ab : Bool} {col : Option Bool} {dd : Option Addr} {k0 k1 k2 k3 k5 : Option Value} {newId : String}
    {cl : Value} {d2 : Option Addr} {es : List DictEntry} {ep : Nat} {sl : Array (Option Value)} (X : K.In P.h₀) (h1 : K.lookup C = some (excClassObj nm q C N bs bm true sn sub ab col dd k0 k1 k2 k3 k5 newId))
    (h2 : K.lookup N = some ⟨cl, d2, .dict ⟨es⟩ ep, sl⟩) (h3 : keysStr es = true) (h4 : nsFind ⟨es⟩ "__init__" = some (.ref c.init)) (h5 : isFn K c.init = true)
    (h6 : nsFind ⟨es⟩ "__setattr__" = none) (h7 : nsFind ⟨es⟩ "__getattribute__" = none) (h8 : nsFind ⟨es⟩ "__getattr__" = none) (h9 : attrsB ⟨es⟩ c.attrs = true) (h10 : methsB K ⟨es⟩ c.meths = true)
    (h11 : if c.exc = true then bm = [.type "Exception", .type "BaseException", .type "object"] ∧ newId = "Exception.__new__" else bm = [.type "object"] ∧ ab = false ∧ newId = "object.__new__") : ClsRow P (C, c) :=
  have ⟨oI, i1, i2⟩ := isFn_ok X h5
  ⟨⟨nm, q, N, bs, bm, sn, sub, ab, col, dd, k0, k1, k2, k3, k5, newId, nsFind ⟨es⟩, oI⟩, ⟨X _ _ h1, lookup_ns X h2 h3, h4, i1, i2, h6, h7, h8, attrsB_ok h9, methsB_ok X h10, h11⟩⟩
end
end Mine

end
section
set_option maxRecDepth 100000
namespace Mine
open PySem

/-! ## the law's turn, as the interpreter runs it -/
noncomputable def lawFn : Option Fn := fnAt none "law" [51] pmain
noncomputable def lawScope : Scope := match lawFn with
  | some f => f.scope
  | none => default
noncomputable def lawCalls : List Expr := match lawFn with
  | some f => (match f.body with
    | [_, .For _ _ [.If (.BoolOp _ es _) _ _ _] _ _, _] => es
    | _ => [])
  | none => []
noncomputable def lawCall (i : Nat) : Expr := match nth lawCalls i with
  | some e => e
  | none => .Constant .none 0 default
noncomputable def lawEnv : AEnv := ⟨lawScope, 0, 0, [], "law.<locals>.", none, none⟩
noncomputable def pickSt : St := ⟨4, [.tab "_law_streams_right.<locals>.", .tab "_law_sorts_right.<locals>.", .tab "_law_frame_right.<locals>.", .frame [(Str.ofString "pick", .int (.var 0))]]⟩
/-- the tables stand as they stood, and the pick -/
noncomputable def tabIs (s : St) (i : Nat) (q : Str) : Bool := match s.get i with
  | some (.tab q') => strEq q' q
  | _ => false
noncomputable def pickIs (s : St) : Bool := match s.get 0 with
  | some (.frame m) => (match fget "pick" m with
    | some (.int (.var 0)) => true
    | _ => false)
  | _ => false
noncomputable def keptSt (s : St) : Bool := tabIs s 1 "_law_frame_right.<locals>." && (tabIs s 2 "_law_sorts_right.<locals>." && (tabIs s 3 "_law_streams_right.<locals>." && pickIs s))
noncomputable def goesWell : R Bool → Bool
  | .ok false s => keptSt s
  | _ => false
noncomputable def chk (orc : Orc) (i : Nat) : Bool := goesWell ((bev (theG orc) 64).isTrue lawEnv (lawCall i) pickSt)
abbrev OpF := IOp × SI × SI × SI
/-- the division of the pick -/
noncomputable def orcF (w : Int) (fs : List OpF) : Orc := ⟨(.fmod, .var 0, .lit 12, .lit w) :: (.fdiv, .var 0, .lit 12, .var 1) :: fs, [], []⟩
noncomputable def orcS (k : Int) : Orc := ⟨[(.fdiv, .var 0, .lit 3, .var 10), (.fmod, .var 10, .lit 8, .lit k)], [], []⟩
noncomputable def orcP (a b : Int) : Orc := ⟨[(.fdiv, .var 0, .lit 5, .var 11), (.fmod, .var 11, .lit 2, .lit a), (.fdiv, .var 11, .lit 2, .var 12), (.fmod, .var 12, .lit 5, .lit b)], [], []⟩
noncomputable def mo (k r : Int) : OpF := (.fmod, .var 1, .lit k, .lit r)
noncomputable def orc6 (k : Int) : Orc := ⟨[(.fmod, .var 0, .lit 12, .lit 6), (.fdiv, .var 0, .lit 12, .var 1), mo 3 k, (.fmod, .var 1, .lit 64, .var 3), (.fmod, .var 1, .lit 256, .var 4), (.add, .lit 64, .var 3, .var 5), (.mul, .lit 256, .var 3, .var 6), (.add, .var 6, .var 4, .var 7),
    (.shr, .var 5, .lit 6, .lit 1), (.add, .lit 0, .var 5, .var 5), (.mul, .var 5, .lit 256, .var 8), (.add, .var 8, .var 4, .var 9), (.and, .var 9, .lit 16383, .var 7), (.or, .lit 16384, .var 7, .var 9), (.shr, .var 9, .lit 16, .lit 0), (.fmod, .var 9, .lit 256, .var 4),
    (.fdiv, .var 9, .lit 256, .var 5), (.fmod, .var 5, .lit 256, .var 5), (.fdiv, .var 5, .lit 256, .lit 0)],
  [(.var 5, .lit 0, false), (.var 5, .lit 256, true), (.var 4, .lit 0, false), (.var 4, .lit 256, true), (.var 7, .lit 64, false), (.var 7, .lit 0, false), (.var 7, .lit 16384, true), (.var 9, .lit 0, false)], []⟩
end Mine

end
section
set_option maxRecDepth 100000
namespace Mine
open PySem PySem.W PySem.Calls PyProof.Rows

noncomputable def rhoOf (p : Int) : Nat → Int
  | 0 => p
  | 1 => p / 12
  | 2 => p / 12 / 3
  | 3 => p / 12 % 64
  | 4 => p / 12 % 256
  | 5 => 64 + p / 12 % 64
  | 6 => 256 * (p / 12 % 64)
  | 7 => 256 * (p / 12 % 64) + p / 12 % 256
  | 8 => (64 + p / 12 % 64) * 256
  | 9 => (64 + p / 12 % 64) * 256 + p / 12 % 256
  | 10 => p / 3
  | 11 => p / 5
  | 12 => p / 5 / 2
  | _ => 0

section
variable {ρ : Nat → Int}
/-- each row of an oracle -/
noncomputable def OpsOK (ρ : Nat → Int) : List OpF → Prop
  | [] => True
  | (op, x, y, z) :: r => (opSem op (x.val ρ) (y.val ρ) (z.val ρ) ∧ Small (z.val ρ)) ∧ OpsOK ρ r
theorem OpsOK.in_ : ∀ {l : List OpF}, OpsOK ρ l → ∀ op x y z, (op, x, y, z) ∈ l → opSem op (x.val ρ) (y.val ρ) (z.val ρ) ∧ Small (z.val ρ)
  | [], _, _, _, _, _, h => by cases h
  | (o, a, b, c) :: r, e, op, x, y, z, h => by
    rcases List.mem_cons.mp h with q | h
    · cases q; exact e.1
    · exact e.2.in_ op x y z h
noncomputable def LtsOK (ρ : Nat → Int) : List (SI × SI × Bool) → Prop
  | [] => True
  | (x, y, b) :: r => b = decide (x.val ρ < y.val ρ) ∧ LtsOK ρ r
theorem LtsOK.in_ : ∀ {l : List (SI × SI × Bool)}, LtsOK ρ l → ∀ x y b, (x, y, b) ∈ l → b = decide (x.val ρ < y.val ρ)
  | [], _, _, _, _, h => by cases h
  | (a, b, c) :: r, e, x, y, z, h => by
    rcases List.mem_cons.mp h with q | h
    · cases q; exact e.1
    · exact e.2.in_ x y z h
theorem orc_ok {ops : List OpF} {lts : List (SI × SI × Bool)} (h1 : OpsOK ρ ops) (h2 : LtsOK ρ lts) : OrcOK ρ ⟨ops, lts, []⟩ := ⟨h1.in_, h2.in_, fun x y b h => by cases h⟩

theorem fdiv_ok {x y z : Int} (hx : 0 ≤ x) (h1 : 0 < y) (h2 : y < 1073741824) (hz : x / y = z) (h3 : z < 4611686018427387904) : opSem .fdiv x y z ∧ Small z := by
  refine ⟨⟨h1, h2, ?_⟩, ?_, h3⟩
  · rw [Int.fdiv_eq_ediv_of_nonneg _ (by omega)]; exact hz.symm
  · have := Int.ediv_nonneg hx (by omega : 0 ≤ y)
    omega
theorem fmod_ok {x y z : Int} (h1 : 0 < y) (h2 : y < 1073741824) (hz : x % y = z) : opSem .fmod x y z ∧ Small z := by
  refine ⟨⟨h1, h2, ?_⟩, ?_, ?_⟩
  · rw [Int.fmod_eq_emod_of_nonneg _ (by omega)]; exact hz.symm
  · have := Int.emod_nonneg x (by omega : y ≠ 0); omega
  · have := Int.emod_lt_of_pos x h1; omega
theorem band_mask (a : Int) (h : 0 ≤ a) : Builtin.bitAnd a 16383 = a % 16384 := by
  rw [bitAnd_pp h (by decide)]
  have h : a.toNat &&& (16383 : Int).toNat = a.toNat % 16384 := Nat.and_two_pow_sub_one_eq_mod a.toNat 14
  rw [h]
  omega
theorem bor_top (b : Int) (h0 : 0 ≤ b) (h : b < 16384) : Builtin.bitOr 16384 b = 16384 + b := by
  rw [bitOr_and, bitAnd_pp (by decide) h0]
  have h : (16384 : Int).toNat &&& b.toNat = 0 := by
    rw [Nat.and_comm]
    refine Nat.eq_of_testBit_eq fun i => ?_
    rw [Nat.testBit_and, Nat.zero_testBit, show (16384 : Int).toNat = 2 ^ 14 from rfl, Nat.testBit_two_pow]
    by_cases q : 14 = i
    · subst q
      rw [Nat.testBit_lt_two_pow (by omega)]
      rfl
    · rw [decide_eq_false q, Bool.and_false]
  rw [h]
  omega
end

section
variable {p : Int}
theorem ltd {a b : Int} (h : decide (a < b) = true) : a < b := of_decide_eq_true h
theorem row_pick (h0 : 0 ≤ p) (h1 : p < 100003) {w : Int} (hw : p % 12 = w) {fs : List OpF} (H : OpsOK (rhoOf p) fs) : OrcOK (rhoOf p) (orcF w fs) :=
  orc_ok ⟨fmod_ok (ltd rfl) (ltd rfl) hw, fdiv_ok h0 (ltd rfl) (ltd rfl) rfl (by show p / 12 < _; omega), H⟩ trivial
theorem mo_ok {k r : Int} (hk : 0 < k) (hk' : k < 1073741824) (h : p / 12 % k = r) {fs : List OpF} (H : OpsOK (rhoOf p) fs) : OpsOK (rhoOf p) (mo k r :: fs) := ⟨fmod_ok hk hk' h, H⟩
theorem orcS_ok (h0 : 0 ≤ p) (h1 : p < 100003) {k : Int} (hk : p / 3 % 8 = k) : OrcOK (rhoOf p) (orcS k) :=
  orc_ok ⟨fdiv_ok h0 (ltd rfl) (ltd rfl) rfl (by show p / 3 < _; omega), fmod_ok (ltd rfl) (ltd rfl) hk, trivial⟩ trivial
theorem orcP_ok (h0 : 0 ≤ p) (h1 : p < 100003) {a b : Int} (ha : p / 5 % 2 = a) (hb : p / 5 / 2 % 5 = b) : OrcOK (rhoOf p) (orcP a b) :=
  orc_ok ⟨fdiv_ok h0 (ltd rfl) (ltd rfl) rfl (by show p / 5 < _; omega), fmod_ok (ltd rfl) (ltd rfl) ha, fdiv_ok (by show 0 ≤ p / 5; omega) (ltd rfl) (ltd rfl) rfl (by show p / 5 / 2 < _; omega), fmod_ok (ltd rfl) (ltd rfl) hb, trivial⟩ trivial
theorem smalls {m n : Int} (m0 : 0 ≤ m) (m1 : m < 64) (n0 : 0 ≤ n) (n1 : n < 256) : Small (64 + m) ∧ Small (256 * m) ∧ Small (256 * m + n) ∧ Small ((64 + m) * 256) ∧ Small ((64 + m) * 256 + n) :=
  ⟨⟨by omega, by omega⟩, ⟨by omega, by omega⟩, ⟨by omega, by omega⟩, ⟨by omega, by omega⟩, ⟨by omega, by omega⟩⟩
theorem orc6_ok (h0 : 0 ≤ p) (h1 : p < 100003) {k : Int} (hw : p % 12 = 6) (hk : p / 12 % 3 = k) (hp : p / 12 % 64 ≠ 0) : OrcOK (rhoOf p) (orc6 k) := by
  have m0 : 0 ≤ p / 12 % 64 := Int.emod_nonneg _ (by decide)
  have m1 : p / 12 % 64 < 64 := Int.emod_lt_of_pos _ (by decide)
  have n0 : 0 ≤ p / 12 % 256 := Int.emod_nonneg _ (by decide)
  have n1 : p / 12 % 256 < 256 := Int.emod_lt_of_pos _ (by decide)
  refine hideGoal fun Φ hΦ => ?_
  obtain ⟨s1, s2, s3, s4, s5⟩ := smalls m0 m1 n0 n1
  refine hΦ ?_
  clear hΦ Φ
  have sm1 : Small 1 := ⟨by decide, by decide⟩
  have sm0 : Small 0 := ⟨by decide, by decide⟩
  refine orc_ok ⟨fmod_ok (ltd rfl) (ltd rfl) hw, fdiv_ok h0 (ltd rfl) (ltd rfl) rfl (by show p / 12 < _; omega), fmod_ok (ltd rfl) (ltd rfl) hk, fmod_ok (ltd rfl) (ltd rfl) rfl, fmod_ok (ltd rfl) (ltd rfl) rfl,
    ⟨rfl, s1⟩, ⟨rfl, s2⟩,
    ⟨rfl, s3⟩,
    ⟨⟨by simp only [SI.val]; decide, by simp only [SI.val]; decide, ?_⟩, sm1⟩, ⟨(Int.zero_add _).symm, s1⟩,
    ⟨rfl, s4⟩, ⟨rfl, s5⟩,
    ⟨?_, s3⟩, ⟨?_, s5⟩,
    ⟨⟨by simp only [SI.val]; decide, by simp only [SI.val]; decide, ?_⟩, sm0⟩, fmod_ok (ltd rfl) (ltd rfl) ?_, fdiv_ok ?_ (ltd rfl) (ltd rfl) ?_ s1.2, fmod_ok (ltd rfl) (ltd rfl) ?_, fdiv_ok (by show 0 ≤ 64 + p / 12 % 64; exact Int.add_nonneg (by decide) m0) (ltd rfl) (ltd rfl) ?_ sm0.2, trivial⟩ ⟨?_, ?_, ?_, ?_, ?_, ?_, ?_, ?_, trivial⟩
  all_goals simp only [SI.val, rhoOf]
  all_goals generalize p / 12 % 64 = m at *
  all_goals generalize p / 12 % 256 = n at *
  · rw [show (2 : Int) ^ Int.toNat 6 = 64 by decide, Int.fdiv_eq_ediv_of_nonneg _ (by decide)]
    omega
  · show _ = Builtin.bitAnd _ _
    rw [band_mask _ (by omega)]
    omega
  · show _ = Builtin.bitOr _ _
    rw [bor_top _ (by omega) (by omega)]
    omega
  · rw [show (2 : Int) ^ Int.toNat 16 = 65536 by decide, Int.fdiv_eq_ediv_of_nonneg _ (by decide)]
    omega
  · omega
  · omega
  · omega
  · omega
  · omega
  · rw [decide_eq_false (by omega)]
  · rw [decide_eq_true (by omega)]
  · rw [decide_eq_false (by omega)]
  · rw [decide_eq_true (by omega)]
  · rw [decide_eq_false (by omega)]
  · rw [decide_eq_false (by omega)]
  · rw [decide_eq_true (by omega)]
  · rw [decide_eq_false (by omega)]
end
end Mine

end
section
set_option maxRecDepth 100000
namespace Mine
open PySem PySem.W PySem.Calls PyProof.Rows

theorem kF0 : chk (orcF 0 []) 0 = true := by decide +kernel
theorem kF1 : chk (orcF 1 []) 0 = true := by decide +kernel
theorem kF2_0_0 : chk (orcF 2 [mo 4 0, mo 3 0]) 0 = true := by decide +kernel
theorem kF2_0_1 : chk (orcF 2 [mo 4 0, mo 3 1]) 0 = true := by decide +kernel
theorem kF2_0_2 : chk (orcF 2 [mo 4 0, mo 3 2]) 0 = true := by decide +kernel
theorem kF2_1_0 : chk (orcF 2 [mo 4 1, mo 3 0]) 0 = true := by decide +kernel
theorem kF2_1_1 : chk (orcF 2 [mo 4 1, mo 3 1]) 0 = true := by decide +kernel
theorem kF2_1_2 : chk (orcF 2 [mo 4 1, mo 3 2]) 0 = true := by decide +kernel
theorem kF2_2_0 : chk (orcF 2 [mo 4 2, mo 3 0]) 0 = true := by decide +kernel
theorem kF2_2_1 : chk (orcF 2 [mo 4 2, mo 3 1]) 0 = true := by decide +kernel
theorem kF2_2_2 : chk (orcF 2 [mo 4 2, mo 3 2]) 0 = true := by decide +kernel
theorem kF2_3_0 : chk (orcF 2 [mo 4 3, mo 3 0]) 0 = true := by decide +kernel
theorem kF2_3_1 : chk (orcF 2 [mo 4 3, mo 3 1]) 0 = true := by decide +kernel
theorem kF2_3_2 : chk (orcF 2 [mo 4 3, mo 3 2]) 0 = true := by decide +kernel
theorem kF3_0 : chk (orcF 3 [mo 4 0]) 0 = true := by decide +kernel
theorem kF3_1 : chk (orcF 3 [mo 4 1]) 0 = true := by decide +kernel
theorem kF3_2 : chk (orcF 3 [mo 4 2]) 0 = true := by decide +kernel
theorem kF3_3 : chk (orcF 3 [mo 4 3]) 0 = true := by decide +kernel
theorem kF4_0 : chk (orcF 4 [mo 2 0]) 0 = true := by decide +kernel
theorem kF4_1 : chk (orcF 4 [mo 2 1]) 0 = true := by decide +kernel
theorem kF5_0 : chk (orcF 5 [mo 4 0]) 0 = true := by decide +kernel
theorem kF5_1 : chk (orcF 5 [mo 4 1]) 0 = true := by decide +kernel
theorem kF5_2 : chk (orcF 5 [mo 4 2]) 0 = true := by decide +kernel
theorem kF5_3 : chk (orcF 5 [mo 4 3]) 0 = true := by decide +kernel
theorem kF6_0_0 : chk (orcF 6 [mo 3 0, mo 64 0, mo 256 0]) 0 = true := by decide +kernel
theorem kF6_0_64 : chk (orcF 6 [mo 3 0, mo 64 0, mo 256 64]) 0 = true := by decide +kernel
theorem kF6_0_128 : chk (orcF 6 [mo 3 0, mo 64 0, mo 256 128]) 0 = true := by decide +kernel
theorem kF6_0_192 : chk (orcF 6 [mo 3 0, mo 64 0, mo 256 192]) 0 = true := by decide +kernel
theorem kF6_1_0 : chk (orcF 6 [mo 3 1, mo 64 0, mo 256 0]) 0 = true := by decide +kernel
theorem kF6_1_64 : chk (orcF 6 [mo 3 1, mo 64 0, mo 256 64]) 0 = true := by decide +kernel
theorem kF6_1_128 : chk (orcF 6 [mo 3 1, mo 64 0, mo 256 128]) 0 = true := by decide +kernel
theorem kF6_1_192 : chk (orcF 6 [mo 3 1, mo 64 0, mo 256 192]) 0 = true := by decide +kernel
theorem kF6_2_0 : chk (orcF 6 [mo 3 2, mo 64 0, mo 256 0]) 0 = true := by decide +kernel
theorem kF6_2_64 : chk (orcF 6 [mo 3 2, mo 64 0, mo 256 64]) 0 = true := by decide +kernel
theorem kF6_2_128 : chk (orcF 6 [mo 3 2, mo 64 0, mo 256 128]) 0 = true := by decide +kernel
theorem kF6_2_192 : chk (orcF 6 [mo 3 2, mo 64 0, mo 256 192]) 0 = true := by decide +kernel
theorem kF6_0 : chk (orc6 0) 0 = true := by decide +kernel
theorem kF6_1 : chk (orc6 1) 0 = true := by decide +kernel
theorem kF6_2 : chk (orc6 2) 0 = true := by decide +kernel
theorem kF7_0_0 : chk (orcF 7 [mo 3 0, (.fdiv, .var 1, .lit 3, .var 2), (.fmod, .var 2, .lit 3, .lit 0)]) 0 = true := by decide +kernel
theorem kF7_0_1 : chk (orcF 7 [mo 3 0, (.fdiv, .var 1, .lit 3, .var 2), (.fmod, .var 2, .lit 3, .lit 1)]) 0 = true := by decide +kernel
theorem kF7_0_2 : chk (orcF 7 [mo 3 0, (.fdiv, .var 1, .lit 3, .var 2), (.fmod, .var 2, .lit 3, .lit 2)]) 0 = true := by decide +kernel
theorem kF7_1_0 : chk (orcF 7 [mo 3 1, (.fdiv, .var 1, .lit 3, .var 2), (.fmod, .var 2, .lit 3, .lit 0)]) 0 = true := by decide +kernel
theorem kF7_1_1 : chk (orcF 7 [mo 3 1, (.fdiv, .var 1, .lit 3, .var 2), (.fmod, .var 2, .lit 3, .lit 1)]) 0 = true := by decide +kernel
theorem kF7_1_2 : chk (orcF 7 [mo 3 1, (.fdiv, .var 1, .lit 3, .var 2), (.fmod, .var 2, .lit 3, .lit 2)]) 0 = true := by decide +kernel
theorem kF7_2_0 : chk (orcF 7 [mo 3 2, (.fdiv, .var 1, .lit 3, .var 2), (.fmod, .var 2, .lit 3, .lit 0)]) 0 = true := by decide +kernel
theorem kF7_2_1 : chk (orcF 7 [mo 3 2, (.fdiv, .var 1, .lit 3, .var 2), (.fmod, .var 2, .lit 3, .lit 1)]) 0 = true := by decide +kernel
theorem kF7_2_2 : chk (orcF 7 [mo 3 2, (.fdiv, .var 1, .lit 3, .var 2), (.fmod, .var 2, .lit 3, .lit 2)]) 0 = true := by decide +kernel
theorem kF8 : chk (orcF 8 []) 0 = true := by decide +kernel
theorem kF9_0 : chk (orcF 9 [mo 2 0]) 0 = true := by decide +kernel
theorem kF9_1 : chk (orcF 9 [mo 2 1]) 0 = true := by decide +kernel
theorem kF10_0 : chk (orcF 10 [mo 4 0]) 0 = true := by decide +kernel
theorem kF10_1 : chk (orcF 10 [mo 4 1]) 0 = true := by decide +kernel
theorem kF10_2 : chk (orcF 10 [mo 4 2]) 0 = true := by decide +kernel
theorem kF10_3 : chk (orcF 10 [mo 4 3]) 0 = true := by decide +kernel
theorem kF11 : chk (orcF 11 []) 0 = true := by decide +kernel
theorem kS0 : chk (orcS 0) 1 = true := by decide +kernel
theorem kS1 : chk (orcS 1) 1 = true := by decide +kernel
theorem kS2 : chk (orcS 2) 1 = true := by decide +kernel
theorem kS3 : chk (orcS 3) 1 = true := by decide +kernel
theorem kS4 : chk (orcS 4) 1 = true := by decide +kernel
theorem kS5 : chk (orcS 5) 1 = true := by decide +kernel
theorem kS6 : chk (orcS 6) 1 = true := by decide +kernel
theorem kS7 : chk (orcS 7) 1 = true := by decide +kernel
theorem kP0_0 : chk (orcP 0 0) 2 = true := by decide +kernel
theorem kP0_1 : chk (orcP 0 1) 2 = true := by decide +kernel
theorem kP0_2 : chk (orcP 0 2) 2 = true := by decide +kernel
theorem kP0_3 : chk (orcP 0 3) 2 = true := by decide +kernel
theorem kP0_4 : chk (orcP 0 4) 2 = true := by decide +kernel
theorem kP1_0 : chk (orcP 1 0) 2 = true := by decide +kernel
theorem kP1_1 : chk (orcP 1 1) 2 = true := by decide +kernel
theorem kP1_2 : chk (orcP 1 2) 2 = true := by decide +kernel
theorem kP1_3 : chk (orcP 1 3) 2 = true := by decide +kernel
theorem kP1_4 : chk (orcP 1 4) 2 = true := by decide +kernel
end Mine

end
section
set_option maxRecDepth 100000
namespace Mine
open PySem PySem.W PySem.Calls PyProof.Rows

section
variable {p : Int}
theorem modN (p : Int) {n : Nat} (h : 0 < n) : ∃ k : Fin n, p % n = k.val := by
  have h' : (n : Int) ≠ 0 := by omega
  refine ⟨⟨(p % n).toNat, ?_⟩, (Int.toNat_of_nonneg (Int.emod_nonneg p h')).symm⟩
  have := Int.emod_lt_of_pos p (show (0 : Int) < n by omega)
  have := Int.emod_nonneg p h'
  omega
theorem mod2 (p : Int) : p % 2 = 0 ∨ p % 2 = 1 := by
  obtain ⟨k, e⟩ := modN p (n := 2) (by decide)
  rw [show p % 2 = _ from e]; clear e; revert k; decide
theorem mod3 (p : Int) : p % 3 = 0 ∨ p % 3 = 1 ∨ p % 3 = 2 := by
  obtain ⟨k, e⟩ := modN p (n := 3) (by decide)
  rw [show p % 3 = _ from e]; clear e; revert k; decide
theorem mod4 (p : Int) : p % 4 = 0 ∨ p % 4 = 1 ∨ p % 4 = 2 ∨ p % 4 = 3 := by
  obtain ⟨k, e⟩ := modN p (n := 4) (by decide)
  rw [show p % 4 = _ from e]; clear e; revert k; decide
theorem mod5 (p : Int) : p % 5 = 0 ∨ p % 5 = 1 ∨ p % 5 = 2 ∨ p % 5 = 3 ∨ p % 5 = 4 := by
  obtain ⟨k, e⟩ := modN p (n := 5) (by decide)
  rw [show p % 5 = _ from e]; clear e; revert k; decide
theorem mod8 (p : Int) : p % 8 = 0 ∨ p % 8 = 1 ∨ p % 8 = 2 ∨ p % 8 = 3 ∨ p % 8 = 4 ∨ p % 8 = 5 ∨ p % 8 = 6 ∨ p % 8 = 7 := by
  obtain ⟨k, e⟩ := modN p (n := 8) (by decide)
  rw [show p % 8 = _ from e]; clear e; revert k; decide
theorem mod12 (p : Int) : p % 12 = 0 ∨ p % 12 = 1 ∨ p % 12 = 2 ∨ p % 12 = 3 ∨ p % 12 = 4 ∨ p % 12 = 5 ∨ p % 12 = 6 ∨ p % 12 = 7 ∨ p % 12 = 8 ∨ p % 12 = 9 ∨ p % 12 = 10 ∨ p % 12 = 11 := by
  obtain ⟨k, e⟩ := modN p (n := 12) (by decide)
  rw [show p % 12 = _ from e]; clear e; revert k; decide
theorem mod256 {p : Int} (h : p % 64 = 0) : p % 256 = 0 ∨ p % 256 = 64 ∨ p % 256 = 128 ∨ p % 256 = 192 := by
  omega
theorem OpsOK.nil {ρ : Nat → Int} : OpsOK ρ [] := True.intro
theorem row_third (h0 : 0 ≤ p) (h1 : p < 100003) {b : Int} (hb : p / 12 / 3 % 3 = b) : OpsOK (rhoOf p) [(.fdiv, .var 1, .lit 3, .var 2), (.fmod, .var 2, .lit 3, .lit b)] :=
  ⟨fdiv_ok (by show 0 ≤ p / 12; omega) (ltd rfl) (ltd rfl) rfl (by show p / 12 / 3 < _; omega), fmod_ok (ltd rfl) (ltd rfl) hb, trivial⟩
theorem frames_ok (h0 : 0 ≤ p) (h1 : p < 100003) : ∃ orc, OrcOK (rhoOf p) orc ∧ chk orc 0 = true := by
  have hw : p % 12 = 0 ∨ p % 12 = 1 ∨ p % 12 = 2 ∨ p % 12 = 3 ∨ p % 12 = 4 ∨ p % 12 = 5 ∨ p % 12 = 6 ∨ p % 12 = 7 ∨ p % 12 = 8 ∨ p % 12 = 9 ∨ p % 12 = 10 ∨ p % 12 = 11 := mod12 _
  rcases hw with hw | hw | hw | hw | hw | hw | hw | hw | hw | hw | hw | hw
  · exact ⟨_, row_pick h0 h1 hw OpsOK.nil, kF0⟩
  · exact ⟨_, row_pick h0 h1 hw OpsOK.nil, kF1⟩
  · have a : p / 12 % 4 = 0 ∨ p / 12 % 4 = 1 ∨ p / 12 % 4 = 2 ∨ p / 12 % 4 = 3 := mod4 _
    have b : p / 12 % 3 = 0 ∨ p / 12 % 3 = 1 ∨ p / 12 % 3 = 2 := mod3 _
    rcases a with a | a | a | a
    · rcases b with b | b | b
      · exact ⟨_, row_pick h0 h1 hw (mo_ok (by decide) (by decide) a (mo_ok (by decide) (by decide) b OpsOK.nil)), kF2_0_0⟩
      · exact ⟨_, row_pick h0 h1 hw (mo_ok (by decide) (by decide) a (mo_ok (by decide) (by decide) b OpsOK.nil)), kF2_0_1⟩
      · exact ⟨_, row_pick h0 h1 hw (mo_ok (by decide) (by decide) a (mo_ok (by decide) (by decide) b OpsOK.nil)), kF2_0_2⟩
    · rcases b with b | b | b
      · exact ⟨_, row_pick h0 h1 hw (mo_ok (by decide) (by decide) a (mo_ok (by decide) (by decide) b OpsOK.nil)), kF2_1_0⟩
      · exact ⟨_, row_pick h0 h1 hw (mo_ok (by decide) (by decide) a (mo_ok (by decide) (by decide) b OpsOK.nil)), kF2_1_1⟩
      · exact ⟨_, row_pick h0 h1 hw (mo_ok (by decide) (by decide) a (mo_ok (by decide) (by decide) b OpsOK.nil)), kF2_1_2⟩
    · rcases b with b | b | b
      · exact ⟨_, row_pick h0 h1 hw (mo_ok (by decide) (by decide) a (mo_ok (by decide) (by decide) b OpsOK.nil)), kF2_2_0⟩
      · exact ⟨_, row_pick h0 h1 hw (mo_ok (by decide) (by decide) a (mo_ok (by decide) (by decide) b OpsOK.nil)), kF2_2_1⟩
      · exact ⟨_, row_pick h0 h1 hw (mo_ok (by decide) (by decide) a (mo_ok (by decide) (by decide) b OpsOK.nil)), kF2_2_2⟩
    · rcases b with b | b | b
      · exact ⟨_, row_pick h0 h1 hw (mo_ok (by decide) (by decide) a (mo_ok (by decide) (by decide) b OpsOK.nil)), kF2_3_0⟩
      · exact ⟨_, row_pick h0 h1 hw (mo_ok (by decide) (by decide) a (mo_ok (by decide) (by decide) b OpsOK.nil)), kF2_3_1⟩
      · exact ⟨_, row_pick h0 h1 hw (mo_ok (by decide) (by decide) a (mo_ok (by decide) (by decide) b OpsOK.nil)), kF2_3_2⟩
  · have a : p / 12 % 4 = 0 ∨ p / 12 % 4 = 1 ∨ p / 12 % 4 = 2 ∨ p / 12 % 4 = 3 := mod4 _
    rcases a with a | a | a | a
    · exact ⟨_, row_pick h0 h1 hw (mo_ok (by decide) (by decide) a OpsOK.nil), kF3_0⟩
    · exact ⟨_, row_pick h0 h1 hw (mo_ok (by decide) (by decide) a OpsOK.nil), kF3_1⟩
    · exact ⟨_, row_pick h0 h1 hw (mo_ok (by decide) (by decide) a OpsOK.nil), kF3_2⟩
    · exact ⟨_, row_pick h0 h1 hw (mo_ok (by decide) (by decide) a OpsOK.nil), kF3_3⟩
  · have a : p / 12 % 2 = 0 ∨ p / 12 % 2 = 1 := mod2 _
    rcases a with a | a
    · exact ⟨_, row_pick h0 h1 hw (mo_ok (by decide) (by decide) a OpsOK.nil), kF4_0⟩
    · exact ⟨_, row_pick h0 h1 hw (mo_ok (by decide) (by decide) a OpsOK.nil), kF4_1⟩
  · have a : p / 12 % 4 = 0 ∨ p / 12 % 4 = 1 ∨ p / 12 % 4 = 2 ∨ p / 12 % 4 = 3 := mod4 _
    rcases a with a | a | a | a
    · exact ⟨_, row_pick h0 h1 hw (mo_ok (by decide) (by decide) a OpsOK.nil), kF5_0⟩
    · exact ⟨_, row_pick h0 h1 hw (mo_ok (by decide) (by decide) a OpsOK.nil), kF5_1⟩
    · exact ⟨_, row_pick h0 h1 hw (mo_ok (by decide) (by decide) a OpsOK.nil), kF5_2⟩
    · exact ⟨_, row_pick h0 h1 hw (mo_ok (by decide) (by decide) a OpsOK.nil), kF5_3⟩
  · have a : p / 12 % 3 = 0 ∨ p / 12 % 3 = 1 ∨ p / 12 % 3 = 2 := mod3 _
    by_cases hz : p / 12 % 64 = 0
    · have b := mod256 hz
      rcases a with a | a | a
      · rcases b with b | b | b | b
        · exact ⟨_, row_pick h0 h1 hw (mo_ok (by decide) (by decide) a (mo_ok (by decide) (by decide) hz (mo_ok (by decide) (by decide) b OpsOK.nil))), kF6_0_0⟩
        · exact ⟨_, row_pick h0 h1 hw (mo_ok (by decide) (by decide) a (mo_ok (by decide) (by decide) hz (mo_ok (by decide) (by decide) b OpsOK.nil))), kF6_0_64⟩
        · exact ⟨_, row_pick h0 h1 hw (mo_ok (by decide) (by decide) a (mo_ok (by decide) (by decide) hz (mo_ok (by decide) (by decide) b OpsOK.nil))), kF6_0_128⟩
        · exact ⟨_, row_pick h0 h1 hw (mo_ok (by decide) (by decide) a (mo_ok (by decide) (by decide) hz (mo_ok (by decide) (by decide) b OpsOK.nil))), kF6_0_192⟩
      · rcases b with b | b | b | b
        · exact ⟨_, row_pick h0 h1 hw (mo_ok (by decide) (by decide) a (mo_ok (by decide) (by decide) hz (mo_ok (by decide) (by decide) b OpsOK.nil))), kF6_1_0⟩
        · exact ⟨_, row_pick h0 h1 hw (mo_ok (by decide) (by decide) a (mo_ok (by decide) (by decide) hz (mo_ok (by decide) (by decide) b OpsOK.nil))), kF6_1_64⟩
        · exact ⟨_, row_pick h0 h1 hw (mo_ok (by decide) (by decide) a (mo_ok (by decide) (by decide) hz (mo_ok (by decide) (by decide) b OpsOK.nil))), kF6_1_128⟩
        · exact ⟨_, row_pick h0 h1 hw (mo_ok (by decide) (by decide) a (mo_ok (by decide) (by decide) hz (mo_ok (by decide) (by decide) b OpsOK.nil))), kF6_1_192⟩
      · rcases b with b | b | b | b
        · exact ⟨_, row_pick h0 h1 hw (mo_ok (by decide) (by decide) a (mo_ok (by decide) (by decide) hz (mo_ok (by decide) (by decide) b OpsOK.nil))), kF6_2_0⟩
        · exact ⟨_, row_pick h0 h1 hw (mo_ok (by decide) (by decide) a (mo_ok (by decide) (by decide) hz (mo_ok (by decide) (by decide) b OpsOK.nil))), kF6_2_64⟩
        · exact ⟨_, row_pick h0 h1 hw (mo_ok (by decide) (by decide) a (mo_ok (by decide) (by decide) hz (mo_ok (by decide) (by decide) b OpsOK.nil))), kF6_2_128⟩
        · exact ⟨_, row_pick h0 h1 hw (mo_ok (by decide) (by decide) a (mo_ok (by decide) (by decide) hz (mo_ok (by decide) (by decide) b OpsOK.nil))), kF6_2_192⟩
    · rcases a with a | a | a
      · exact ⟨_, orc6_ok h0 h1 hw a hz, kF6_0⟩
      · exact ⟨_, orc6_ok h0 h1 hw a hz, kF6_1⟩
      · exact ⟨_, orc6_ok h0 h1 hw a hz, kF6_2⟩
  · have a : p / 12 % 3 = 0 ∨ p / 12 % 3 = 1 ∨ p / 12 % 3 = 2 := mod3 _
    have b : p / 12 / 3 % 3 = 0 ∨ p / 12 / 3 % 3 = 1 ∨ p / 12 / 3 % 3 = 2 := mod3 _
    rcases a with a | a | a
    · rcases b with b | b | b
      · exact ⟨_, row_pick h0 h1 hw (mo_ok (by decide) (by decide) a (row_third h0 h1 b)), kF7_0_0⟩
      · exact ⟨_, row_pick h0 h1 hw (mo_ok (by decide) (by decide) a (row_third h0 h1 b)), kF7_0_1⟩
      · exact ⟨_, row_pick h0 h1 hw (mo_ok (by decide) (by decide) a (row_third h0 h1 b)), kF7_0_2⟩
    · rcases b with b | b | b
      · exact ⟨_, row_pick h0 h1 hw (mo_ok (by decide) (by decide) a (row_third h0 h1 b)), kF7_1_0⟩
      · exact ⟨_, row_pick h0 h1 hw (mo_ok (by decide) (by decide) a (row_third h0 h1 b)), kF7_1_1⟩
      · exact ⟨_, row_pick h0 h1 hw (mo_ok (by decide) (by decide) a (row_third h0 h1 b)), kF7_1_2⟩
    · rcases b with b | b | b
      · exact ⟨_, row_pick h0 h1 hw (mo_ok (by decide) (by decide) a (row_third h0 h1 b)), kF7_2_0⟩
      · exact ⟨_, row_pick h0 h1 hw (mo_ok (by decide) (by decide) a (row_third h0 h1 b)), kF7_2_1⟩
      · exact ⟨_, row_pick h0 h1 hw (mo_ok (by decide) (by decide) a (row_third h0 h1 b)), kF7_2_2⟩
  · exact ⟨_, row_pick h0 h1 hw OpsOK.nil, kF8⟩
  · have a : p / 12 % 2 = 0 ∨ p / 12 % 2 = 1 := mod2 _
    rcases a with a | a
    · exact ⟨_, row_pick h0 h1 hw (mo_ok (by decide) (by decide) a OpsOK.nil), kF9_0⟩
    · exact ⟨_, row_pick h0 h1 hw (mo_ok (by decide) (by decide) a OpsOK.nil), kF9_1⟩
  · have a : p / 12 % 4 = 0 ∨ p / 12 % 4 = 1 ∨ p / 12 % 4 = 2 ∨ p / 12 % 4 = 3 := mod4 _
    rcases a with a | a | a | a
    · exact ⟨_, row_pick h0 h1 hw (mo_ok (by decide) (by decide) a OpsOK.nil), kF10_0⟩
    · exact ⟨_, row_pick h0 h1 hw (mo_ok (by decide) (by decide) a OpsOK.nil), kF10_1⟩
    · exact ⟨_, row_pick h0 h1 hw (mo_ok (by decide) (by decide) a OpsOK.nil), kF10_2⟩
    · exact ⟨_, row_pick h0 h1 hw (mo_ok (by decide) (by decide) a OpsOK.nil), kF10_3⟩
  · exact ⟨_, row_pick h0 h1 hw OpsOK.nil, kF11⟩
theorem sorts_ok (h0 : 0 ≤ p) (h1 : p < 100003) : ∃ orc, OrcOK (rhoOf p) orc ∧ chk orc 1 = true := by
  have a : p / 3 % 8 = 0 ∨ p / 3 % 8 = 1 ∨ p / 3 % 8 = 2 ∨ p / 3 % 8 = 3 ∨ p / 3 % 8 = 4 ∨ p / 3 % 8 = 5 ∨ p / 3 % 8 = 6 ∨ p / 3 % 8 = 7 := mod8 _
  rcases a with a | a | a | a | a | a | a | a
  · exact ⟨_, orcS_ok h0 h1 a, kS0⟩
  · exact ⟨_, orcS_ok h0 h1 a, kS1⟩
  · exact ⟨_, orcS_ok h0 h1 a, kS2⟩
  · exact ⟨_, orcS_ok h0 h1 a, kS3⟩
  · exact ⟨_, orcS_ok h0 h1 a, kS4⟩
  · exact ⟨_, orcS_ok h0 h1 a, kS5⟩
  · exact ⟨_, orcS_ok h0 h1 a, kS6⟩
  · exact ⟨_, orcS_ok h0 h1 a, kS7⟩
theorem streams_ok (h0 : 0 ≤ p) (h1 : p < 100003) : ∃ orc, OrcOK (rhoOf p) orc ∧ chk orc 2 = true := by
  have a : p / 5 % 2 = 0 ∨ p / 5 % 2 = 1 := mod2 _
  have b : p / 5 / 2 % 5 = 0 ∨ p / 5 / 2 % 5 = 1 ∨ p / 5 / 2 % 5 = 2 ∨ p / 5 / 2 % 5 = 3 ∨ p / 5 / 2 % 5 = 4 := mod5 _
  rcases a with a | a
  · rcases b with b | b | b | b | b
    · exact ⟨_, orcP_ok h0 h1 a b, kP0_0⟩
    · exact ⟨_, orcP_ok h0 h1 a b, kP0_1⟩
    · exact ⟨_, orcP_ok h0 h1 a b, kP0_2⟩
    · exact ⟨_, orcP_ok h0 h1 a b, kP0_3⟩
    · exact ⟨_, orcP_ok h0 h1 a b, kP0_4⟩
  · rcases b with b | b | b | b | b
    · exact ⟨_, orcP_ok h0 h1 a b, kP1_0⟩
    · exact ⟨_, orcP_ok h0 h1 a b, kP1_1⟩
    · exact ⟨_, orcP_ok h0 h1 a b, kP1_2⟩
    · exact ⟨_, orcP_ok h0 h1 a b, kP1_3⟩
    · exact ⟨_, orcP_ok h0 h1 a b, kP1_4⟩
end
end Mine

end
section
set_option maxRecDepth 100000
namespace Mine
open PySem PySem.W PySem.Calls PySem.SeqAt PyProof.Rows

/-! ## the law's list of picks -/
noncomputable def IsPick (v : Value) : Prop := ∃ k t, v = .int k t ∧ 0 ≤ k ∧ k < 100003
section
variable {prog : Program} {w : World} {A : Around} {E : Value → Shared → Prop} {s : Shared} {env : Env} {h₀ : Heap}

/-- a built-in's name -/
structure BName (M : Model) (h₀ : Heap) (x : Str) (v : Value) : Prop where
  glob : Looks M h₀ (nsGet mainGlobals x) none
  blt : Looks M h₀ (nsGet builtinsNs x) (some v)
theorem BName.name {x : Str} {v : Value} {pos : Pos} {Q : Value → Shared → Prop} (B : BName (model prog w) h₀ x v) (k : ∀ b o, h₀.get? b = some o → s.heap.get? b = some o) (hk : env.scope.kind = .function) (hx : env.kindOf x = some .globalImplicit)
    (hg : env.globals = mainGlobals) (hb : env.builtins = builtinsNs) (h : Q v s) (hd : (x == ("__debug__" : Str)) = false := by decide) : wpAny (model prog w) A (eval (.Name x pos) env) Q E s := by
  refine Name_function_global hk hx ?_ hd
  unfold loadGlobal
  rw [hg, hb]
  exact wpAny_bind ((B.glob.keeps k).here (wpAny_bind ((B.blt.keeps k).here (wpAny_pure h))))
theorem local_name {x : Str} {v : Value} {pos : Pos} {m : Str → Option Value} {Q : Value → Shared → Prop} (hk : env.scope.kind = .function) (hx : env.kindOf x = some .local) (hn : s.heap.Ns env.locals m) (hm : m x = some v) (h : Q v s)
    (hd : (x == ("__debug__" : Str)) = false := by decide) : wpAny (model prog w) A (eval (.Name x pos) env) Q E s :=
  wpAny_Name (wpAny_loadName_local hk hx hn hm h) hd
theorem int_const {i : Int} {k : Nat} {pos : Pos} {Q : Value → Shared → Prop} (h : ∀ t, Q (.int i t) { s with toks := s.toks + 1 }) : wpAny (model prog w) A (eval (.Constant (.int i) k pos) env) Q E s := by
  show wpAny _ _ (constValue env (.int i)) _ _ _
  exact wpAny_mkInt (h _)
/-- a call of a built-in with one argument -/
theorem call1 {x id : Str} {f : String} {e : Expr} {p pos : Pos} {Q : Value → Shared → Prop} (B : BName (model prog w) h₀ x (.builtin f)) (k : ∀ b o, h₀.get? b = some o → s.heap.get? b = some o) (hk : env.scope.kind = .function) (hx : env.kindOf x = some .globalImplicit)
    (hg : env.globals = mainGlobals) (hb : env.builtins = builtinsNs) (he : starEach [e] env = [(false, eval e env)])
    (h : wpAny (model prog w) A (eval e env) (fun v s₁ => wpAny (model prog w) A (call (.builtin f) [v]) Q E s₁) E s) (hd : (x == ("__debug__" : Str)) = false := by decide) :
    wpAny (model prog w) A (eval (.Call (.Name x p) [e] [] pos) env) Q E s := by
  refine wpAny_Call_NameR (B.name k hk hx hg hb ?_ hd)
  rw [he]
  refine callWith_builtin rfl (evalArgs_plain (spliced_cons ?_))
  exact wpAny_mono h (fun v s₁ h₁ => spliced_nil h₁) fun _ _ z => z

/-- one pick of the script -/
theorem pick_elt {m : Str → Option Value} {n : Int} {t : Tok} {p1 p2 p3 p4 p5 : Pos} {k1 : Nat} (B : BName (model prog w) h₀ "abs" (.builtin "abs")) (k : ∀ b o, h₀.get? b = some o → s.heap.get? b = some o) (hk : env.scope.kind = .function)
    (hx : env.kindOf "abs" = some .globalImplicit) (hy : env.kindOf "number" = some .local) (hg : env.globals = mainGlobals) (hb : env.builtins = builtinsNs) (hn : s.heap.Ns env.locals m) (hm : m "number" = some (.int n t)) :
    wpAny (model prog w) A (eval (.BinOp (.Call (.Name "abs" p1) [.Name "number" p2] [] p3) .Mod (.Constant (.int 100003) k1 p4) p5) env) (fun y s' => IsPick y ∧ Keeps s s') E s := by
  rw [arm_eval_BinOp]
  refine wpAny_bind (call1 (id := "abs") B k hk hx hg hb rfl (local_name hk hy hn hm (call_abs_int fun u tk => ?_)))
  refine wpAny_bind (wpAny_holding (int_const fun t' => wpAny_bind (wpAny_standAt ?_)))
  refine wpAny_operating (mod_int' (by decide) ?_)
  refine ⟨⟨_, _, rfl, ?_, ?_⟩, s.heap, _, rfl, fun _ _ e => e⟩
  · rw [Int.fmod_eq_emod_of_nonneg _ (by decide)]; exact Int.emod_nonneg _ (by decide)
  · rw [Int.fmod_eq_emod_of_nonneg _ (by decide)]; exact Int.emod_lt_of_pos _ (by decide)

/-- the script's first twelve -/
theorem script_slice {m : Str → Option Value} {l : Addr} {vs : List Value} {ns : List Int} {p7 p8 p9 p10 : Pos} {k2 : Nat} (hk : env.scope.kind = .function) (hx : env.kindOf "script" = some .local) (hn : s.heap.Ns env.locals m) (hm : m "script" = some (.ref l))
    (hl : s.heap.IsList l vs.toArray) (hi : IntsAre vs ns) (hlen : ns.length ≤ 63) :
    wpAny (model prog w) A (eval (.Subscript (.Name "script" p7) (.Slice none (some (.Constant (.int 12) k2 p8)) none p9) p10) env) (fun v s' => ∃ a items ms, v = .ref a ∧ s'.heap.IsList a items ∧ IntsAre items.toList ms ∧ ms.length ≤ 12 ∧ s.heap.objs.size ≤ a ∧ Keeps s s') E s := by
  rw [eval_Subscript]
  refine wpAny_bind (local_name hk hx hn hm (wpAny_bind (wpAny_holding (wpAny_Slice (wpAny_pure (int_const (k := k2) (pos := p8) fun t => wpAny_pure (wpAny_bind (wpAny_standAt ?_))))))))
  have hz : vs.toArray.size ≤ sizeLine := by
    rw [List.size_toArray, hi.length, sizeLine_eq]
    omega
  refine slice_listK (s := { s with toks := s.toks + 1 }) (prog := prog) hl .none (.int 12 t) ?_ (hsz := hz)
  refine ⟨_, slicePick vs.toArray none (some 12) none, ns.take (12 : Int).toNat, rfl, isList_pushed2 _ _ _, slice_ints_uptoW hi (by decide), ?_, Nat.le_succ _, _, _, rfl, fun _ _ e => Heap.get?_push_of_some _ (Heap.get?_push_of_some _ e)⟩
  rw [List.length_take]
  omega

theorem ints_in {vs : List Value} {ns : List Int} (h : IntsAre vs ns) : ∀ v ∈ vs, ∃ n t, v = .int n t := by
  induction h with
  | nil => intro v hv; cases hv
  | cons n t _ ih =>
    intro v hv
    rcases List.mem_cons.mp hv with rfl | hv
    · exact ⟨n, t, rfl⟩
    · exact ih v hv
theorem paired_pick {vs ws : List Value} (h : Paired (fun _ y => IsPick y) vs ws) : ∀ y ∈ ws, IsPick y := by
  induction h with
  | nil => intro v hv; cases hv
  | cons q _ ih =>
    intro v hv
    rcases List.mem_cons.mp hv with rfl | hv
    · exact q
    · exact ih v hv
@[reducible] noncomputable def compEnv (sc : Scope) (C : Addr) (env : Env) : Env := { scope := sc, locals := C, globals := env.globals, cells := [], qual := env.qual, code := env.code, frame := env.frame, builtins := env.builtins }
/-- the comprehension -/
theorem pick_list {m : Str → Option Value} {l : Addr} {vs : List Value} {ns : List Int} {p1 p2 p3 p4 p5 p6 p7 p8 p9 p10 p11 : Pos} {k1 k2 : Nat} {sc : Scope} (B : BName (model prog w) h₀ "abs" (.builtin "abs")) (k : ∀ b o, h₀.get? b = some o → s.heap.get? b = some o)
    (hA : A.handled = none) (hk : env.scope.kind = .function) (hx : env.kindOf "script" = some .local) (hg : env.globals = mainGlobals) (hb : env.builtins = builtinsNs) (hn : s.heap.Ns env.locals m) (hm : m "script" = some (.ref l))
    (hl : s.heap.IsList l vs.toArray) (hi : IntsAre vs ns) (hlen : ns.length ≤ 63) (hs1 : sc.kind = .function) (hs2 : sc.names = [((".0" : Str), NameKind.local), (("number" : Str), NameKind.local), (("abs" : Str), NameKind.globalImplicit)]) :
    wpAny (model prog w) A (eval (.ListComp (.BinOp (.Call (.Name "abs" p1) [.Name "number" p2] [] p3) .Mod (.Constant (.int 100003) k1 p4) p5)
      [⟨.Name "number" p6, .Subscript (.Name "script" p7) (.Slice none (some (.Constant (.int 12) k2 p8)) none p9) p10, [], 0⟩] sc p11) env)
      (fun v s' => ∃ a items, v = .ref a ∧ s'.heap.IsList a items ∧ (∀ y ∈ items.toList, IsPick y) ∧ items.size ≤ 12 ∧ s.heap.objs.size ≤ a ∧ Keeps s s') E s := by
  refine wpAny_ListComp (by rw [hs2]; decide) hs1 (by rw [hs2]; decide) ?_
  refine wpAny_mono (script_slice hk hx hn hm hl hi hlen) (fun v s1 z => ?_) fun _ _ z => z
  refine hideGoal fun Φ hΦ => ?_
  obtain ⟨a0, it0, ms, e0, hl0, hi0, hz0, ha0, h1, tk1, es1, kp1⟩ := z
  refine hΦ ?_
  clear hΦ Φ
  subst e0
  subst es1
  dsimp only at hl0 ⊢
  refine wpAny_pyIter_list hl0 (wpAny_newList ?_ (Nat.zero_le _))
  rw [newEnv_in, cellsBody_none (by rw [hs2]; decide)]
  refine wpAny_bind (wpAny_alloc (wpAny_bind (wpAny_pure (wpAny_pure ?_))))
  dsimp only
  have hnum : sc.names.lookup ("number" : Str) = some .local := by rw [hs2]; decide
  have habs : sc.names.lookup ("abs" : Str) = some .globalImplicit := by rw [hs2]; decide
  have la : @LT.lt Nat _ a0 h1.objs.size := by obtain ⟨o, ho, _⟩ := hl0; exact Heap.lt_size ho
  have z2 : (h1.push { cls := .type "list_iterator", data := .fields #[.ref a0, .int 0 0] }).objs.size = h1.objs.size + 1 := by rw [Heap.size_push]
  have z3 : ((h1.push { cls := .type "list_iterator", data := .fields #[.ref a0, .int 0 0] }).push { cls := .type "list", data := .seq #[] }).objs.size = h1.objs.size + 2 := by rw [Heap.size_push, Heap.size_push]
  have gr : ∀ b o, h1.get? b = some o → (((h1.push { cls := .type "list_iterator", data := .fields #[.ref a0, .int 0 0] }).push { cls := .type "list", data := .seq #[] }).push { cls := .type "dict", data := .dict #[] }).get? b = some o :=
    fun b o e => Heap.get?_push_of_some _ (Heap.get?_push_of_some _ (Heap.get?_push_of_some _ e))
  have hit : ((h1.push { cls := .type "list_iterator", data := .fields #[.ref a0, .int 0 0] }).push { cls := .type "list", data := .seq #[] }).push { cls := .type "dict", data := .dict #[] } |>.IsListIter h1.objs.size a0 0 :=
    ⟨_, Heap.get?_push_of_some _ (Heap.get?_push_of_some _ (Heap.get?_push_size _ rfl)), rfl, rfl⟩
  have hacc : ((h1.push { cls := .type "list_iterator", data := .fields #[.ref a0, .int 0 0] }).push { cls := .type "list", data := .seq #[] }).push { cls := .type "dict", data := .dict #[] } |>.IsList (h1.push { cls := .type "list_iterator", data := .fields #[.ref a0, .int 0 0] }).objs.size #[] :=
    ⟨_, Heap.get?_push_of_some _ (Heap.get?_push_size _ rfl), rfl, _, rfl⟩
  have hns : ((h1.push { cls := .type "list_iterator", data := .fields #[.ref a0, .int 0 0] }).push { cls := .type "list", data := .seq #[] }).push { cls := .type "dict", data := .dict #[] } |>.Ns ((h1.push { cls := .type "list_iterator", data := .fields #[.ref a0, .int 0 0] }).push { cls := .type "list", data := .seq #[] }).objs.size (fun _ => none) :=
    ⟨_, #[], _, Heap.get?_push_size _ rfl, rfl, (fun e he => by simp at he), fun _ => rfl⟩
  have lsz : s.heap.objs.size ≤ h1.objs.size := by omega
  generalize hD : (h1.push { cls := .type "list_iterator", data := .fields #[.ref a0, .int 0 0] }).objs.size = D at *
  generalize hC : ((h1.push { cls := .type "list_iterator", data := .fields #[.ref a0, .int 0 0] }).push { cls := .type "list", data := .seq #[] }).objs.size = C at *
  generalize hH : ((h1.push { cls := .type "list_iterator", data := .fields #[.ref a0, .int 0 0] }).push { cls := .type "list", data := .seq #[] }).push { cls := .type "dict", data := .dict #[] } = H at *
  have loop : ∀ {pp : Pos}, codeAny (model prog w) A (.compLoop (.ListComp (.BinOp (.Call (.Name "abs" p1) [.Name "number" p2] [] p3) .Mod (.Constant (.int 100003) k1 p4) p5)
      [⟨.Name "number" p6, .Subscript (.Name "script" p7) (.Slice none (some (.Constant (.int 12) k2 p8)) none p9) p10, [], 0⟩] sc p11) 0 (.ref h1.objs.size) (.ref D)
      (compEnv sc C env)) (fun r s' => ∃ m, s'.heap.Ns C m ∧ ∀ h', Heap.SameBut C s'.heap h' →
          match r with
          | .ok _ => ∃ a items, Value.ref D = .ref a ∧ h'.IsList a items ∧ (∀ y ∈ items.toList, IsPick y) ∧ items.size ≤ 12 ∧ s.heap.objs.size ≤ a ∧ Keeps s { s' with heap := h' }
          | .error x => wpAny (model prog w) A (PySem.passOn "comprehension.variables-let-go" x (compEnv sc C env) : Sem Value)
              (fun v s' => ∃ a items, v = .ref a ∧ s'.heap.IsList a items ∧ (∀ y ∈ items.toList, IsPick y) ∧ items.size ≤ 12 ∧ s.heap.objs.size ≤ a ∧ Keeps s s') E { s' with heap := h' }) { s with heap := H, toks := tk1 } := by
    intro pp
    have le1 : @LE.le Nat _ s.heap.objs.size C := by omega
    have le2 : @LE.le Nat _ s.heap.objs.size D := by omega
    have q1 : @LT.lt Nat _ h1.objs.size D := by omega
    have q2 : @LT.lt Nat _ D C := by omega
    have q3 : @LT.lt Nat _ h1.objs.size C := by omega
    have q4 : @LT.lt Nat _ a0 C := by omega
    have q5 : @LT.lt Nat _ a0 D := by omega
    have upH : ∀ b o, s.heap.get? b = some o → H.get? b = some o := fun b o e => gr _ _ (kp1 _ _ e)
    refine codeAny_compLoop_map (fun _ => true) (fun _ y => IsPick y) hA hnum (by show (sc.kind == .class || (sc.kind == .module && C != env.globals)) = false; rw [hs1]; rfl) (Nat.ne_of_gt q1) (Nat.ne_of_lt q2) (Nat.ne_of_lt q3) (Nat.ne_of_lt la) (Nat.ne_of_lt q4) (Nat.ne_of_lt q5) hit (hl0.at fun o e => gr _ _ e) hacc hns ?_ ?_ ?_ (by rw [sizeLine_eq]; rw [← Array.length_toList, hi0.length]; omega)
    · intro v s2 m2 _ hn2 hm2 _
      exact wpAny_tests_nil ⟨rfl, s2.heap, s2.toks, rfl, fun _ _ e => e⟩
    · intro v s2 m2 hv _ hn2 hm2 hkeep
      obtain ⟨n, t, rfl⟩ := ints_in hi0 v (Array.mem_toList_iff.mpr hv)
      have lt : ∀ b o, s.heap.get? b = some o → @LT.lt Nat _ b s.heap.objs.size := fun b o e => Heap.lt_size e
      exact pick_elt (env := compEnv sc C env) B (fun b o e => hkeep b o (Nat.ne_of_lt (Nat.lt_of_lt_of_le (lt _ _ (k _ _ e)) le1)) (Nat.ne_of_lt (Nat.lt_of_lt_of_le (lt _ _ (k _ _ e)) lsz)) (Nat.ne_of_lt (Nat.lt_of_lt_of_le (lt _ _ (k _ _ e)) le2)) (upH _ _ (k _ _ e))) hs1 habs hnum hg hb hn2 hm2
    · intro h' tk m' ys hn' hys hF hkeep
      refine ⟨m', hn', fun h'' hs'' => ⟨D, ys, rfl, hys.extBut hs''.extBut (Nat.ne_of_lt q2), paired_pick hF, ?_, le2, h'', tk, rfl, fun b o e => ?_⟩⟩
      · have := hF.length
        rw [show (it0.toList.filter fun _ => true) = it0.toList by simp, Array.length_toList, Array.length_toList] at this
        have h2 := hi0.length
        rw [Array.length_toList] at h2
        omega
      · have lt : @LT.lt Nat _ b s.heap.objs.size := Heap.lt_size e
        exact hs''.extBut b o (Nat.ne_of_lt (Nat.lt_of_lt_of_le lt le1)) (hkeep b o (Nat.ne_of_lt (Nat.lt_of_lt_of_le lt le1)) (Nat.ne_of_lt (Nat.lt_of_lt_of_le lt lsz)) (Nat.ne_of_lt (Nat.lt_of_lt_of_le lt le2)) (upH b o e))
  exact codeAny_compStart_list (loop (pp := p11)) (wpAny_pyIter_listiter hit (loop (pp := p11)))

/-- two lists end to end -/
theorem lists_add {l b : Addr} {items items2 : Array Value} {Q : Value → Shared → Prop} (hl : s.heap.IsList l items) (hb : s.heap.IsList b items2) (hz : items.size + items2.size ≤ sizeLine)
    (h : Q (.ref s.heap.objs.size) { s with heap := s.heap.push { cls := .type "list", data := .seq (items ++ items2) } }) : wpAny (model prog w) A (binaryOp .Add (.ref l) (.ref b)) Q E s := by
  refine hideGoal fun Φ hΦ => ?_
  obtain ⟨⟨c1, d1, t1, s1⟩, ho, k1, n1, k2⟩ := hl
  refine hΦ ?_
  clear hΦ Φ
  refine hideGoal fun Φ hΦ => ?_
  obtain ⟨⟨c2, d2, t2, s2⟩, ho2, k3, n2, k4⟩ := hb
  refine hΦ ?_
  clear hΦ Φ
  dsimp only at k1 k2 k3 k4
  subst k1 k2 k3 k4
  exact concat_meets ⟨_, ho, rfl⟩ ⟨_, ho2, rfl⟩ noFill_list_add seq_list_add PySem.F.slot_list_add PySem.F.entry_list_add (PySem.F.args_list_add_2 _ _) (list_addW l b items items2 n1 n2 d1 d2 s1 s2 hz) ⟨ho, ho2, h⟩

/-- the law's list -/
theorem some_val {m : Str → Option Value} {l : Addr} {vs : List Value} {ns : List Int} {p1 p2 p3 p4 p5 p6 p7 p8 p9 p10 p11 p12 p13 p14 p15 p16 p17 p18 : Pos} {k1 k2 k3 k4 : Nat} {sc : Scope}
    (B : BName (model prog w) h₀ "abs" (.builtin "abs")) (B' : BName (model prog w) h₀ "len" (.builtin "len")) (k : ∀ b o, h₀.get? b = some o → s.heap.get? b = some o)
    (hA : A.handled = none) (hk : env.scope.kind = .function) (hx : env.kindOf "script" = some .local) (hy : env.kindOf "len" = some .globalImplicit) (hg : env.globals = mainGlobals) (hb : env.builtins = builtinsNs) (hn : s.heap.Ns env.locals m) (hm : m "script" = some (.ref l))
    (hl : s.heap.IsList l vs.toArray) (hi : IntsAre vs ns) (hlen : ns.length ≤ 63) (hs1 : sc.kind = .function) (hs2 : sc.names = [((".0" : Str), NameKind.local), (("number" : Str), NameKind.local), (("abs" : Str), NameKind.globalImplicit)]) :
    wpAny (model prog w) A (eval (.BinOp (.ListComp (.BinOp (.Call (.Name "abs" p1) [.Name "number" p2] [] p3) .Mod (.Constant (.int 100003) k1 p4) p5)
      [⟨.Name "number" p6, .Subscript (.Name "script" p7) (.Slice none (some (.Constant (.int 12) k2 p8)) none p9) p10, [], 0⟩] sc p11) .Add
      (.List [.Call (.Name "len" p12) [.Name "script" p13] [] p14, .Constant (.int 6) k3 p15, .Constant (.int 1000) k4 p16] p17) p18) env)
      (fun v s' => ∃ a items, v = .ref a ∧ s'.heap.IsList a items ∧ (∀ y ∈ items.toList, IsPick y) ∧ items.size ≤ 15 ∧ s.heap.objs.size ≤ a ∧ Keeps s s') E s := by
  rw [arm_eval_BinOp]
  refine wpAny_bind (wpAny_mono (pick_list B k hA hk hx hg hb hn hm hl hi hlen hs1 hs2) (fun v s1 z => ?_) fun _ _ z => z)
  refine hideGoal fun Φ hΦ => ?_
  obtain ⟨a0, it0, rfl, hl0, hp0, hz0, ha0, h1, tk1, rfl, kp1⟩ := z
  refine hΦ ?_
  clear hΦ Φ
  dsimp only at hl0
  have hl1 : h1.IsList l vs.toArray := hl.at fun o e => kp1 _ _ e
  refine wpAny_bind (wpAny_holding ?_)
  show wpAny _ _ (standAt p17 >>= fun _ => spliced (backTo p17 (starEach [.Call (.Name "len" p12) [.Name "script" p13] [] p14, .Constant (.int 6) k3 p15, .Constant (.int 1000) k4 p16] env)) >>= newList) _ _ _
  refine wpAny_bind (wpAny_standAt (wpAny_bind ?_))
  have hse : starEach [.Call (.Name "len" p12) [.Name "script" p13] [] p14, .Constant (.int 6) k3 p15, .Constant (.int 1000) k4 p16] env =
      [(false, eval (.Call (.Name "len" p12) [.Name "script" p13] [] p14) env), (false, eval (.Constant (.int 6) k3 p15) env), (false, eval (.Constant (.int 1000) k4 p16) env)] := rfl
  rw [hse]
  refine spliced_cons ?_
  show wpAny _ _ (eval (.Call (.Name "len" p12) [.Name "script" p13] [] p14) env) _ _ _
  refine call1 (id := "len") B' (fun b o e => kp1 _ _ (k _ _ e)) hk hy hg hb rfl (local_name hk hx (hn.keeps kp1) hm (len_list hl1 (by rw [List.size_toArray, hi.length]; omega) ?_))
  refine spliced_cons ?_
  show wpAny _ _ (eval (.Constant (.int 6) k3 p15) env) _ _ _
  refine int_const fun t6 => spliced_cons ?_
  show wpAny _ _ (eval (.Constant (.int 1000) k4 p16) env) _ _ _
  refine int_const fun t1000 => spliced_nil (wpAny_newList ?_ (by rw [sizeLine_eq]; simp))
  refine wpAny_bind (wpAny_standAt ?_)
  have hnew : (h1.push { cls := .type "list", data := .seq #[.int ((vs.toArray.size : Nat) : Int) (tk1 + 1), .int 6 t6, .int 1000 t1000] }).IsList h1.objs.size #[.int ((vs.toArray.size : Nat) : Int) (tk1 + 1), .int 6 t6, .int 1000 t1000] := ⟨_, Heap.get?_push_size _ rfl, rfl, _, rfl⟩
  have hold : (h1.push { cls := .type "list", data := .seq #[.int ((vs.toArray.size : Nat) : Int) (tk1 + 1), .int 6 t6, .int 1000 t1000] }).IsList a0 it0 := hl0.at fun o e => Heap.get?_push_of_some _ e
  refine wpAny_operating (lists_add hold hnew (by rw [sizeLine_eq]; simp; omega) ?_)
  refine ⟨_, it0 ++ #[.int ((vs.toArray.size : Nat) : Int) (tk1 + 1), .int 6 t6, .int 1000 t1000], rfl, ⟨_, Heap.get?_push_size _ rfl, rfl, _, rfl⟩, ?_, by simp; omega, ?_, _, _, rfl, fun b o e => Heap.get?_push_of_some _ (Heap.get?_push_of_some _ (kp1 _ _ e))⟩
  · intro y hy
    rw [Array.toList_append, List.mem_append] at hy
    rcases hy with hy | hy
    · exact hp0 y hy
    · simp only [List.mem_cons, List.not_mem_nil, or_false] at hy
      have hsz : vs.toArray.size = ns.length := by rw [List.size_toArray, hi.length]
      rcases hy with rfl | rfl | rfl
      · exact ⟨_, _, rfl, by omega, by omega⟩
      · exact ⟨_, _, rfl, by decide, by decide⟩
      · exact ⟨_, _, rfl, by decide, by decide⟩
  · have hla : @LT.lt Nat _ a0 h1.objs.size := by obtain ⟨o, ho, _⟩ := hl0; exact Heap.lt_size ho
    show @LE.le Nat _ s.heap.objs.size (h1.push _).objs.size
    rw [Heap.size_push]
    have : @LE.le Nat _ s.heap.objs.size a0 := ha0
    omega
end
end Mine

end
section
set_option maxRecDepth 100000
namespace Mine
open PySem PySem.W PySem.Calls PySem.SeqAt PyProof.Rows

noncomputable def tabs3 : List (Nat × Addr) := [(1, 290), (2, 297), (3, 302)]
/-- what the written part of the top tells -/
structure TopK (K : Params → Frag) : Prop where
  names : ∀ P, namesB (K P) theNames = true
  tups : ∀ P, tupsB (K P) tupRows = true
  fns : ∀ P, FnRows (K P) tabs3 fnRows
  cls : ∀ P : Par, (K P.w.params).In P.h₀ → ∀ p ∈ clsRows, ClsRow P p
  out : ∀ P, [302, 297, 290].all (fun a => ((K P).lookup a).isNone) = true
  abs : ∀ P, nsIn (K P) mainGlobals "abs" = some none
  len : ∀ P, nsIn (K P) mainGlobals "len" = some none
  cd1 : ∀ P, codeHdIn (K P) 294 290 = true
  cd2 : ∀ P, codeHdIn (K P) 299 297 = true
  cd3 : ∀ P, codeHdIn (K P) 306 302 = true

section
variable {P : Par} {K : Params → Frag}
/-- what the top says of a heap -/
structure TopIs (K : Params → Frag) (w : World) (h : Heap) (mg mb : Str → Option Value) : Prop where
  tk : TopK K
  k : (K w.params).In h
  g : h.Ns mainGlobals mg
  b : h.Ns builtinsNs mb
  bb : ∀ x : Str, x ≠ "__name__" → mb x = bootBuiltins x
  lim : h.NoLimit
  sysm : ∃ o, h.get? sysModules = some o
  main : ∃ bm o, mg "__builtins__" = some (.ref bm) ∧ bm ≠ builtinsNs ∧ h.get? bm = some o ∧ o.cls = .type "module" ∧ o.dict = some builtinsNs ∧ o.data = .plain
theorem TopIs.keeps {w : World} {h h' : Heap} {mg mb : Str → Option Value} (T : TopIs K w h mg mb) (k : ∀ b o, h.get? b = some o → h'.get? b = some o) : TopIs K w h' mg mb :=
  ⟨T.tk, T.k.keeps k, T.g.keeps k, T.b.keeps k, T.bb, T.lim.keeps k, let ⟨o, e⟩ := T.sysm; ⟨o, k _ _ e⟩, let ⟨bm, o, a, b, c, d⟩ := T.main; ⟨bm, o, a, b, k _ _ c, d⟩⟩
theorem top_gok {orc : Orc} {mg mb : Str → Option Value} (T : TopIs K P.w P.h₀ mg mb) (ht : P.tabs = tabs3) (ho : OrcOK P.ρ orc) : GOK P (theG orc) where
  orc := ho
  names := fun x a hx => names_ok T.k T.b T.bb (T.tk.names _) x a hx
  tups := fun a vs hx => tups_ok T.k (T.tk.tups _) a vs hx
  lim := T.lim
  fns := fun a f hf => fns_ok T.k (ht ▸ T.tk.fns _) a f hf
  cls := fun a c hc => T.tk.cls P T.k _ (nget_in hc)
  sysm := T.sysm
  main := by
    refine hideGoal fun Φ hΦ => ?_
    obtain ⟨bm, o, h1, h2, h3, h4, h5, h6⟩ := T.main
    refine hΦ ?_
    clear hΦ Φ
    refine ⟨mg, bm, o, T.g, h1, h2, ?_, h3, h4, h5, h6⟩
    rintro rfl
    refine hideGoal fun Φ hΦ => ?_
    obtain ⟨o', es, ep, e1, e2, _⟩ := T.g
    refine hΦ ?_
    clear hΦ Φ
    rw [e1] at h3
    cases h3
    rw [e2] at h6
    cases h6
end
end Mine

end
section
set_option maxRecDepth 100000
namespace Mine
open PySem PySem.W PySem.Calls PySem.SeqAt PyProof.Rows

/-! ## between the law's turns -/
noncomputable def qF : Str := "_law_frame_right.<locals>."
noncomputable def qS : Str := "_law_sorts_right.<locals>."
noncomputable def qP : Str := "_law_streams_right.<locals>."
/-- a table of code records -/
noncomputable def TabAt (h : Heap) (cs : List (Addr × Str)) (T : Addr) (q : Str) : Prop := ∃ ps, h.get? T = some (tabObj ps) ∧ TriplesOk ps.toList ∧ ∀ pos cv, codeAmong pos ps.toList = some cv → ∃ c, cv = .ref c ∧ (c, q ++ "<lambda>") ∈ cs
structure Base (h : Heap) (L : Addr) (cs : List (Addr × Str)) : Prop where
  t1 : TabAt h cs 290 qF
  t2 : TabAt h cs 297 qS
  t3 : TabAt h cs 302 qP
  cds : ∀ p ∈ cs, h.CodeRec (.ref p.1) p.2 ∧ p.1 ∉ [302, 297, 290, L]
  out : L ∉ [302, 297, 290]
noncomputable def ours (L : Addr) : List Addr := [302, 297, 290, L]
noncomputable def gh0 (L : Addr) (cs : List (Addr × Str)) : Gh := ⟨[302, 297, 290, L], [14, 14, 14, 6], cs⟩
noncomputable def parOf (prog : Program) (w : World) (s : Shared) (L : Addr) (p : Int) : Par := ⟨prog, w, dropAll s.heap (ours L), rhoOf p, s.gens, s.drawn, s.os, tabs3⟩

section
variable {K : Params → Frag} {prog : Program} {w : World} {s : Shared} {L : Addr} {cs : List (Addr × Str)} {p : Int} {t : Tok} {mv : Str → Option Value}
set_option tactic.hygienic true in
theorem base_rep (B : Base s.heap L cs) (hn : s.heap.Ns L mv) (hm : mv "pick" = some (.int p t)) (hp : Small p) : RepS (parOf prog w s L p) (gh0 L cs) pickSt s := by
  have hnd : (ours L).Nodup := by
    have := B.out
    simp only [List.mem_cons, List.not_mem_nil, or_false, not_or] at this
    obtain ⟨h1, h2, h3⟩ := this
    unfold ours
    simp only [List.nodup_cons, List.mem_cons, List.not_mem_nil, or_false, not_or, List.nodup_nil, and_true, not_false_eq_true]
    exact ⟨⟨by decide, by decide, fun q => h1 q.symm⟩, ⟨by decide, fun q => h2 q.symm⟩, fun q => h3 q.symm⟩
  refine ⟨⟨rfl, rfl, rfl, fun b o e => dropAll_sub e, fun a ha => ?_, hnd, ?_, B.cds, ?_⟩, rfl, rfl, rfl⟩
  · show (dropAll s.heap (ours L)).get? a = none
    rw [dropAll_get, if_pos (show a ∈ ours L from ha)]
  · intro q hq
    change q ∈ [(1, 290), (2, 297), (3, 302)] at hq
    simp only [List.mem_cons, List.not_mem_nil, or_false] at hq
    rcases hq with rfl | rfl | rfl <;> rfl
  · intro i o e
    have hi : i < 4 := rnth_lt e
    have tab : ∀ {T : Addr} {q : Str}, TabAt s.heap cs T q → ∃ ob, s.heap.get? T = some ob ∧ OR prog w (rhoOf p) (gh0 L cs) (.tab q) ob := fun ⟨ps, h1, h2, h3⟩ => ⟨_, h1, ps, rfl, h2, h3⟩
    match i, hi with
    | 0, _ =>
      cases e
      refine hideGoal fun Φ hΦ => ?_
      obtain ⟨ob, es, ep, h1, h2, h3, h4⟩ := hn
      refine hΦ ?_
      clear hΦ Φ
      refine ⟨L, ob, rfl, h1, es, ep, h2, h3, fun x a hx => ?_⟩
      rw [fget_cons] at hx
      split at hx
      · rename_i q
        cases hx
        subst q
        exact ⟨_, (h4 _).trans hm, t, rfl, hp⟩
      · cases hx
    | 1, _ =>
      cases e
      obtain ⟨ob, h1, h2⟩ := tab B.t1
      exact ⟨290, ob, rfl, h1, h2⟩
    | 2, _ =>
      cases e
      obtain ⟨ob, h1, h2⟩ := tab B.t2
      exact ⟨297, ob, rfl, h1, h2⟩
    | 3, _ =>
      cases e
      obtain ⟨ob, h1, h2⟩ := tab B.t3
      exact ⟨302, ob, rfl, h1, h2⟩

set_option tactic.hygienic true in
theorem tabIs_ok {st : St} {i : Nat} {q : Str} (h : tabIs st i q = true) : st.get i = some (.tab q) := by
  unfold tabIs at h
  split at h
  · rename_i q' e
    rw [← (strEq_iff _ _).mp h]; exact e
  · cases h
set_option tactic.hygienic true in
theorem pickIs_ok {st : St} (h : pickIs st = true) : ∃ m, st.get 0 = some (.frame m) ∧ fget "pick" m = some (.int (.var 0)) := by
  unfold pickIs at h
  split at h
  · rename_i m e
    split at h
    · rename_i q; exact ⟨m, e, q⟩
    · cases h
  · cases h
/-- the base stands again behind a call -/
theorem base_again {P : Par} {g : Gh} {st : St} {s' : Shared} (hP : P.ρ = rhoOf p) (R : RepS P g st s') (l : (gh0 L cs).le g) (k : keptSt st = true) (out : L ∉ [302, 297, 290]) :
    Base s'.heap L g.cs ∧ ∃ mv' t', s'.heap.Ns L mv' ∧ mv' "pick" = some (.int p t') := by
  unfold keptSt at k
  simp only [Bool.and_eq_true] at k
  refine hideGoal fun Φ hΦ => ?_
  obtain ⟨k1, k2, k3, k4⟩ := k
  refine hΦ ?_
  clear hΦ Φ
  have tab : ∀ {i : Nat} {T : Addr} {q : Str}, (gh0 L cs).adr i = some T → tabIs st i q = true → TabAt s'.heap g.cs T q := by
    intro i T q hT hi
    refine hideGoal fun Φ hΦ => ?_
    obtain ⟨a, ob, h1, h2, ps, h3, h4, h5⟩ := R.1.at (tabIs_ok hi)
    refine hΦ ?_
    clear hΦ Φ
    rw [l.adr hT] at h1
    cases h1
    exact ⟨ps, by rw [h2, h3], h4, h5⟩
  refine ⟨⟨tab rfl k1, tab rfl k2, tab rfl k3, fun q hq => ⟨(R.1.cds q hq).1, fun z => (R.1.cds q hq).2 ?_⟩, out⟩, ?_⟩
  · obtain ⟨xs, e⟩ := l.as
    rw [e]
    exact List.mem_append_right _ z
  · obtain ⟨m, h1, h2⟩ := pickIs_ok k4
    obtain ⟨mv', h3, h4⟩ := R.ns h1 (l.adr (i := 0) rfl)
    refine hideGoal fun Φ hΦ => ?_
    obtain ⟨v, h5, t', h6, _⟩ := h4 _ _ h2
    refine hΦ ?_
    clear hΦ Φ
    refine ⟨mv', t', h3, ?_⟩
    rw [h5, h6, hP]; rfl

/-- what holds between the turns -/
structure LB (hG : Heap) (s₀ : Shared) (L : Addr) (s : Shared) : Prop where
  gl : ∀ b o, hG.get? b = some o → s.heap.get? b = some o
  base : ∃ cs, Base s.heap L cs
  rest : s.gens = s₀.gens ∧ s.drawn = s₀.drawn ∧ s.os = s₀.os

theorem goesWell_ok {r : Mine.R Bool} (h : goesWell r = true) : ∃ st, r = .ok false st ∧ keptSt st = true := by
  unfold goesWell at h
  split at h
  · exact ⟨_, rfl, h⟩
  · cases h

/-- the law's environment -/
structure LawEnv (env : Env) (L : Addr) : Prop where
  scope : env.scope = lawScope
  locals : env.locals = L
  glob : env.globals = mainGlobals
  blt : env.builtins = builtinsNs
  cells : env.cells = []
  frame : env.frame = some L

theorem lawScope_kind : lawScope.kind = .function := rfl
set_option tactic.hygienic true in
/-- one of the three calls of a turn -/
theorem part_ok {A : Around} {env : Env} {hG : Heap} {mg mb : Str → Option Value} {s₀ : Shared} {i : Nat} {orc : Orc} (T : TopIs K w hG mg mb) (hG1 : ∀ a ∈ ours L, hG.get? a = none) (V : LawEnv env L) (hA1 : A.handled = none) (hA2 : A.depth ≤ 400) (hA3 : A.units ≤ 200) (hA4 : A.frames = some [env])
    (I : LB hG s₀ L s) (hn : s.heap.Ns L mv) (hm : mv "pick" = some (.int p t)) (h0 : 0 ≤ p) (h1 : p < 100003) (ho : OrcOK (rhoOf p) orc) (hc : chk orc i = true) :
    wpS (model prog w) A (isTrue (lawCall i) env (eval (lawCall i) env)) (fun b s' => b = false ∧ LB hG s₀ L s' ∧ (∃ mv' t', s'.heap.Ns L mv' ∧ mv' "pick" = some (.int p t')) ∧ ∀ b o, b ∉ ours L → s.heap.get? b = some o → s'.heap.get? b = some o) (fun _ _ => False) s := by
  obtain ⟨cs, B⟩ := I.base
  have sm : Small p := ⟨by omega, by omega⟩
  have R := base_rep (prog := prog) (w := w) B hn hm sm
  have kp : ∀ b o, hG.get? b = some o → (dropAll s.heap (ours L)).get? b = some o := fun b o e => by
    rw [dropAll_get]
    split
    · rename_i q; rw [hG1 b q] at e; cases e
    · exact I.gl b o e
  have O : GOK (parOf prog w s L p) (theG orc) := top_gok (P := parOf prog w s L p) (T.keeps kp) rfl ho
  have hL : (gh0 L cs).adr 0 = some L := rfl
  have fo : FrOk (gh0 L cs) env := ⟨by rw [V.scope, lawScope_kind]; decide, 0, L, rfl, hL, V.frame⟩
  have X : CtxR (parOf prog w s L p) (gh0 L cs) lawEnv env A 64 := by
    refine ⟨⟨V.scope, lawScope_kind, by rw [V.locals]; exact hL, rfl, V.glob, V.blt, by rw [V.cells]; trivial, ⟨L, hL, V.frame⟩, rfl, fun q => absurd rfl q, fun t e => by cases e⟩, ⟨hA1, ?_, ?_, [env], hA4, ?_⟩, ⟨⟨env, [], hA4, rfl, ?_⟩, L, hL, V.frame, rfl⟩⟩
    · show A.depth + 4 * 64 + 8 < 1000
      omega
    · show A.units + 100 * 64 + 100 < 9900
      omega
    · intro e he
      rcases List.mem_cons.mp he with rfl | he
      · exact fo
      · cases he
    · intro e he
      rcases List.mem_cons.mp he with rfl | he
      · exact fo
      · cases he
  obtain ⟨st, e1, e2⟩ := goesWell_ok hc
  have hS := (bev_ok O 64).isTrue (e := lawCall i) X (gh0 L cs) pickSt s (.refl _) R (by rw [e1]; intro z; cases z)
  refine wpS_mono hS (fun b s' ⟨a, st', g', e, l, R', hv⟩ => ?_) fun e s' ⟨j, st', g', y, e, _⟩ => absurd (e1.symm.trans e) (by intro z; cases z)
  have e := e1.symm.trans e
  cases e
  obtain ⟨B', F'⟩ := base_again (p := p) (L := L) (cs := cs) rfl R' l e2 B.out
  refine ⟨hv, ⟨fun b o e => R'.1.keep b o (kp b o e), ⟨g'.cs, B'⟩, ?_⟩, F', fun b o hb e => R'.1.keep b o ?_⟩
  · obtain ⟨r1, r2, r3⟩ := I.rest
    exact ⟨R'.2.1.trans r1, R'.2.2.1.trans r2, R'.2.2.2.trans r3⟩
  · show (dropAll s.heap (ours L)).get? b = some o
    rw [dropAll_get, if_neg hb]; exact e
end
end Mine

end
section
set_option maxRecDepth 100000
namespace Mine
open PySem PySem.W PySem.Calls PySem.SeqAt PyProof.Rows

section
variable {K : Params → Frag} {prog : Program} {w : World} {s : Shared} {L : Addr} {cs : List (Addr × Str)} {p : Int} {t : Tok} {mv mg mb : Str → Option Value} {A : Around} {env : Env} {hG : Heap} {s₀ : Shared}

theorem TabAt.ext {h h' : Heap} {T x : Addr} {q : Str} (B : TabAt h cs T q) (hx : Heap.ExtBut x h h') (hT : T ≠ x) : TabAt h' cs T q :=
  let ⟨ps, h1, h2, h3⟩ := B; ⟨ps, hx _ _ hT h1, h2, h3⟩
/-- an object that is none of ours, nor of the top, is turned -/
theorem LB.turn (I : LB hG s₀ L s) {x : Addr} {h' : Heap} {tk : Nat} (hx : Heap.ExtBut x s.heap h') (hxG : hG.get? x = none) (hxt : x ∉ [302, 297, 290]) (hxc : ∀ p q, s.heap.CodeRec (.ref p) q → p ∉ ours L → p ≠ x) : LB hG s₀ L { s with heap := h', toks := tk } := by
  refine hideGoal fun Φ hΦ => ?_
  obtain ⟨gl, ⟨cs, B⟩, r⟩ := I
  refine hΦ ?_
  clear hΦ Φ
  simp only [List.mem_cons, List.not_mem_nil, or_false, not_or] at hxt
  obtain ⟨n1, n2, n3⟩ := hxt
  refine ⟨fun b o e => hx b o (fun z => by rw [z, hxG] at e; cases e) (gl b o e), ⟨cs, B.t1.ext hx (fun z => n3 z.symm), B.t2.ext hx (fun z => n2 z.symm), B.t3.ext hx (fun z => n1 z.symm), fun q hq => ?_, B.out⟩, r⟩
  obtain ⟨hc, hn⟩ := B.cds q hq
  refine ⟨?_, hn⟩
  have := hxc _ _ hc hn
  refine hideGoal fun Φ hΦ => ?_
  obtain ⟨c, o, vs, u, e1, e2, e3⟩ := hc
  refine hΦ ?_
  clear hΦ Φ
  cases e1
  exact ⟨_, o, vs, u, rfl, hx _ _ this e2, e3⟩
theorem LB.frame (I : LB hG s₀ L s) {h' : Heap} {tk : Nat} (hx : Heap.ExtBut L s.heap h') (hG1 : ∀ a ∈ ours L, hG.get? a = none) : LB hG s₀ L { s with heap := h', toks := tk } := by
  obtain ⟨cs, B⟩ := I.base
  exact I.turn hx (hG1 L (by simp [ours])) B.out fun q _ _ hn z => hn (by rw [z]; simp [ours])
theorem LB.iter (I : LB hG s₀ L s) {h' : Heap} {tk : Nat} {it l : Addr} {i : Nat} (hit : s.heap.IsListIter it l i) (hx : Heap.ExtBut it s.heap h') (hxG : hG.get? it = none) (ho : it ∉ ours L) : LB hG s₀ L { s with heap := h', toks := tk } := by
  refine I.turn hx hxG (fun z => ho (by unfold ours; simp only [List.mem_cons, List.not_mem_nil, or_false] at z ⊢; rcases z with z | z | z <;> simp [z])) fun q nm hc hn z => ?_
  subst z
  refine hideGoal fun Φ hΦ => ?_
  obtain ⟨o, h1, h2, h3⟩ := hit
  refine hΦ ?_
  clear hΦ Φ
  refine hideGoal fun Φ hΦ => ?_
  obtain ⟨c, o', vs, u, e1, e2, e3, e4⟩ := hc
  refine hΦ ?_
  clear hΦ Φ
  cases e1
  rw [e2] at h1
  cases h1
  rw [e3] at h3
  cases h3
  cases e4

theorem allTrue_or {M : Model} {x : Expr} {rest : List Expr} {Q : Bool → Shared → Prop} {E : Value → Shared → Prop} (h : wpS M A (isTrue x env (eval x env)) (fun b s' => b = false ∧ wpS M A (allTrue .Or rest env) Q E s') E s) : wpS M A (allTrue .Or (x :: rest) env) Q E s := by
  unfold allTrue
  refine wpS_bind (wpS_mono h (fun b s' ⟨hb, h'⟩ => ?_) fun _ _ z => z)
  subst hb
  exact h'

/-- the picks' bounds give each part its class -/
theorem part0 (T : TopIs K w hG mg mb) (hG1 : ∀ a ∈ ours L, hG.get? a = none) (V : LawEnv env L) (hA1 : A.handled = none) (hA2 : A.depth ≤ 400) (hA3 : A.units ≤ 200) (hA4 : A.frames = some [env])
    (I : LB hG s₀ L s) (hn : s.heap.Ns L mv) (hm : mv "pick" = some (.int p t)) (h0 : 0 ≤ p) (h1 : p < 100003) {q q1 q2 q3 : Pos} {k : Nat} :
    wpS (model prog w) A (exec (.If (.BoolOp .Or [lawCall 0, lawCall 1, lawCall 2] q) [.Return (some (.Constant (.bool false) k q1)) q2] [] q3) env) (fun f s' => f = .next ∧ LB hG s₀ L s' ∧ (∃ mv, s'.heap.Ns L mv) ∧ ∀ b o, b ∉ ours L → s.heap.get? b = some o → s'.heap.get? b = some o) (fun _ _ => False) s := by
  obtain ⟨o0, c0, d0⟩ := frames_ok h0 h1
  obtain ⟨o1, c1, d1⟩ := sorts_ok h0 h1
  obtain ⟨o2, c2, d2⟩ := streams_ok h0 h1
  show wpS _ A (standAt q3 >>= fun _ => allTrue .Or [lawCall 0, lawCall 1, lawCall 2] env >>= fun b => if b = true then execs [.Return (some (.Constant (.bool false) k q1)) q2] env else execs [] env) _ _ _
  refine wpS_bind (wpS_standAt (wpS_bind ?_))
  refine allTrue_or (wpS_mono (part_ok T hG1 V hA1 hA2 hA3 hA4 I hn hm h0 h1 c0 d0) (fun b s1 ⟨hb, I1, ⟨mv1, t1, n1, m1⟩, k1⟩ => ⟨hb, ?_⟩) fun _ _ z => z.elim)
  refine allTrue_or (wpS_mono (part_ok T hG1 V hA1 hA2 hA3 hA4 I1 n1 m1 h0 h1 c1 d1) (fun b s2 ⟨hb, I2, ⟨mv2, t2, n2, m2⟩, k2⟩ => ⟨hb, ?_⟩) fun _ _ z => z.elim)
  refine allTrue_or (wpS_mono (part_ok T hG1 V hA1 hA2 hA3 hA4 I2 n2 m2 h0 h1 c2 d2) (fun b s3 ⟨hb, I3, ⟨mv3, t3, n3, m3⟩, k3⟩ => ⟨hb, ?_⟩) fun _ _ z => z.elim)
  unfold allTrue
  refine wpS_pure ?_
  exact wpS_pure ⟨rfl, I3, ⟨mv3, n3⟩, fun b o hb e => k3 b o hb (k2 b o hb (k1 b o hb e))⟩

/-- the law's loop -/
theorem law_loop (T : TopIs K w hG mg mb) (hG1 : ∀ a ∈ ours L, hG.get? a = none) (V : LawEnv env L) (hA1 : A.handled = none) (hA2 : A.depth ≤ 400) (hA3 : A.units ≤ 200) (hA4 : A.frames = some [env])
    {it Ls : Addr} {items : Array Value} {q q1 q2 q3 q4 : Pos} {k : Nat} (hxG : hG.get? it = none) (ho : it ∉ ours L) (hl : Ls ∉ ours L) (hne : Ls ≠ it) (hp : ∀ y ∈ items.toList, IsPick y) (hk : env.kindOf "pick" = some .local) :
    ∀ (n i : Nat) (s : Shared), items.size - i = n → LB hG s₀ L s → (∃ mv, s.heap.Ns L mv) → s.heap.IsListIter it Ls i → s.heap.IsList Ls items →
      codeS (model prog w) A (.forLoop (.Name "pick" q4) (.ref it) [.If (.BoolOp .Or [lawCall 0, lawCall 1, lawCall 2] q) [.Return (some (.Constant (.bool false) k q1)) q2] [] q3] [] env) (fun r s' => r = .ok .next ∧ LB hG s₀ L s') s := by
  intro n
  induction n with
  | zero =>
    intro i s hn I _ hit hlist
    refine codeS_of_tree rfl ?_
    show wpS _ A ((forTurn (.Name "pick" q4) (.ref it) _ [] env).onRaise (fun x => do noteFrame x env; theTreesLotGoes x)) _ _ s
    refine wpS_onRaise ?_
    unfold forTurn
    refine wpS_bind (wpS_standAt (wpS_bind (wpS_onRaise (.of ?_))))
    have hv : items[i]? = none := by rw [Array.getElem?_eq_none_iff]; omega
    refine wpAny_pyNext_list_end hA1 hit hlist hv fun h1 he1 => ?_
    exact wpS_pure ⟨rfl, codeS_block ⟨rfl, I.iter hit he1 hxG ho⟩⟩
  | succ n ih =>
    intro i s hn I ⟨mv0, hn0⟩ hit hlist
    refine codeS_of_tree rfl ?_
    show wpS _ A ((forTurn (.Name "pick" q4) (.ref it) _ [] env).onRaise (fun x => do noteFrame x env; theTreesLotGoes x)) _ _ s
    refine wpS_onRaise ?_
    unfold forTurn
    refine wpS_bind (wpS_standAt (wpS_bind (wpS_onRaise (.of ?_))))
    have hlt : i < items.size := by omega
    have hv : items[i]? = some items[i] := Array.getElem?_eq_getElem hlt
    refine wpAny_pyNext_list_item hit hlist hv fun h1 hit1 hs1 => ?_
    refine hideGoal fun Φ hΦ => ?_
    obtain ⟨pk, tk, hpk, h0, h3⟩ := hp items[i] (Array.mem_toList_iff.mpr (Array.getElem_mem hlt))
    refine hΦ ?_
    clear hΦ Φ
    rw [hpk]
    have I1 : LB hG s₀ L { s with heap := h1, toks := s.toks } := I.iter hit hs1.extBut hxG ho
    have iL : L ≠ it := fun z => ho (by rw [← z]; simp [ours])
    have hn1 : h1.Ns L mv0 := hn0.extBut hs1.extBut iL
    have hlist1 : h1.IsList Ls items := hlist.extBut hs1.extBut hne
    dsimp only
    refine wpS_bind (wpS_pure ?_)
    have hpn : (env.scope.kind == .class || (env.scope.kind == .module && env.locals != env.globals)) = false := by rw [V.scope, lawScope_kind]; rfl
    refine wpS_bind ?_
    show wpS _ A (standAt q4 >>= fun _ => bindName env "pick" (.int pk tk)) _ _ _
    refine wpS_bind (wpS_standAt ?_)
    unfold bindName
    refine wpS_bind (wpS_holding (.of (wpAny_point ?_)))
    have hn1' : h1.Ns env.locals mv0 := by rw [V.locals]; exact hn1
    refine wpS_bind (.of (wpAny_storeName_local hk hn1' (fun h2 hn2 hs2 => ?_) hpn))
    rw [V.locals] at hn2 hs2
    refine .of (wpAny_point ?_)
    have I2 : LB hG s₀ L { s with heap := h2, toks := s.toks + 1 } := I1.frame (s := { s with heap := h1, toks := s.toks }) hs2.extBut hG1
    have hit2 : h2.IsListIter it Ls (i + 1) := hit1.extBut hs2.extBut iL.symm
    have hlist2 : h2.IsList Ls items := hlist1.extBut hs2.extBut (fun z => hl (by rw [z]; simp [ours]))
    refine wpS_bind ?_
    show wpS _ A (exec _ env >>= fun f => match f with
      | .next => execs [] env
      | f => pure f) _ _ _
    have P0 := part0 (prog := prog) (p := pk) (t := tk) (q := q) (q1 := q1) (q2 := q2) (q3 := q3) (k := k) (mv := fun y => if y = "pick" then some (.int pk tk) else mv0 y) T hG1 V hA1 hA2 hA3 hA4 I2 hn2 (if_pos rfl) h0 h3
    refine wpS_bind ?_
    refine wpS_mono P0 ?_ fun _ _ (z : False) => z.elim
    rintro f s3 ⟨hf, I3, F3, k3⟩
    subst hf
    refine wpS_pure ?_
    have up : ∀ {a : Addr} {o : Obj}, a ∉ ours L → h2.get? a = some o → s3.heap.get? a = some o := fun ha e => k3 _ _ ha e
    exact wpS_pure ⟨rfl, ih (i + 1) s3 (by omega) I3 F3 (hit2.at fun o e => up ho e) (hlist2.at fun o e => up hl e)⟩
end
end Mine

end
section
set_option maxRecDepth 100000
namespace Mine
open PySem PySem.W PySem.Calls PySem.SeqAt PyProof.Rows

section
variable {K : Params → Frag} {prog : Program} {w : World} {s : Shared} {L : Addr} {mg mb : Str → Option Value} {A : Around} {env : Env} {hG : Heap} {s₀ : Shared}

theorem bname (T : TopIs K w hG mg mb) {x : Str} {v : Value} (h1 : nsIn (K w.params) mainGlobals x = some none) (h2 : bootBuiltins x = some v) (hne : x ≠ "__name__") : BName (model prog w) hG x v :=
  ⟨looks_nsIn T.k h1, fun A Q E s k hq => wpAny_nsGet (T.b.keeps k) (by rw [T.bb x hne, h2]; exact hq)⟩

set_option tactic.hygienic true in
theorem exec_assign_name {M : Model} {x : Str} {e : Expr} {px pos : Pos} {Q : Flow → Shared → Prop} {E : Value → Shared → Prop} (hsw : ∀ tgt line, swapsWith e tgt line env = pure false) (hss : swappedStores [.Name x px] e env = pure none)
    (h : wpS M A (eval e env) (fun v s' => wpS M A (bindName env x v) (fun _ s'' => Q .next s'') E s') E s) : wpS M A (exec (.Assign [.Name x px] e pos) env) Q E s := by
  rw [arm_exec_Assign]
  refine wpS_bind (wpS_standAt ?_)
  refine wpS_bind (m := swapsWith e (some (.Name x px)) pos.line env) ?_
  rw [hsw]
  refine wpS_pure ?_
  rw [if_neg Bool.false_ne_true]
  refine wpS_bind (wpS_mono h (fun v s' h' => ?_) fun _ _ z => z)
  rw [hss]
  refine wpS_bind (wpS_pure ?_)
  refine wpS_bind ?_
  show wpS M A (standAt px >>= fun _ => bindName env x v) _ _ _
  refine wpS_bind (wpS_standAt (wpS_mono h' (fun _ s'' q => wpS_pure q) fun _ _ z => z))
theorem bind_local {x : Str} {v : Value} {m : Str → Option Value} {Q : Unit → Shared → Prop} {E : Value → Shared → Prop} (hk : env.kindOf x = some .local) (hn : s.heap.Ns env.locals m)
    (hp : (env.scope.kind == .class || (env.scope.kind == .module && env.locals != env.globals)) = false)
    (h : ∀ h', h'.Ns env.locals (fun y => if y = x then some v else m y) → Heap.SameBut env.locals s.heap h' → Q () { s with heap := h', toks := s.toks + 1 }) : wpS (model prog w) A (bindName env x v) Q E s := by
  unfold bindName
  refine wpS_bind (wpS_holding (.of (wpAny_point ?_)))
  exact wpS_bind (.of (wpAny_storeName_local hk hn (fun h' hn' hs' => .of (wpAny_point (h h' hn' hs'))) hp))

/-- the body of the law -/
theorem law_body {m : Str → Option Value} {l : Addr} {vs : List Value} {ns : List Int} {p1 p2 p3 p4 p5 p6 p7 p8 p9 p10 p11 p12 p13 p14 p15 p16 p17 p18 p19 p20 p21 p22 p23 p24 q q1 q2 q3 q4 : Pos} {k k1 k2 k3 k4 k5 : Nat} {sc : Scope}
    (T : TopIs K w hG mg mb) (hG1 : ∀ a ∈ ours L, hG.get? a = none) (V : LawEnv env L) (hA1 : A.handled = none) (hA2 : A.depth ≤ 400) (hA3 : A.units ≤ 200) (hA4 : A.frames = some [env])
    (I : LB hG s₀ L s) (hsz : ∀ b o, hG.get? b = some o → @LT.lt Nat _ b s.heap.objs.size) (hour : ∀ b ∈ ours L, @LT.lt Nat _ b s.heap.objs.size) (hn : s.heap.Ns L m) (hm : m "script" = some (.ref l)) (hl : s.heap.IsList l vs.toArray) (hi : IntsAre vs ns) (hlen : ns.length ≤ 63)
    (hs1 : sc.kind = .function) (hs2 : sc.names = [((".0" : Str), NameKind.local), (("number" : Str), NameKind.local), (("abs" : Str), NameKind.globalImplicit)]) :
    wpS (model prog w) A (execs [.Assign [.Name "some" p19] (.BinOp (.ListComp (.BinOp (.Call (.Name "abs" p1) [.Name "number" p2] [] p3) .Mod (.Constant (.int 100003) k1 p4) p5)
      [⟨.Name "number" p6, .Subscript (.Name "script" p7) (.Slice none (some (.Constant (.int 12) k2 p8)) none p9) p10, [], 0⟩] sc p11) .Add
      (.List [.Call (.Name "len" p12) [.Name "script" p13] [] p14, .Constant (.int 6) k3 p15, .Constant (.int 1000) k4 p16] p17) p18) p20,
      .For (.Name "pick" q4) (.Name "some" p21) [.If (.BoolOp .Or [lawCall 0, lawCall 1, lawCall 2] q) [.Return (some (.Constant (.bool false) k q1)) q2] [] q3] [] p22,
      .Return (some (.Constant (.bool true) k5 p23)) p24] env) (fun f s' => f = .ret (.bool true) ∧ LB hG s₀ L s') (fun _ _ => False) s := by
  have hk : env.scope.kind = .function := by rw [V.scope]; rfl
  have kd : ∀ {x : Str} {kk : NameKind}, lawScope.names.lookup x = some kk → env.kindOf x = some kk := fun h => by unfold Env.kindOf; rw [V.scope]; exact h
  have hn' : s.heap.Ns env.locals m := by rw [V.locals]; exact hn
  have hpn : (env.scope.kind == .class || (env.scope.kind == .module && env.locals != env.globals)) = false := by rw [hk]; rfl
  -- the list of picks
  refine wpS_bind (exec_assign_name (fun _ _ => rfl) rfl ?_)
  refine wpS_mono (.of (some_val (E := fun _ _ => False) (bname T (x := "abs") (v := .builtin "abs") (T.tk.abs _) (by kernel_rfl) (by decide)) (bname T (x := "len") (v := .builtin "len") (T.tk.len _) (by kernel_rfl) (by decide)) I.gl hA1 hk (kd (by rfl)) (kd (by rfl)) V.glob V.blt hn' hm hl hi hlen hs1 hs2)) (fun v s1 z => ?_) fun _ _ z => z
  refine hideGoal fun Φ hΦ => ?_
  obtain ⟨Ls, items, rfl, hlist, hp, hz, hLs, h1, tk1, rfl, kp1⟩ := z
  refine hΦ ?_
  clear hΦ Φ
  refine bind_local (kd (by rfl)) (hn'.keeps kp1) hpn fun h2 hn2 hs2 => ?_
  rw [V.locals] at hn2 hs2
  dsimp only at hlist hs2
  have I1 : LB hG s₀ L { s with heap := h1, toks := tk1 } := by
    obtain ⟨cs, B⟩ := I.base
    exact ⟨fun b o e => kp1 _ _ (I.gl b o e), ⟨cs, let ⟨ps, a, b⟩ := B.t1; ⟨ps, kp1 _ _ a, b⟩, let ⟨ps, a, b⟩ := B.t2; ⟨ps, kp1 _ _ a, b⟩, let ⟨ps, a, b⟩ := B.t3; ⟨ps, kp1 _ _ a, b⟩, fun q hq => ⟨(B.cds q hq).1.keeps kp1, (B.cds q hq).2⟩, B.out⟩, I.rest⟩
  have I2 : LB hG s₀ L { s with heap := h2, toks := tk1 + 1 } := I1.frame (s := { s with heap := h1, toks := tk1 }) hs2.extBut hG1
  have hLs' : @LE.le Nat _ s.heap.objs.size Ls := hLs
  have Lo : Ls ∉ ours L := fun z => absurd (hour _ z) (Nat.not_lt.mpr hLs')
  have LsL : Ls ≠ L := fun z => Lo (by rw [z]; simp [ours])
  have hlist2 : h2.IsList Ls items := hlist.extBut hs2.extBut LsL
  have Ls2 : @LT.lt Nat _ Ls h2.objs.size := by obtain ⟨o, e, _⟩ := hlist2; exact Heap.lt_size e
  -- the loop
  show wpS _ A (execs [.For (.Name "pick" q4) (.Name "some" p21) _ [] p22, _] env) _ _ _
  refine wpS_bind ?_
  rw [exec_For]
  have hn2' : h2.Ns env.locals (fun y => if y = "some" then some (.ref Ls) else m y) := by rw [V.locals]; exact hn2
  refine wpS_bind (wpS_standAt (wpS_bind (.of (local_name hk (kd (by rfl)) hn2' (if_pos rfl) ?_))))
  refine wpS_bind (wpS_pure (wpS_bind (wpS_standAt (wpS_bind (wpS_holding (.of (wpAny_pyIter_list hlist2 ?_)))))))
  rw [runOwn_eq]
  have gr : ∀ b o, h2.get? b = some o → (h2.push { cls := .type "list_iterator", data := .fields #[.ref Ls, .int 0 0] }).get? b = some o := fun b o e => Heap.get?_push_of_some _ e
  have I3 : LB hG s₀ L { s with heap := h2.push { cls := .type "list_iterator", data := .fields #[.ref Ls, .int 0 0] }, toks := tk1 + 1 } := by
    obtain ⟨cs, B⟩ := I2.base
    exact ⟨fun b o e => gr _ _ (I2.gl b o e), ⟨cs, let ⟨ps, a, b⟩ := B.t1; ⟨ps, gr _ _ a, b⟩, let ⟨ps, a, b⟩ := B.t2; ⟨ps, gr _ _ a, b⟩, let ⟨ps, a, b⟩ := B.t3; ⟨ps, gr _ _ a, b⟩, fun q hq => ⟨(B.cds q hq).1.keeps gr, (B.cds q hq).2⟩, B.out⟩, I2.rest⟩
  have itG : hG.get? h2.objs.size = none := by
    cases e : hG.get? h2.objs.size with
    | none => rfl
    | some o => exact absurd (hsz _ _ e) (Nat.not_lt.mpr (Nat.le_trans hLs' (Nat.le_of_lt Ls2)))
  have ito : h2.objs.size ∉ ours L := fun z => absurd (hour _ z) (Nat.not_lt.mpr (Nat.le_trans hLs' (Nat.le_of_lt Ls2)))
  have loop := law_loop (prog := prog) (q := q) (q1 := q1) (q2 := q2) (q3 := q3) (q4 := q4) (k := k) T hG1 V hA1 hA2 hA3 hA4 itG ito Lo (Nat.ne_of_lt Ls2) hp (kd (by rfl)) items.size 0 _ rfl I3 ⟨_, hn2.keeps gr⟩ ⟨_, Heap.get?_push_size _ rfl, rfl, rfl⟩ (hlist2.at fun o e => gr _ _ e)
  refine wpS_onRaise (wpS_run ?_ (by intro z; cases z))
  rw [mark_none]
  refine codeS_mono loop fun r s3 ⟨hr, I4⟩ => ?_
  subst hr
  show wpS _ A (execs [.Return (some (.Constant (.bool true) k5 p23)) p24] env) _ _ _
  refine wpS_bind ?_
  show wpS _ A (standAt p24 >>= fun _ => eval (.Constant (.bool true) k5 p23) env >>= fun v => pure (Flow.ret v)) _ _ _
  refine wpS_bind (wpS_standAt (wpS_bind (wpS_pure (wpS_pure ?_))))
  exact wpS_pure ⟨rfl, I4⟩
end
end Mine

end
section
set_option maxRecDepth 100000
namespace Mine
open PySem PySem.W PySem.Calls PySem.SeqAt PyProof.Rows

section
variable {K : Params → Frag} {prog : Program} {w : World} {s : Shared} {L : Addr} {mg mb : Str → Option Value} {hG : Heap}

/-- a call of the law -/
theorem law_call {a l : Addr} {o : Obj} {fd : FuncData} {vs : List Value} {ns : List Int} {pa : Pos} {p1 p2 p3 p4 p5 p6 p7 p8 p9 p10 p11 p12 p13 p14 p15 p16 p17 p18 p19 p20 p21 p22 p23 p24 q q1 q2 q3 q4 : Pos} {k k1 k2 k3 k4 k5 : Nat} {sc : Scope}
    (T : TopIs K w hG mg mb) (hGs : ∀ b o, hG.get? b = some o → s.heap.get? b = some o) (hGt : ∀ a ∈ [302, 297, 290], hG.get? a = none) (ht : ∀ a ∈ [302, 297, 290], s.heap.get? a = some (tabObj #[]))
    (ho : s.heap.get? a = some o) (hd : o.data = .func fd) (hcd : s.heap.CodeRec fd.code fd.qualname)
    (hpar : fd.params = { posonlyargs := [], args := [⟨"script", none, pa⟩], vararg := none, kwonlyargs := [], kw_defaults := [], kwarg := none, defaults := [] }) (hdef : fd.defaults = .none) (hsc : fd.scope = lawScope) (hgl : fd.globals = mainGlobals) (hbl : fd.builtins = builtinsNs) (hcl : fd.closure = [])
    (hbody : fd.body = .stmts [.Assign [.Name "some" p19] (.BinOp (.ListComp (.BinOp (.Call (.Name "abs" p1) [.Name "number" p2] [] p3) .Mod (.Constant (.int 100003) k1 p4) p5)
      [⟨.Name "number" p6, .Subscript (.Name "script" p7) (.Slice none (some (.Constant (.int 12) k2 p8)) none p9) p10, [], 0⟩] sc p11) .Add
      (.List [.Call (.Name "len" p12) [.Name "script" p13] [] p14, .Constant (.int 6) k3 p15, .Constant (.int 1000) k4 p16] p17) p18) p20,
      .For (.Name "pick" q4) (.Name "some" p21) [.If (.BoolOp .Or [lawCall 0, lawCall 1, lawCall 2] q) [.Return (some (.Constant (.bool false) k q1)) q2] [] q3] [] p22,
      .Return (some (.Constant (.bool true) k5 p23)) p24])
    (hl : s.heap.IsList l vs.toArray) (hi : IntsAre vs ns) (hlen : ns.length ≤ 63) (hs1 : sc.kind = .function) (hs2 : sc.names = [((".0" : Str), NameKind.local), (("number" : Str), NameKind.local), (("abs" : Str), NameKind.globalImplicit)]) :
    wpS (model prog w) callerA (call (.ref a) [.ref l]) (fun v s' => v = .bool true ∧ ∃ L, LB hG s L s') (fun _ _ => False) s := by
  have tlt : ∀ b ∈ [302, 297, 290], @LT.lt Nat _ b s.heap.objs.size := fun b hb => Heap.lt_size (ht b hb)
  have out : s.heap.objs.size ∉ [302, 297, 290] := fun z => absurd (tlt _ z) (Nat.lt_irrefl _)
  have lim := T.lim.keeps hGs
  refine wpS_call ?_
  refine codeS_call_function (code := fun env => .func _ env) (binds := [("script", .ref l)]) (by decide) ho hd (by rw [hsc]; rfl) (by rw [hsc]; rfl) (by funext env; rw [hbody]) (fun _ => rfl) hcd ?_ ?_
  · have := bind_simple (vs := [.ref l]) hpar hdef rfl (by simp)
    exact this
  rw [newEnv_eq, hcl, hsc, hgl, hbl]
  refine wpS_bind (.of (wpAny_alloc ?_))
  rw [cellsBody_none (by decide)]
  refine wpS_bind (wpS_pure ?_)
  rw [List.forIn_cons]
  have hns : (s.heap.push { cls := .type "frame", data := .dict #[] }).Ns s.heap.objs.size (fun _ => none) := ⟨_, #[], _, Heap.get?_push_size _ rfl, rfl, (fun e he => by simp at he), fun _ => rfl⟩
  have k0 : ∀ b o, s.heap.get? b = some o → (s.heap.push { cls := .type "frame", data := .dict #[] }).get? b = some o := fun b o e => Heap.get?_push_of_some _ e
  refine wpS_bind (wpS_bind (wpS_bind ?_))
  refine .of (wpAny_storeName_local (show Env.kindOf _ "script" = some .local from rfl) hns (fun h1 hn1 hs => ?_) rfl)
  refine wpS_pure ?_
  dsimp only
  rw [List.forIn_nil]
  refine wpS_pure (wpS_pure ?_)
  dsimp only at hn1 hs
  generalize hL : s.heap.objs.size = L at *
  have kk : ∀ b o, s.heap.get? b = some o → h1.get? b = some o := fun b o e => hs.extBut b o (by have : @LT.lt Nat _ b L := hL ▸ Heap.lt_size e; exact Nat.ne_of_lt this) (k0 _ _ e)
  refine ⟨lim.keeps kk, ?_⟩
  have hG1 : ∀ a ∈ ours L, hG.get? a = none := by
    intro b hb
    unfold ours at hb
    simp only [List.mem_cons, List.not_mem_nil, or_false] at hb
    rcases hb with rfl | rfl | rfl | rfl
    · exact hGt _ (by decide)
    · exact hGt _ (by decide)
    · exact hGt _ (by decide)
    · cases e : hG.get? b with
      | none => rfl
      | some o =>
        have : @LT.lt Nat _ b s.heap.objs.size := Heap.lt_size (hGs _ _ e)
        exact absurd this (by rw [hL]; exact Nat.lt_irrefl _)
  have tab : ∀ {T : Addr} {q : Str}, T ∈ [302, 297, 290] → TabAt h1 [] T q := fun hT => ⟨#[], kk _ _ (ht _ hT), trivial, fun pos cv e => by cases e⟩
  have I : LB hG s L { s with heap := h1, toks := s.toks + 1 } := ⟨fun b o e => kk _ _ (hGs _ _ e), ⟨[], tab (by decide), tab (by decide), tab (by decide), fun q hq => (by cases hq), out⟩, rfl, rfl, rfl⟩
  have hour : ∀ b ∈ ours L, @LT.lt Nat _ b h1.objs.size := by
    intro b hb
    unfold ours at hb
    simp only [List.mem_cons, List.not_mem_nil, or_false] at hb
    rcases hb with rfl | rfl | rfl | rfl
    · exact Heap.lt_size (kk _ _ (ht _ (by decide)))
    · exact Heap.lt_size (kk _ _ (ht _ (by decide)))
    · exact Heap.lt_size (kk _ _ (ht _ (by decide)))
    · exact hn1.lt
  refine codeS_func (wpS_onRaise (wpS_mono (law_body (s₀ := s) T hG1 ⟨rfl, rfl, rfl, rfl, rfl, rfl⟩ rfl (Nat.le_of_ble_eq_true rfl) (by rw [Around.deeper_units]; decide) rfl I (fun b o e => Heap.lt_size (kk _ _ (hGs _ _ e))) hour hn1 (if_pos rfl) (hl.at fun o e => kk _ _ e) hi hlen hs1 hs2) (fun f s' ⟨hf, I'⟩ => ?_) fun _ _ z => z.elim))
  subst hf
  exact ⟨rfl, L, I'⟩
end
end Mine

end
section
set_option maxRecDepth 100000
namespace Mine
open PySem PySem.W PySem.Calls PySem.SeqAt PyProof.Rows

section
variable {K : Params → Frag} {prog : Program} {w : World} {mg mb : Str → Option Value}

/-- the law's end -/
theorem end_of {view : Program} {loose : List Str} {R : WRecords} {XP : (Str → Option Value) → Heap → Prop} {s₀ s₁ : Shared} {as : List Addr} {e : ∀ P, as = (K P).map (·.1)} {cl : Str → Option Addr} {mean : ExcName → Option Value} {args : List WData} {c : ClaimW}
    {a l : Addr} {o : Obj} {fd : FuncData} {vs : List Value} {ns : List Int} {pa : Pos} {p1 p2 p3 p4 p5 p6 p7 p8 p9 p10 p11 p12 p13 p14 p15 p16 p17 p18 p19 p20 p21 p22 p23 p24 q q1 q2 q3 q4 : Pos} {k k1 k2 k3 k4 k5 : Nat} {sc : Scope}
    (Y : (kmHook K as e [302, 297, 290]).says w s₁.heap) (TK : TopK K) (G : Ground view loose R XP w s₀ mg mb s₁.heap) (hin : importsNone view = true) (hg : s₁.gens = #[])
    (hc1 : ∀ cls, c.raises args cls = false) (hc2 : c.post args (.bool true) args = true)
    (ho : s₁.heap.get? a = some o) (hd : o.data = .func fd) (hcd : s₁.heap.CodeRec fd.code fd.qualname)
    (hpar : fd.params = { posonlyargs := [], args := [⟨"script", none, pa⟩], vararg := none, kwonlyargs := [], kw_defaults := [], kwarg := none, defaults := [] }) (hdef : fd.defaults = .none) (hsc : fd.scope = lawScope) (hgl : fd.globals = mainGlobals) (hbl : fd.builtins = builtinsNs) (hcl : fd.closure = [])
    (hbody : fd.body = .stmts [.Assign [.Name "some" p19] (.BinOp (.ListComp (.BinOp (.Call (.Name "abs" p1) [.Name "number" p2] [] p3) .Mod (.Constant (.int 100003) k1 p4) p5)
      [⟨.Name "number" p6, .Subscript (.Name "script" p7) (.Slice none (some (.Constant (.int 12) k2 p8)) none p9) p10, [], 0⟩] sc p11) .Add
      (.List [.Call (.Name "len" p12) [.Name "script" p13] [] p14, .Constant (.int 6) k3 p15, .Constant (.int 1000) k4 p16] p17) p18) p20,
      .For (.Name "pick" q4) (.Name "some" p21) [.If (.BoolOp .Or [lawCall 0, lawCall 1, lawCall 2] q) [.Return (some (.Constant (.bool false) k q1)) q2] [] q3] [] p22,
      .Return (some (.Constant (.bool true) k5 p23)) p24])
    (hl : s₁.heap.IsList l vs.toArray) (hi : IntsAre vs ns) (hlen : ns.length ≤ 63) (hs1 : sc.kind = .function) (hs2 : sc.names = [((".0" : Str), NameKind.local), (("number" : Str), NameKind.local), (("abs" : Str), NameKind.globalImplicit)]) :
    wpS (model prog w) callerA (call (.ref a) [.ref l]) (fun v s' => GoodWG c cl mean args s₁ (.ok (.ret v)) s') (fun e s' => GoodWG c cl mean args s₁ (.error e) s') s₁ := by
  have ht : ∀ T ∈ [302, 297, 290], s₁.heap.get? T = some (tabObj #[]) := Y.2
  have T : TopIs K w (dropAll s₁.heap [302, 297, 290]) mg mb := by
    have T := G.T
    refine ⟨TK, dropAll_in Y.1 (TK.out _), dropAll_ns T.g (by decide), dropAll_ns T.b (by decide), T.builtins, ?_, ?_, ?_⟩
    · obtain ⟨mc, h1, h2⟩ := T.nolimit
      exact ⟨mc, dropAll_ns h1 (by decide), h2⟩
    · refine hideGoal fun Φ hΦ => ?_
      obtain ⟨mm, ⟨o, _, _, h1, _⟩, _⟩ := (T.seer hin).mods
      refine hΦ ?_
      clear hΦ Φ
      exact ⟨o, dropAll_at h1 (by decide)⟩
    · refine hideGoal fun Φ hΦ => ?_
      obtain ⟨bm, ob, h1, h2, h3, h4, h5, h6⟩ := T.bmain
      refine hΦ ?_
      clear hΦ Φ
      refine ⟨bm, ob, h1, h2, dropAll_at h3 fun z => ?_, h4, h5, h6⟩
      rw [ht bm z] at h3
      cases h3
      cases h6
  refine wpS_mono (law_call (ns := ns) T (fun b o e => dropAll_sub e) (fun a ha => by rw [dropAll_get, if_pos ha]) ht ho hd hcd hpar hdef hsc hgl hbl hcl hbody hl hi hlen hs1 hs2) (fun v s' ⟨hv, L, I⟩ => ?_) fun _ _ z => z.elim
  subst hv
  have isT : ∀ {b c : Addr}, codeHdIn (K w.params) c b = true → isCodeTable s₁.heap b := fun e => by
    refine hideGoal fun Φ hΦ => ?_
    obtain ⟨o, vs, _, _, _, _, _, _, _, e1, e2, e3, e4, _⟩ := codeHd_of_K Y.1 e
    refine hΦ ?_
    clear hΦ Φ
    exact ⟨_, o, vs, e1, e2, e3, e4⟩
  have tab : ∀ {b : Addr} {q : Str} {cs : List (Addr × Str)} {o : Obj}, b ∈ [302, 297, 290] → s₁.heap.get? b = some o → isCodeTable s₁.heap b → TabAt s'.heap cs b q → asItWas s₁.heap s'.heap b o := by
    intro b q cs o hb e hT ⟨ps, h1, _⟩
    rw [ht b hb] at e
    cases e
    exact .inr (.inl ⟨hT, rfl, #[], ps, rfl, by rw [h1]; simp [tabObj]⟩)
  obtain ⟨cs, B⟩ := I.base
  have there : ∀ {b : Addr} {q : Str} {cs : List (Addr × Str)}, TabAt s'.heap cs b q → ∃ o', s'.heap.get? b = some o' := fun ⟨ps, h1, _⟩ => ⟨_, h1⟩
  refine ⟨.inl ⟨.bool true, .bool true, [], rfl, hc1, .bool true, hc2, fun _ => ⟨List.nodup_nil, fun a h => by cases h⟩⟩, ⟨fun b o e => ?_, fun b o e => ?_⟩, I.rest.2.2, ?_⟩
  · by_cases hb : b ∈ [302, 297, 290]
    · have hb' := hb
      simp only [List.mem_cons, List.not_mem_nil, or_false] at hb'
      rcases hb' with rfl | rfl | rfl
      · exact tab hb e (isT (TK.cd3 _)) B.t3
      · exact tab hb e (isT (TK.cd2 _)) B.t2
      · exact tab hb e (isT (TK.cd1 _)) B.t1
    · exact .inl (I.gl b o (dropAll_at e hb))
  · by_cases hb : b ∈ [302, 297, 290]
    · simp only [List.mem_cons, List.not_mem_nil, or_false] at hb
      rcases hb with rfl | rfl | rfl
      · exact there B.t3
      · exact there B.t2
      · exact there B.t1
    · exact ⟨o, I.gl b o (dropAll_at e hb)⟩
  · rw [I.rest.1, hg]
    intro y hy
    simp at hy
end
end Mine

end
section
namespace Mine
open PySem PySem.W PySem.Calls PyProof.Rows
open Sem (wp)

/-- a thread of the caller's comes to its end -/
theorem endsS {prog : Program} {w : World} {t : Sem Fin} {s : Shared} {R : Result → Shared → Prop} (hreg : s.asleep)
    (h : wpS (model prog w) callerA t (fun fin s' => ∃ f, fin = .done f ∧ (R (.ok f) s' ∧ leftWithCleanup s'.gens = false)) (fun e s' => R (.error e) s' ∧ leftWithCleanup s'.gens = false) s) :
    ∃ n r s' s'', runN (denote table) prog w n s ⟨t, .builtin "claim.caller" {}, default, []⟩ = .halted (outcomeOf r) s' ∧
      schedN (denote table) prog w n (.single s ⟨t, .builtin "claim.caller" {}, default, []⟩) = .halted (outcomeOf r) s' ∧ s'.forget = s''.forget ∧ R r s'' := by
  have cl : Clean ⟨.builtin "claim.caller" {}, none, none, [], none⟩ := ⟨by decide +kernel, fun x hx => by cases hx⟩
  have hw : wp (model prog w) ⟨.builtin "claim.caller" {}, none, none, [], none⟩ t (Sem.finPost (model prog w) ⟨.builtin "claim.caller" {}, none, none, [], none⟩ fun r s' => R r s' ∧ leftWithCleanup s'.gens = false)
      (fun e _ s' => R (.error e) s' ∧ leftWithCleanup s'.gens = false) default s := by
    refine Sem.wp_mono _ _ t (fun fin p' s' h' => ?_) (fun _ _ _ h' => h') default s (h _ default caller_in cl)
    obtain ⟨f, rfl, hf⟩ := h'
    exact hf
  obtain ⟨n, r, s₁, s₂, a, b, c, d⟩ := wp_halts_full (M := model prog w) (R := R) hreg hw
  exact ⟨n, r, s₂, s₁, b, a, c, d⟩

abbrev WalkS (q : Program) (loose : List Str) (XP : (Str → Option Value) → Heap → Prop) (YP : World → Heap → Prop) (r : RowW) (d : DefRec) (kwd : List (Str × Expr)) : Prop :=
  ∀ (w : World) (s₀ s₁ : Shared) (mg mb : Str → Option Value), Ground q loose r.records XP w s₀ mg mb s₁.heap → YP w s₁.heap → ∀ (a : Addr) (o : Obj) (pm cd doc dV kV : Value), s₁.heap.get? a = some o →
    o.data = .func { docDef d.name d.params d.body d.scope pm cd doc with defaults := dV, kwdefaults := kV } → s₁.heap.CodeRec cd d.name → Dflts mg s₁.heap d.params kwd dV kV → mg d.name = some (.ref a) → s₁.gens = #[] →
    ∀ (args : List WData) (vals : List Value) (as : List Addr), r.claim.pre args = true → WData.layableAll args = true → ReadsAllW r.records (classAt s₀.heap) s₁.heap vals args as → WellAll w.params s₁.heap vals args → (∀ a ∈ as, (a == sysModules) = false) →
      wpS (model r.prog w) callerA (PySem.call (.ref a) vals) (fun v s' => GoodWG r.claim (classAt s₀.heap) (ExcName.means s₀.heap) args s₁ (.ok (.ret v)) s')
        (fun e s' => GoodWG r.claim (classAt s₀.heap) (ExcName.means s₀.heap) args s₁ (.error e) s') s₁

theorem mem_one {α : Type} {c : Prop} [Decidable c] {x n : α} (h : n ∈ (if c then [x] else [])) : n = x := by
  split at h
  · exact List.mem_singleton.mp h
  · cases h

/-- the head of an open statement, above stacks on which nothing holds a buffer; it bears the library's name within this namespace, so that open_top takes it -/
theorem PySem.W.holds_open {r : OpenRow} {q : Program} {loose : List Str} {Xt : Shared → Bool} {XP : (Str → Option Value) → Heap → Prop} {α : Type} {Yf : Shared → α} {Ya : World → α} {YP : World → Heap → Prop} {d : DefRec} {kwd : List (Str × Expr)} {N : Nat}
    (left : LeftO r.prog q loose Xt Yf Ya N) (hY : ∀ w s, Yf s = Ya w → YP w s.heap) (hYk : ∀ w h h', YP w h → (∀ b o, h.get? b = some o → h'.get? b = some o) → YP w h')
    (hX : ∀ s, Xt s = true → XP (s.heap.nsMap mainGlobals) s.heap) (hXk : ∀ mg h h', XP mg h → (∀ b o, h.get? b = some o → h'.get? b = some o) → XP mg h')
    (hdef : defOf q r.name = some (d, kwd)) (hp : r.prog.theDef r.name = some (d.params, d.body, d.scope)) (hk : kwWritten? d.params.kwonlyargs d.params.kw_defaults = some kwd) (hRf : ∀ s, Xt s = true → RecFacts r.records s.heap) (hwr : (!r.writes || r.records.isEmpty) = true)
    (k1 : r.wellSaid = true) (ok : (chainsOk q && opensWell r.prog && (frees r.toRowW && r.within.isEmpty)) = true) (hb : r.prog.bare) (hw : r.toRowW.promised)
    (call : WalkS q loose XP YP r.toRowW d kwd) : r.Holds := by
  obtain ⟨okA, okB⟩ := Bool.and_eq_true_iff.mp ok
  obtain ⟨hch, o1⟩ := Bool.and_eq_true_iff.mp okA
  obtain ⟨fr, win⟩ := Bool.and_eq_true_iff.mp okB
  obtain ⟨hsame, hu, ha, hap, hm⟩ := frees_parts fr
  have hi := ident_freeW hu ha hap
  have hwi : r.toRowW.claim.within = [] := List.isEmpty_iff.mp win
  have Bh := left.behind (XP := fun mg h => XP mg h ∧ RecFacts r.records h) (fun s hs => ⟨hX s hs, hRf s hs⟩) hch
  refine ⟨k1, hw, ⟨hb, o1, by show r.makers.map _ = []; rw [hm]; rfl⟩, hw.witness, fun w => ⟨(Bh w).1, fun s' hs' => ?_⟩⟩
  refine hideGoal fun Φ hΦ => ?_
  obtain ⟨s₀, hf, hg0, s, hT, hz, hgens, hg, G0, y⟩ := (Bh w).2 s' hs'
  have G1 : Ground q loose [] XP w s (s.heap.nsMap mainGlobals) (s.heap.nsMap builtinsNs) s.heap := ⟨G0.T, G0.B, G0.D, G0.TE, G0.TD, G0.W, G0.X.1, G0.cls, G0.has, G0.apart, G0.once, G0.K⟩
  have RF := G0.X.2
  have hgens : s.gens = #[] := Array.eq_empty_of_size_eq_zero (beq_iff_eq.mp hgens)
  have G : Ground q loose r.records XP w s _ _ s.heap := RF.ground G1
  refine hΦ ⟨s₀, hf, hg0, s, hT, fun n hn => ?_, RF.1, RF.2.1, fun args hpre hlay ord hord => ?_⟩
  all_goals clear hΦ
  · obtain rfl := mem_one hn
    exact pinned_of_view hg G1 hdef hp hk
  refine hideGoal fun Φ hΦ => ?_
  obtain ⟨⟨vs, s₁⟩, hlaid⟩ := Option.isSome_iff_exists.mp (layAllW_isSome (P := w.params) (ord := ord) G.has args r.args s (pre_splitW hpre).1)
  have keeps := layAllW_keeps _ _ _ hlaid
  have hal := layAllW_rest _ _ _ hlaid
  obtain ⟨as, hrd, hin, hold⟩ := reads_layAllW hord _ _ _ hlaid hlay s₁.heap (fun _ _ e => e)
  have L : W.Laid r.records w s s₁ args vs as := ⟨⟨ord, hord, hlaid⟩, hrd, hin, hold, keeps, hal.1.trans hgens, hal.2.2.1⟩
  have G₁ := G.keeps hXk keeps
  obtain ⟨a, o, pm, cd, doc, dV, kV, h1, h2, h3, h4, h5⟩ := G₁.fn hdef
  have run := call w s s₁ _ _ G₁ (hYk _ _ _ (hY w s y) keeps) a o pm cd doc dV kV h2 h3 h4 h5 (defOf_name hdef ▸ h1) L.gens args vs as hpre hlay L.reads L.well (L.low G.low)
  have stub : wpS (model r.prog w) callerA (do match ← nsGet mainNs r.name with
      | some f => do ret (← PySem.call f vs)
      | none => unsupported "claim.caller:no-such-global" : Sem Fin)
      (fun fin s' => ∃ f, fin = .done f ∧ (GoodWG r.toRowW.claim (classAt s.heap) (ExcName.means s.heap) args s₁ (.ok f) s' ∧ leftWithCleanup s'.gens = false))
      (fun e s' => GoodWG r.toRowW.claim (classAt s.heap) (ExcName.means s.heap) args s₁ (.error e) s' ∧ leftWithCleanup s'.gens = false) s₁ := by
    refine wpS_bind (.of (wpAny_nsGet G₁.T.g ?_))
    rw [h1]
    refine wpS_bind (wpS_mono run (fun v s' g => wpS_pure ⟨_, rfl, g, leftWithCleanup_false_of_bare g.2.2.2⟩) fun e s' g => ⟨g, leftWithCleanup_false_of_bare g.2.2.2⟩)
  obtain ⟨k, res, t', t'', hrun, hsched, hfo, good⟩ := endsS (Shared.asleep_of_life hal.2.2.2 hz) stub
  obtain ⟨eh, _, _, eo, _⟩ := Shared.forget_eq hfo
  have z := good.laid (c := r.toRowW.claim) hsame hwi hi L
  have ends := z.1.congr eh
  have hlife : t'.heap.life = s.heap.life := (runN_life _ _ _ hrun).trans hal.2.2.2
  have hos : t'.os = s.os := by rw [eo]; exact z.2.1
  have kept : r.writes = true → namesKept r.prog r.keeps s.heap t'.heap ∧ ∀ x ∈ r.records, ∀ a, classAt s.heap x.1 = some a → recordClass t'.heap a x.1 (x.2.map (·.1)) = true := fun q =>
    ⟨namesKept_of hT hg r.keeps keeps (by rw [eh]; exact good.2.1.old), noTable hwr q⟩
  refine hΦ ⟨vs, s₁, hlaid, k, _, t', hsched, ?_, (fun _ i x hx => by rw [hgens] at hx; simp at hx), kept, by rw [hlife], Shared.rest_eq hos⟩
  rcases ends with ⟨v, rfl, d1, d2, d3, d4, d5⟩ | ⟨e, ob, cls, rfl, d1, d2, d3, d4, d5⟩
  · exact .inl ⟨v, rfl, d1, d2, d3, fun b o y _ => d4 b o y, d5⟩
  · exact .inr ⟨e, ob, cls, rfl, d1, d2, d3, d4, fun b o y _ => d5 b o y⟩
end Mine

end
section
set_option maxRecDepth 100000
open PySem PySem.W PySem.Calls PySem.SeqAt PyProof.Rows
namespace Mine
noncomputable def holds.tw10061326939861387809 : Nat := 0
noncomputable def holds.tw10240100896771907615 : Nat := 0
noncomputable def holds.tw10269081998898121243 : Nat := 0
noncomputable def holds.tw10280545108713110612 : Nat := 0
noncomputable def holds.tw10304638435002364237 : Nat := 0
noncomputable def holds.tw1032644102275906610 : Nat := 0
noncomputable def holds.tw10494946348260405530 : Nat := 0
noncomputable def holds.tw10531532615022067580 : Nat := 0
noncomputable def holds.tw10595842591828190984 : Nat := 0
noncomputable def holds.tw10637851664137882224 : Nat := 0
noncomputable def holds.tw10645105620128953169 : Nat := 0
noncomputable def holds.tw10675174832548182787 : Nat := 0
noncomputable def holds.tw10684964147190113176 : Nat := 0
noncomputable def holds.tw10698829266838348154 : Nat := 0
noncomputable def holds.tw10705761992013847755 : Nat := 0
noncomputable def holds.tw10817008591213730988 : Nat := 0
noncomputable def holds.tw10824115321126796680 : Nat := 0
noncomputable def holds.tw10828986214106111531 : Nat := 0
noncomputable def holds.tw10876536743886354276 : Nat := 0
noncomputable def holds.tw1092734292537931370 : Nat := 0
noncomputable def holds.tw10973056549479156102 : Nat := 0
noncomputable def holds.tw11111472982789046935 : Nat := 0
noncomputable def holds.tw11311999394344832113 : Nat := 0
noncomputable def holds.tw11341941285841758863 : Nat := 0
noncomputable def holds.tw11502601298335438083 : Nat := 0
noncomputable def holds.tw11566098377363298415 : Nat := 0
noncomputable def holds.tw11569915684508697678 : Nat := 0
noncomputable def holds.tw11612728935029869629 : Nat := 0
noncomputable def holds.tw11619669790576578751 : Nat := 0
noncomputable def holds.tw11723004889028688699 : Nat := 0
noncomputable def holds.tw11750193621415288269 : Nat := 0
noncomputable def holds.tw11775407622660791982 : Nat := 0
noncomputable def holds.tw11822188140940861840 : Nat := 0
noncomputable def holds.tw11968577826497805164 : Nat := 0
noncomputable def holds.tw12004703523718567385 : Nat := 0
noncomputable def holds.tw12056596633878991817 : Nat := 0
noncomputable def holds.tw1213666046027356511 : Nat := 0
noncomputable def holds.tw12160635655254385198 : Nat := 0
noncomputable def holds.tw12306811582311103309 : Nat := 0
noncomputable def holds.tw12354433232887552844 : Nat := 0
noncomputable def holds.tw12461706298059298081 : Nat := 0
noncomputable def holds.tw12528141070781557109 : Nat := 0
noncomputable def holds.tw12553914923479104506 : Nat := 0
noncomputable def holds.tw12629177860411813126 : Nat := 0
noncomputable def holds.tw12633084752571091873 : Nat := 0
noncomputable def holds.tw12657093848384798476 : Nat := 0
noncomputable def holds.tw12698916279152862973 : Nat := 0
noncomputable def holds.tw12733908048491186811 : Nat := 0
noncomputable def holds.tw12762722769849151566 : Nat := 0
noncomputable def holds.tw12774209864397607762 : Nat := 0
noncomputable def holds.tw12788872388335264594 : Nat := 0
noncomputable def holds.tw12808162357026388105 : Nat := 0
noncomputable def holds.tw13002855754428957212 : Nat := 0
noncomputable def holds.tw13030325228466197757 : Nat := 0
noncomputable def holds.tw13150661809386230508 : Nat := 0
noncomputable def holds.tw13217988163062889828 : Nat := 0
noncomputable def holds.tw13334661261001831826 : Nat := 0
noncomputable def holds.tw13373784697917265674 : Nat := 0
noncomputable def holds.tw13384883100587833847 : Nat := 0
noncomputable def holds.tw13506825589079125128 : Nat := 0
noncomputable def holds.tw13563289320671947111 : Nat := 0
noncomputable def holds.tw13564983018704479910 : Nat := 0
noncomputable def holds.tw13602253286356535353 : Nat := 0
noncomputable def holds.tw13676757877788619591 : Nat := 0
noncomputable def holds.tw13860560629476652642 : Nat := 0
noncomputable def holds.tw1389151227800987198 : Nat := 0
noncomputable def holds.tw13942211991455542721 : Nat := 0
noncomputable def holds.tw13945929957867325323 : Nat := 0
noncomputable def holds.tw13980644296350529377 : Nat := 0
noncomputable def holds.tw14012497318314112844 : Nat := 0
noncomputable def holds.tw14040500308302212198 : Nat := 0
noncomputable def holds.tw14054693376921006050 : Nat := 0
noncomputable def holds.tw14083834280242248106 : Nat := 0
noncomputable def holds.tw14085268106739128817 : Nat := 0
noncomputable def holds.tw14205006904943715905 : Nat := 0
noncomputable def holds.tw142377125942736700 : Nat := 0
noncomputable def holds.tw14247145606103189434 : Nat := 0
noncomputable def holds.tw14314133134477209284 : Nat := 0
noncomputable def holds.tw14341210406198164329 : Nat := 0
noncomputable def holds.tw14374762386000251392 : Nat := 0
noncomputable def holds.tw1438057683635843531 : Nat := 0
noncomputable def holds.tw14394845925615563878 : Nat := 0
noncomputable def holds.tw14411328915609312922 : Nat := 0
noncomputable def holds.tw14438757958421221462 : Nat := 0
noncomputable def holds.tw14456359579513077766 : Nat := 0
noncomputable def holds.tw1446027475299390936 : Nat := 0
noncomputable def holds.tw14485436498256648053 : Nat := 0
noncomputable def holds.tw14642846902033847964 : Nat := 0
noncomputable def holds.tw1466284255255076664 : Nat := 0
noncomputable def holds.tw14691085348537605332 : Nat := 0
noncomputable def holds.tw14777700561071354170 : Nat := 0
noncomputable def holds.tw14786066558164337950 : Nat := 0
noncomputable def holds.tw14856189802965030758 : Nat := 0
noncomputable def holds.tw14977296931134136204 : Nat := 0
noncomputable def holds.tw15043986215568586124 : Nat := 0
noncomputable def holds.tw1508545211966159021 : Nat := 0
noncomputable def holds.tw15203487316939043196 : Nat := 0
noncomputable def holds.tw15228004617427520810 : Nat := 0
noncomputable def holds.tw15296638952792297585 : Nat := 0
noncomputable def holds.tw15305512045591798990 : Nat := 0
noncomputable def holds.tw15349486494167490861 : Nat := 0
noncomputable def holds.tw15356600547250028879 : Nat := 0
noncomputable def holds.tw15383290158734973844 : Nat := 0
noncomputable def holds.tw15464432741802594518 : Nat := 0
noncomputable def holds.tw154871700347349385 : Nat := 0
noncomputable def holds.tw15493915963290111440 : Nat := 0
noncomputable def holds.tw15573729904360925794 : Nat := 0
noncomputable def holds.tw15580662879708500073 : Nat := 0
noncomputable def holds.tw15654153127513851752 : Nat := 0
noncomputable def holds.tw15659084048362614264 : Nat := 0
noncomputable def holds.tw15663057623668237757 : Nat := 0
noncomputable def holds.tw15680939473618073938 : Nat := 0
noncomputable def holds.tw1569810199879761147 : Nat := 0
noncomputable def holds.tw15733542881966949079 : Nat := 0
noncomputable def holds.tw15750308709622187472 : Nat := 0
noncomputable def holds.tw15785218014132313688 : Nat := 0
noncomputable def holds.tw15814798929938293467 : Nat := 0
noncomputable def holds.tw15911624665501887004 : Nat := 0
noncomputable def holds.tw15969937429085165904 : Nat := 0
noncomputable def holds.tw16035096773351161327 : Nat := 0
noncomputable def holds.tw16049930973857864354 : Nat := 0
noncomputable def holds.tw16141144775947785660 : Nat := 0
noncomputable def holds.tw16179787414501680475 : Nat := 0
noncomputable def holds.tw16239030619513480838 : Nat := 0
noncomputable def holds.tw16260029586006496120 : Nat := 0
noncomputable def holds.tw16281141667863336784 : Nat := 0
noncomputable def holds.tw16315053957116525436 : Nat := 0
noncomputable def holds.tw1639197193820686003 : Nat := 0
noncomputable def holds.tw16451975095625300501 : Nat := 0
noncomputable def holds.tw16497969686579978388 : Nat := 0
noncomputable def holds.tw16725066886706607050 : Nat := 0
noncomputable def holds.tw16740147826971877517 : Nat := 0
noncomputable def holds.tw16774578680395547651 : Nat := 0
noncomputable def holds.tw16887932952891968693 : Nat := 0
noncomputable def holds.tw16898140867199733807 : Nat := 0
noncomputable def holds.tw17040301576142915119 : Nat := 0
noncomputable def holds.tw17096001632197288867 : Nat := 0
noncomputable def holds.tw17161063357774967061 : Nat := 0
noncomputable def holds.tw17180457848445815676 : Nat := 0
noncomputable def holds.tw17254660705983429885 : Nat := 0
noncomputable def holds.tw17294395744611713098 : Nat := 0
noncomputable def holds.tw17450472940649059298 : Nat := 0
noncomputable def holds.tw17500814259130102135 : Nat := 0
noncomputable def holds.tw17549760099613038055 : Nat := 0
noncomputable def holds.tw17551835440721493442 : Nat := 0
noncomputable def holds.tw17597196502641442581 : Nat := 0
noncomputable def holds.tw17631178891982236634 : Nat := 0
noncomputable def holds.tw17647985033660283594 : Nat := 0
noncomputable def holds.tw17711127975176648688 : Nat := 0
noncomputable def holds.tw17822619038779606285 : Nat := 0
noncomputable def holds.tw17858152450515298520 : Nat := 0
noncomputable def holds.tw17993018846429088666 : Nat := 0
noncomputable def holds.tw18020473825885896052 : Nat := 0
noncomputable def holds.tw18145382148040430673 : Nat := 0
noncomputable def holds.tw18173914834931495973 : Nat := 0
noncomputable def holds.tw1833173380454153921 : Nat := 0
noncomputable def holds.tw187104208977503339 : Nat := 0
noncomputable def holds.tw1876284267304334591 : Nat := 0
noncomputable def holds.tw1882270145967814011 : Nat := 0
noncomputable def holds.tw2003794701753356343 : Nat := 0
noncomputable def holds.tw2041457743892144894 : Nat := 0
noncomputable def holds.tw2084331650109322480 : Nat := 0
noncomputable def holds.tw2160012875989923789 : Nat := 0
noncomputable def holds.tw2167384251425162797 : Nat := 0
noncomputable def holds.tw2335221107431800076 : Nat := 0
noncomputable def holds.tw2642592217982111355 : Nat := 0
noncomputable def holds.tw2667925813562934949 : Nat := 0
noncomputable def holds.tw2682973687022302978 : Nat := 0
noncomputable def holds.tw2781561513384061212 : Nat := 0
noncomputable def holds.tw2936799095737714382 : Nat := 0
noncomputable def holds.tw2946744036017948005 : Nat := 0
noncomputable def holds.tw3083665863380995925 : Nat := 0
noncomputable def holds.tw3092724735428445279 : Nat := 0
noncomputable def holds.tw3101148707280403237 : Nat := 0
noncomputable def holds.tw3117193011312037209 : Nat := 0
noncomputable def holds.tw3210078786618844196 : Nat := 0
noncomputable def holds.tw3232270311777372273 : Nat := 0
noncomputable def holds.tw3279077582325829838 : Nat := 0
noncomputable def holds.tw3280128972450656526 : Nat := 0
noncomputable def holds.tw3378624336152846145 : Nat := 0
noncomputable def holds.tw341249449185904685 : Nat := 0
noncomputable def holds.tw3589964763223657672 : Nat := 0
noncomputable def holds.tw3626213265524300766 : Nat := 0
noncomputable def holds.tw3807924751964388448 : Nat := 0
noncomputable def holds.tw3811385743445658432 : Nat := 0
noncomputable def holds.tw3864012138097595758 : Nat := 0
noncomputable def holds.tw3937267528351423324 : Nat := 0
noncomputable def holds.tw3969078344035082030 : Nat := 0
noncomputable def holds.tw4021013208564600997 : Nat := 0
noncomputable def holds.tw4043779546988386903 : Nat := 0
noncomputable def holds.tw4046193847619289583 : Nat := 0
noncomputable def holds.tw4065146272016792997 : Nat := 0
noncomputable def holds.tw4137054072099604216 : Nat := 0
noncomputable def holds.tw4231579422208925257 : Nat := 0
noncomputable def holds.tw4381757428849502282 : Nat := 0
noncomputable def holds.tw4399152324972305773 : Nat := 0
noncomputable def holds.tw4475622257904601326 : Nat := 0
noncomputable def holds.tw4480811336153992742 : Nat := 0
noncomputable def holds.tw4485590747672999114 : Nat := 0
noncomputable def holds.tw4496467784121089108 : Nat := 0
noncomputable def holds.tw4532548537324856634 : Nat := 0
noncomputable def holds.tw4583756282420477746 : Nat := 0
noncomputable def holds.tw4587438098139958336 : Nat := 0
noncomputable def holds.tw4624323801304008105 : Nat := 0
noncomputable def holds.tw4717937361131159733 : Nat := 0
noncomputable def holds.tw4753448620645791293 : Nat := 0
noncomputable def holds.tw4796666493748621973 : Nat := 0
noncomputable def holds.tw4876135695594978501 : Nat := 0
noncomputable def holds.tw4905061745869718969 : Nat := 0
noncomputable def holds.tw4949047195023096438 : Nat := 0
noncomputable def holds.tw4952593789767209597 : Nat := 0
noncomputable def holds.tw5015485144833937494 : Nat := 0
noncomputable def holds.tw5031978486770369989 : Nat := 0
noncomputable def holds.tw5078402968320093544 : Nat := 0
noncomputable def holds.tw5082999880386992228 : Nat := 0
noncomputable def holds.tw5225467491883748592 : Nat := 0
noncomputable def holds.tw5274829272982666545 : Nat := 0
noncomputable def holds.tw5295917329084666069 : Nat := 0
noncomputable def holds.tw5323918697378788693 : Nat := 0
noncomputable def holds.tw5350216910946226995 : Nat := 0
noncomputable def holds.tw5498966250228494579 : Nat := 0
noncomputable def holds.tw5588498093969417903 : Nat := 0
noncomputable def holds.tw5619803957841784048 : Nat := 0
noncomputable def holds.tw576298715544257586 : Nat := 0
noncomputable def holds.tw5833515951755824923 : Nat := 0
noncomputable def holds.tw5857794014393010482 : Nat := 0
noncomputable def holds.tw5857869478962280401 : Nat := 0
noncomputable def holds.tw5878047611234877577 : Nat := 0
noncomputable def holds.tw5932082505621288647 : Nat := 0
noncomputable def holds.tw5959074840488112208 : Nat := 0
noncomputable def holds.tw6099975724469302500 : Nat := 0
noncomputable def holds.tw6159885450047824267 : Nat := 0
noncomputable def holds.tw6166532556598395850 : Nat := 0
noncomputable def holds.tw6216033271563703469 : Nat := 0
noncomputable def holds.tw63030109126827207 : Nat := 0
noncomputable def holds.tw6307330118970589470 : Nat := 0
noncomputable def holds.tw6396523623945614605 : Nat := 0
noncomputable def holds.tw6424660084863691381 : Nat := 0
noncomputable def holds.tw6489310206099298910 : Nat := 0
noncomputable def holds.tw6545324650690627985 : Nat := 0
noncomputable def holds.tw6674158366018852832 : Nat := 0
noncomputable def holds.tw6735552807121987811 : Nat := 0
noncomputable def holds.tw6761696965345928904 : Nat := 0
noncomputable def holds.tw6817751937963910627 : Nat := 0
noncomputable def holds.tw6896159741398044905 : Nat := 0
noncomputable def holds.tw707885073954110949 : Nat := 0
noncomputable def holds.tw7122917452565745793 : Nat := 0
noncomputable def holds.tw7145057240379410032 : Nat := 0
noncomputable def holds.tw7350330377624401328 : Nat := 0
noncomputable def holds.tw7365562674294520451 : Nat := 0
noncomputable def holds.tw7399101569421298396 : Nat := 0
noncomputable def holds.tw7400771686186127474 : Nat := 0
noncomputable def holds.tw7442186320969616419 : Nat := 0
noncomputable def holds.tw7580357766596436714 : Nat := 0
noncomputable def holds.tw759334954848157859 : Nat := 0
noncomputable def holds.tw7798976556582896058 : Nat := 0
noncomputable def holds.tw7885888744534978006 : Nat := 0
noncomputable def holds.tw7923702915469573346 : Nat := 0
noncomputable def holds.tw7942442253511216057 : Nat := 0
noncomputable def holds.tw8102643725754146565 : Nat := 0
noncomputable def holds.tw8105830805119860317 : Nat := 0
noncomputable def holds.tw8115153917610635543 : Nat := 0
noncomputable def holds.tw8143335708233088440 : Nat := 0
noncomputable def holds.tw8277820557490507997 : Nat := 0
noncomputable def holds.tw8323465864499181419 : Nat := 0
noncomputable def holds.tw8324913547053779211 : Nat := 0
noncomputable def holds.tw8393340031374782525 : Nat := 0
noncomputable def holds.tw8451429660923938374 : Nat := 0
noncomputable def holds.tw8551410553514715252 : Nat := 0
noncomputable def holds.tw8564859838321607590 : Nat := 0
noncomputable def holds.tw8571184235532366510 : Nat := 0
noncomputable def holds.tw8575535491628544125 : Nat := 0
noncomputable def holds.tw8579422509405641889 : Nat := 0
noncomputable def holds.tw8868040359437915812 : Nat := 0
noncomputable def holds.tw8868445881999480663 : Nat := 0
noncomputable def holds.tw8903297777125119442 : Nat := 0
noncomputable def holds.tw8936008063982942441 : Nat := 0
noncomputable def holds.tw8943767207682116370 : Nat := 0
noncomputable def holds.tw8944343764007091065 : Nat := 0
noncomputable def holds.tw9143120035062812437 : Nat := 0
noncomputable def holds.tw9157471666820141079 : Nat := 0
noncomputable def holds.tw9160814584890018001 : Nat := 0
noncomputable def holds.tw9160933379109621080 : Nat := 0
noncomputable def holds.tw9188266559522036927 : Nat := 0
noncomputable def holds.tw9245723823536211039 : Nat := 0
noncomputable def holds.tw9250495785965993271 : Nat := 0
noncomputable def holds.tw9370115536473471133 : Nat := 0
noncomputable def holds.tw9430090754398894584 : Nat := 0
noncomputable def holds.tw9441326970708011783 : Nat := 0
noncomputable def holds.tw9458989268892848673 : Nat := 0
noncomputable def holds.tw949623864930693503 : Nat := 0
noncomputable def holds.tw9518972631687950247 : Nat := 0
noncomputable def holds.tw9569093901706499007 : Nat := 0
noncomputable def holds.tw960582308587345451 : Nat := 0
noncomputable def holds.tw9638990691586225099 : Nat := 0
noncomputable def holds.tw9647410926604887880 : Nat := 0
noncomputable def holds.tw9816476011544392670 : Nat := 0
noncomputable def holds.tw9855210162650666830 : Nat := 0
noncomputable def holds.tw9866653766423218390 : Nat := 0
set_option tactic.hygienic true in
set_option Elab.async true in
set_option maxHeartbeats 8000000 in
theorem holds : PySem.Challenge.rw_pq0975_01.Holds := by
  (w_on; o_law; k_head; (case hw => w_witness2))
  intro w s₀ s₁ mg mb G Y a o pm cd doc dV kV ho hd' hcd hD hmg hg args vals as hpre hlay hrd hwl hlo
  wrow_args hpre hlay hrd hwl hlo
  rename_i ns _ _ _ _ _ _ _ l vs _ hL _ _ _ hI _ hc1 _
  have hdV : dV = .none := by
    rcases hD.pos with ⟨_, h⟩ | ⟨h, _⟩
    · exact h
    · exact absurd rfl h
  subst hdV
  refine end_of Y ?_ G (by decide +kernel) hg (fun _ => rfl) (by kernel_rfl) ho hd' hcd rfl rfl rfl rfl rfl rfl rfl hL hI (by omega) rfl rfl
  refine ⟨fun _ => by kernel_rfl, fun _ => by kernel_rfl, fun _ => ?_, fun P X p hp => ?_, fun _ => by kernel_rfl, fun _ => by kernel_rfl, fun _ => by kernel_rfl, fun _ => by kernel_rfl, fun _ => by kernel_rfl, fun _ => by kernel_rfl⟩
  · refine ⟨?_, ?_, ?_, ?_, ?_, ?_, ?_, ?_, ?_, ?_, ?_, ?_, ?_, ?_, ?_, ?_, ?_, ?_, ?_, ?_, ?_, ?_, ?_, ?_, ?_, ?_, ?_, ?_, ?_, ?_, ?_, trivial⟩
    iterate 28 (refine ⟨_, rfl, _, _, _, _, _, _, { at_ := rfl, cls := rfl, data := rfl, params := rfl, names := by kernel_rfl, defaults := rfl, kind := rfl, cor := rfl, gen := rfl, body := rfl, scope := rfl, qual := rfl, globals := rfl, builtins := rfl, closure := rfl, code := rfl, codeAt := rfl, codeData := rfl, codeQ := rfl, tab := fun k h => by cases h }⟩)
    · exact ⟨_, rfl, _, _, _, _, _, _, { at_ := rfl, cls := rfl, data := rfl, params := rfl, names := by kernel_rfl, defaults := rfl, kind := rfl, cor := rfl, gen := rfl, body := rfl, scope := rfl, qual := rfl, globals := rfl, builtins := rfl, closure := rfl, code := rfl, codeAt := rfl, codeData := rfl, codeQ := rfl, tab := fun k h => by cases h; exact ⟨290, by kernel_rfl, by decide⟩ }⟩
    · exact ⟨_, rfl, _, _, _, _, _, _, { at_ := rfl, cls := rfl, data := rfl, params := rfl, names := by kernel_rfl, defaults := rfl, kind := rfl, cor := rfl, gen := rfl, body := rfl, scope := rfl, qual := rfl, globals := rfl, builtins := rfl, closure := rfl, code := rfl, codeAt := rfl, codeData := rfl, codeQ := rfl, tab := fun k h => by cases h; exact ⟨297, by kernel_rfl, by decide⟩ }⟩
    · exact ⟨_, rfl, _, _, _, _, _, _, { at_ := rfl, cls := rfl, data := rfl, params := rfl, names := by kernel_rfl, defaults := rfl, kind := rfl, cor := rfl, gen := rfl, body := rfl, scope := rfl, qual := rfl, globals := rfl, builtins := rfl, closure := rfl, code := rfl, codeAt := rfl, codeData := rfl, codeQ := rfl, tab := fun k h => by cases h; exact ⟨302, by kernel_rfl, by decide⟩ }⟩
  rcases List.mem_cons.mp hp with rfl | hp
  · exact clsRow_of X rfl rfl (by kernel_rfl) (by kernel_rfl) (by kernel_rfl) (by kernel_rfl) (by kernel_rfl) (by kernel_rfl) (by kernel_rfl) (by kernel_rfl) (by rw [if_pos rfl]; exact ⟨rfl, rfl⟩)
  rcases List.mem_cons.mp hp with rfl | hp
  · exact clsRow_of X rfl rfl (by kernel_rfl) (by kernel_rfl) (by kernel_rfl) (by kernel_rfl) (by kernel_rfl) (by kernel_rfl) (by kernel_rfl) (by kernel_rfl) (by rw [if_pos rfl]; exact ⟨rfl, rfl⟩)
  rcases List.mem_cons.mp hp with rfl | hp
  · exact clsRow_of X rfl rfl (by kernel_rfl) (by kernel_rfl) (by kernel_rfl) (by kernel_rfl) (by kernel_rfl) (by kernel_rfl) (by kernel_rfl) (by kernel_rfl) (by rw [if_pos rfl]; exact ⟨rfl, rfl⟩)
  rcases List.mem_cons.mp hp with rfl | hp
  · exact clsRow_of X rfl rfl (by kernel_rfl) (by kernel_rfl) (by kernel_rfl) (by kernel_rfl) (by kernel_rfl) (by kernel_rfl) (by kernel_rfl) (by kernel_rfl) (by rw [if_neg (by decide)]; exact ⟨rfl, rfl, rfl⟩)
  rcases List.mem_cons.mp hp with rfl | hp
  · exact clsRow_of X rfl rfl (by kernel_rfl) (by kernel_rfl) (by kernel_rfl) (by kernel_rfl) (by kernel_rfl) (by kernel_rfl) (by kernel_rfl) (by kernel_rfl) (by rw [if_neg (by decide)]; exact ⟨rfl, rfl, rfl⟩)
  cases hp
end Mine

end
theorem PySem.Challenge.cw_pq0975_01_holds : PySem.Challenge.rw_pq0975_01.Holds :=
  Mine.holds
