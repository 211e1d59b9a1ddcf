import PyProof.Rows.All
import Wide.All
import OpenK.AllK
import Wide.FinOn
import PySem.Challenge.RW_pf0338_01
open PySem PySem.W PyProof.Rows
set_option Elab.async false
set_option linter.all false
section
open PySem PySem.W PyProof.Rows
namespace Mine

theorem no {α : Type} {a : α} {P : Prop} (h : none = some a) : P := nomatch h
theorem of_if {α : Type} {c : Prop} [Decidable c] {x : Option α} {a : α} (h : (if c then x else none) = some a) : c ∧ x = some a := by
  by_cases hc : c
  · rw [if_pos hc] at h; exact ⟨hc, h⟩
  · rw [if_neg hc] at h; exact no h
theorem of_ifn {α : Type} {c : Prop} [Decidable c] {x : Option α} {a : α} (h : (if c then none else x) = some a) : ¬ c ∧ x = some a := by
  by_cases hc : c
  · rw [if_pos hc] at h; exact no h
  · rw [if_neg hc] at h; exact ⟨hc, h⟩
theorem of_bind {α β : Type} {o : Option α} {f : α → Option β} {b : β} (h : o.bind f = some b) : ∃ a, o = some a ∧ f a = some b := by
  cases o with
  | none => exact no h
  | some a => exact ⟨a, rfl, h⟩
theorem of_map {α β : Type} {o : Option α} {f : α → β} {b : β} (h : o.map f = some b) : ∃ a, o = some a ∧ f a = b := by
  cases o with
  | none => exact no h
  | some a => exact ⟨a, rfl, Option.some.inj h⟩

/-- plain data -/
inductive D where
  | none
  | bool (b : Bool)
  | int (i : Int)
  | str (s : List Nat)
  | list (xs : List D)
  | tuple (xs : List D)

noncomputable abbrev Kd := Str → Option NameKind
noncomputable abbrev Ro := Str → Option D
noncomputable abbrev Phi := Str → List D → Option D

noncomputable def toStr (l : List Nat) : Str := ⟨l.toArray⟩
noncomputable def ofStr (x : Str) : List Nat := x.cps.toList

noncomputable def constD : Const → Option D
  | .none => some .none
  | .bool b => some (.bool b)
  | .int i => some (.int i)
  | .str s => some (.str (ofStr s))
  | _ => none

noncomputable def bAdd : D → D → Option D
  | .int a, .int b => some (.int (a + b))
  | .str a, .str b => if a.length + b.length ≤ sizeLine then some (.str (a ++ b)) else none
  | .list a, .list b => if a.length + b.length ≤ sizeLine then some (.list (a ++ b)) else none
  | _, _ => none
noncomputable def onInts (f : Int → Int → Option D) : D → D → Option D
  | .int a, .int b => f a b
  | _, _ => none
noncomputable def bSub : D → D → Option D := onInts fun a b => some (.int (a - b))
noncomputable def smallBits (a : Int) : Bool := decide (Builtin.Int.intBits a ≤ 64)
noncomputable def bMul : D → D → Option D
  | .int a, .int b => if smallBits a || smallBits b then some (.int (a * b)) else none
  | .str a, .int n => if 0 ≤ n ∧ n ≤ 1000000 ∧ a.length * n.toNat ≤ sizeLine then some (.str (List.replicate n.toNat a).flatten) else none
  | .list a, .int n => if 0 ≤ n ∧ n ≤ 1000000 ∧ a.length * n.toNat ≤ sizeLine then some (.list (List.replicate n.toNat a).flatten) else none
  | _, _ => none
noncomputable def bDiv : D → D → Option D := onInts fun a b => if b ≠ 0 ∧ b.natAbs < 2 ^ 256 then some (.int (a.fdiv b)) else none
noncomputable def bMod : D → D → Option D := onInts fun a b => if b ≠ 0 then some (.int (a.fmod b)) else none
noncomputable def bPow : D → D → Option D := onInts fun a n => if 0 ≤ n ∧ n ≤ 1000000 ∧ a.natAbs < 2 ^ 64 then some (.int (a ^ n.toNat)) else none
noncomputable def bShl : D → D → Option D := onInts fun a n => if 0 ≤ n ∧ n ≤ 1000000 ∧ a.natAbs < 2 ^ 256 then some (.int (a * 2 ^ n.toNat)) else none
noncomputable def bShr : D → D → Option D := onInts fun a n => if 0 ≤ n then some (.int (a.fdiv (2 ^ n.toNat))) else none
noncomputable def bAnd : D → D → Option D := onInts fun a b => some (.int (Builtin.bitAnd a b))
noncomputable def bOr : D → D → Option D := onInts fun a b => some (.int (Builtin.bitOr a b))
noncomputable def binD : Operator → D → D → Option D
  | .Add => bAdd
  | .Sub => bSub
  | .Mult => bMul
  | .FloorDiv => bDiv
  | .Mod => bMod
  | .Pow => bPow
  | .LShift => bShl
  | .RShift => bShr
  | .BitAnd => bAnd
  | .BitOr => bOr
  | _ => fun _ _ => none

/-- all items ints -/
noncomputable def intsOf : List D → Option (List Int)
  | [] => some []
  | .int i :: r => (intsOf r).map (i :: ·)
  | _ :: _ => none
noncomputable def strsOf : List D → Option (List (List Nat))
  | [] => some []
  | .str i :: r => (strsOf r).map (i :: ·)
  | _ :: _ => none

noncomputable def containsL (x y : List Nat) : Bool := Txt.contains (toStr x) (toStr y)
noncomputable def findL (x y : List Nat) : Int := Txt.find (toStr x) (toStr y)
noncomputable def splitL (x y : List Nat) : List (List Nat) := (Txt.split (toStr x) (toStr y)).map ofStr
noncomputable def joinL (sep : List Nat) : List (List Nat) → List Nat
  | [] => []
  | [a] => a
  | a :: b :: r => a ++ sep ++ joinL sep (b :: r)
noncomputable def upperL (x : List Nat) : List Nat := ofStr (Txt.upper (toStr x))
noncomputable def sliceL {α : Type} (x : List α) (lo : Nat) (hi : Nat) : List α := (x.take hi).drop lo

noncomputable def cmpEq : D → D → Option Bool
  | .int a, .int b => some (a == b)
  | .str a, .str b => some (a == b)
  | .tuple a, .tuple b => (intsOf a).bind fun x => (intsOf b).bind fun y => if x.length = y.length then some (x == y) else none
  | _, _ => none
noncomputable def cmpIs : D → D → Option Bool
  | .none, .none => some true
  | .bool _, .none => some false
  | .int _, .none => some false
  | .str _, .none => some false
  | .list _, .none => some false
  | .tuple _, .none => some false
  | _, _ => none
noncomputable def onIntsB (f : Int → Int → Bool) : D → D → Option Bool
  | .int a, .int b => some (f a b)
  | _, _ => none
noncomputable def cmpLe : D → D → Option Bool
  | .int a, .int b => some (decide (a ≤ b))
  | .str a, .str b => some (!(decide (b < a)))
  | _, _ => none
noncomputable def cmpIn : D → D → Option Bool
  | .str a, .str b => some (containsL b a)
  | _, _ => none
noncomputable def cmpD : CmpOp → D → D → Option Bool
  | .Eq => cmpEq
  | .NotEq => fun a b => (cmpEq a b).map (!·)
  | .Lt => onIntsB fun a b => decide (a < b)
  | .LtE => cmpLe
  | .Gt => onIntsB fun a b => decide (b < a)
  | .GtE => onIntsB fun a b => decide (b ≤ a)
  | .Is => cmpIs
  | .In => cmpIn
  | _ => fun _ _ => none

noncomputable def itemD : D → D → Option D
  | .str s, .int i => if 0 ≤ i ∧ i < 2 ^ 62 then (s[i.toNat]?).map fun c => .str [c] else none
  | .list s, .int i => if 0 ≤ i ∧ i < 2 ^ 62 then s[i.toNat]? else none
  | _, _ => none
/-- a bound of a slice -/
noncomputable def boundD (dflt : Nat) : Option D → Option Nat
  | none => some dflt
  | some (.int i) => if 0 ≤ i ∧ i < 2 ^ 62 then some i.toNat else none
  | some _ => none
noncomputable def sliceD (x : D) (lo hi : Option D) : Option D :=
  match x with
  | .str s => if s.length ≤ sizeLine then do some (.str (sliceL s (← boundD 0 lo) (← boundD s.length hi))) else none
  | .list s => if s.length ≤ sizeLine then do some (.list (sliceL s (← boundD 0 lo) (← boundD s.length hi))) else none
  | _ => none

noncomputable def rangeUp (a b : Int) : List D := (List.range (b - a).toNat).map fun (k : Nat) => D.int (a + k)
noncomputable def rangeDown (a b : Int) : List D := (List.range (a - b).toNat).map fun (k : Nat) => D.int (a - k)
noncomputable def rangeD : List D → Option (List D)
  | [.int b] => if b.natAbs < 2 ^ 20 then some (rangeUp 0 b) else none
  | [.int a, .int b] => if a.natAbs < 2 ^ 20 ∧ b.natAbs < 2 ^ 20 then some (rangeUp a b) else none
  | [.int a, .int b, .int c] => if a.natAbs < 2 ^ 20 ∧ b.natAbs < 2 ^ 20 ∧ c = -1 then some (rangeDown a b) else none
  | _ => none

inductive Bi where
  | len | ord | str | sum
noncomputable def biOf (f : Str) : Option Bi :=
  if f = Str.ofString "len" then some .len else
  if f = Str.ofString "ord" then some .ord else
  if f = Str.ofString "str" then some .str else
  if f = Str.ofString "sum" then some .sum else none
noncomputable def digitsOf (i : Int) : List Nat := ofStr (Str.ofString (toString i))
noncomputable def builtinD : Bi → List D → Option D
  | .len, [.str s] => if s.length ≤ sizeLine then some (.int s.length) else none
  | .len, [.list s] => if s.length ≤ sizeLine then some (.int s.length) else none
  | .ord, [.str [c]] => some (.int c)
  | .str, [.int i] => if i.natAbs < 2 ^ 64 then some (.str (digitsOf i)) else none
  | .sum, [.list l] => if l.length ≤ sizeLine then (intsOf l).map fun x => .int x.sum else none
  | _, _ => none
inductive Me where
  | split | join | find | upper
noncomputable def meOf (f : Str) : Option Me :=
  if f = Str.ofString "split" then some .split else
  if f = Str.ofString "join" then some .join else
  if f = Str.ofString "find" then some .find else
  if f = Str.ofString "upper" then some .upper else none
noncomputable def methodD : Me → D → List D → Option D
  | .split, .str x, [.str y] => if y.length = 0 ∨ x.length > 1000000 then none else some (.list ((splitL x y).map .str))
  | .join, .str x, [.list l] => (strsOf l).bind fun ss => if ((ss.map List.length).sum + ss.length * x.length) ≤ sizeLine then some (.str (joinL x ss)) else none
  | .find, .str x, [.str y] => some (.int (findL x y))
  | .upper, .str x, [] => if x.length ≤ 1000000 then some (.str (upperL x)) else none
  | _, _, _ => none

noncomputable def mapM' {α β : Type} (f : α → Option β) : List α → Option (List β)
  | [] => some []
  | a :: r => (f a).bind fun b => (mapM' f r).bind fun bs => some (b :: bs)

/-- data that are no objects -/
noncomputable def scal : D → Bool
  | .list _ => false
  | .tuple _ => false
  | _ => true

/-- the kinds of names within a comprehension -/
noncomputable def kdIn (kd : Kd) (sc : Scope) : Kd := fun x =>
  match sc.names.lookup x with
  | some .free => if kd x = some .cell then some .cell else some .free
  | k => k
noncomputable def compOk (kd : Kd) (sc : Scope) (x : Str) : Bool :=
  (sc.kind == .function) && (sc.names.lookup x == some .local) &&
  sc.names.all fun (n, k) => (k != .cell) && (k != .local || sc.names.lookup n == some .local) && (k != .free || kd n == some .cell)
noncomputable def roIn (kd : Kd) (sc : Scope) (ρ : Ro) (x : Str) (d : D) : Ro := fun y =>
  if y = x then some d else if kdIn kd sc y = some .cell then ρ y else none

section
variable (Φ : Phi) (ev : Kd → Ro → Expr → Option D) (te : Kd → Ro → Expr → Option Bool)

noncomputable def evs (kd : Kd) (ρ : Ro) : List Expr → Option (List D) := mapM' (ev kd ρ)
noncomputable def noStar : Expr → Bool
  | .Starred .. => false
  | _ => true
noncomputable def plainBase : Expr → Bool
  | .Name .. => true
  | .Constant .. => true
  | _ => false
noncomputable def globalName (kd : Kd) (f : Str) : Bool := kd f == some .globalImplicit && f != Str.ofString "__debug__"

/-- an iterable's items -/
noncomputable def seqD : D → Option (List D)
  | .list l => if l.length ≤ sizeLine then some l else none
  | .tuple l => if l.length ≤ sizeLine then some l else none
  | .str l => if l.length ≤ sizeLine then some (l.map fun c => .str [c]) else none
  | _ => none
noncomputable def noCall : Expr → Bool
  | .Call .. => false
  | .Set .. => false
  | _ => true
/-- what an iterable expression runs over -/
noncomputable def iterD (kd : Kd) (ρ : Ro) (e : Expr) : Option (List D) :=
  match e with
  | .Call f args kws _ => (match f with
    | .Name f _ => (match kws with
      | [] => if f = Str.ofString "range" ∧ globalName kd f = true ∧ args.all noStar = true ∧ args ≠ [] then (evs ev kd ρ args).bind rangeD else none
      | _ :: _ => none)
    | _ => none)
  | .Set .. => none
  | e => (ev kd ρ e).bind seqD

noncomputable def optD (kd : Kd) (ρ : Ro) : Option Expr → Option (Option D)
  | none => some none
  | some e => (ev kd ρ e).map some

noncomputable def negD : D → Option D
  | .int i => some (.int (-i))
  | _ => none
noncomputable def ifD (o : Option Bool) (a b : Option D) : Option D := o.bind fun c => if c = true then a else b
noncomputable def cmpE (kd : Kd) (ρ : Ro) (l : Expr) (ops : List CmpOp) (rs : List Expr) : Option Bool :=
  match ops, rs with
  | [op], [r] => if behindInMarks op r then none else (ev kd ρ l).bind fun a => (ev kd ρ r).bind fun b => cmpD op a b
  | _, _ => none
noncomputable def subD (kd : Kd) (ρ : Ro) (v s : Expr) : Option D :=
  match s with
  | .Slice lo hi stp _ => (match v with
    | .Name x _ => (match stp with
      | none => if x = Str.ofString "__debug__" then none else (ρ x).bind fun d => (optD ev kd ρ lo).bind fun a => (optD ev kd ρ hi).bind fun b => sliceD d a b
      | some _ => none)
    | _ => none)
  | s => (ev kd ρ v).bind fun a => (ev kd ρ s).bind fun b => itemD a b
noncomputable def compE (kd : Kd) (ρ : Ro) (elt : Expr) (gens : List Comprehension) (sc : Scope) : Option D :=
  match gens with
  | [⟨t, iter, ifs, n⟩] => (match t with
    | .Name x _ => (match ifs, n with
      | [], 0 => if compOk kd sc x then (iterD ev kd ρ iter).bind fun ds =>
          if ds.length ≤ sizeLine ∧ ds.all scal = true then (mapM' (fun d => ev (kdIn kd sc) (roIn kd sc ρ x d) elt) ds).bind fun rs => if rs.all scal then some (.list rs) else none else none
        else none
      | _, _ => none)
    | _ => none)
  | _ => none
noncomputable def callE (kd : Kd) (ρ : Ro) (f : Expr) (args : List Expr) (kws : List Keyword) (p : Pos) : Option D :=
  match f with
  | .Attribute o m ap => (match kws with
    | [] => if (ap.endLine == p.line) = true ∧ plainBase o = true ∧ args.all noStar = true ∧ args.length ≤ 20 then
        (meOf m).bind fun m => (ev kd ρ o).bind fun x => (evs ev kd ρ args).bind fun ds => methodD m x ds
      else none
    | _ :: _ => none)
  | .Name f _ => (match kws with
    | [] => if globalName kd f = true ∧ args.all noStar = true ∧ args ≠ [] ∧ args.length ≤ 20 then
        (evs ev kd ρ args).bind fun ds => match biOf f with
          | some b => if ds.length = 1 then builtinD b ds else none
          | none => Φ f ds
      else none
    | _ :: _ => none)
  | _ => none
noncomputable def stepE (kd : Kd) (ρ : Ro) (e : Expr) : Option D :=
  match e with
  | .Constant c _ _ => constD c
  | .Name x _ => if x = Str.ofString "__debug__" then none else ρ x
  | .BinOp l op r _ => (ev kd ρ l).bind fun a => (ev kd ρ r).bind fun b => binD op a b
  | .Compare l ops rs _ => (cmpE ev kd ρ l ops rs).map .bool
  | .UnaryOp op x _ => (match op with
    | .USub => (ev kd ρ x).bind negD
    | _ => none)
  | .IfExp t b o _ => ifD (te kd ρ t) (ev kd ρ b) (ev kd ρ o)
  | .List es _ => if es.all noStar ∧ es.length ≤ 1000 then (evs ev kd ρ es).map .list else none
  | .Tuple es _ _ => if es.all noStar ∧ es.length ≤ 1000 ∧ es ≠ [] then (evs ev kd ρ es).map .tuple else none
  | .Subscript v s _ => subD ev kd ρ v s
  | .ListComp elt gens sc _ => compE ev kd ρ elt gens sc
  | .Call f args kws p => callE Φ ev kd ρ f args kws p
  | _ => none

/-- and, or -/
noncomputable def testsD (kd : Kd) (ρ : Ro) (op : BoolOp) : List Expr → Option Bool
  | [] => some (op == .And)
  | x :: r => match te kd ρ x with
    | none => none
    | some b => match op, b with
      | .And, false => some false
      | .Or, true => some true
      | _, _ => testsD kd ρ op r

noncomputable def boolD : D → Option Bool
  | .bool b => some b
  | _ => none
noncomputable def cmpT (kd : Kd) (ρ : Ro) (l : Expr) (ops : List CmpOp) (rs : List Expr) : Option Bool :=
  match ops, rs with
  | [op], [r] => if behindInMarks op r then none else (ev kd ρ l).bind fun a => (ev kd ρ r).bind fun b => cmpD op a b
  | [op, op2], [r, r2] => if behindInMarks op2 r2 then none else
    (ev kd ρ l).bind fun a => (ev kd ρ r).bind fun b => (cmpD op a b).bind fun c => if c = true then (ev kd ρ r2).bind fun z => cmpD op2 b z else some false
  | _, _ => none
noncomputable def stepT (kd : Kd) (ρ : Ro) (e : Expr) : Option Bool :=
  match e with
  | .UnaryOp op x _ => (match op with
    | .Not => (te kd ρ x).map (!·)
    | _ => none)
  | .BoolOp op vs _ => testsD te kd ρ op vs
  | .Compare l ops rs _ => cmpT ev kd ρ l ops rs
  | .Name x p => (ev kd ρ (.Name x p)).bind boolD
  | .Call f a k p => (ev kd ρ (.Call f a k p)).bind boolD
  | _ => none
end

noncomputable def lv (Φ : Phi) : Nat → (Kd → Ro → Expr → Option D) × (Kd → Ro → Expr → Option Bool)
  | 0 => (fun _ _ _ => none, fun _ _ _ => none)
  | n + 1 => (stepE Φ (lv Φ n).1 (lv Φ n).2, stepT (lv Φ n).1 (lv Φ n).2)
noncomputable def evalE (Φ : Phi) (n : Nat) := (lv Φ n).1
noncomputable def testE (Φ : Phi) (n : Nat) := (lv Φ n).2

/-- the state of a frame: its names; the name that holds a list of the frame's own -/
noncomputable abbrev Lo := List (Str × Option D)
structure St where
  env : Lo
  own : Option Str

noncomputable def lookL : Lo → Ro
  | [], _ => none
  | (y, o) :: r, x => if x = y then o else lookL r x
noncomputable def setL : Lo → Str → D → Lo
  | [], _, _ => []
  | (y, o) :: r, x, d => if x = y then (y, some d) :: r else (y, o) :: setL r x d
noncomputable def hasL : Lo → Str → Bool
  | [], _ => false
  | (y, _) :: r, x => if x = y then true else hasL r x
/-- the names less the own one -/
noncomputable def lessL (ρ : Ro) : Option Str → Ro
  | none => ρ
  | some y => fun x => if x = y then none else ρ x

inductive Fl where
  | next | ret (d : D)

noncomputable def storable (kd : Kd) (x : Str) : Bool := kd x == some .local || kd x == some .cell

noncomputable def setS (kd : Kd) (st : St) (x : Str) (d : D) : Option St :=
  if hasL st.env x && storable kd x && (some x != st.own) then some { st with env := setL st.env x d } else none

mutual
noncomputable def mentions (y : Str) : Expr → Bool
  | .Name x _ => x == y
  | .BinOp l _ r _ => mentions y l || mentions y r
  | .UnaryOp _ x _ => mentions y x
  | .BoolOp _ vs _ => mentionsA y vs
  | .Compare l _ rs _ => mentions y l || mentionsA y rs
  | .IfExp t b o _ => mentions y t || mentions y b || mentions y o
  | .List es _ => mentionsA y es
  | .Tuple es _ _ => mentionsA y es
  | .Subscript v s _ => mentions y v || mentions y s
  | .Slice lo hi st _ => mentionsO y lo || mentionsO y hi || mentionsO y st
  | .Call f args _ _ => mentions y f || mentionsA y args
  | .Attribute o _ _ => mentions y o
  | .Constant .. => false
  | _ => true
noncomputable def mentionsA (y : Str) : List Expr → Bool
  | [] => false
  | e :: r => mentions y e || mentionsA y r
noncomputable def mentionsO (y : Str) : Option Expr → Bool
  | none => false
  | some e => mentions y e
end

noncomputable def ownAfter (own : Option Str) (e : Expr) : Option Str :=
  match own with
  | none => none
  | some y => if mentions y e then none else some y

section
variable (Φ : Phi) (N : Nat)

noncomputable def forD (body : St → Option (Fl × St)) (bind : D → St → Option St) : List D → St → Option (Fl × St)
  | [], st => some (.next, st)
  | d :: ds, st => match bind d st with
    | none => none
    | some st => match body st with
      | some (.next, st) => forD body bind ds st
      | r => r
noncomputable def whileD (test : St → Option Bool) (body : St → Option (Fl × St)) : Nat → St → Option (Fl × St)
  | 0, _ => none
  | k + 1, st => match test st with
    | none => none
    | some false => some (.next, st)
    | some true => match body st with
      | some (.next, st) => whileD test body k st
      | r => r

noncomputable def valE (kd : Kd) (st : St) (e : Expr) : Option D := evalE Φ N kd (lessL (lookL st.env) st.own) e
noncomputable def condE (kd : Kd) (st : St) (e : Expr) : Option Bool := testE Φ N kd (lessL (lookL st.env) st.own) e

/-- the value of an expression in a state; the own list is let go where the expression names it -/
noncomputable def letGo (st : St) (e : Expr) : St := { st with own := ownAfter st.own e }

noncomputable def pairs (k : Nat) : List D → List D
  | [] => []
  | d :: r => .tuple [.int k, d] :: pairs (k + 1) r

/-- an enumerate's source -/
noncomputable def enumL : D → Option (List D)
  | .list l => if l.length ≤ sizeLine ∧ l.all scal = true then some (pairs 0 l) else none
  | _ => none
noncomputable def enumD (kd : Kd) (st : St) (e : Expr) : Option (List D) :=
  match e with
  | .Call f args kws _ => (match f with
    | .Name f _ => (match args, kws with
      | [a], [] => if f = Str.ofString "enumerate" ∧ globalName kd f = true ∧ noStar a = true then (valE Φ N kd st a).bind enumL else none
      | _, _ => none)
    | _ => none)
  | _ => none

/-- a pair of constants that CPython folds, or no pair of constants -/
noncomputable def swapOk : Expr → Bool
  | .Tuple vs _ _ => vs.all (foldedForSure 8) || !(vs.all (constantsAlone 8))
  | _ => true
noncomputable def bindName1 (kd : Kd) (x : Str) (d : D) (st : St) : Option St := setS kd st x d
noncomputable def bindName2 (kd : Kd) (x y : Str) (d : D) (st : St) : Option St :=
  match d with
  | .tuple [a, b] => if x = y then none else (setS kd st x a).bind fun st => setS kd st y b
  | _ => none

noncomputable def listE : Expr → Bool
  | .List .. => true
  | _ => false
noncomputable def assignS (kd : Kd) (st : St) (ts : List Expr) (e : Expr) : Option (Fl × St) :=
  match ts with
  | [t] => (match t with
    | .Name x _ => (valE Φ N kd (letGo st e) e).bind fun d =>
      if listE e = true then (if kd x = some .local then (setS kd { st with own := none } x d).map fun st => (.next, { st with own := some x }) else none)
      else if some x = st.own then (setS kd { st with own := none } x d).map ((.next, ·)) else (setS kd (letGo st e) x d).map ((.next, ·))
    | .Tuple xs _ _ => (match xs with
      | [a, b] => (match a with
        | .Name x _ => (match b with
          | .Name y _ => (valE Φ N kd (letGo st e) e).bind fun d =>
            if kd x = some .local ∧ kd y = some .local ∧ swapOk e = true then (bindName2 kd x y d (letGo st e)).map ((.next, ·)) else none
          | _ => none)
        | _ => none)
      | _ => none)
    | _ => none)
  | _ => none
noncomputable def appendS (kd : Kd) (st : St) (e : Expr) : Option (Fl × St) :=
  match e with
  | .Call f args kws p => (match f with
    | .Attribute o m ap => (match o with
      | .Name x _ => (match args, kws with
        | [a], [] => if (ap.endLine == p.line) = true ∧ m = Str.ofString "append" ∧ st.own = some x ∧ x ≠ Str.ofString "__debug__" ∧ hasL st.env x = true ∧ noStar a = true then
            (lookL st.env x).bind fun l => (valE Φ N kd st a).bind fun d => match l with
              | .list l => if l.length ≤ 1000000 then some (.next, { st with env := setL st.env x (.list (l ++ [d])) }) else none
              | _ => none
          else none
        | _, _ => none)
      | _ => none)
    | _ => none)
  | _ => none
noncomputable def forS (ex : Kd → St → List Stmt → Option (Fl × St)) (kd : Kd) (st : St) (t it : Expr) (body : List Stmt) : Option (Fl × St) :=
  match t with
  | .Name x _ => (iterD (evalE Φ N) kd (lessL (lookL st.env) (letGo st it).own) it).bind fun ds =>
    if ds.all scal = true then forD (fun st => ex kd st body) (bindName1 kd x) ds (letGo st it) else none
  | .Tuple xs _ _ => (match xs with
    | [a, b] => (match a with
      | .Name x _ => (match b with
        | .Name y _ => (enumD Φ N kd st it).bind fun ds =>
          if kd x = some .local ∧ kd y = some .local then forD (fun st => ex kd st body) (bindName2 kd x y) ds st else none
        | _ => none)
      | _ => none)
    | _ => none)
  | _ => none
noncomputable def stepS (ex : Kd → St → List Stmt → Option (Fl × St)) (W : Nat) (kd : Kd) (st : St) (s : Stmt) : Option (Fl × St) :=
  match s with
  | .Assign ts e _ => assignS Φ N kd st ts e
  | .Expr e _ => appendS Φ N kd st e
  | .Return e _ => (match e with
    | some e => (valE Φ N kd (letGo st e) e).map fun d => (.ret d, st)
    | none => none)
  | .If t b o _ => (condE Φ N kd (letGo st t) t).bind fun c => if c = true then ex kd (letGo st t) b else ex kd (letGo st t) o
  | .For t it body orelse _ => (match orelse with
    | [] => forS Φ N ex kd st t it body
    | _ :: _ => none)
  | .While t body orelse _ => (match orelse with
    | [] => whileD (fun st => condE Φ N kd st t) (fun st => ex kd st body) W st
    | _ :: _ => none)
  | _ => none

noncomputable def execB (W : Nat) : Nat → Kd → St → List Stmt → Option (Fl × St)
  | 0, _, _, _ => none
  | _ + 1, _, st, [] => some (.next, st)
  | n + 1, kd, st, s :: r => match stepS Φ N (execB W n) W kd st s with
    | some (.next, st) => execB W n kd st r
    | q => q
end

/-- a def of the text -/
structure FnRec where
  name : Str
  params : List Str
  dflts : List D
  body : List Stmt
  scope : Scope

noncomputable def fnOf? : Stmt → Option FnRec
  | .FunctionDef name args body _ _ _ scope _ _ _ => some ⟨name, args.args.map (·.arg), args.defaults.filterMap (fun | .Constant c _ _ => constD c | _ => none), body, scope⟩
  | _ => none
noncomputable def fns (p : Program) : List FnRec := p.main.body.filterMap fnOf?

noncomputable def bindD : List (Str × NameKind) → List (Str × D) → Lo
  | [], _ => []
  | (n, k) :: r, b => if k == .local || k == .cell then (n, b.lookup n) :: bindD r b else bindD r b

noncomputable def fillD (params : List Str) (dflts args : List D) : List D := args ++ dflts.drop (args.length + dflts.length - params.length)

noncomputable def callD (tab : List FnRec) (N W n : Nat) : Nat → Phi
  | 0 => fun _ _ => none
  | k + 1 => fun f args => match tab.find? fun r => r.name == f with
    | none => none
    | some r =>
      if args.length ≤ r.params.length ∧ r.params.length ≤ args.length + r.dflts.length then
        match execB (callD tab N W n k) N W n (fun x => r.scope.names.lookup x) ⟨bindD r.scope.names (r.params.zip (fillD r.params r.dflts args)), none⟩ r.body with
        | some (.ret d, _) => some d
        | some (.next, _) => some .none
        | none => none
      else none
end Mine
end
section
open PySem PySem.W PyProof.Rows
namespace Mine.G

theorem ne_of_b {α : Type} [BEq α] [LawfulBEq α] {a b : α} (h : (a == b) = false) : a ≠ b := fun e => by
  rw [e, beq_self_eq_true] at h; cases h
theorem ne_of_nb {α : Type} [BEq α] [LawfulBEq α] {a b : α} (h : (!(a == b)) = true) : a ≠ b := ne_of_b ((Bool.not_eq_true' _).mp h)
theorem eq_of_nb {α : Type} [BEq α] [LawfulBEq α] {a b : α} (h : (!(a == b)) = false) : a = b := by
  cases e : a == b with
  | true => exact eq_of_beq e
  | false => rw [e] at h; cases h
theorem nat_of_b {a b : Nat} (h : ((a : Int) == (b : Int)) = true) : a = b := Int.ofNat.inj (eq_of_beq h)
theorem nat_of_nb {a b : Nat} (h : ((a : Int) == (b : Int)) = false) : a ≠ b := fun e => ne_of_b h (congrArg _ e)
/-- an answer is there, and it is fit -/
noncomputable def Go {α : Type} (o : Option α) (k : α → Prop) : Prop := ∃ a, o = some a ∧ k a
theorem go_of {α : Type} {o : Option α} {k : α → Prop} {a : α} (h : o = some a) (hk : k a) : Go o k := ⟨a, h, hk⟩
theorem go_some {α : Type} {k : α → Prop} {a : α} (hk : k a) : Go (some a) k := ⟨a, rfl, hk⟩
theorem Go.mono {α : Type} {o : Option α} {k k' : α → Prop} (h : Go o k) (hk : ∀ a, k a → k' a) : Go o k' := let ⟨a, e, q⟩ := h; ⟨a, e, hk a q⟩
theorem go_bind {α β : Type} {o : Option α} {f : α → Option β} {k : β → Prop} (h : Go o fun a => Go (f a) k) : Go (o.bind f) k := by
  obtain ⟨a, rfl, q⟩ := h; exact q
theorem go_map {α β : Type} {o : Option α} {f : α → β} {k : β → Prop} (h : Go o fun a => k (f a)) : Go (o.map f) k := by
  obtain ⟨a, rfl, q⟩ := h; exact ⟨_, rfl, q⟩
theorem go_if_pos {α : Type} {c : Prop} [Decidable c] {x y : Option α} {k : α → Prop} (hc : c) (h : Go x k) : Go (if c then x else y) k := by rwa [if_pos hc]
theorem go_if_neg {α : Type} {c : Prop} [Decidable c] {x y : Option α} {k : α → Prop} (hc : ¬ c) (h : Go y k) : Go (if c then x else y) k := by rwa [if_neg hc]

section expr
variable {Φ : Phi} {n : Nat} {kd : Kd} {ρ : Ro} {k : D → Prop} {kb : Bool → Prop} {kl : List D → Prop}

theorem go_const {c : Const} {a : Nat} {p : Pos} {d : D} (h : constD c = some d) (hk : k d) : Go (evalE Φ (n + 1) kd ρ (.Constant c a p)) k := ⟨d, h, hk⟩
theorem go_name {x : Str} {p : Pos} {d : D} (h : ρ x = some d) (hx : x ≠ Str.ofString "__debug__") (hk : k d) : Go (evalE Φ (n + 1) kd ρ (.Name x p)) k := by
  refine ⟨d, ?_, hk⟩
  show (if _ then _ else _) = _
  rw [if_neg hx, h]
theorem go_bin {l r : Expr} {op : Operator} {p : Pos} (h : Go (evalE Φ n kd ρ l) fun a => Go (evalE Φ n kd ρ r) fun b => Go (binD op a b) k) : Go (evalE Φ (n + 1) kd ρ (.BinOp l op r p)) k :=
  go_bind (h.mono fun _ => go_bind)
theorem go_cmpv {l r : Expr} {op : CmpOp} {p : Pos} (hb : behindInMarks op r = false) (h : Go (evalE Φ n kd ρ l) fun a => Go (evalE Φ n kd ρ r) fun b => Go (cmpD op a b) fun c => k (.bool c)) :
    Go (evalE Φ (n + 1) kd ρ (.Compare l [op] [r] p)) k := by
  show Go (Option.map _ (if behindInMarks op r = true then none else _)) _
  rw [if_neg (by rw [hb]; exact Bool.noConfusion)]
  exact go_map (go_bind (h.mono fun _ h => go_bind h))
theorem go_neg {x : Expr} {p : Pos} {i : Int} (h : evalE Φ n kd ρ x = some (.int i)) (hk : k (.int (-i))) : Go (evalE Φ (n + 1) kd ρ (.UnaryOp .USub x p)) k := by
  refine ⟨_, ?_, hk⟩
  show (evalE Φ n kd ρ x).bind negD = _
  rw [h]; rfl
theorem go_ifx {t b o : Expr} {p : Pos} (h : Go (testE Φ n kd ρ t) fun c => (c = true → Go (evalE Φ n kd ρ b) k) ∧ (c = false → Go (evalE Φ n kd ρ o) k)) : Go (evalE Φ (n + 1) kd ρ (.IfExp t b o p)) k := by
  obtain ⟨c, hc, h1, h2⟩ := h
  refine go_bind ⟨c, hc, ?_⟩
  cases c
  · exact h2 rfl
  · exact h1 rfl
theorem go_evs_nil (hk : kl []) : Go (evs (evalE Φ n) kd ρ []) kl := ⟨[], rfl, hk⟩
theorem go_evs_cons {e : Expr} {r : List Expr} (h : Go (evalE Φ n kd ρ e) fun d => Go (evs (evalE Φ n) kd ρ r) fun ds => kl (d :: ds)) : Go (evs (evalE Φ n) kd ρ (e :: r)) kl := by
  obtain ⟨d, hd, ds, hds, hk⟩ := h
  exact go_bind ⟨d, hd, go_bind ⟨ds, hds, go_some hk⟩⟩
theorem go_list {es : List Expr} {p : Pos} (hs : (es.all noStar && decide (es.length ≤ 1000)) = true) (h : Go (evs (evalE Φ n) kd ρ es) fun ds => k (.list ds)) : Go (evalE Φ (n + 1) kd ρ (.List es p)) k := by
  simp only [Bool.and_eq_true, decide_eq_true_eq] at hs
  show Go (if _ then _ else _) _
  rw [if_pos hs]
  exact go_map h
theorem go_tuple {es : List Expr} {c} {p : Pos} (hs : (es.all noStar && decide (es.length ≤ 1000) && !es.isEmpty) = true) (h : Go (evs (evalE Φ n) kd ρ es) fun ds => k (.tuple ds)) : Go (evalE Φ (n + 1) kd ρ (.Tuple es c p)) k := by
  simp only [Bool.and_eq_true, decide_eq_true_eq, Bool.not_eq_true', List.isEmpty_eq_false_iff] at hs
  show Go (if _ then _ else _) _
  rw [if_pos ⟨hs.1.1, hs.1.2, hs.2⟩]
  exact go_map h
theorem go_opt_none {ko : Option D → Prop} (hk : ko none) : Go (optD (evalE Φ n) kd ρ none) ko := ⟨_, rfl, hk⟩
theorem go_opt_some {ko : Option D → Prop} {e : Expr} (h : Go (evalE Φ n kd ρ e) fun d => ko (some d)) : Go (optD (evalE Φ n) kd ρ (some e)) ko := go_map h
theorem go_slice {x : Str} {p p' p'' : Pos} {lo hi : Option Expr} {d : D} (h : ρ x = some d) (hx : x ≠ Str.ofString "__debug__")
    (hk : Go (optD (evalE Φ n) kd ρ lo) fun a => Go (optD (evalE Φ n) kd ρ hi) fun b => Go (sliceD d a b) k) : Go (evalE Φ (n + 1) kd ρ (.Subscript (.Name x p) (.Slice lo hi none p') p'')) k := by
  show Go (if _ then _ else _) _
  rw [if_neg hx]
  exact go_bind ⟨d, h, go_bind (hk.mono fun _ h => go_bind h)⟩
noncomputable def noSlice : Expr → Bool
  | .Slice .. => false
  | _ => true
theorem subD_plain {ev : Kd → Ro → Expr → Option D} {v s : Expr} (hs : noSlice s = true) : subD ev kd ρ v s = (ev kd ρ v).bind fun a => (ev kd ρ s).bind fun b => itemD a b := by
  cases s <;> first | rfl | exact Bool.noConfusion hs
theorem go_item {v s : Expr} {p : Pos} (hs : noSlice s = true) (h : Go (evalE Φ n kd ρ v) fun a => Go (evalE Φ n kd ρ s) fun b => Go (itemD a b) k) : Go (evalE Φ (n + 1) kd ρ (.Subscript v s p)) k := by
  show Go (subD (evalE Φ n) kd ρ v s) k
  rw [subD_plain hs]
  exact go_bind (h.mono fun _ h => go_bind h)
theorem go_comp {elt iter : Expr} {x : Str} {p : Pos} {sc : Scope} {p' : Pos} (ho : compOk kd sc x = true)
    (h : Go (iterD (evalE Φ n) kd ρ iter) fun ds => ds.length ≤ sizeLine ∧ ds.all scal = true ∧ Go (mapM' (fun d => evalE Φ n (kdIn kd sc) (roIn kd sc ρ x d) elt) ds) fun rs => rs.all scal = true ∧ k (.list rs)) :
    Go (evalE Φ (n + 1) kd ρ (.ListComp elt [⟨.Name x p, iter, [], 0⟩] sc p')) k := by
  obtain ⟨ds, hds, h1, h2, rs, hrs, h3, hk⟩ := h
  show Go (if _ then _ else _) _
  rw [if_pos ho]
  refine go_bind ⟨ds, hds, ?_⟩
  refine go_if_pos ⟨h1, h2⟩ ?_
  exact go_bind ⟨rs, hrs, go_if_pos h3 (go_some hk)⟩
theorem go_meth {o : Expr} {m : Str} {ap p : Pos} {args : List Expr} {me : Me} (hm : meOf m = some me) (hs : ((ap.endLine == p.line) && plainBase o && args.all noStar && decide (args.length ≤ 20)) = true)
    (h : Go (evalE Φ n kd ρ o) fun x => Go (evs (evalE Φ n) kd ρ args) fun ds => Go (methodD me x ds) k) : Go (evalE Φ (n + 1) kd ρ (.Call (.Attribute o m ap) args [] p)) k := by
  simp only [Bool.and_eq_true, decide_eq_true_eq] at hs
  obtain ⟨x, hx, ds, hds, hk⟩ := h
  show Go (if _ then _ else _) _
  rw [if_pos ⟨hs.1.1.1, hs.1.1.2, hs.1.2, hs.2⟩]
  exact go_bind ⟨_, hm, go_bind ⟨_, hx, go_bind ⟨_, hds, hk⟩⟩⟩
theorem go_call {f : Str} {fp p : Pos} {args : List Expr} (hs : (globalName kd f && args.all noStar && !args.isEmpty && decide (args.length ≤ 20)) = true) (hb : biOf f = none)
    (h : Go (evs (evalE Φ n) kd ρ args) fun ds => Go (Φ f ds) k) : Go (evalE Φ (n + 1) kd ρ (.Call (.Name f fp) args [] p)) k := by
  simp only [Bool.and_eq_true, decide_eq_true_eq, Bool.not_eq_true', List.isEmpty_eq_false_iff] at hs
  obtain ⟨ds, hds, hk⟩ := h
  show Go (if _ then _ else _) _
  rw [if_pos ⟨hs.1.1.1, hs.1.1.2, hs.1.2, hs.2⟩]
  refine go_bind ⟨_, hds, ?_⟩
  rw [hb]
  exact hk
theorem go_bi {f : Str} {fp p : Pos} {args : List Expr} {b : Bi} (hs : (globalName kd f && args.all noStar && !args.isEmpty && decide (args.length ≤ 20)) = true) (hb : biOf f = some b)
    (h : Go (evs (evalE Φ n) kd ρ args) fun ds => ds.length = 1 ∧ Go (builtinD b ds) k) : Go (evalE Φ (n + 1) kd ρ (.Call (.Name f fp) args [] p)) k := by
  simp only [Bool.and_eq_true, decide_eq_true_eq, Bool.not_eq_true', List.isEmpty_eq_false_iff] at hs
  obtain ⟨ds, hds, h1, hk⟩ := h
  show Go (if _ then _ else _) _
  rw [if_pos ⟨hs.1.1.1, hs.1.1.2, hs.1.2, hs.2⟩]
  refine go_bind ⟨_, hds, ?_⟩
  rw [hb]
  exact go_if_pos h1 hk

theorem go_range {f : Str} {fp p : Pos} {args : List Expr} (hs : (decide (f = Str.ofString "range") && globalName kd f && args.all noStar && !args.isEmpty) = true)
    (h : Go (evs (evalE Φ n) kd ρ args) fun ds => Go (rangeD ds) kl) : Go (iterD (evalE Φ n) kd ρ (.Call (.Name f fp) args [] p)) kl := by
  simp only [Bool.and_eq_true, decide_eq_true_eq, Bool.not_eq_true', List.isEmpty_eq_false_iff] at hs
  obtain ⟨ds, hds, hk⟩ := h
  show Go (if _ then _ else _) _
  rw [if_pos ⟨hs.1.1.1, hs.1.1.2, hs.1.2, hs.2⟩]
  exact go_bind ⟨_, hds, hk⟩
theorem iterD_plain {ev : Kd → Ro → Expr → Option D} {e : Expr} (hc : noCall e = true) : iterD ev kd ρ e = (ev kd ρ e).bind seqD := by
  cases e <;> first | rfl | exact Bool.noConfusion hc
theorem go_iter_list {e : Expr} {l : List D} (hc : noCall e = true) (h : evalE Φ n kd ρ e = some (.list l)) (hl : l.length ≤ sizeLine) (hk : kl l) : Go (iterD (evalE Φ n) kd ρ e) kl := by
  rw [iterD_plain hc]
  exact go_bind ⟨_, h, go_if_pos hl (go_some hk)⟩
theorem go_iter_tuple {e : Expr} {l : List D} (hc : noCall e = true) (h : evalE Φ n kd ρ e = some (.tuple l)) (hl : l.length ≤ sizeLine) (hk : kl l) : Go (iterD (evalE Φ n) kd ρ e) kl := by
  rw [iterD_plain hc]
  exact go_bind ⟨_, h, go_if_pos hl (go_some hk)⟩
theorem go_iter_str {e : Expr} {l : List Nat} (hc : noCall e = true) (h : evalE Φ n kd ρ e = some (.str l)) (hl : l.length ≤ sizeLine) (hk : kl (l.map fun c => .str [c])) : Go (iterD (evalE Φ n) kd ρ e) kl := by
  rw [iterD_plain hc]
  exact go_bind ⟨_, h, go_if_pos hl (go_some hk)⟩

/-! tests -/
theorem go_not {x : Expr} {p : Pos} (h : Go (testE Φ n kd ρ x) fun b => kb (!b)) : Go (testE Φ (n + 1) kd ρ (.UnaryOp .Not x p)) kb := go_map h
theorem go_boolop {op : BoolOp} {vs : List Expr} {p : Pos} (h : Go (testsD (testE Φ n) kd ρ op vs) kb) : Go (testE Φ (n + 1) kd ρ (.BoolOp op vs p)) kb := h
theorem go_and_nil (h : kb true) : Go (testsD (testE Φ n) kd ρ .And []) kb := ⟨_, rfl, h⟩
theorem go_or_nil (h : kb false) : Go (testsD (testE Φ n) kd ρ .Or []) kb := ⟨_, rfl, h⟩
theorem go_and {x : Expr} {r : List Expr} (h : Go (testE Φ n kd ρ x) fun b => (b = false → kb false) ∧ (b = true → Go (testsD (testE Φ n) kd ρ .And r) kb)) : Go (testsD (testE Φ n) kd ρ .And (x :: r)) kb := by
  obtain ⟨b, hb, h1, h2⟩ := h
  simp only [testsD, hb]
  cases b
  · exact go_some (h1 rfl)
  · exact h2 rfl
theorem go_or {x : Expr} {r : List Expr} (h : Go (testE Φ n kd ρ x) fun b => (b = true → kb true) ∧ (b = false → Go (testsD (testE Φ n) kd ρ .Or r) kb)) : Go (testsD (testE Φ n) kd ρ .Or (x :: r)) kb := by
  obtain ⟨b, hb, h1, h2⟩ := h
  simp only [testsD, hb]
  cases b
  · exact h2 rfl
  · exact go_some (h1 rfl)
theorem go_cmp {l r : Expr} {op : CmpOp} {p : Pos} (hb : behindInMarks op r = false) (h : Go (evalE Φ n kd ρ l) fun a => Go (evalE Φ n kd ρ r) fun b => Go (cmpD op a b) kb) :
    Go (testE Φ (n + 1) kd ρ (.Compare l [op] [r] p)) kb := by
  show Go (if behindInMarks op r = true then none else _) _
  rw [if_neg (by rw [hb]; exact Bool.noConfusion)]
  exact go_bind (h.mono fun _ h => go_bind h)
theorem go_cmp2 {l r r2 : Expr} {op op2 : CmpOp} {p : Pos} (hb : behindInMarks op2 r2 = false)
    (h : Go (evalE Φ n kd ρ l) fun a => Go (evalE Φ n kd ρ r) fun b => Go (cmpD op a b) fun x => (x = false → kb false) ∧ (x = true → Go (evalE Φ n kd ρ r2) fun c => Go (cmpD op2 b c) kb)) :
    Go (testE Φ (n + 1) kd ρ (.Compare l [op, op2] [r, r2] p)) kb := by
  obtain ⟨a, ha, b, hb', x, hx, h1, h2⟩ := h
  show Go (if behindInMarks op2 r2 = true then none else _) _
  rw [if_neg (by rw [hb]; exact Bool.noConfusion)]
  refine go_bind ⟨_, ha, go_bind ⟨_, hb', go_bind ⟨_, hx, ?_⟩⟩⟩
  cases x
  · exact go_some (h1 rfl)
  · exact go_bind (h2 rfl)
theorem go_tcall {f : Expr} {a : List Expr} {ks : List Keyword} {p : Pos} (h : Go (evalE Φ n kd ρ (.Call f a ks p)) fun d => ∃ b, d = .bool b ∧ kb b) : Go (testE Φ (n + 1) kd ρ (.Call f a ks p)) kb := by
  obtain ⟨d, hd, b, rfl, hk⟩ := h
  exact go_bind ⟨_, hd, go_some hk⟩
theorem go_tname {x : Str} {p : Pos} (h : Go (evalE Φ n kd ρ (.Name x p)) fun d => ∃ b, d = .bool b ∧ kb b) : Go (testE Φ (n + 1) kd ρ (.Name x p)) kb := by
  obtain ⟨d, hd, b, rfl, hk⟩ := h
  exact go_bind ⟨_, hd, go_some hk⟩
end expr

/-! loops -/
theorem go_for_nil {body bind} {st : St} {K : Fl × St → Prop} (h : K (.next, st)) : Go (forD body bind [] st) K := ⟨_, rfl, h⟩
theorem go_for_cons {body bind} {d : D} {ds : List D} {st : St} {K : Fl × St → Prop} (h : Go (bind d st) fun st => Go (body st) fun q => match q with | (.next, st) => Go (forD body bind ds st) K | (.ret d, st) => K (.ret d, st)) : Go (forD body bind (d :: ds) st) K := by
  obtain ⟨st1, h1, ⟨f, st2⟩, h2, h3⟩ := h
  simp only [forD, h1, h2]
  cases f with
  | next => exact h3
  | ret d => exact go_some h3
theorem go_while_step {test body} {k : Nat} {st : St} {K : Fl × St → Prop} (h : Go (test st) fun c => (c = false → K (.next, st)) ∧ (c = true → Go (body st) fun q => match q with | (.next, st) => Go (whileD test body k st) K | (.ret d, st) => K (.ret d, st))) : Go (whileD test body (k + 1) st) K := by
  obtain ⟨c, hc, h1, h2⟩ := h
  simp only [whileD, hc]
  cases c
  · exact go_some (h1 rfl)
  · obtain ⟨⟨f, st2⟩, h3, h4⟩ := h2 rfl
    simp only [h3]
    cases f with
    | next => exact h4
    | ret d => exact go_some h4

section stmt
variable {Φ : Phi} {N n W : Nat} {kd : Kd} {st : St} {K : Fl × St → Prop} {r : List Stmt} {p p' p'' : Pos} {x y : Str} {e : Expr}

theorem go_done (h : K (.next, st)) : Go (execB Φ N W (n + 1) kd st []) K := ⟨_, rfl, h⟩
theorem go_step {s : Stmt} (h : Go (stepS Φ N (execB Φ N W n) W kd st s) fun q => match q with | (.next, st) => Go (execB Φ N W n kd st r) K | (.ret d, st) => K (.ret d, st)) : Go (execB Φ N W (n + 1) kd st (s :: r)) K := by
  obtain ⟨⟨f, st'⟩, hq, hk⟩ := h
  unfold execB
  rw [hq]
  cases f with
  | next => exact hk
  | ret d => exact go_some hk
noncomputable def noListE (e : Expr) : Bool := !(listE e)
theorem go_assign_list {es : List Expr} {pl : Pos} (h : Go (evalE Φ N kd (lessL (lookL st.env) (ownAfter st.own (.List es pl))) (.List es pl)) fun d =>
      kd x = some .local ∧ Go (setS kd { st with own := none } x d) fun st' => Go (execB Φ N W n kd { st' with own := some x } r) K) :
    Go (execB Φ N W (n + 1) kd st (.Assign [.Name x p] (.List es pl) p' :: r)) K := by
  obtain ⟨d, hd, hx, st', hs, hk⟩ := h
  refine go_step (go_bind ⟨d, hd, ?_⟩)
  exact go_if_pos rfl (go_if_pos hx (go_map ⟨_, hs, hk⟩))
theorem go_assign (he : noListE e = true) (h : Go (evalE Φ N kd (lessL (lookL st.env) (ownAfter st.own e)) e) fun d =>
      (some x = st.own → Go (setS kd { st with own := none } x d) fun st' => Go (execB Φ N W n kd st' r) K) ∧ (some x ≠ st.own → Go (setS kd (letGo st e) x d) fun st' => Go (execB Φ N W n kd st' r) K)) :
    Go (execB Φ N W (n + 1) kd st (.Assign [.Name x p] e p' :: r)) K := by
  obtain ⟨d, hd, h1, h2⟩ := h
  refine go_step (go_bind ⟨d, hd, go_if_neg (by rw [Bool.not_eq_true]; exact (Bool.not_eq_true' _).mp he) ?_⟩)
  by_cases ho : some x = st.own
  · exact go_if_pos ho (go_map (h1 ho))
  · exact go_if_neg ho (go_map (h2 ho))
theorem go_assign2 {c} (h : Go (evalE Φ N kd (lessL (lookL st.env) (ownAfter st.own e)) e) fun d =>
      (decide (kd x = some .local) && decide (kd y = some .local) && swapOk e) = true ∧ Go (bindName2 kd x y d (letGo st e)) fun st' => Go (execB Φ N W n kd st' r) K) :
    Go (execB Φ N W (n + 1) kd st (.Assign [.Tuple [.Name x p, .Name y p'] c p''] e pos :: r)) K := by
  obtain ⟨d, hd, hc, h⟩ := h
  simp only [Bool.and_eq_true, decide_eq_true_eq] at hc
  exact go_step (go_bind ⟨d, hd, go_if_pos ⟨hc.1.1, hc.1.2, hc.2⟩ (go_map h)⟩)
theorem go_append {m : Str} {ap : Pos} {a : Expr} {l : List D} (hs : ((ap.endLine == p.line) && decide (m = Str.ofString "append") && decide (st.own = some x) && decide (x ≠ Str.ofString "__debug__") && hasL st.env x && noStar a) = true)
    (hl : lookL st.env x = some (.list l)) (hn : l.length ≤ 1000000)
    (h : Go (evalE Φ N kd (lessL (lookL st.env) st.own) a) fun d => Go (execB Φ N W n kd { st with env := setL st.env x (.list (l ++ [d])) } r) K) :
    Go (execB Φ N W (n + 1) kd st (.Expr (.Call (.Attribute (.Name x p'') m ap) [a] [] p) p' :: r)) K := by
  obtain ⟨d, hd, hk⟩ := h
  simp only [Bool.and_eq_true, decide_eq_true_eq] at hs
  refine go_step ?_
  exact go_if_pos ⟨hs.1.1.1.1.1, hs.1.1.1.1.2, hs.1.1.1.2, hs.1.1.2, hs.1.2, hs.2⟩ (go_bind ⟨_, hl, go_bind ⟨_, hd, go_if_pos hn (go_some hk)⟩⟩)
theorem go_ret (h : Go (evalE Φ N kd (lessL (lookL st.env) (ownAfter st.own e)) e) fun d => K (.ret d, st)) : Go (execB Φ N W (n + 1) kd st (.Return (some e) p :: r)) K := by
  obtain ⟨d, hd, hk⟩ := h
  refine go_step ?_
  have hd' : valE Φ N kd (letGo st e) e = some d := hd
  exact ⟨(.ret d, st), by show (valE Φ N kd (letGo st e) e).map _ = _; rw [hd']; rfl, hk⟩
theorem go_if {t : Expr} {b o : List Stmt} (h : Go (testE Φ N kd (lessL (lookL st.env) (ownAfter st.own t)) t) fun c =>
      (c = true → Go (execB Φ N W n kd (letGo st t) b) fun q => match q with | (.next, st) => Go (execB Φ N W n kd st r) K | (.ret d, st) => K (.ret d, st)) ∧
      (c = false → Go (execB Φ N W n kd (letGo st t) o) fun q => match q with | (.next, st) => Go (execB Φ N W n kd st r) K | (.ret d, st) => K (.ret d, st))) :
    Go (execB Φ N W (n + 1) kd st (.If t b o p :: r)) K := by
  obtain ⟨c, hc, h1, h2⟩ := h
  refine go_step ?_
  refine go_bind ⟨c, hc, ?_⟩
  cases c
  · exact h2 rfl
  · exact h1 rfl
theorem go_for {it : Expr} {body : List Stmt} (h : Go (iterD (evalE Φ N) kd (lessL (lookL st.env) (ownAfter st.own it)) it) fun ds => ds.all scal = true ∧
      Go (forD (fun st => execB Φ N W n kd st body) (bindName1 kd x) ds (letGo st it)) fun q => match q with | (.next, st) => Go (execB Φ N W n kd st r) K | (.ret d, st) => K (.ret d, st)) :
    Go (execB Φ N W (n + 1) kd st (.For (.Name x p) it body [] p' :: r)) K := by
  obtain ⟨ds, hds, hs, h⟩ := h
  refine go_step ?_
  exact go_bind ⟨ds, hds, go_if_pos hs h⟩
theorem go_forp {c} {f : Str} {fp cp : Pos} {a : Expr} {body : List Stmt} {l : List D} (hf : (decide (f = Str.ofString "enumerate") && globalName kd f && noStar a && decide (kd x = some .local) && decide (kd y = some .local)) = true)
    (ha : evalE Φ N kd (lessL (lookL st.env) st.own) a = some (.list l)) (hl : l.length ≤ sizeLine) (hs : l.all scal = true)
    (h : Go (forD (fun st => execB Φ N W n kd st body) (bindName2 kd x y) (pairs 0 l) st) fun q => match q with | (.next, st) => Go (execB Φ N W n kd st r) K | (.ret d, st) => K (.ret d, st)) :
    Go (execB Φ N W (n + 1) kd st (.For (.Tuple [.Name x p, .Name y p'] c p'') (.Call (.Name f fp) [a] [] cp) body [] pos :: r)) K := by
  simp only [Bool.and_eq_true, decide_eq_true_eq] at hf
  refine go_step ?_
  refine go_bind ⟨pairs 0 l, ?_, go_if_pos ⟨hf.1.2, hf.2⟩ h⟩
  show (if f = Str.ofString "enumerate" ∧ globalName kd f = true ∧ noStar a = true then (valE Φ N kd st a).bind enumL else none) = _
  have ha' : valE Φ N kd st a = some (.list l) := ha
  rw [if_pos ⟨hf.1.1.1.1, hf.1.1.1.2, hf.1.1.2⟩, ha']
  exact if_pos ⟨hl, hs⟩
theorem go_while {t : Expr} {body : List Stmt} (h : Go (whileD (fun st => testE Φ N kd (lessL (lookL st.env) st.own) t) (fun st => execB Φ N W n kd st body) W st) fun q => match q with | (.next, st) => Go (execB Φ N W n kd st r) K | (.ret d, st) => K (.ret d, st)) :
    Go (execB Φ N W (n + 1) kd st (.While t body [] p :: r)) K := go_step h
theorem go_assign0 {env : Lo} (he : noListE e = true) (h : Go (evalE Φ N kd (lookL env) e) fun d => Go (setS kd ⟨env, none⟩ x d) fun st' => Go (execB Φ N W n kd st' r) K) :
    Go (execB Φ N W (n + 1) kd ⟨env, none⟩ (.Assign [.Name x p] e p' :: r)) K :=
  go_assign he (h.mono fun d hd => And.intro (fun hh => by cases hh) (fun _ => hd))
theorem go_set0 {env : Lo} {d : D} {Q : St → Prop} (hs : (hasL env x && storable kd x) = true) (h : Q ⟨setL env x d, none⟩) : Go (setS kd ⟨env, none⟩ x d) Q := by
  refine go_if_pos ?_ (go_some h)
  rw [hs]
  rfl
theorem go_ret0 {env : Lo} (h : Go (evalE Φ N kd (lookL env) e) fun d => K (.ret d, ⟨env, none⟩)) : Go (execB Φ N W (n + 1) kd ⟨env, none⟩ (.Return (some e) p :: r)) K := go_ret h
theorem go_ift {env : Lo} {t : Expr} {b o : List Stmt} (ht : Go (testE Φ N kd (lookL env) t) (· = true))
    (h : Go (execB Φ N W n kd ⟨env, none⟩ b) fun q => match q with | (.next, st) => Go (execB Φ N W n kd st r) K | (.ret d, st) => K (.ret d, st)) :
    Go (execB Φ N W (n + 1) kd ⟨env, none⟩ (.If t b o p :: r)) K := go_if (ht.mono fun c' hc => And.intro (fun _ => h) (fun hh => by rw [hc] at hh; cases hh))
theorem go_iff {env : Lo} {t : Expr} {b o : List Stmt} (ht : Go (testE Φ N kd (lookL env) t) (· = false))
    (h : Go (execB Φ N W n kd ⟨env, none⟩ o) fun q => match q with | (.next, st) => Go (execB Φ N W n kd st r) K | (.ret d, st) => K (.ret d, st)) :
    Go (execB Φ N W (n + 1) kd ⟨env, none⟩ (.If t b o p :: r)) K := go_if (ht.mono fun c' hc => And.intro (fun hh => by rw [hc] at hh; cases hh) (fun _ => h))
theorem go_ifd {env : Lo} {t : Expr} {b o : List Stmt} (c : Prop) [Decidable c] (ht : Go (testE Φ N kd (lookL env) t) (· = decide c))
    (h1 : c → Go (execB Φ N W n kd ⟨env, none⟩ b) fun q => match q with | (.next, st) => Go (execB Φ N W n kd st r) K | (.ret d, st) => K (.ret d, st))
    (h2 : ¬ c → Go (execB Φ N W n kd ⟨env, none⟩ o) fun q => match q with | (.next, st) => Go (execB Φ N W n kd st r) K | (.ret d, st) => K (.ret d, st)) :
    Go (execB Φ N W (n + 1) kd ⟨env, none⟩ (.If t b o p :: r)) K := by
  by_cases hc : c
  · exact go_ift (ht.mono fun c' h => by rw [h]; exact decide_eq_true hc) (h1 hc)
  · exact go_iff (ht.mono fun c' h => by rw [h]; exact decide_eq_false hc) (h2 hc)
theorem go_ifj {env : Lo} {t : Expr} {b o : List Stmt} (c : Prop) [Decidable c] (P : Fl × St → Prop) (ht : Go (testE Φ N kd (lookL env) t) (· = decide c))
    (h1 : c → Go (execB Φ N W n kd ⟨env, none⟩ b) P) (h2 : ¬ c → Go (execB Φ N W n kd ⟨env, none⟩ o) P)
    (hk : ∀ q, P q → match q with | (.next, st) => Go (execB Φ N W n kd st r) K | (.ret d, st) => K (.ret d, st)) :
    Go (execB Φ N W (n + 1) kd ⟨env, none⟩ (.If t b o p :: r)) K :=
  go_ifd c ht (fun h => (h1 h).mono hk) (fun h => (h2 h).mono hk)
theorem go_for0 {env : Lo} {it : Expr} {body : List Stmt} (h : Go (iterD (evalE Φ N) kd (lookL env) it) fun ds => ds.all scal = true ∧
      Go (forD (fun st => execB Φ N W n kd st body) (bindName1 kd x) ds ⟨env, none⟩) fun q => match q with | (.next, st) => Go (execB Φ N W n kd st r) K | (.ret d, st) => K (.ret d, st)) :
    Go (execB Φ N W (n + 1) kd ⟨env, none⟩ (.For (.Name x p) it body [] p' :: r)) K := go_for h
theorem go_while0 {env : Lo} {t : Expr} {body : List Stmt} (h : Go (whileD (fun st => testE Φ N kd (lessL (lookL st.env) st.own) t) (fun st => execB Φ N W n kd st body) W ⟨env, none⟩) fun q => match q with | (.next, st) => Go (execB Φ N W n kd st r) K | (.ret d, st) => K (.ret d, st)) :
    Go (execB Φ N W (n + 1) kd ⟨env, none⟩ (.While t body [] p :: r)) K := go_while h
theorem go_assign20 {env : Lo} {c} {pos : Pos} (hs : (decide (kd x = some .local) && decide (kd y = some .local) && swapOk e) = true) (h : Go (evalE Φ N kd (lookL env) e) fun d => Go (bindName2 kd x y d ⟨env, none⟩) fun st' => Go (execB Φ N W n kd st' r) K) :
    Go (execB Φ N W (n + 1) kd ⟨env, none⟩ (.Assign [.Tuple [.Name x p, .Name y p'] c p''] e pos :: r)) K := go_assign2 (h.mono fun d hd => And.intro hs hd)
theorem go_bind2 {env : Lo} {a b : D} {Q : St → Prop} (hs : (hasL env x && storable kd x && hasL (setL env x a) y && storable kd y && decide (x ≠ y)) = true) (h : Q ⟨setL (setL env x a) y b, none⟩) : Go (bindName2 kd x y (.tuple [a, b]) ⟨env, none⟩) Q := by
  simp only [Bool.and_eq_true, decide_eq_true_eq] at hs
  unfold bindName2
  simp only [hs.2, if_false]
  have e1 : setS kd ⟨env, none⟩ x a = some ⟨setL env x a, none⟩ := by
    unfold setS
    rw [if_pos (by simp only [hs.1.1.1.1, hs.1.1.1.2]; rfl)]
  rw [e1]
  refine go_if_pos ?_ (go_some h)
  simp only [hs.1.1.2, hs.1.2]
  rfl
/-- a loop, by the state that it carries -/
noncomputable def runL {α σ : Type} (stp : σ → α → σ ⊕ D) : List α → σ → σ ⊕ D
  | [], s => .inl s
  | a :: l, s => match stp s a with
    | .inl s' => runL stp l s'
    | .inr d => .inr d
theorem for_run {α σ : Type} {body bind} (f : α → D) (I : σ → St → Prop) (stp : σ → α → σ ⊕ D)
    (h : ∀ s a st, I s st → Go (bind (f a) st) fun st => Go (body st) fun q => match stp s a with | .inl s' => q.1 = .next ∧ I s' q.2 | .inr d => q.1 = .ret d) :
    ∀ (l : List α) (s : σ) (st : St), I s st → Go (forD body bind (l.map f) st) fun q => match runL stp l s with | .inl s' => q.1 = .next ∧ I s' q.2 | .inr d => q.1 = .ret d
  | [], s, st, hI => ⟨_, rfl, rfl, hI⟩
  | a :: l, s, st, hI => by
    obtain ⟨st1, h1, ⟨fl, st2⟩, h2, h3⟩ := h s a st hI
    simp only [List.map_cons, forD, h1, h2, runL]
    cases hs : stp s a with
    | inl s' =>
      rw [hs] at h3
      obtain ⟨h4, h5⟩ := h3
      simp only at h4
      subst h4
      exact for_run f I stp h l s' st2 h5
    | inr d =>
      rw [hs] at h3
      simp only at h3
      subst h3
      exact ⟨_, rfl, rfl⟩
theorem for_end {α σ : Type} {body bind} {n : Nat} {l : List α} {st : St} (f : α → D) (I : σ → St → Prop) (stp : σ → α → σ ⊕ D) (s : σ) (hI : I s st)
    (h : ∀ s a st, I s st → Go (bind (f a) st) fun st => Go (body st) fun q => match stp s a with | .inl s' => q.1 = .next ∧ I s' q.2 | .inr d => q.1 = .ret d)
    (hn : ∀ s' st', runL stp l s = .inl s' → I s' st' → Go (execB Φ N W n kd st' r) K) (hr : ∀ d st', runL stp l s = .inr d → K (.ret d, st')) :
    Go (forD body bind (l.map f) st) fun q => match q with | (.next, st) => Go (execB Φ N W n kd st r) K | (.ret d, st) => K (.ret d, st) := by
  refine (for_run f I stp h l s st hI).mono fun q hq => ?_
  obtain ⟨fl, st'⟩ := q
  cases hs : runL stp l s with
  | inl s' =>
    rw [hs] at hq
    obtain ⟨h1, h2⟩ := hq
    simp only at h1
    subst h1
    exact hn s' st' hs h2
  | inr d =>
    rw [hs] at hq
    simp only at hq
    subst hq
    exact hr d st' hs
theorem for_runP {α σ : Type} {body bind} (P : α → Prop) (f : α → D) (I : σ → St → Prop) (stp : σ → α → σ ⊕ D)
    (h : ∀ s a st, P a → I s st → Go (bind (f a) st) fun st => Go (body st) fun q => match stp s a with | .inl s' => q.1 = .next ∧ I s' q.2 | .inr d => q.1 = .ret d) :
    ∀ (l : List α) (s : σ) (st : St), (∀ a ∈ l, P a) → I s st → Go (forD body bind (l.map f) st) fun q => match runL stp l s with | .inl s' => q.1 = .next ∧ I s' q.2 | .inr d => q.1 = .ret d
  | [], s, st, _, hI => ⟨_, rfl, rfl, hI⟩
  | a :: l, s, st, hP, hI => by
    obtain ⟨st1, h1, ⟨fl, st2⟩, h2, h3⟩ := h s a st (hP a (.head _)) hI
    simp only [List.map_cons, forD, h1, h2, runL]
    cases hs : stp s a with
    | inl s' =>
      rw [hs] at h3
      obtain ⟨h4, h5⟩ := h3
      simp only at h4
      subst h4
      exact for_runP P f I stp h l s' st2 (fun b hb => hP b (.tail _ hb)) h5
    | inr d =>
      rw [hs] at h3
      simp only at h3
      subst h3
      exact ⟨_, rfl, rfl⟩
theorem for_endP {α σ : Type} {body bind} {n : Nat} {l : List α} {st : St} (P : α → Prop) (hP : ∀ a ∈ l, P a) (f : α → D) (I : σ → St → Prop) (stp : σ → α → σ ⊕ D) (s : σ) (hI : I s st)
    (h : ∀ s a st, P a → I s st → Go (bind (f a) st) fun st => Go (body st) fun q => match stp s a with | .inl s' => q.1 = .next ∧ I s' q.2 | .inr d => q.1 = .ret d)
    (hn : ∀ s' st', runL stp l s = .inl s' → I s' st' → Go (execB Φ N W n kd st' r) K) (hr : ∀ d st', runL stp l s = .inr d → K (.ret d, st')) :
    Go (forD body bind (l.map f) st) fun q => match q with | (.next, st) => Go (execB Φ N W n kd st r) K | (.ret d, st) => K (.ret d, st) := by
  refine (for_runP P f I stp h l s st hP hI).mono fun q hq => ?_
  obtain ⟨fl, st'⟩ := q
  cases hs : runL stp l s with
  | inl s' =>
    rw [hs] at hq
    obtain ⟨h1, h2⟩ := hq
    simp only at h1
    subst h1
    exact hn s' st' hs h2
  | inr d =>
    rw [hs] at hq
    simp only at hq
    subst hq
    exact hr d st' hs
noncomputable def whl {σ : Type} (c : σ → Bool) (stp : σ → σ) : Nat → σ → Option σ
  | 0, _ => none
  | k + 1, s => if c s then whl c stp k (stp s) else some s
theorem while_run {σ : Type} {test : St → Option Bool} {body : St → Option (Fl × St)} (I : σ → St → Prop) (c : σ → Bool) (stp : σ → σ)
    (ht : ∀ s st, I s st → Go (test st) (· = c s)) (hb : ∀ s st, I s st → c s = true → Go (body st) fun q => q.1 = .next ∧ I (stp s) q.2) :
    ∀ (k : Nat) (s s' : σ) (st : St), I s st → whl c stp k s = some s' → Go (whileD test body k st) fun q => q.1 = .next ∧ I s' q.2
  | 0, s, s', st, hI, h => by cases h
  | k + 1, s, s', st, hI, h => by
    refine go_while_step ((ht s st hI).mono fun b hbe => And.intro (fun hf => ?_) (fun htr => ?_))
    · subst hbe
      simp only [whl, hf, Bool.false_eq_true, if_false, Option.some.injEq] at h
      subst h
      exact And.intro rfl hI
    · subst hbe
      simp only [whl, htr, if_true] at h
      refine (hb s st hI htr).mono fun q hq => ?_
      obtain ⟨fl, st'⟩ := q
      obtain ⟨h1, h2⟩ := hq
      simp only at h1
      subst h1
      exact while_run I c stp ht hb k (stp s) s' st' h2 h
theorem while_end {σ : Type} {n k : Nat} {st : St} {test : St → Option Bool} {body : St → Option (Fl × St)} (I : σ → St → Prop) (c : σ → Bool) (stp : σ → σ) (s s' : σ) (hI : I s st) (hw : whl c stp k s = some s')
    (ht : ∀ s st, I s st → Go (test st) (· = c s)) (hb : ∀ s st, I s st → c s = true → Go (body st) fun q => q.1 = .next ∧ I (stp s) q.2)
    (hn : ∀ st', I s' st' → Go (execB Φ N W n kd st' r) K) :
    Go (whileD test body k st) fun q => match q with | (.next, st) => Go (execB Φ N W n kd st r) K | (.ret d, st) => K (.ret d, st) := by
  refine (while_run I c stp ht hb k s s' st hI hw).mono fun q hq => ?_
  obtain ⟨fl, st'⟩ := q
  obtain ⟨h1, h2⟩ := hq
  simp only at h1
  subst h1
  exact hn st' h2
theorem go_own1 {env : Lo} {y : Str} (hm : mentions y e = false) : letGo ⟨env, some y⟩ e = ⟨env, some y⟩ := by
  unfold letGo ownAfter
  simp only [hm, Bool.false_eq_true, if_false]
theorem go_assign1 {env : Lo} {y : Str} (hs : (noListE e && !(mentions y e) && decide (x ≠ y)) = true) (h : Go (evalE Φ N kd (lessL (lookL env) (some y)) e) fun d => Go (setS kd ⟨env, some y⟩ x d) fun st' => Go (execB Φ N W n kd st' r) K) :
    Go (execB Φ N W (n + 1) kd ⟨env, some y⟩ (.Assign [.Name x p] e p' :: r)) K := by
  simp only [Bool.and_eq_true, decide_eq_true_eq, Bool.not_eq_true'] at hs
  have e1 : ownAfter (some y) e = some y := by unfold ownAfter; simp only [hs.1.2, Bool.false_eq_true, if_false]
  refine go_assign hs.1.1 ?_
  rw [go_own1 hs.1.2]
  show Go (evalE Φ N kd (lessL (lookL env) (ownAfter (some y) e)) e) _
  rw [e1]
  exact h.mono fun d hd => And.intro (fun hh => absurd (Option.some.inj hh) hs.2) (fun _ => hd)
theorem go_set1 {env : Lo} {y : Str} {d : D} {Q : St → Prop} (hs : (hasL env x && storable kd x && decide (x ≠ y)) = true) (h : Q ⟨setL env x d, some y⟩) : Go (setS kd ⟨env, some y⟩ x d) Q := by
  simp only [Bool.and_eq_true, decide_eq_true_eq] at hs
  refine go_if_pos ?_ (go_some h)
  have hne : (some x != some y) = true := by simp [hs.2]
  simp only [hs.1.1, hs.1.2, hne]
  rfl
theorem go_bind21 {env : Lo} {o : Str} {a b : D} {Q : St → Prop} (hs : (hasL env x && storable kd x && hasL (setL env x a) y && storable kd y && decide (x ≠ y) && decide (x ≠ o) && decide (y ≠ o)) = true) (h : Q ⟨setL (setL env x a) y b, some o⟩) : Go (bindName2 kd x y (.tuple [a, b]) ⟨env, some o⟩) Q := by
  simp only [Bool.and_eq_true, decide_eq_true_eq] at hs
  unfold bindName2
  simp only [hs.1.1.2, if_false]
  have e1 : setS kd ⟨env, some o⟩ x a = some ⟨setL env x a, some o⟩ := by
    unfold setS
    have hne : (some x != some o) = true := by simp [hs.1.2]
    rw [if_pos (by simp only [hs.1.1.1.1.1.1, hs.1.1.1.1.1.2, hne]; rfl)]
  rw [e1]
  refine go_if_pos ?_ (go_some h)
  have hne : (some y != some o) = true := by simp [hs.2]
  simp only [hs.1.1.1.1.2, hs.1.1.1.2, hne]
  rfl
theorem go_ret1 {env : Lo} {y : Str} (hm : mentions y e = true) (h : Go (evalE Φ N kd (lookL env) e) fun d => K (.ret d, ⟨env, some y⟩)) : Go (execB Φ N W (n + 1) kd ⟨env, some y⟩ (.Return (some e) p :: r)) K := by
  refine go_ret ?_
  have e1 : ownAfter (some y) e = none := by unfold ownAfter; simp only [hm, if_true]
  show Go (evalE Φ N kd (lessL (lookL env) (ownAfter (some y) e)) e) _
  rw [e1]
  exact h
theorem go_ret1n {env : Lo} {y : Str} (hm : mentions y e = false) (h : Go (evalE Φ N kd (lessL (lookL env) (some y)) e) fun d => K (.ret d, ⟨env, some y⟩)) : Go (execB Φ N W (n + 1) kd ⟨env, some y⟩ (.Return (some e) p :: r)) K := by
  refine go_ret ?_
  have e1 : ownAfter (some y) e = some y := by unfold ownAfter; simp only [hm, Bool.false_eq_true, if_false]
  show Go (evalE Φ N kd (lessL (lookL env) (ownAfter (some y) e)) e) _
  rw [e1]
  exact h
theorem go_ift1 {env : Lo} {y : Str} {t : Expr} {b o : List Stmt} (hm : mentions y t = false) (ht : Go (testE Φ N kd (lessL (lookL env) (some y)) t) (· = true))
    (h : Go (execB Φ N W n kd ⟨env, some y⟩ b) fun q => match q with | (.next, st) => Go (execB Φ N W n kd st r) K | (.ret d, st) => K (.ret d, st)) :
    Go (execB Φ N W (n + 1) kd ⟨env, some y⟩ (.If t b o p :: r)) K := by
  refine go_if ?_
  rw [go_own1 hm]
  have e1 : ownAfter (some y) t = some y := by unfold ownAfter; simp only [hm, Bool.false_eq_true, if_false]
  show Go (testE Φ N kd (lessL (lookL env) (ownAfter (some y) t)) t) _
  rw [e1]
  exact ht.mono fun c' hc => And.intro (fun _ => h) (fun hh => by rw [hc] at hh; cases hh)
theorem go_iff1 {env : Lo} {y : Str} {t : Expr} {b o : List Stmt} (hm : mentions y t = false) (ht : Go (testE Φ N kd (lessL (lookL env) (some y)) t) (· = false))
    (h : Go (execB Φ N W n kd ⟨env, some y⟩ o) fun q => match q with | (.next, st) => Go (execB Φ N W n kd st r) K | (.ret d, st) => K (.ret d, st)) :
    Go (execB Φ N W (n + 1) kd ⟨env, some y⟩ (.If t b o p :: r)) K := by
  refine go_if ?_
  rw [go_own1 hm]
  have e1 : ownAfter (some y) t = some y := by unfold ownAfter; simp only [hm, Bool.false_eq_true, if_false]
  show Go (testE Φ N kd (lessL (lookL env) (ownAfter (some y) t)) t) _
  rw [e1]
  exact ht.mono fun c' hc => And.intro (fun hh => by rw [hc] at hh; cases hh) (fun _ => h)
theorem go_append1 {env : Lo} {y : Str} {m : Str} {ap : Pos} {a : Expr} {l : List D} (hs : ((ap.endLine == p.line) && decide (m = Str.ofString "append") && decide (y ≠ Str.ofString "__debug__") && hasL env y && noStar a) = true)
    (hl : lookL env y = some (.list l)) (hn : l.length ≤ 1000000)
    (h : Go (evalE Φ N kd (lessL (lookL env) (some y)) a) fun d => Go (execB Φ N W n kd ⟨setL env y (.list (l ++ [d])), some y⟩ r) K) :
    Go (execB Φ N W (n + 1) kd ⟨env, some y⟩ (.Expr (.Call (.Attribute (.Name y p'') m ap) [a] [] p) p' :: r)) K := by
  simp only [Bool.and_eq_true, decide_eq_true_eq] at hs
  exact go_append (by simp only [hs.1.1.1.1, hs.1.1.1.2, hs.1.1.2, hs.1.2, hs.2, decide_true, ne_eq, not_false_eq_true, Bool.and_self]) hl hn h
theorem go_list0 {env : Lo} {es : List Expr} {pl : Pos} (hs : (decide (kd x = some .local) && hasL env x && storable kd x) = true) (h : Go (evalE Φ N kd (lookL env) (.List es pl)) fun d => Go (execB Φ N W n kd ⟨setL env x d, some x⟩ r) K) :
    Go (execB Φ N W (n + 1) kd ⟨env, none⟩ (.Assign [.Name x p] (.List es pl) p' :: r)) K := by
  simp only [Bool.and_eq_true, decide_eq_true_eq] at hs
  refine go_assign_list (h.mono fun d hd => And.intro hs.1.1 ?_)
  refine go_if_pos ?_ (go_some hd)
  simp only [hs.1.2, hs.2]
  rfl
theorem own_stay {y : Str} (hm : mentions y e = false) : ownAfter (some y) e = some y := by unfold ownAfter; simp only [hm, Bool.false_eq_true, if_false]
theorem own_gone {y : Str} (hm : mentions y e = true) : ownAfter (some y) e = none := by unfold ownAfter; simp only [hm, if_true]
theorem go_for1 {env : Lo} {y : Str} {it : Expr} {body : List Stmt} (hm : mentions y it = false) (h : Go (iterD (evalE Φ N) kd (lessL (lookL env) (some y)) it) fun ds => ds.all scal = true ∧
      Go (forD (fun st => execB Φ N W n kd st body) (bindName1 kd x) ds ⟨env, some y⟩) fun q => match q with | (.next, st) => Go (execB Φ N W n kd st r) K | (.ret d, st) => K (.ret d, st)) :
    Go (execB Φ N W (n + 1) kd ⟨env, some y⟩ (.For (.Name x p) it body [] p' :: r)) K := by
  refine go_for ?_
  show Go (iterD (evalE Φ N) kd (lessL (lookL env) (ownAfter (some y) it)) it) _
  rw [own_stay hm, go_own1 hm]
  exact h
theorem go_assign1m {env : Lo} (hs : (noListE e && mentions x e && hasL env x && storable kd x) = true) (h : Go (evalE Φ N kd (lookL env) e) fun d => Go (execB Φ N W n kd ⟨setL env x d, none⟩ r) K) :
    Go (execB Φ N W (n + 1) kd ⟨env, some x⟩ (.Assign [.Name x p] e p' :: r)) K := by
  simp only [Bool.and_eq_true] at hs
  refine go_assign hs.1.1.1 ?_
  show Go (evalE Φ N kd (lessL (lookL env) (ownAfter (some x) e)) e) _
  rw [own_gone hs.1.1.2]
  refine h.mono fun d hd => And.intro (fun _ => ?_) (fun hh => absurd rfl hh)
  refine go_if_pos ?_ (go_some hd)
  simp only [hs.1.2, hs.2]
  rfl
theorem go_list1 {env : Lo} {y : Str} {es : List Expr} {pl : Pos} (hs : (decide (kd x = some .local) && hasL env x && storable kd x && !(mentions y (.List es pl))) = true) (h : Go (evalE Φ N kd (lessL (lookL env) (some y)) (.List es pl)) fun d => Go (execB Φ N W n kd ⟨setL env x d, some x⟩ r) K) :
    Go (execB Φ N W (n + 1) kd ⟨env, some y⟩ (.Assign [.Name x p] (.List es pl) p' :: r)) K := by
  simp only [Bool.and_eq_true, decide_eq_true_eq, Bool.not_eq_true'] at hs
  refine go_assign_list ?_
  show Go (evalE Φ N kd (lessL (lookL env) (ownAfter (some y) (.List es pl))) (.List es pl)) _
  rw [own_stay hs.2]
  refine h.mono fun d hd => And.intro hs.1.1.1 ?_
  refine go_if_pos ?_ (go_some hd)
  simp only [hs.1.1.2, hs.1.2]
  rfl
theorem go_assign21 {env : Lo} {o : Str} {c} {pos : Pos} (hs : (decide (kd x = some .local) && decide (kd y = some .local) && swapOk e && mentions o e) = true) (h : Go (evalE Φ N kd (lookL env) e) fun d => Go (bindName2 kd x y d ⟨env, none⟩) fun st' => Go (execB Φ N W n kd st' r) K) :
    Go (execB Φ N W (n + 1) kd ⟨env, some o⟩ (.Assign [.Tuple [.Name x p, .Name y p'] c p''] e pos :: r)) K := by
  simp only [Bool.and_eq_true, decide_eq_true_eq] at hs
  refine go_assign2 ?_
  show Go (evalE Φ N kd (lessL (lookL env) (ownAfter (some o) e)) e) _
  have e1 : letGo ⟨env, some o⟩ e = ⟨env, none⟩ := by unfold letGo; rw [own_gone hs.2]
  rw [own_gone hs.2, e1]
  refine h.mono fun d hd => And.intro ?_ hd
  simp only [hs.1.1.1, hs.1.1.2, hs.1.2, decide_true, Bool.and_self]
/-- a loop without a way out, by what is still ahead -/
theorem for_endR {α : Type} {body bind} {n : Nat} {l : List α} {st : St} (f : α → D) (I : List α → St → Prop) (hI : I l st)
    (h : ∀ a r st, I (a :: r) st → Go (bind (f a) st) fun st => Go (body st) fun q => q.1 = .next ∧ I r q.2)
    (hn : ∀ st', I [] st' → Go (execB Φ N W n kd st' r) K) :
    Go (forD body bind (l.map f) st) fun q => match q with | (.next, st) => Go (execB Φ N W n kd st r) K | (.ret d, st) => K (.ret d, st) := by
  induction l generalizing st with
  | nil => exact go_for_nil (hn st hI)
  | cons a l ih =>
    refine go_for_cons ((h a l st hI).mono fun st1 h1 => h1.mono fun q hq => ?_)
    obtain ⟨fl, st2⟩ := q
    obtain ⟨h2, h3⟩ := hq
    simp only at h2
    subst h2
    exact ih h3
theorem go_mapM {α : Type} {f : α → D} {g : D → Option D} {l : List α} {kl : List D → Prop} (rr : α → D) (h : ∀ a ∈ l, Go (g (f a)) (· = rr a)) (hk : kl (l.map rr)) : Go (mapM' g (l.map f)) kl := by
  refine ⟨_, ?_, hk⟩
  clear hk
  induction l with
  | nil => rfl
  | cons a l ih =>
    obtain ⟨d, hd, he⟩ := h a (.head _)
    subst he
    show (g (f a)).bind _ = _
    rw [hd]
    show (mapM' g (l.map f)).bind _ = _
    rw [ih fun b hb => h b (.tail _ hb)]
    rfl
end stmt

theorem call_of {tab : List FnRec} {N W n k : Nat} {f : Str} {args : List D} {r : FnRec} {d : D} (hf : (tab.find? fun r => r.name == f) = some r)
    (hl : (decide (args.length ≤ r.params.length) && decide (r.params.length ≤ args.length + r.dflts.length)) = true)
    (h : Go (execB (callD tab N W n k) N W n (fun x => r.scope.names.lookup x) ⟨bindD r.scope.names (r.params.zip (fillD r.params r.dflts args)), none⟩ r.body) fun q => q.1 = .ret d) :
    callD tab N W n (k + 1) f args = some d := by
  simp only [Bool.and_eq_true, decide_eq_true_eq] at hl
  obtain ⟨⟨f', st⟩, h1, h2⟩ := h
  simp only at h2
  subst h2
  simp only [callD, hf, hl, and_self, if_true, h1]

/-! operators -/
section ops
variable {k : D → Prop} {kb : Bool → Prop}
theorem go_add {a b : Int} (h : k (.int (a + b))) : Go (binD .Add (.int a) (.int b)) k := ⟨_, rfl, h⟩
theorem go_adds {a b : List Nat} (hl : a.length + b.length ≤ sizeLine) (h : k (.str (a ++ b))) : Go (binD .Add (.str a) (.str b)) k := go_if_pos hl (go_some h)
theorem go_addl {a b : List D} (hl : a.length + b.length ≤ sizeLine) (h : k (.list (a ++ b))) : Go (binD .Add (.list a) (.list b)) k := go_if_pos hl (go_some h)
theorem go_sub {a b : Int} (h : k (.int (a - b))) : Go (binD .Sub (.int a) (.int b)) k := ⟨_, rfl, h⟩
theorem go_mul {a b : Int} (hl : (smallBits a || smallBits b) = true) (h : k (.int (a * b))) : Go (binD .Mult (.int a) (.int b)) k := go_if_pos hl (go_some h)
theorem go_muls {a : List Nat} {n : Int} (hl : 0 ≤ n ∧ n ≤ 1000000 ∧ a.length * n.toNat ≤ sizeLine) (h : k (.str (List.replicate n.toNat a).flatten)) : Go (binD .Mult (.str a) (.int n)) k := go_if_pos hl (go_some h)
theorem go_mull {a : List D} {n : Int} (hl : 0 ≤ n ∧ n ≤ 1000000 ∧ a.length * n.toNat ≤ sizeLine) (h : k (.list (List.replicate n.toNat a).flatten)) : Go (binD .Mult (.list a) (.int n)) k := go_if_pos hl (go_some h)
theorem go_div {a b : Int} (hl : b ≠ 0 ∧ b.natAbs < 2 ^ 256) (h : k (.int (a.fdiv b))) : Go (binD .FloorDiv (.int a) (.int b)) k := go_if_pos hl (go_some h)
theorem go_mod {a b : Int} (hl : b ≠ 0) (h : k (.int (a.fmod b))) : Go (binD .Mod (.int a) (.int b)) k := go_if_pos hl (go_some h)
theorem go_pow {a n : Int} (hl : 0 ≤ n ∧ n ≤ 1000000 ∧ a.natAbs < 2 ^ 64) (h : k (.int (a ^ n.toNat))) : Go (binD .Pow (.int a) (.int n)) k := go_if_pos hl (go_some h)
theorem go_shl {a n : Int} (hl : 0 ≤ n ∧ n ≤ 1000000 ∧ a.natAbs < 2 ^ 256) (h : k (.int (a * 2 ^ n.toNat))) : Go (binD .LShift (.int a) (.int n)) k := go_if_pos hl (go_some h)
theorem go_shr {a n : Int} (hl : 0 ≤ n) (h : k (.int (a.fdiv (2 ^ n.toNat)))) : Go (binD .RShift (.int a) (.int n)) k := go_if_pos hl (go_some h)
theorem go_band {a b : Int} (h : k (.int (Builtin.bitAnd a b))) : Go (binD .BitAnd (.int a) (.int b)) k := ⟨_, rfl, h⟩
theorem go_bor {a b : Int} (h : k (.int (Builtin.bitOr a b))) : Go (binD .BitOr (.int a) (.int b)) k := ⟨_, rfl, h⟩
theorem go_eqi {a b : Int} (h : kb (a == b)) : Go (cmpD .Eq (.int a) (.int b)) kb := ⟨_, rfl, h⟩
theorem go_eqs {a b : List Nat} (h : kb (a == b)) : Go (cmpD .Eq (.str a) (.str b)) kb := ⟨_, rfl, h⟩
theorem go_nei {a b : Int} (h : kb (!(a == b))) : Go (cmpD .NotEq (.int a) (.int b)) kb := ⟨_, rfl, h⟩
theorem go_nes {a b : List Nat} (h : kb (!(a == b))) : Go (cmpD .NotEq (.str a) (.str b)) kb := ⟨_, rfl, h⟩
theorem go_lt {a b : Int} (h : kb (decide (a < b))) : Go (cmpD .Lt (.int a) (.int b)) kb := ⟨_, rfl, h⟩
theorem go_le {a b : Int} (h : kb (decide (a ≤ b))) : Go (cmpD .LtE (.int a) (.int b)) kb := ⟨_, rfl, h⟩
theorem go_gt {a b : Int} (h : kb (decide (b < a))) : Go (cmpD .Gt (.int a) (.int b)) kb := ⟨_, rfl, h⟩
theorem go_ge {a b : Int} (h : kb (decide (b ≤ a))) : Go (cmpD .GtE (.int a) (.int b)) kb := ⟨_, rfl, h⟩
theorem go_les {a b : List Nat} (h : kb (!(decide (b < a)))) : Go (cmpD .LtE (.str a) (.str b)) kb := ⟨_, rfl, h⟩
theorem go_in {a b : List Nat} (h : kb (containsL b a)) : Go (cmpD .In (.str a) (.str b)) kb := ⟨_, rfl, h⟩
theorem go_is {a : D} {c : Bool} (hc : cmpIs a .none = some c) (h : kb c) : Go (cmpD .Is a .none) kb := ⟨c, by cases a <;> exact hc, h⟩
theorem go_items {s : List Nat} {i : Int} {c : Nat} (h0 : 0 ≤ i ∧ i < 2 ^ 62) (h : s[i.toNat]? = some c) (hk : k (.str [c])) : Go (itemD (.str s) (.int i)) k := go_if_pos h0 (by rw [h]; exact go_some hk)
theorem go_iteml {s : List D} {i : Int} {d : D} (h0 : 0 ≤ i ∧ i < 2 ^ 62) (h : s[i.toNat]? = some d) (hk : k d) : Go (itemD (.list s) (.int i)) k := go_if_pos h0 (by rw [h]; exact go_some hk)
theorem go_len_s {s : List Nat} (hl : s.length ≤ sizeLine) (h : k (.int s.length)) : ([D.str s].length = 1 ∧ Go (builtinD .len [.str s]) k) := ⟨rfl, go_if_pos hl (go_some h)⟩
theorem go_len_l {s : List D} (hl : s.length ≤ sizeLine) (h : k (.int s.length)) : ([D.list s].length = 1 ∧ Go (builtinD .len [.list s]) k) := ⟨rfl, go_if_pos hl (go_some h)⟩
theorem go_ord {c : Nat} (h : k (.int c)) : ([D.str [c]].length = 1 ∧ Go (builtinD .ord [.str [c]]) k) := ⟨rfl, go_some h⟩
theorem call_of2 {tab : List FnRec} {N W n k : Nat} {f nm : Str} {args : List D} {ps : List Str} {ds : List D} {body : List Stmt} {sc : Scope} {d : D} (env : Lo) (hf : (tab.find? fun r => r.name == f) = some ⟨nm, ps, ds, body, sc⟩)
    (hl : (decide (args.length ≤ ps.length) && decide (ps.length ≤ args.length + ds.length)) = true) (he : bindD sc.names (ps.zip (fillD ps ds args)) = env)
    (h : Go (execB (callD tab N W n k) N W n (fun x => sc.names.lookup x) ⟨env, none⟩ body) fun q => q.1 = .ret d) :
    callD tab N W n (k + 1) f args = some d := call_of hf hl (he ▸ h)
theorem go_str {i : Int} (hl : i.natAbs < 2 ^ 64) (h : k (.str (digitsOf i))) : ([D.int i].length = 1 ∧ Go (builtinD .str [.int i]) k) := ⟨rfl, go_if_pos hl (go_some h)⟩
theorem go_sum {l : List D} {x : List Int} (hl : l.length ≤ sizeLine) (hi : intsOf l = some x) (h : k (.int x.sum)) : ([D.list l].length = 1 ∧ Go (builtinD .sum [.list l]) k) := by
  refine ⟨rfl, go_if_pos hl ?_⟩
  rw [hi]
  exact go_some h
theorem go_joinL {x : List Nat} {ds : List D} (h : Go (strsOf ds) fun l => (l.map List.length).sum + l.length * x.length ≤ sizeLine ∧ k (.str (joinL x l))) : Go (methodD .join (.str x) [.list ds]) k := by
  obtain ⟨l, hl, h1, h2⟩ := h
  exact go_bind ⟨l, hl, go_if_pos h1 (go_some h2)⟩
theorem go_find {x y : List Nat} {k : D → Prop} (h : k (.int (findL x y))) : Go (methodD .find (.str x) [.str y]) k := ⟨_, rfl, h⟩
theorem go_split {x y : List Nat} {k : D → Prop} (hl : x.length ≤ 1000000) (hy : y.length ≠ 0) (h : k (.list ((splitL x y).map .str))) : Go (methodD .split (.str x) [.str y]) k :=
  go_if_neg (by omega) (go_some h)
theorem strsOf_map : ∀ l : List (List Nat), strsOf (l.map .str) = some l
  | [] => rfl
  | a :: l => by simp [strsOf, strsOf_map l]
theorem go_join {x : List Nat} {l : List (List Nat)} {k : D → Prop} (hl : (l.map List.length).sum + l.length * x.length ≤ sizeLine) (h : k (.str (joinL x l))) : Go (methodD .join (.str x) [.list (l.map .str)]) k := 
  go_joinL ⟨l, strsOf_map l, hl, h⟩
theorem go_sls {s : List Nat} {lo hi : Option D} {a b : Nat} (hl : s.length ≤ sizeLine) (ha : boundD 0 lo = some a) (hb : boundD s.length hi = some b) (h : k (.str (sliceL s a b))) : Go (sliceD (.str s) lo hi) k := by
  refine go_if_pos hl ?_
  rw [ha, hb]
  exact ⟨_, rfl, h⟩
theorem go_sll {s : List D} {lo hi : Option D} {a b : Nat} (hl : s.length ≤ sizeLine) (ha : boundD 0 lo = some a) (hb : boundD s.length hi = some b) (h : k (.list (sliceL s a b))) : Go (sliceD (.list s) lo hi) k := by
  refine go_if_pos hl ?_
  rw [ha, hb]
  exact ⟨_, rfl, h⟩
theorem bound_nat {d n : Nat} (h : n < 2 ^ 62) : boundD d (some (.int (n : Int))) = some n := by
  have e : ∀ i : Int, boundD d (some (.int i)) = if 0 ≤ i ∧ i < 2 ^ 62 then some i.toNat else none := fun _ => rfl
  rw [e]
  have h0 : 0 ≤ (n : Int) ∧ (n : Int) < 2 ^ 62 := by omega
  simp only [h0, and_self, if_true, Int.toNat_natCast]
theorem go_upper {x : List Nat} {k : D → Prop} (hl : x.length ≤ 1000000) (h : k (.str (upperL x))) : Go (methodD .upper (.str x) []) k := go_if_pos hl (go_some h)
theorem go_is' {a : D} (h : Go (cmpIs a .none) kb) : Go (cmpD .Is a .none) kb := let ⟨c, hc, hk⟩ := h; go_is hc hk
end ops
section
variable {Φ : Phi} {n : Nat} {kd : Kd} {ρ : Ro} {k : D → Prop} {kb : Bool → Prop} {kl : List D → Prop}
theorem go_const' {c : Const} {a : Nat} {p : Pos} (h : Go (constD c) k) : Go (evalE Φ (n + 1) kd ρ (.Constant c a p)) k := h
theorem go_name' {x : Str} {p : Pos} (hx : x ≠ Str.ofString "__debug__") (h : Go (ρ x) k) : Go (evalE Φ (n + 1) kd ρ (.Name x p)) k := let ⟨_, h, hk⟩ := h; go_name h hx hk
theorem go_bi' {f : Str} {fp p : Pos} {args : List Expr} (hs : (globalName kd f && args.all noStar && !args.isEmpty && decide (args.length ≤ 20)) = true)
    (h : Go (biOf f) fun b => Go (evs (evalE Φ n) kd ρ args) fun ds => ds.length = 1 ∧ Go (builtinD b ds) k) : Go (evalE Φ (n + 1) kd ρ (.Call (.Name f fp) args [] p)) k := let ⟨_, hb, hk⟩ := h; go_bi hs hb hk
theorem go_meth' {o : Expr} {m : Str} {ap p : Pos} {args : List Expr} (hs : ((ap.endLine == p.line) && plainBase o && args.all noStar && decide (args.length ≤ 20)) = true)
    (h : Go (meOf m) fun me => Go (evalE Φ n kd ρ o) fun x => Go (evs (evalE Φ n) kd ρ args) fun ds => Go (methodD me x ds) k) : Go (evalE Φ (n + 1) kd ρ (.Call (.Attribute o m ap) args [] p)) k := let ⟨_, hb, hk⟩ := h; go_meth hb hs hk
theorem go_neg' {x : Expr} {p : Pos} (h : Go (evalE Φ n kd ρ x) fun d => ∃ i, d = .int i ∧ k (.int (-i))) : Go (evalE Φ (n + 1) kd ρ (.UnaryOp .USub x p)) k := by
  obtain ⟨d, hd, i, rfl, hk⟩ := h
  exact go_neg hd hk
theorem go_slice' {x : Str} {p p' p'' : Pos} {lo hi : Option Expr} (hx : x ≠ Str.ofString "__debug__")
    (hk : Go (ρ x) fun d => Go (optD (evalE Φ n) kd ρ lo) fun a => Go (optD (evalE Φ n) kd ρ hi) fun b => Go (sliceD d a b) k) : Go (evalE Φ (n + 1) kd ρ (.Subscript (.Name x p) (.Slice lo hi none p') p'')) k := let ⟨_, hb, hk⟩ := hk; go_slice hb hx hk
theorem go_iterT {e : Expr} (hc : noCall e = true) (h : Go (evalE Φ n kd ρ e) fun d => ∃ l, d = .tuple l ∧ l.length ≤ sizeLine ∧ kl l) : Go (iterD (evalE Φ n) kd ρ e) kl := by
  obtain ⟨d, hd, l, rfl, h1, h2⟩ := h
  exact go_iter_tuple hc hd h1 h2
theorem go_iterL {e : Expr} (hc : noCall e = true) (h : Go (evalE Φ n kd ρ e) fun d => ∃ l, d = .list l ∧ l.length ≤ sizeLine ∧ kl l) : Go (iterD (evalE Φ n) kd ρ e) kl := by
  obtain ⟨d, hd, l, rfl, h1, h2⟩ := h
  exact go_iter_list hc hd h1 h2
theorem go_mm_nil {g : D → Option D} (h : kl []) : Go (mapM' g []) kl := ⟨_, rfl, h⟩
theorem go_mm_cons {g : D → Option D} {a : D} {r : List D} (h : Go (g a) fun b => Go (mapM' g r) fun bs => kl (b :: bs)) : Go (mapM' g (a :: r)) kl := by
  obtain ⟨b, hb, bs, hbs, hk⟩ := h
  exact go_bind ⟨b, hb, go_bind ⟨bs, hbs, go_some hk⟩⟩
end
end Mine.G

open PySem PySem.W PyProof.Rows
namespace Mine.G
noncomputable def T0 : List FnRec := fns PySem.Challenge.pw_pf0338_01
theorem sizeLine_eq : sizeLine = 16777216 := by decide
/-- a whole number, or none -/
noncomputable def oI : Option Nat → D
  | none => .none
  | some i => .int i
end Mine.G
open Mine Mine.G
local macro_rules | `(tactic| walk_at "gd") => `(tactic| first | rfl | decide | omega | (simp only [List.length_map]; omega))
local macro_rules | `(tactic| walk_at "go1") => `(tactic| first
  | ((with_reducible refine go_name' ?_ ?_); (· decide); refine go_of rfl ?_)
  | ((with_reducible first | refine go_const' ?_ | refine go_is' ?_); refine go_of rfl ?_)
  | ((with_reducible refine go_call ?_ ?_ ?_); (· exact rfl); (· exact rfl))
  | ((with_reducible first | refine go_bi' ?_ ?_ | refine go_meth' ?_ ?_ | refine go_slice' ?_ ?_); (· (first | exact rfl | decide)); refine go_of rfl ?_)
  | (with_reducible first | refine go_evs_cons ?_ | refine go_evs_nil ?_ | refine go_bin ?_ | refine go_add ?_ | refine go_sub ?_ | refine go_band ?_ | refine go_bor ?_ | refine go_eqi ?_ | refine go_eqs ?_ | refine go_nei ?_ | refine go_nes ?_ | refine go_lt ?_ | refine go_le ?_ | refine go_gt ?_ | refine go_ge ?_ | refine go_les ?_ | refine go_in ?_ | refine go_opt_none ?_ | refine go_opt_some ?_ | refine go_ifx ?_ | refine go_not ?_ | refine go_boolop ?_ | refine go_and ?_ | refine go_or ?_ | refine go_and_nil ?_ | refine go_or_nil ?_ | refine go_tname ?_ | refine go_tcall ?_ | refine go_done ?_ | refine go_ret0 ?_ | refine go_mm_nil ?_ | refine go_mm_cons ?_ | refine go_ord ?_)
  | ((with_reducible first | refine go_cmp ?_ ?_ | refine go_cmp2 ?_ ?_ | refine go_cmpv ?_ ?_ | refine go_item ?_ ?_ | refine go_list ?_ ?_ | refine go_tuple ?_ ?_ | refine go_comp ?_ ?_ | refine go_range ?_ ?_ | refine go_assign20 ?_ ?_ | refine go_bind2 ?_ ?_ | refine go_assign0 ?_ ?_ | refine go_set0 ?_ ?_ | refine go_assign1 ?_ ?_ | refine go_set1 ?_ ?_ | refine go_ret1 ?_ ?_ | refine go_bind21 ?_ ?_ | refine go_assign21 ?_ ?_); (· exact rfl))
  | ((with_reducible first | refine go_list0 ?_ ?_ | refine go_list1 ?_ ?_ | refine go_ret1n ?_ ?_ | refine go_assign1m ?_ ?_); (· exact rfl))
  | ((with_reducible first | refine go_div ?_ ?_ | refine go_mod ?_ ?_ | refine go_pow ?_ ?_ | refine go_shl ?_ ?_ | refine go_shr ?_ ?_ | refine go_adds ?_ ?_ | refine go_addl ?_ ?_ | refine go_muls ?_ ?_ | refine go_mull ?_ ?_ | refine go_len_s ?_ ?_ | refine go_len_l ?_ ?_); (· walk_at "gd"))
  | ((with_reducible refine go_mul ?_ ?_); (· (first | rfl | (rw [Bool.or_eq_true]; (first | (left; rfl) | (right; rfl) | (left; decide) | (right; decide))))))
  | ((with_reducible refine go_neg' ?_); walk_at "go1"; refine go_of rfl ?_))
local macro_rules | `(tactic| walk_at "go") => `(tactic| ((repeat walk_at "go1"); try dsimp only))
namespace Mine.G
noncomputable abbrev S := Str.ofString
noncomputable def decNum : List Nat → Nat → Option Nat
  | [], a => some a
  | c :: r, a => if 48 ≤ c ∧ c ≤ 57 then decNum r (a * 10 + (c - 48)) else none
noncomputable def decOf (t : List Nat) (m : Nat) : Option Nat :=
  if t = [] ∨ 3 < t.length ∨ (t.head? = some 48 ∧ t ≠ [48]) then none else
  match decNum t 0 with
  | none => none
  | some v => if v ≤ m then some v else none

noncomputable def decStp (a : Nat) (c : Nat) : Nat ⊕ D := if 48 ≤ c ∧ c ≤ 57 then .inl (a * 10 + (c - 48)) else .inr .none
theorem decStp_run : ∀ (t : List Nat) (a : Nat), runL decStp t a = match decNum t a with | some v => .inl v | none => .inr .none
  | [], a => rfl
  | c :: r, a => by
    unfold runL decNum decStp
    by_cases h : 48 ≤ c ∧ c ≤ 57
    · simp only [h, and_self, if_true]
      exact decStp_run r _
    · simp only [h, if_false]
theorem scal_chars (t : List Nat) : (t.map fun c => D.str [c]).all scal = true := by
  induction t <;> simp_all [scal]
theorem le_one {a b : Nat} : (!decide (([b] : List Nat) < [a])) = decide (a ≤ b) := by
  have : ([b] < [a]) ↔ b < a := by simp [List.cons_lt_cons_iff]
  by_cases h : a ≤ b
  · have h' : ¬ b < a := by omega
    simp [this, h]
  · have h' : b < a := by omega
    simp [this, h']

theorem decimal_spec (k : Nat) (t : List Nat) (m : Nat) (ht : t.length ≤ sizeLine) : callD T0 12 200 40 (k+1) (S "decimal_of") [.str t, .int m] = some (oI (decOf t m)) := by
  refine call_of2 [(S "text", some (.str t)), (S "most", some (.int m)), (S "number", none), (S "sign", none)] rfl rfl rfl ?_
  have e0 : ofStr (S "") = [] := rfl
  have e1 : ofStr (S "0") = [48] := rfl
  have e9 : ofStr (S "9") = [57] := rfl
  refine go_ifd (t = [] ∨ 3 < t.length ∨ (t.head? = some 48 ∧ t ≠ [48])) ?_ (fun hc => ?_) (fun hc => ?_)
  · generalize hb : decide (t = [] ∨ 3 < t.length ∨ (t.head? = some 48 ∧ t ≠ [48])) = b
    replace hb := hb.symm
    walk_at "go"
    refine ⟨fun h => ?_, fun h => ?_⟩
    · rw [e0] at h
      subst hb
      simp at h
      simp [h]
    walk_at "go"
    refine ⟨fun h => ?_, fun h => ?_⟩
    · subst hb
      simp only [decide_eq_true_eq] at h
      have : 3 < t.length := by omega
      simp [this]
    walk_at "go"
    have hne : t ≠ [] := by rintro rfl; rw [e0] at *; simp at *
    obtain ⟨c, r, rfl⟩ : ∃ c r, t = c :: r := by cases t with | nil => exact absurd rfl hne | cons c r => exact ⟨c, r, rfl⟩
    refine go_items (by decide) (c := c) rfl ?_
    walk_at "go"
    rw [e1]
    have h3 : ¬ 3 < (c :: r).length := by
      simp only [decide_eq_false_iff_not] at h
      omega
    subst hb
    simp only [hne, h3, false_or, List.head?_cons, Option.some.injEq]
    refine ⟨fun h => ?_, fun h => ?_⟩
    · refine ⟨fun hh => Bool.noConfusion hh, fun _ => ?_⟩
      walk_at "go"
      have : c ≠ 48 := by simpa using h
      simp [this]
    · walk_at "go"
      have : c = 48 := by simpa using h
      subst this
      rw [e1]
      refine ⟨fun h => ?_, fun h => ?_⟩
      · refine ⟨fun hh => Bool.noConfusion hh, fun _ => ?_⟩
        walk_at "go"
        have : r = [] := by simpa using h
        simp [this]
      · walk_at "go"
        refine ⟨fun _ => ?_, fun hh => Bool.noConfusion hh⟩
        have : r ≠ [] := by simpa using h
        simp [this]
  · walk_at "go"
    simp only [decOf, if_pos hc]; rfl
  · walk_at "go"
    refine go_for0 (go_iter_str rfl rfl ht ⟨scal_chars t, ?_⟩)
    refine for_end _ (fun (a : Nat) st => ∃ o : Option D, st = ⟨[(S "text", some (.str t)), (S "most", some (.int m)), (S "number", some (.int a)), (S "sign", o)], none⟩) decStp 0 ⟨none, rfl⟩ ?_ ?_ ?_
    · rintro a c _ ⟨o, rfl⟩
      refine go_set0 rfl ?_
      show Go (execB _ _ _ _ _ ⟨[(S "text", some (.str t)), (S "most", some (.int m)), (S "number", some (.int a)), (S "sign", some (.str [c]))], none⟩ _) _
      by_cases h : 48 ≤ c ∧ c ≤ 57
      · refine go_iff ?_ ?_
        · walk_at "go"
          rw [e1]
          refine ⟨fun hh => ?_, fun hh => ?_⟩
          · rw [le_one] at hh; simp at hh; omega
          · walk_at "go"
            rw [e9, le_one]
            simp [h.2]
        · walk_at "go"
          rw [e1]
          walk_at "go"
          have hs : decStp a c = .inl (a * 10 + (c - 48)) := if_pos h
          rw [hs]
          refine ⟨rfl, some (D.str [c]), ?_⟩
          have : ((a : Int) * 10 + c - 48) = ((a * 10 + (c - 48) : Nat) : Int) := by omega
          show St.mk [_, _, (_, some (.int ((a : Int) * 10 + c - 48))), _] _ = _
          rw [this]
      · refine go_ift ?_ ?_
        · walk_at "go"
          rw [e1]
          refine ⟨fun hh => rfl, fun hh => ?_⟩
          walk_at "go"
          rw [e9, le_one]
          rw [le_one] at hh
          simp at hh
          simp
          omega
        · walk_at "go"
          simp only [decStp, h, if_false]
    · rintro a _ hrun ⟨o, rfl⟩
      rw [decStp_run] at hrun
      have hn : decNum t 0 = some a := by
        cases hd : decNum t 0 with
        | none => rw [hd] at hrun; cases hrun
        | some v => rw [hd] at hrun; cases hrun; rfl
      walk_at "go"
      simp only [decOf, if_neg hc, hn]
      refine ⟨fun h => ?_, fun h => ?_⟩
      · walk_at "go"
        have : a ≤ m := by simpa using h
        simp [this, oI]
      · walk_at "go"
        have : ¬ a ≤ m := by simpa using h
        simp [this, oI]
    · intro d _ hrun
      rw [decStp_run] at hrun
      simp only [decOf, if_neg hc]
      cases hd : decNum t 0 with
      | none => rw [hd] at hrun; cases hrun; rfl
      | some v => rw [hd] at hrun; cases hrun
end Mine.G
namespace Mine.G
noncomputable def hexv (c : Nat) : Option Nat := if 48 ≤ c ∧ c ≤ 57 then some (c - 48) else if 97 ≤ c ∧ c ≤ 102 then some (c - 87) else if 65 ≤ c ∧ c ≤ 70 then some (c - 55) else none
noncomputable def hexNum : List Nat → Nat → Option Nat
  | [], a => some a
  | c :: r, a => match hexv c with
    | some v => hexNum r (a * 16 + v)
    | none => none
noncomputable def hexStp (a : Nat) (c : Nat) : Nat ⊕ D := match hexv c with | some v => .inl (a * 16 + v) | none => .inr .none
theorem hexStp_run : ∀ (t : List Nat) (a v : Nat), hexNum t a = some v → runL hexStp t a = .inl v
  | [], a, v, h => by cases h; rfl
  | c :: r, a, v, h => by
    unfold hexNum at h
    unfold runL hexStp
    cases hc : hexv c with
    | none => rw [hc] at h; cases h
    | some x =>
      rw [hc] at h
      exact hexStp_run r _ _ h
theorem hexNum_all : ∀ (t : List Nat) (a v : Nat), hexNum t a = some v → ∀ c ∈ t, ∃ v, hexv c = some v
  | [], a, v, h, c, hc => by cases hc
  | d :: r, a, v, h, c, hc => by
    unfold hexNum at h
    cases hd : hexv d with
    | none => rw [hd] at h; cases h
    | some x =>
      rw [hd] at h
      cases hc with
      | head => exact ⟨x, hd⟩
      | tail _ hc => exact hexNum_all r _ v h c hc
noncomputable def marks22 : List Nat := [48,49,50,51,52,53,54,55,56,57,97,98,99,100,101,102,65,66,67,68,69,70]
theorem marks22_eq : ofStr (S "0123456789abcdefABCDEF") = marks22 := rfl
theorem place_hex {c v : Nat} (h : hexv c = some v) : 0 ≤ findL marks22 [c] ∧ (if findL marks22 [c] < 16 then findL marks22 [c] else findL marks22 [c] - 6) = (v : Int) := by
  have hc : c < 103 := by
    unfold hexv at h
    split at h
    · omega
    · split at h
      · omega
      · split at h
        · omega
        · cases h
  have : ∀ c < 103, ∀ v < 16, hexv c = some v → 0 ≤ findL marks22 [c] ∧ (if findL marks22 [c] < 16 then findL marks22 [c] else findL marks22 [c] - 6) = (v : Int) := by decide +kernel
  refine this c hc v ?_ h
  unfold hexv at h
  split at h
  · cases h; omega
  · split at h
    · cases h; omega
    · split at h
      · cases h; omega
      · cases h
theorem hex_spec (k : Nat) (t : List Nat) (v : Nat) (h1 : 1 ≤ t.length) (h4 : t.length ≤ 4) (hv : hexNum t 0 = some v) : callD T0 12 200 40 (k+1) (S "hex_of") [.str t, .int 4] = some (.int v) := by
  have hsz := sizeLine_eq
  refine call_of2 [(S "text", some (.str t)), (S "most", some (.int 4)), (S "number", none), (S "sign", none), (S "place", none)] rfl rfl rfl ?_
  refine go_iff ?_ ?_
  · walk_at "go"
    refine ⟨fun h => ?_, fun _ => ?_⟩
    · simp at h; omega
    · walk_at "go"
      simp; omega
  walk_at "go"
  refine go_for0 (go_iter_str rfl rfl (by omega) ⟨scal_chars t, ?_⟩)
  refine for_endP (fun c => ∃ v, hexv c = some v) (hexNum_all t 0 v hv) _ (fun (a : Nat) st => ∃ o p : Option D, st = ⟨[(S "text", some (.str t)), (S "most", some (.int 4)), (S "number", some (.int a)), (S "sign", o), (S "place", p)], none⟩) hexStp 0 ⟨none, none, rfl⟩ ?_ ?_ ?_
  · rintro a c _ ⟨x, hx⟩ ⟨o, p, rfl⟩
    obtain ⟨p0, p1⟩ := place_hex hx
    refine go_set0 rfl ?_
    show Go (execB _ _ _ _ _ ⟨[(S "text", some (.str t)), (S "most", some (.int 4)), (S "number", some (.int a)), (S "sign", some (.str [c])), (S "place", p)], none⟩ _) _
    walk_at "go"
    refine go_find ?_
    rw [marks22_eq]
    walk_at "go"
    have hs : hexStp a c = .inl (a * 16 + x) := by unfold hexStp; rw [hx]
    refine go_iff ?_ ?_
    · walk_at "go"
      simp; omega
    · walk_at "go"
      rw [hs]
      refine ⟨fun h => ?_, fun h => ?_⟩
      · walk_at "go"
        simp only [decide_eq_true_eq] at h
        rw [if_pos h] at p1
        refine ⟨rfl, some (D.str [c]), some (D.int (findL marks22 [c])), ?_⟩
        have : ((a : Int) * 16 + findL marks22 [c]) = ((a * 16 + x : Nat) : Int) := by omega
        show St.mk [_, _, (_, some (.int ((a : Int) * 16 + findL marks22 [c]))), _, _] _ = _
        rw [this]
      · walk_at "go"
        simp only [decide_eq_false_iff_not] at h
        rw [if_neg h] at p1
        refine ⟨rfl, some (D.str [c]), some (D.int (findL marks22 [c])), ?_⟩
        have : ((a : Int) * 16 + (findL marks22 [c] - 6)) = ((a * 16 + x : Nat) : Int) := by omega
        show St.mk [_, _, (_, some (.int ((a : Int) * 16 + (findL marks22 [c] - 6)))), _, _] _ = _
        rw [this]
  · rintro a _ hrun ⟨o, p, rfl⟩
    rw [hexStp_run t 0 v hv] at hrun
    cases hrun
    walk_at "go"
  · intro d _ hrun
    rw [hexStp_run t 0 v hv] at hrun
    cases hrun
end Mine.G
namespace Mine.G
noncomputable def hexc (x : Nat) : Nat := if x < 10 then 48 + x else 87 + x
noncomputable def marks16 : List Nat := [48,49,50,51,52,53,54,55,56,57,97,98,99,100,101,102]
theorem marks16_eq : ofStr (S "0123456789abcdef") = marks16 := rfl
theorem marks16_get {x : Nat} (h : x < 16) : marks16[x]? = some (hexc x) := by
  have : ∀ x < 16, marks16[x]? = some (hexc x) := by decide
  exact this x h
theorem band15 (n : Nat) : Builtin.bitAnd (n : Int) 15 = ((n % 16 : Nat) : Int) := by
  rw [bitAnd_pp (by omega) (by decide)]
  have h : (n : Int).toNat &&& (15 : Int).toNat = n % 16 := Nat.and_two_pow_sub_one_eq_mod n 4
  rw [h]
noncomputable def htC (s : Nat × List Nat) : Bool := decide (0 < s.1) || decide (s.2.length < 1)
noncomputable def htS (s : Nat × List Nat) : Nat × List Nat := (s.1 / 16, hexc (s.1 % 16) :: s.2)
theorem fdiv_pow (n m : Nat) : (n : Int).fdiv (2 ^ m) = ((n / 2 ^ m : Nat) : Int) := by
  have e : ((2 : Int) ^ m) = ((2 ^ m : Nat) : Int) := by simp
  rw [e]; exact (Int.ofNat_fdiv _ _).symm
/-- the sixteen-bit number of four signs -/
noncomputable def val4 (a b c d : Nat) : Nat := ((a * 16 + b) * 16 + c) * 16 + d
noncomputable def bare4 (a b c d : Nat) : List Nat := if a = 0 then (if b = 0 then (if c = 0 then [hexc d] else [hexc c, hexc d]) else [hexc b, hexc c, hexc d]) else [hexc a, hexc b, hexc c, hexc d]
theorem ht_step {f n : Nat} {acc : List Nat} (h : 0 < n ∨ acc = []) : whl htC htS (f + 1) (n, acc) = whl htC htS f (n / 16, hexc (n % 16) :: acc) := by
  refine if_pos ?_
  rcases h with h | rfl
  · show (decide (0 < n) || _) = true
    rw [decide_eq_true h]; rfl
  · exact Bool.or_true _
theorem ht_stop {f c : Nat} {acc : List Nat} : whl htC htS (f + 1) (0, c :: acc) = some (0, c :: acc) := rfl
theorem dv {p q : Nat} (h : q < 16) : (p * 16 + q) / 16 = p ∧ (p * 16 + q) % 16 = q := by omega
theorem ht_run {a b c d : Nat} (ha : a < 16) (hb : b < 16) (hc : c < 16) (hd : d < 16) : ∃ z, whl htC htS 200 (val4 a b c d, []) = some (z, bare4 a b c d) := by
  refine ⟨0, ?_⟩
  unfold val4 bare4
  rw [ht_step (.inr rfl), (dv hd).1, (dv hd).2]
  by_cases h1 : a = 0
  · subst h1
    rw [if_pos rfl, Nat.zero_mul, Nat.zero_add]
    by_cases h2 : b = 0
    · subst h2
      rw [if_pos rfl, Nat.zero_mul, Nat.zero_add]
      by_cases h3 : c = 0
      · subst h3
        rw [if_pos rfl]
        exact ht_stop
      · rw [if_neg h3, ht_step (.inl (Nat.pos_of_ne_zero h3)), Nat.div_eq_of_lt hc, Nat.mod_eq_of_lt hc]
        exact ht_stop
    · rw [if_neg h2, ht_step (.inl (by omega)), (dv hc).1, (dv hc).2, ht_step (.inl (Nat.pos_of_ne_zero h2)), Nat.div_eq_of_lt hb, Nat.mod_eq_of_lt hb]
      exact ht_stop
  · rw [if_neg h1, ht_step (.inl (by omega)), (dv hc).1, (dv hc).2, ht_step (.inl (by omega)), (dv hb).1, (dv hb).2, ht_step (.inl (Nat.pos_of_ne_zero h1)), Nat.div_eq_of_lt ha, Nat.mod_eq_of_lt ha]
    exact ht_stop
theorem hext_spec (k : Nat) {a b c d : Nat} (ha : a < 16) (hb : b < 16) (hc : c < 16) (hd : d < 16) : callD T0 12 200 40 (k+1) (S "hex_text") [.int (val4 a b c d)] = some (.str (bare4 a b c d)) := by
  have hsz := sizeLine_eq
  obtain ⟨z, hz⟩ := ht_run ha hb hc hd
  refine call_of2 [(S "number", some (.int (val4 a b c d))), (S "least", some (.int 1)), (S "digits", none)] rfl rfl rfl ?_
  walk_at "go"
  refine go_while0 ?_
  have hv : val4 a b c d < 65536 := by unfold val4; omega
  generalize val4 a b c d = n at *
  refine while_end (fun (s : Nat × List Nat) st => s.2.length + s.1 ≤ 70000 ∧ st = ⟨[(S "number", some (.int s.1)), (S "least", some (.int 1)), (S "digits", some (.str s.2))], none⟩) htC htS (n, []) (z, bare4 a b c d) ⟨by simp; omega, rfl⟩ hz ?_ ?_ ?_
  · rintro ⟨n, acc⟩ _ ⟨hl, rfl⟩
    dsimp only at hl
    walk_at "go"
    refine ⟨fun h => ?_, fun h => ?_⟩
    · simp only [decide_eq_true_eq] at h
      simp [htC]; omega
    · walk_at "go"
      simp only [decide_eq_false_iff_not] at h
      refine ⟨fun h1 => ?_, fun h1 => ?_⟩
      · simp only [decide_eq_true_eq] at h1
        have h2 : acc.length < 1 := by omega
        simp only [htC, h2, decide_true, Bool.or_true]
      · walk_at "go"
        simp only [decide_eq_false_iff_not] at h1
        have h2 : ¬ acc.length < 1 := by omega
        have h3 : ¬ 0 < n := by omega
        simp only [htC, h2, h3, decide_false, Bool.or_false]
  · rintro ⟨n, acc⟩ _ ⟨hl, rfl⟩ hc
    simp only [htC, Bool.or_eq_true, decide_eq_true_eq] at hc
    dsimp only at hl
    walk_at "go"
    rw [band15, marks16_eq]
    refine go_items (by omega) (marks16_get (Nat.mod_lt _ (by decide))) ?_
    walk_at "go"
    refine go_adds (by rw [List.length_singleton]; omega) ?_
    walk_at "go"
    rw [show ((4 : Int)).toNat = 4 from rfl, fdiv_pow]
    refine And.intro rfl (And.intro ?_ ?_)
    · simp only [htS, List.length_cons]; omega
    · rfl
  · rintro _ ⟨hl, rfl⟩
    walk_at "go"
end Mine.G
namespace Mine.G
noncomputable def ip4Parts : List (List Nat) → Nat → Option Nat
  | [], a => some a
  | p :: r, a => match decOf p 255 with
    | none => none
    | some v => ip4Parts r (a * 256 + v)
noncomputable def ip4V (t : List Nat) : Option Nat := if (splitL t [46]).length ≠ 4 then none else ip4Parts (splitL t [46]) 0
noncomputable def ip4Stp (a : Nat) (p : List Nat) : Nat ⊕ D := match decOf p 255 with | none => .inr .none | some v => .inl (a * 256 + v)
theorem ip4Stp_run : ∀ (t : List (List Nat)) (a : Nat), runL ip4Stp t a = match ip4Parts t a with | some v => .inl v | none => .inr .none
  | [], a => rfl
  | c :: r, a => by
    unfold runL ip4Parts ip4Stp
    cases decOf c 255 with
    | none => rfl
    | some v => exact ip4Stp_run r _
theorem scal_strs (t : List (List Nat)) : (t.map D.str).all scal = true := by
  induction t <;> simp_all [scal]
theorem ip4_spec (k : Nat) (t : List Nat) (ht : t.length ≤ 1000000) (hp : ∀ p ∈ splitL t [46], p.length ≤ sizeLine) (hn : (splitL t [46]).length ≤ 1000000) : callD T0 12 200 40 (k+2) (S "ip4_of") [.str t] = some (oI (ip4V t)) := by
  have hsz := sizeLine_eq
  refine call_of2 [(S "text", some (.str t)), (S "parts", none), (S "number", none), (S "part", none), (S "octet", none)] rfl rfl rfl ?_
  have e1 : ofStr (S ".") = [46] := rfl
  walk_at "go"
  rw [e1]
  refine go_split ht (by decide) ?_
  walk_at "go"
  refine go_ifd ((splitL t [46]).length ≠ 4) ?_ (fun hc => ?_) (fun hc => ?_)
  · walk_at "go"
    rw [List.length_map]
    by_cases h : (splitL t [46]).length = 4
    · simp [h]
    · simp [h]; omega
  · walk_at "go"
    simp only [ip4V, if_pos hc]; rfl
  · walk_at "go"
    refine go_for0 (go_iter_list rfl rfl (by rw [List.length_map]; omega) ⟨scal_strs _, ?_⟩)
    refine for_endP (fun p => p.length ≤ sizeLine) hp _ (fun (a : Nat) st => ∃ o p : Option D, st = ⟨[(S "text", some (.str t)), (S "parts", some (.list ((splitL t [46]).map .str))), (S "number", some (.int a)), (S "part", o), (S "octet", p)], none⟩) ip4Stp 0 ⟨none, none, rfl⟩ ?_ ?_ ?_
    · rintro a c _ hlc ⟨o, p, rfl⟩
      refine go_set0 rfl ?_
      walk_at "go"
      refine go_of (decimal_spec k c 255 hlc) ?_
      walk_at "go"
      cases hd : decOf c 255 with
      | none =>
        refine go_ift ?_ ?_
        · walk_at "go"
        · walk_at "go"
          simp only [ip4Stp, hd]
      | some v =>
        dsimp only [oI]
        refine go_iff ?_ ?_
        · walk_at "go"
        · walk_at "go"
          have hs : ip4Stp a c = .inl (a * 256 + v) := by simp only [ip4Stp, hd]
          rw [hs]
          exact ⟨rfl, _, _, rfl⟩
    · rintro a _ hrun ⟨o, p, rfl⟩
      rw [ip4Stp_run] at hrun
      walk_at "go"
      simp only [ip4V, if_neg hc]
      cases hd : ip4Parts (splitL t [46]) 0 with
      | none => rw [hd] at hrun; cases hrun
      | some v => rw [hd] at hrun; cases hrun; rfl
    · intro d _ hrun
      rw [ip4Stp_run] at hrun
      simp only [ip4V, if_neg hc]
      cases hd : ip4Parts (splitL t [46]) 0 with
      | none => rw [hd] at hrun; cases hrun; rfl
      | some v => rw [hd] at hrun; cases hrun
end Mine.G
namespace Mine.G
theorem digits_ok : ∀ i < 256, (digitsOf (Int.ofNat i)).length ≤ 3 ∧ digitsOf (Int.ofNat i) ≠ [] ∧ (digitsOf (Int.ofNat i)).all (fun c => decide (48 ≤ c ∧ c ≤ 57)) = true ∧
   ((digitsOf (Int.ofNat i)).head? ≠ some 48 ∨ digitsOf (Int.ofNat i) = [48]) ∧ decNum (digitsOf (Int.ofNat i)) 0 = some i := by decide +kernel
end Mine.G
namespace Mine.G
theorem band255 (n : Nat) : Builtin.bitAnd (n : Int) 255 = ((n % 256 : Nat) : Int) := by
  rw [bitAnd_pp (by omega) (by decide)]
  have h : (n : Int).toNat &&& (255 : Int).toNat = n % 256 := Nat.and_two_pow_sub_one_eq_mod n 8
  rw [h]
theorem band65535 (n : Nat) : Builtin.bitAnd (n : Int) 65535 = ((n % 65536 : Nat) : Int) := by
  rw [bitAnd_pp (by omega) (by decide)]
  have h : (n : Int).toNat &&& (65535 : Int).toNat = n % 65536 := Nat.and_two_pow_sub_one_eq_mod n 16
  rw [h]
theorem band32 (n : Nat) : Builtin.bitAnd (n : Int) 4294967295 = ((n % 4294967296 : Nat) : Int) := by
  rw [bitAnd_pp (by omega) (by decide)]
  have h : (n : Int).toNat &&& (4294967295 : Int).toNat = n % 4294967296 := Nat.and_two_pow_sub_one_eq_mod n 32
  rw [h]
theorem digits_len {i : Nat} (h : i < 256) : (digitsOf (i : Int)).length ≤ 3 := (digits_ok i h).1
noncomputable def dot4 (a b c d : Nat) : List Nat := joinL [46] [digitsOf (a : Int), digitsOf (b : Int), digitsOf (c : Int), digitsOf (d : Int)]
noncomputable def dotN (n : Nat) : List Nat := dot4 (n / 2 ^ 24 % 256) (n / 2 ^ 16 % 256) (n / 2 ^ 8 % 256) (n / 2 ^ 0 % 256)
theorem ip4t_spec (k n : Nat) : callD T0 12 200 40 (k+1) (S "ip4_text") [.int n] = some (.str (dotN n)) := by
  have hsz := sizeLine_eq
  have e1 : ofStr (S ".") = [46] := rfl
  refine call_of2 [(S "number", some (.int n))] rfl rfl rfl ?_
  walk_at "go"
  refine go_iterT rfl ?_
  walk_at "go"
  refine ⟨_, rfl, by simp only [List.length_cons, List.length_nil]; omega, by simp only [List.length_cons, List.length_nil]; omega, rfl, ?_⟩
  have t24 : ((24 : Int)).toNat = 24 := rfl
  have t16 : ((16 : Int)).toNat = 16 := rfl
  have t8 : ((8 : Int)).toNat = 8 := rfl
  have t0 : ((0 : Int)).toNat = 0 := rfl
  walk_at "go"
  rw [t24, fdiv_pow, band255]
  refine go_str (by omega) ?_
  walk_at "go"
  rw [t16, fdiv_pow, band255]
  refine go_str (by omega) ?_
  walk_at "go"
  rw [t8, fdiv_pow, band255]
  refine go_str (by omega) ?_
  walk_at "go"
  rw [t0, fdiv_pow, band255]
  refine go_str (by lia) ?_
  walk_at "go"
  refine ⟨rfl, ?_⟩
  walk_at "go"
  refine go_joinL (go_of rfl ⟨?_, ?_⟩)
  · have h1 := digits_len (Nat.mod_lt (n / 2 ^ 24) (show 0 < 256 by decide))
    have h2 := digits_len (Nat.mod_lt (n / 2 ^ 16) (show 0 < 256 by decide))
    have h3 := digits_len (Nat.mod_lt (n / 2 ^ 8) (show 0 < 256 by decide))
    have h4 := digits_len (Nat.mod_lt (n / 2 ^ 0) (show 0 < 256 by decide))
    rw [e1]
    simp only [List.map_cons, List.map_nil, List.sum_cons, List.sum_nil, List.length_cons, List.length_nil]
    omega
  · rw [e1]; rfl

noncomputable def maskN (L B : Nat) : Nat := 2 ^ B - 2 ^ (B - L)
theorem mask_spec (k L B : Nat) (hL : L ≤ B) (hB : B ≤ 200) : callD T0 12 200 40 (k+1) (S "mask_of") [.int L, .int B] = some (.int (maskN L B)) := by
  refine call_of2 [(S "length", some (.int L)), (S "bits", some (.int B))] rfl rfl rfl ?_
  walk_at "go"
  have e1 : ((B : Int) - L).toNat = B - L := by omega
  have e2 : (B : Int).toNat = B := by omega
  have h : 2 ^ (B - L) ≤ 2 ^ B := Nat.pow_le_pow_right (by decide) (by omega)
  rw [e1, e2]
  unfold maskN
  have : ((1 : Int) * 2 ^ B - 1 * 2 ^ (B - L)) = ((2 ^ B - 2 ^ (B - L) : Nat) : Int) := by
    rw [Int.ofNat_sub h]; simp
  rw [this]
theorem band_nat (a b : Nat) : Builtin.bitAnd (a : Int) (b : Int) = ((a &&& b : Nat) : Int) := by
  rw [bitAnd_pp (by omega) (by omega)]
  simp
theorem and_mask {n B m : Nat} (hn : n < 2 ^ B) (hm : m ≤ B) : n &&& (2 ^ B - 2 ^ m) = n / 2 ^ m * 2 ^ m := by
  apply Nat.eq_of_testBit_eq
  intro i
  have e : 2 ^ B - 2 ^ m = (2 ^ (B - m) - 1) <<< m := by
    rw [Nat.shiftLeft_eq, Nat.sub_mul, ← Nat.pow_add, Nat.sub_add_cancel hm, Nat.one_mul]
  have e2 : n / 2 ^ m * 2 ^ m = (n >>> m) <<< m := by rw [Nat.shiftLeft_eq, Nat.shiftRight_eq_div_pow]
  rw [e, e2, Nat.testBit_and, Nat.testBit_shiftLeft, Nat.testBit_shiftLeft, Nat.testBit_two_pow_sub_one, Nat.testBit_shiftRight]
  by_cases h : m ≤ i
  · have e3 : m + (i - m) = i := by omega
    rw [e3]
    by_cases h2 : i < B
    · have : i - m < B - m := by omega
      simp [h, this]
    · have : n.testBit i = false := Nat.testBit_lt_two_pow (Nat.lt_of_lt_of_le hn (Nat.pow_le_pow_right (by decide) (by omega)))
      simp [this]
  · simp [h]
noncomputable def lowN (n L B : Nat) : Nat := n / 2 ^ (B - L) * 2 ^ (B - L)
theorem pspan_spec (k n L B : Nat) (hL : L ≤ B) (hB : B ≤ 200) (hn : n < 2 ^ B) : callD T0 12 200 40 (k+2) (S "prefix_span") [.int n, .int L, .int B] = some (.tuple [.int (lowN n L B), .int (lowN n L B + 2 ^ (B - L) - 1 : Nat)]) := by
  refine call_of2 [(S "base", some (.int n)), (S "length", some (.int L)), (S "bits", some (.int B)), (S "low", none)] rfl rfl rfl ?_
  walk_at "go"
  refine go_of (mask_spec k L B hL hB) ?_
  walk_at "go"
  have e1 : ((B : Int) - L).toNat = B - L := by omega
  rw [e1, band_nat, maskN, and_mask hn (by omega)]
  have h : 0 < 2 ^ (B - L) := Nat.two_pow_pos _
  have : ((n / 2 ^ (B - L) * 2 ^ (B - L) : Nat) : Int) + 1 * 2 ^ (B - L) - 1 = ((lowN n L B + 2 ^ (B - L) - 1 : Nat) : Int) := by
    unfold lowN
    rw [Int.ofNat_sub (by omega)]; simp
  rw [this]
  rfl
noncomputable def spC (s : Nat × Nat) : Bool := decide (1 < s.1)
noncomputable def spS (s : Nat × Nat) : Nat × Nat := (s.1 / 2, s.2 - 1)
theorem sp_run : ∀ (m f b : Nat), m < f → whl spC spS f (2 ^ m, b) = some (1, b - m)
  | 0, 0, b, h => by omega
  | 0, f + 1, b, _ => by simp [whl, spC]
  | m + 1, 0, b, h => by lia
  | m + 1, f + 1, b, h => by
    have h1 : 0 < 2 ^ m := Nat.two_pow_pos _
    have h2 : spC (2 ^ (m + 1), b) = true := by
      have h3 : 1 < 2 ^ m * 2 := Nat.lt_of_lt_of_le (by decide : 1 < 1 * 2) (Nat.mul_le_mul_right 2 h1)
      exact decide_eq_true (by rw [Nat.pow_succ]; exact h3)
    rw [whl, if_pos h2]
    have h3 : spS (2 ^ (m + 1), b) = (2 ^ m, b - 1) := by simp only [spS, Nat.pow_succ, Nat.mul_div_cancel _ (show 0 < 2 by decide)]
    rw [h3, sp_run m f (b - 1) (by omega)]
    congr 2
    lia
noncomputable def spnE (v0 v1 v2 v3 v4 : Option D) : Lo := [(S "low", v0), (S "high", v1), (S "bits", v2), (S "size", v3), (S "length", v4)]
theorem span_spec (k lo m B : Nat) (hm : m ≤ B) (hB : B ≤ 150) (hd : lo % 2 ^ m = 0) (hh : lo + 2 ^ m - 1 < 2 ^ B) :
    callD T0 12 200 40 (k+1) (S "span_prefix") [.int lo, .int (lo + 2 ^ m - 1 : Nat), .int B] = some (.int (B - m : Nat)) := by
  have hpos : 0 < 2 ^ m := Nat.two_pow_pos _
  refine call_of2 (spnE (some (.int lo)) (some (.int (lo + 2 ^ m - 1 : Nat))) (some (.int B)) none none) rfl rfl rfl ?_
  walk_at "go"
  have e1 : ((lo + 2 ^ m - 1 : Nat) : Int) - lo + 1 = ((2 ^ m : Nat) : Int) := by rw [Int.ofNat_sub (by omega)]; simp; lia
  rw [e1]
  refine go_iff ?_ ?_
  · walk_at "go"
    refine ⟨fun h => ?_, fun _ => ?_⟩
    · simp only [decide_eq_true_eq] at h; omega
    walk_at "go"
    have e2 : Builtin.bitAnd ((2 ^ m : Nat) : Int) (((2 ^ m : Nat) : Int) - 1) = 0 := by
      have : (((2 ^ m : Nat) : Int) - 1) = ((2 ^ m - 1 : Nat) : Int) := by rw [Int.ofNat_sub hpos]; simp
      rw [this, band_nat, Nat.and_two_pow_sub_one_eq_mod, Nat.mod_self]
      rfl
    rw [e2]
    refine ⟨fun h => ?_, fun _ => ?_⟩
    · simp at h
    walk_at "go"
    have e3 : ((lo : Int)).fmod ((2 ^ m : Nat) : Int) = 0 := by
      rw [← Int.ofNat_fmod, hd]; rfl
    rw [e3]
    refine ⟨fun h => ?_, fun _ => ?_⟩
    · simp at h
    walk_at "go"
    have e4 : ((B : Int)).toNat = B := by omega
    rw [e4, fdiv_pow, Nat.div_eq_of_lt hh]
    refine ⟨fun h => ?_, fun _ => ?_⟩
    · simp at h
    walk_at "go"
  walk_at "go"
  refine go_while0 ?_
  refine while_end (fun (s : Nat × Nat) st => 1 ≤ s.1 ∧ s.1 ≤ 2 ^ s.2 ∧ st = ⟨(spnE (some (.int lo)) (some (.int (lo + 2 ^ m - 1 : Nat))) (some (.int B)) (some (.int s.1)) (some (.int s.2))), none⟩) spC spS (2 ^ m, B) (1, B - m)
    ⟨hpos, Nat.pow_le_pow_right (by decide) hm, rfl⟩ (sp_run m 200 B (by omega)) ?_ ?_ ?_
  · rintro ⟨n, b⟩ _ ⟨h1, h2, rfl⟩
    walk_at "go"
    simp [spC]
    omega
  · rintro ⟨n, b⟩ _ ⟨h1, h2, rfl⟩ hc
    dsimp only at h1 h2
    simp only [spC, decide_eq_true_eq] at hc
    walk_at "go"
    have hb : 1 ≤ b := by
      cases b with
      | zero => simp at h2; omega
      | succ b => lia
    refine And.intro rfl (And.intro ?_ (And.intro ?_ ?_))
    · show 1 ≤ n / 2
      omega
    · show n / 2 ≤ 2 ^ (b - 1)
      have : 2 ^ b = 2 * 2 ^ (b - 1) := by
        obtain ⟨b', rfl⟩ : ∃ b', b = b' + 1 := ⟨b - 1, by omega⟩
        rw [Nat.pow_succ]; simp; lia
      omega
    · have e5 : ((b : Int) - 1) = ((b - 1 : Nat) : Int) := by omega
      rw [show ((1 : Int)).toNat = 1 from rfl, fdiv_pow, e5]
      rfl
  · rintro _ ⟨h1, h2, rfl⟩
    walk_at "go"
end Mine.G
namespace Mine.G
theorem go_rng1 {n : Nat} {kl : List D → Prop} (h : n < 2 ^ 20) (hk : kl ((List.range n).map fun (k : Nat) => D.int k)) : Go (rangeD [.int (n : Int)]) kl := by
  refine go_if_pos (by simpa using h) (go_some ?_)
  have : rangeUp 0 (n : Int) = (List.range n).map fun (k : Nat) => D.int k := by
    unfold rangeUp
    rw [Int.sub_zero, Int.toNat_natCast]
    congr 1
    funext k
    rw [Int.zero_add]
  rw [this]
  exact hk
theorem scal_ints (l : List Nat) : (l.map fun (k : Nat) => D.int k).all scal = true := by
  induction l <;> simp_all [scal]
theorem scal_intf (l : List Nat) (f : Nat → Int) : (l.map fun (k : Nat) => D.int (f k)).all scal = true := by
  induction l <;> simp_all [scal]
theorem intsOf_map (l : List Nat) (f : Nat → Int) : intsOf (l.map fun (k : Nat) => D.int (f k)) = some (l.map f) := by
  induction l <;> simp_all [intsOf]

/-- the sign of the script at a spot -/
noncomputable def penV (ns : List Int) (i : Nat) : Nat := if h : i < ns.length then (ns[i].emod (2 ^ 140)).toNat else 0
theorem penV_lt (ns : List Int) (i : Nat) : penV ns i < 2 ^ 140 := by
  unfold penV
  split
  · rename_i h
    have h1 := Int.emod_lt_of_pos ns[i] (show (0 : Int) < 2 ^ 140 by decide)
    have h2 := Int.emod_nonneg ns[i] (show (2 ^ 140 : Int) ≠ 0 by decide)
    have e : ns[i].emod (2 ^ 140) = ns[i] % 2 ^ 140 := rfl
    rw [e]
    lia
  · decide
theorem pen_spec (k : Nat) (ns : List Int) (i : Nat) (hn : ns.length ≤ 63) : callD T0 12 200 40 (k+1) (S "_law_pen") [.list (ns.map .int), .int i] = some (.int (penV ns i)) := by
  have hsz := sizeLine_eq
  refine call_of2 [(S "script", some (.list (ns.map .int))), (S "spot", some (.int i))] rfl rfl rfl ?_
  walk_at "go"
  rw [List.length_map]
  refine ⟨fun h => ?_, fun h => ?_⟩
  · simp only [decide_eq_true_eq] at h
    have h' : i < ns.length := by omega
    walk_at "go"
    refine go_iteml (d := .int ns[i]) (by omega) (by rw [Int.toNat_natCast, List.getElem?_map, List.getElem?_eq_getElem h']; rfl) ?_
    walk_at "go"
    unfold penV
    rw [dif_pos h']
    have e : ns[i].fmod (2 ^ (140 : Int).toNat) = ((ns[i].emod (2 ^ 140)).toNat : Int) := by
      have h2 := Int.emod_nonneg ns[i] (show (2 ^ 140 : Int) ≠ 0 by decide)
      have e1 : (140 : Int).toNat = 140 := rfl
      rw [e1, Int.fmod_eq_emod_of_nonneg _ (by decide)]
      have e : ns[i].emod (2 ^ 140) = ns[i] % 2 ^ 140 := rfl
      rw [e]
      lia
    rw [e]
  · simp only [decide_eq_false_iff_not] at h
    have h' : ¬ i < ns.length := by omega
    walk_at "go"
    unfold penV
    rw [dif_neg h']
    rfl

noncomputable def chars (xs : List Nat) : List Nat := xs.map hexc
/-- signs of base sixteen -/
noncomputable def Nib (xs : List Nat) : Prop := ∀ x ∈ xs, x < 16
noncomputable def num : List Nat → Nat
  | [] => 0
  | x :: r => x * 16 ^ r.length + num r
theorem find16 {x : Nat} (h : x < 16) : findL marks16 [hexc x] = (x : Int) := by
  have : ∀ x < 16, findL marks16 [hexc x] = (Int.ofNat x) := by decide +kernel
  exact this x h
theorem num_sum : ∀ xs : List Nat, ((List.range xs.length).map fun k => ((xs.getD k 0 : Nat) : Int) * 16 ^ (xs.length - 1 - k)).sum = (num xs : Int)
  | [] => rfl
  | x :: r => by
    rw [List.length_cons, List.range_succ_eq_map, List.map_cons, List.sum_cons, List.map_map]
    have ih := num_sum r
    have e : ((fun k => (((x :: r).getD k 0 : Nat) : Int) * 16 ^ (r.length + 1 - 1 - k)) ∘ Nat.succ) = fun k => ((r.getD k 0 : Nat) : Int) * 16 ^ (r.length - 1 - k) := by
      funext k
      have : r.length - (k + 1) = r.length - 1 - k := by lia
      simp [Function.comp, this]
    rw [e, ih]
    simp [num]
theorem num_lt : ∀ xs : List Nat, Nib xs → num xs < 16 ^ xs.length
  | [], _ => by decide
  | x :: r, h => by
    have h1 := num_lt r fun y hy => h y (.tail _ hy)
    have h2 := h x (.head _)
    simp only [num, List.length_cons, Nat.pow_succ]
    have : x * 16 ^ r.length + 16 ^ r.length ≤ 16 * 16 ^ r.length := by
      have := Nat.mul_le_mul_right (16 ^ r.length) (show x + 1 ≤ 16 by omega)
      rw [Nat.add_mul, Nat.one_mul] at this
      exact this
    omega
theorem number_spec (k : Nat) (xs : List Nat) (hx : Nib xs) (hn : xs.length ≤ 32) : callD T0 12 200 40 (k+1) (S "_law_number") [.str (chars xs)] = some (.int (num xs)) := by
  have hsz := sizeLine_eq
  have hcl : (chars xs).length = xs.length := List.length_map _
  refine call_of2 [(S "digits", some (.str (chars xs))), (S "size", none)] rfl rfl rfl ?_
  walk_at "go"
  rw [hcl]
  walk_at "go"
  refine go_rng1 (by omega) ?_
  refine ⟨by rw [List.length_map, List.length_range]; omega, scal_ints _, ?_⟩
  refine go_mapM (fun k => .int (((xs.getD k 0 : Nat) : Int) * 16 ^ (xs.length - 1 - k))) ?_ ?_
  · intro i hi
    rw [List.mem_range] at hi
    walk_at "go"
    have hg : (chars xs)[i]? = some (hexc (xs.getD i 0)) := by
      unfold chars
      rw [List.getElem?_map, List.getElem?_eq_getElem hi]
      simp [List.getD_eq_getElem?_getD, hi]
    have hxi : xs.getD i 0 < 16 := by
      have : xs.getD i 0 = xs[i] := by simp [List.getD_eq_getElem?_getD, hi]
      rw [this]
      exact hx _ (List.getElem_mem hi)
    refine go_items (by omega) (by rw [Int.toNat_natCast]; exact hg) ?_
    walk_at "go"
    refine go_find ?_
    rw [marks16_eq, find16 hxi]
    walk_at "go"
    have e : ((xs.length : Int) - 1 - i).toNat = xs.length - 1 - i := by omega
    refine go_mul ?_ ?_
    · rw [Bool.or_eq_true]
      left
      have : ∀ x < 16, smallBits (Int.ofNat x) = true := by decide
      exact this _ hxi
    · rw [e]
  · refine ⟨scal_intf _ _, ?_⟩
    walk_at "go"
    refine go_sum (by rw [List.length_map, List.length_range]; omega) (intsOf_map _ _) ?_
    rw [num_sum]
end Mine.G
namespace Mine.G
/-- the digits, cut at a length: 'fill' stands behind -/
noncomputable def cutL (xs : List Nat) (L : Nat) (up : Nat) (fill : Nat) : List Nat :=
  if L / 4 = xs.length then xs else
    xs.take (L / 4) ++ [xs.getD (L / 4) 0 / 2 ^ (4 - L % 4) * 2 ^ (4 - L % 4) + up * (2 ^ (4 - L % 4) - 1)] ++ List.replicate (xs.length - 1 - L / 4) fill
noncomputable def cut0 (xs : List Nat) (L : Nat) := cutL xs L 0 0
noncomputable def cutF (xs : List Nat) (L : Nat) := cutL xs L 1 15
theorem chars_append (a b : List Nat) : chars (a ++ b) = chars a ++ chars b := List.map_append
theorem chars_take (a : List Nat) (n : Nat) : chars (a.take n) = (chars a).take n := List.map_take
theorem chars_length (a : List Nat) : (chars a).length = a.length := List.length_map _
theorem chars_get {a : List Nat} {i : Nat} (h : i < a.length) : (chars a)[i]? = some (hexc (a.getD i 0)) := by
  unfold chars
  rw [List.getElem?_map, List.getElem?_eq_getElem h]
  simp [List.getD_eq_getElem?_getD, h]
theorem nib_getD {xs : List Nat} (hx : Nib xs) (i : Nat) : xs.getD i 0 < 16 := by
  by_cases h : i < xs.length
  · have : xs.getD i 0 = xs[i] := by simp [List.getD_eq_getElem?_getD, h]
    rw [this]
    exact hx _ (List.getElem_mem h)
  · have : xs.getD i 0 = 0 := by simp [List.getD_eq_getElem?_getD, h]
    omega
theorem cut_digit {x j : Nat} (hx : x < 16) (hj : j < 4) : x / 2 ^ (4 - j) * 2 ^ (4 - j) + 1 * (2 ^ (4 - j) - 1) < 16 ∧ x / 2 ^ (4 - j) * 2 ^ (4 - j) + 0 * (2 ^ (4 - j) - 1) < 16 := by
  have : ∀ x < 16, ∀ j < 4, x / 2 ^ (4 - j) * 2 ^ (4 - j) + 1 * (2 ^ (4 - j) - 1) < 16 ∧ x / 2 ^ (4 - j) * 2 ^ (4 - j) + 0 * (2 ^ (4 - j) - 1) < 16 := by decide
  exact this x hx j hj
theorem flat_rep (n c : Nat) : (List.replicate n [c]).flatten = List.replicate n c := by
  induction n with
  | zero => rfl
  | succ n ih => simp [List.replicate_succ, ih]
theorem chars_rep (n x : Nat) : chars (List.replicate n x) = List.replicate n (hexc x) := by simp [chars]
noncomputable def cuE (v0 v1 v2 v3 v4 v5 : Option D) : Lo := [(S "digits", v0), (S "length", v1), (S "filler", v2), (S "whole", v3), (S "rest", v4), (S "digit", v5)]
theorem cut_spec (k : Nat) (xs : List Nat) (L : Nat) (up fill : Nat) (hu : (up = 0 ∧ fill = 0) ∨ (up = 1 ∧ fill = 15)) (hx : Nib xs) (hn : xs.length ≤ 32) (hL : L ≤ 4 * xs.length) :
    callD T0 12 200 40 (k+1) (S "_law_cut") [.str (chars xs), .int L, .str [hexc fill]] = some (.str (chars (cutL xs L up fill))) := by
  have hsz := sizeLine_eq
  have hcl := chars_length xs
  have e1 : ofStr (S "f") = [102] := rfl
  refine call_of2 (cuE (some (.str (chars xs))) (some (.int L)) (some (.str [hexc fill])) none none none) rfl rfl rfl ?_
  walk_at "go"
  have ew : ((L : Int)).fdiv 4 = ((L / 4 : Nat) : Int) := (Int.ofNat_fdiv L 4).symm
  have em : ((L : Int)).fmod 4 = ((L % 4 : Nat) : Int) := (Int.ofNat_fmod L 4).symm
  rw [ew]
  refine go_ifd (L / 4 = xs.length) ?_ (fun hc => ?_) (fun hc => ?_)
  · walk_at "go"
    rw [hcl]
    by_cases h : L / 4 = xs.length
    · simp [h]
    · simp [h]; lia
  · walk_at "go"
    unfold cutL
    rw [if_pos hc]
  · have hw : L / 4 < xs.length := by lia
    have hj : L % 4 < 4 := Nat.mod_lt _ (by decide)
    have hxw := nib_getD hx (L / 4)
    walk_at "go"
    rw [em]
    walk_at "go"
    have et : ((4 : Int) - ((L % 4 : Nat) : Int)).toNat = 4 - L % 4 := by lia
    rw [et]
    refine go_items (by omega) (by rw [Int.toNat_natCast]; exact chars_get hw) ?_
    walk_at "go"
    refine go_find ?_
    rw [marks16_eq, find16 hxw]
    have hr : 0 < 2 ^ (4 - L % 4) := Nat.two_pow_pos _
    have hr2 : 2 ^ (4 - L % 4) ≤ 2 ^ 4 := Nat.pow_le_pow_right (by decide) (by omega)
    have er : ((2 : Int) ^ (4 - L % 4)) = ((2 ^ (4 - L % 4) : Nat) : Int) := by simp
    rw [er]
    (repeat walk_at "go1")
    rw [← Int.ofNat_fdiv]
    have hc1 := (cut_digit hxw hj).1
    have hc0 := (cut_digit hxw hj).2
    have hcut : cutL xs L up fill = xs.take (L / 4) ++ [xs.getD (L / 4) 0 / 2 ^ (4 - L % 4) * 2 ^ (4 - L % 4) + up * (2 ^ (4 - L % 4) - 1)] ++ List.replicate (xs.length - 1 - L / 4) fill := if_neg hc
    rw [hcut]
    rw [Nat.one_mul] at hc1
    rw [Nat.zero_mul, Nat.add_zero] at hc0
    generalize hR : 2 ^ (4 - L % 4) = R at *
    have hsm : smallBits (R : Int) = true := by
      have : ∀ R < 17, smallBits (Int.ofNat R) = true := by decide
      exact this R (by omega)
    refine go_mul (by rw [hsm, Bool.or_true]) ?_
    walk_at "go"
    rw [← Int.natCast_mul]
    have hsl : sliceL (chars xs) 0 (L / 4) = chars (xs.take (L / 4)) := by unfold sliceL; rw [chars_take]; rfl
    have hln : (((chars xs).length : Int) - 1 - ((L / 4 : Nat) : Int)).toNat = xs.length - 1 - L / 4 := by rw [hcl]; omega
    rcases hu with ⟨rfl, rfl⟩ | ⟨rfl, rfl⟩
    · refine go_iff ?_ ?_
      · walk_at "go"
        rw [e1]
        rfl
      walk_at "go"
      refine go_sls (by omega) rfl (bound_nat (by omega)) ?_
      rw [hsl]
      walk_at "go"
      refine go_items (by omega) (by rw [Int.toNat_natCast, marks16_eq]; exact marks16_get hc0) ?_
      walk_at "go"
      refine go_adds ?_ ?_
      · simp only [chars_length, List.length_take, List.length_cons, List.length_nil]; omega
      walk_at "go"
      refine go_muls (by rw [List.length_singleton]; omega) ?_
      rw [hln, flat_rep]
      refine go_adds ?_ ?_
      · simp only [List.length_append, chars_length, List.length_take, List.length_replicate, List.length_cons, List.length_nil]; omega
      rw [Nat.zero_mul, Nat.add_zero, chars_append, chars_append, chars_rep]
      rfl
    · refine go_ift ?_ ?_
      · walk_at "go"
        rw [e1]
        rfl
      walk_at "go"
      have ed : ((xs.getD (L / 4) 0 / R * R : Nat) : Int) + R - 1 = ((xs.getD (L / 4) 0 / R * R + (R - 1) : Nat) : Int) := by lia
      rw [ed]
      refine go_sls (by omega) rfl (bound_nat (by omega)) ?_
      rw [hsl]
      walk_at "go"
      refine go_items (by omega) (by rw [Int.toNat_natCast, marks16_eq]; exact marks16_get hc1) ?_
      walk_at "go"
      refine go_adds ?_ ?_
      · simp only [chars_length, List.length_take, List.length_cons, List.length_nil]; omega
      walk_at "go"
      refine go_muls (by rw [List.length_singleton]; omega) ?_
      rw [hln, flat_rep]
      refine go_adds ?_ ?_
      · simp only [List.length_append, chars_length, List.length_take, List.length_replicate, List.length_cons, List.length_nil]; omega
      rw [Nat.one_mul, chars_append, chars_append, chars_rep]
      rfl

noncomputable def bareL : Nat → List Nat → List Nat
  | m + 1, 48 :: c :: r => bareL m (c :: r)
  | _, w => w
noncomputable def bC (s : List Nat × Nat) : Bool := decide (0 < s.2) && decide (1 < s.1.length) && (s.1.head? == some 48)
noncomputable def bS (s : List Nat × Nat) : List Nat × Nat := (s.1.drop 1, s.2 - 1)
theorem b_run : ∀ (f m : Nat) (w : List Nat), m < f → ∃ z, whl bC bS f (w, m) = some (bareL m w, z)
  | 0, m, w, h => by lia
  | f + 1, 0, w, h => by
    refine ⟨0, ?_⟩
    have e : bareL 0 w = w := by cases w <;> rfl
    rw [e]
    simp [whl, bC]
  | f + 1, m + 1, w, h => by
    by_cases hc : bC (w, m + 1) = true
    · simp only [bC, Bool.and_eq_true, decide_eq_true_eq, beq_iff_eq] at hc
      match w, hc with
      | c :: d :: r, hc =>
        have : c = 48 := by simpa using hc.2
        subst this
        obtain ⟨z, hz⟩ := b_run f m (d :: r) (by omega)
        refine ⟨z, ?_⟩
        rw [whl, if_pos (by simp [bC])]
        exact hz
      | [c], hc => simp at hc
      | [], hc => simp at hc
    · refine ⟨m + 1, ?_⟩
      rw [whl, if_neg hc]
      have : bareL (m + 1) w = w := by
        match w with
        | [] => rfl
        | [c] => unfold bareL; split <;> simp_all
        | c :: d :: r =>
          by_cases h48 : c = 48
          · subst h48; simp [bC] at hc
          · unfold bareL
            split
            · rename_i heq; simp at heq; lia
            · rfl
      rw [this]
theorem bare_spec (k : Nat) (w : List Nat) (m : Nat) (hw : w.length ≤ 4) (hm : m ≤ 3) : callD T0 12 200 40 (k+1) (S "_law_bare") [.str w, .int m] = some (.str (bareL m w)) := by
  have hsz := sizeLine_eq
  have e1 : ofStr (S "0") = [48] := rfl
  refine call_of2 [(S "word", some (.str w)), (S "many", some (.int m))] rfl rfl rfl ?_
  obtain ⟨z, hz⟩ := b_run 200 m w (by omega)
  refine go_while0 ?_
  refine while_end (fun (s : List Nat × Nat) st => s.1.length ≤ 4 ∧ st = ⟨[(S "word", some (.str s.1)), (S "many", some (.int s.2))], none⟩) bC bS (w, m) (bareL m w, z) ⟨hw, rfl⟩ hz ?_ ?_ ?_
  · rintro ⟨w, m⟩ _ ⟨h1, rfl⟩
    dsimp only at h1
    walk_at "go"
    refine ⟨fun h => ?_, fun h => ?_⟩
    · have : ¬ 0 < m := by simp only [decide_eq_false_iff_not] at h; omega
      simp [bC, this]
    have hm : 0 < m := by simp only [decide_eq_true_eq] at h; omega
    walk_at "go"
    refine ⟨fun h => ?_, fun h => ?_⟩
    · have : ¬ 1 < w.length := by simp only [decide_eq_false_iff_not] at h; omega
      simp [bC, this]
    have hl : 1 < w.length := by simp only [decide_eq_true_eq] at h; omega
    walk_at "go"
    match w, hl with
    | c :: r, hl =>
      refine go_items (by decide) (c := c) rfl ?_
      walk_at "go"
      rw [e1]
      refine ⟨fun h => ?_, fun h => ?_⟩
      · have hc : c ≠ 48 := by simpa using h
        simp [bC, hc]
      · walk_at "go"
        have hc : c = 48 := by simpa using h
        simp only [List.length_cons] at hl
        simp [bC, hc, hm]
        omega
  · rintro ⟨w, m⟩ _ ⟨h1, rfl⟩ hc
    dsimp only at h1
    simp only [bC, Bool.and_eq_true, decide_eq_true_eq, beq_iff_eq] at hc
    walk_at "go"
    refine go_sls (by omega) (b := w.length) (a := 1) rfl rfl ?_
    walk_at "go"
    have e2 : ((m : Int) - 1) = ((m - 1 : Nat) : Int) := by omega
    have e3 : sliceL w 1 w.length = w.drop 1 := by unfold sliceL; rw [List.take_length]
    rw [e2, e3]
    refine And.intro rfl (And.intro ?_ rfl)
    show (w.drop 1).length ≤ 4
    rw [List.length_drop]; omega
  · rintro _ ⟨h1, rfl⟩
    walk_at "go"
end Mine.G
namespace Mine.G
theorem bound_int {d : Nat} {i : Int} (h : 0 ≤ i ∧ i < 2 ^ 62) : boundD d (some (.int i)) = some i.toNat := by
  have e : ∀ i : Int, boundD d (some (.int i)) = if 0 ≤ i ∧ i < 2 ^ 62 then some i.toNat else none := fun _ => rfl
  rw [e]
  simp only [h, and_self, if_true]
theorem scal_strf {α : Type} (l : List α) (f : α → List Nat) : (l.map fun k => D.str (f k)).all scal = true := by
  induction l <;> simp_all [scal]
theorem nib_sub {xs : List Nat} (hx : Nib xs) (a b : Nat) : Nib ((xs.drop a).take b) := fun x h => hx x (List.mem_of_mem_drop (List.mem_of_mem_take h))
noncomputable def byteAt (xs : List Nat) (i : Nat) : Nat := num ((xs.drop (2 * i)).take 2)
theorem byte_lt {xs : List Nat} (hx : Nib xs) (i : Nat) : byteAt xs i < 256 := by
  have h := num_lt _ (nib_sub hx (2 * i) 2)
  have hl : ((xs.drop (2 * i)).take 2).length ≤ 2 := by simp only [List.length_take]; omega
  have : 16 ^ ((xs.drop (2 * i)).take 2).length ≤ 16 ^ 2 := Nat.pow_le_pow_right (by decide) hl
  unfold byteAt
  omega
noncomputable def dotX (xs : List Nat) : List Nat := dot4 (byteAt xs 0) (byteAt xs 1) (byteAt xs 2) (byteAt xs 3)
theorem slice_chars (xs : List Nat) (a b : Nat) : sliceL (chars xs) a b = chars ((xs.drop a).take (b - a)) := by
  unfold sliceL chars
  rw [List.drop_take, List.map_take, List.map_drop]
theorem dotted_spec (k : Nat) (xs : List Nat) (hx : Nib xs) (hn : xs.length ≤ 32) : callD T0 12 200 40 (k+2) (S "_law_dotted") [.str (chars xs)] = some (.str (dotX xs)) := by
  have hsz := sizeLine_eq
  have hcl := chars_length xs
  have e1 : ofStr (S ".") = [46] := rfl
  refine call_of2 [(S "digits", some (.str (chars xs)))] rfl rfl rfl ?_
  walk_at "go"
  refine go_rng1 (n := 4) (by decide) ?_
  refine ⟨by rw [List.length_map, List.length_range]; omega, scal_ints _, ?_⟩
  refine go_mapM (fun i => .str (digitsOf (byteAt xs i : Int))) ?_ ?_
  · intro i hi
    rw [List.mem_range] at hi
    walk_at "go"
    refine go_sls (by omega) (bound_int (by omega)) (bound_int (by omega)) ?_
    have t1 : ((2 : Int) * (i : Int)).toNat = 2 * i := by lia
    have t2 : ((2 : Int) * (i : Int) + 2).toNat = 2 * i + 2 := by lia
    rw [t1, t2, slice_chars, show 2 * i + 2 - 2 * i = 2 by lia]
    walk_at "go"
    refine go_of (number_spec k _ (nib_sub hx _ _) (by rw [List.length_take]; omega)) ?_
    have hb := byte_lt hx i
    unfold byteAt at hb
    walk_at "go"
    refine go_str ?_ ?_
    · omega
    · rfl
  · refine ⟨scal_strf _ _, ?_⟩
    walk_at "go"
    refine go_joinL (go_of rfl ⟨?_, ?_⟩)
    · have h0 := digits_len (byte_lt hx 0)
      have h1 := digits_len (byte_lt hx 1)
      have h2 := digits_len (byte_lt hx 2)
      have h3 := digits_len (byte_lt hx 3)
      rw [e1]
      simp only [List.map_cons, List.map_nil, List.sum_cons, List.sum_nil, List.length_cons, List.length_nil]
      lia
    · rw [e1]; rfl

/-- the parts of a text with their places -/
noncomputable def idxL {α : Type} : Nat → List α → List (Nat × α)
  | _, [] => []
  | k, p :: r => (k, p) :: idxL (k + 1) r
theorem pairs_idx : ∀ (k : Nat) (l : List (List Nat)), pairs k (l.map .str) = (idxL k l).map fun a => D.tuple [.int a.1, .str a.2]
  | _, [] => rfl
  | k, p :: r => by simp [pairs, idxL, pairs_idx (k + 1) r]
theorem mem_idx {α : Type} : ∀ (l : List α) (k : Nat) (a : Nat × α), a ∈ idxL k l → k ≤ a.1 ∧ l[a.1 - k]? = some a.2
  | [], k, a, h => by cases h
  | p :: r, k, a, h => by
    cases h with
    | head => exact ⟨Nat.le_refl _, by simp⟩
    | tail _ h =>
      obtain ⟨h1, h2⟩ := mem_idx r (k + 1) a h
      refine ⟨by omega, ?_⟩
      have : a.1 - k = (a.1 - (k + 1)) + 1 := by lia
      rw [this]
      exact h2
/-- the groups that a part stands for -/
noncomputable def gOf (p : List Nat) : List Nat := if containsL p [46] then (match ip4V p with | some v => [v / 65536, v % 65536] | none => []) else (match hexNum p 0 with | some v => [v] | none => [])
noncomputable def partOk (e : Bool) (last : Bool) (p : List Nat) : Prop :=
  (containsL p [46] = false ∧ 1 ≤ p.length ∧ p.length ≤ 4 ∧ ∃ v, hexNum p 0 = some v) ∨
  (containsL p [46] = true ∧ e = true ∧ last = true ∧ p.length ≤ 1000 ∧ (splitL p [46]).length ≤ 1000 ∧ (∀ q ∈ splitL p [46], q.length ≤ 1000) ∧ ∃ v, ip4V p = some v)
noncomputable def intDs (l : List Nat) : List D := l.map fun (g : Nat) => D.int (g : Int)
theorem intDs_app (a b : List Nat) : intDs (a ++ b) = intDs a ++ intDs b := List.map_append
theorem intDs_len (a : List Nat) : (intDs a).length = a.length := List.length_map _
theorem gOf_len (p : List Nat) : (gOf p).length ≤ 2 := by
  unfold gOf
  split
  · split <;> simp
  · split <;> simp
theorem gs_len : ∀ l : List (List Nat), (l.map gOf).flatten.length ≤ 2 * l.length
  | [] => by simp
  | p :: r => by
    have := gs_len r
    have := gOf_len p
    simp only [List.map_cons, List.flatten_cons, List.length_append, List.length_cons]
    lia
theorem idx_snd {α : Type} : ∀ (l : List α) (k : Nat), (idxL k l).map (·.2) = l
  | [], _ => rfl
  | a :: l, k => by simp [idxL, idx_snd l (k + 1)]
theorem idx_len {α : Type} : ∀ (l : List α) (k : Nat), (idxL k l).length = l.length
  | [], _ => rfl
  | a :: l, k => by simp [idxL, idx_len l (k + 1)]
noncomputable def gStp (acc : List Nat) (a : Nat × List Nat) : List Nat ⊕ D := .inl (acc ++ gOf a.2)
theorem gStp_run : ∀ (l : List (List Nat)) (k : Nat) (acc : List Nat), runL gStp (idxL k l) acc = .inl (acc ++ (l.map gOf).flatten)
  | [], k, acc => by simp [runL, idxL]
  | p :: r, k, acc => by
    simp only [idxL, runL, gStp]
    rw [gStp_run r (k + 1)]
    simp
theorem groups_nil (k : Nat) (e : Bool) : callD T0 12 200 40 (k+3) (S "groups_of") [.str [], .bool e] = some (.list []) := by
  refine call_of2 [(S "text", some (.str [])), (S "is_end", some (.bool e)), (S "groups", none), (S "parts", none), (S "place", none), (S "part", none), (S "tail", none), (S "group", none)] rfl rfl rfl ?_
  walk_at "go"
  refine go_ift1 rfl ?_ ?_
  · walk_at "go"
    rfl
  walk_at "go"
noncomputable def grE (v0 v1 v2 v3 v4 v5 v6 v7 : Option D) : Lo := [(S "text", v0), (S "is_end", v1), (S "groups", v2), (S "parts", v3), (S "place", v4), (S "part", v5), (S "tail", v6), (S "group", v7)]
noncomputable def GrI (t : List Nat) (e : Bool) (ps : List (List Nat)) : List (Nat × List Nat) → St → Prop := fun r st => ∃ dn, idxL 0 ps = dn ++ r ∧ ∃ a b c d : Option D, st = ⟨(grE (some (.str t)) (some (.bool e)) (some (.list (intDs ((dn.map (·.2)).map gOf).flatten))) (some (.list (ps.map .str))) a b c d), some (S "groups")⟩
theorem groups_spec (k : Nat) (e : Bool) (t : List Nat) (ht : t ≠ []) (hl : t.length ≤ 1000000) (ps : List (List Nat)) (hs : splitL t [58] = ps) (hn : ps.length ≤ 1000)
    (hp : ∀ a ∈ idxL 0 ps, partOk e (decide (a.1 = ps.length - 1)) a.2) : callD T0 12 200 40 (k+3) (S "groups_of") [.str t, .bool e] = some (.list (intDs (ps.map gOf).flatten)) := by
  have hsz := sizeLine_eq
  have e1 : ofStr (S "") = [] := rfl
  have e2 : ofStr (S ":") = [58] := rfl
  have e3 : ofStr (S ".") = [46] := rfl
  refine call_of2 (grE (some (.str t)) (some (.bool e)) none none none none none none) rfl rfl rfl ?_
  walk_at "go"
  refine go_iff1 rfl ?_ ?_
  · walk_at "go"
    rw [e1]
    simp [ht]
  walk_at "go"
  rw [e2]
  refine go_split hl (by decide) ?_
  rw [hs]
  walk_at "go"
  refine go_forp (l := ps.map .str) rfl rfl (by rw [List.length_map]; omega) (scal_strs _) ?_
  rw [pairs_idx]
  refine for_endR _ (GrI t e ps) ⟨[], rfl, none, none, none, none, rfl⟩ ?_ ?_
  · rintro ⟨i, q⟩ r _ ⟨dn, hdn, a, b, c, d, rfl⟩
    have hmem : (i, q) ∈ idxL 0 ps := by rw [hdn]; simp
    have hq := hp _ hmem
    have hlen : dn.length ≤ 1000 := by
      have h := congrArg List.length hdn
      rw [idx_len, List.length_append] at h
      omega
    have hdl : ((dn.map (·.2)).map gOf).flatten.length ≤ 2000 := by
      have := gs_len (dn.map (·.2))
      rw [List.length_map] at this
      lia
    have hnext : idxL 0 ps = (dn ++ [(i, q)]) ++ r := by rw [hdn]; simp
    have hgr : (((dn ++ [(i, q)]).map (·.2)).map gOf).flatten = ((dn.map (·.2)).map gOf).flatten ++ gOf q := by simp
    generalize hG : ((dn.map (·.2)).map gOf).flatten = gs at *
    dsimp only at hq
    walk_at "go"
    rcases hq with ⟨hc, h1, h4, v, hv⟩ | ⟨hc, rfl, hla, hq1, hq2, hq3, v, hv⟩
    · refine go_iff1 rfl ?_ ?_
      · walk_at "go"
        refine ⟨e, rfl, fun _ => rfl, fun _ => ?_⟩
        walk_at "go"
        refine ⟨fun _ => rfl, fun _ => ?_⟩
        walk_at "go"
        rw [e3, hc]
        refine ⟨fun _ => rfl, fun h => Bool.noConfusion h⟩
      · walk_at "go"
        refine go_of (hex_spec _ q v h1 h4 hv) ?_
        walk_at "go"
        refine go_iff1 rfl ?_ ?_
        · walk_at "go"
        walk_at "go"
        refine go_append1 rfl rfl (by rw [intDs_len]; omega) ?_
        walk_at "go"
        have hg : gOf q = [v] := by simp [gOf, hc, hv]
        rw [hg] at hgr
        refine ⟨rfl, _, hnext, some (.int i), some (.str q), c, some (.int v), ?_⟩
        rw [hgr, intDs_app]
        rfl
    · refine go_ift1 rfl ?_ ?_
      · walk_at "go"
        refine ⟨true, rfl, fun h => Bool.noConfusion h, fun _ => ?_⟩
        walk_at "go"
        rw [List.length_map]
        have : i = ps.length - 1 := by simpa using hla
        have hpl : 0 < ps.length := by
          have h := congrArg List.length hdn
          rw [idx_len, List.length_append, List.length_cons] at h
          lia
        have e5 : ((i : Int) == (ps.length : Int) - 1) = true := by
          rw [beq_iff_eq]; omega
        rw [e5]
        refine ⟨fun h => Bool.noConfusion h, fun _ => ?_⟩
        walk_at "go"
        rw [e3, hc]
        refine ⟨fun h => Bool.noConfusion h, fun _ => ?_⟩
        walk_at "go"
      · walk_at "go"
        refine go_of (ip4_spec k q (by omega) (fun p hp => by have := hq3 p hp; omega) (by omega)) ?_
        rw [hv]
        dsimp only [oI]
        walk_at "go"
        refine go_iff1 rfl ?_ ?_
        · walk_at "go"
        walk_at "go"
        refine go_append1 rfl rfl (by rw [intDs_len]; omega) ?_
        walk_at "go"
        refine go_append1 rfl rfl (by rw [List.length_append, intDs_len]; simp; omega) ?_
        walk_at "go"
        have hg : gOf q = [v / 65536, v % 65536] := by simp [gOf, hc, hv]
        rw [hg] at hgr
        rw [band65535, show ((16 : Int)).toNat = 16 from rfl, fdiv_pow]
        refine ⟨rfl, _, hnext, some (.int i), some (.str q), some (.int v), d, ?_⟩
        rw [hgr, intDs_app]
        show St.mk _ _ = St.mk _ _
        rw [show ∀ l : List D, l ++ [D.int ((v / 2 ^ 16 : Nat) : Int)] ++ [D.int ((v % 65536 : Nat) : Int)] = l ++ intDs [v / 65536, v % 65536] from fun l => by simp [intDs]]
        rfl
  · rintro _ ⟨dn, hdn, a, b, c, d, rfl⟩
    rw [List.append_nil] at hdn
    have : dn.map (·.2) = ps := by rw [← hdn, idx_snd]
    rw [this]
    walk_at "go"
end Mine.G
namespace Mine.G
noncomputable def numW (gs : List Nat) : Nat := gs.foldl (fun a g => a * 65536 + g) 0
theorem numW_snoc (l : List Nat) (g : Nat) : numW (l ++ [g]) = numW l * 65536 + g := by simp [numW]
theorem numW_lt : ∀ (n : Nat) (l : List Nat), l.length = n → (∀ g ∈ l, g < 65536) → numW l < 65536 ^ n
  | 0, l, h, _ => by
    have : l = [] := List.eq_nil_of_length_eq_zero h
    subst this
    decide
  | n + 1, l, h, hg => by
    have hne : l ≠ [] := by rintro rfl; simp at h
    obtain ⟨i, x, rfl⟩ : ∃ i x, l = i ++ [x] := ⟨l.dropLast, l.getLast hne, (List.dropLast_concat_getLast hne).symm⟩
    have h1 := numW_lt n i (by simp at h; omega) fun g hgi => hg g (List.mem_append_left _ hgi)
    have h2 := hg x (by simp)
    rw [numW_snoc, Nat.pow_succ]
    have := Nat.mul_le_mul_right 65536 (show numW i + 1 ≤ 65536 ^ n by omega)
    rw [Nat.add_mul] at this
    omega
theorem bor_low (a g : Nat) (hg : g < 65536) : Builtin.bitOr ((a : Int) * 2 ^ 16) (g : Int) = ((a * 65536 + g : Nat) : Int) := by
  have e : ((a : Int) * 2 ^ 16) = ((a * 65536 : Nat) : Int) := by simp
  rw [e, bitOr_and, band_nat]
  have : a * 65536 &&& g = 0 := by
    apply Nat.eq_of_testBit_eq
    intro i
    rw [show a * 65536 = a <<< 16 by rw [Nat.shiftLeft_eq], Nat.testBit_and, Nat.testBit_shiftLeft, Nat.zero_testBit]
    by_cases h : 16 ≤ i
    · have : g.testBit i = false := Nat.testBit_lt_two_pow (Nat.lt_of_lt_of_le hg (Nat.pow_le_pow_right (n := 2) (by decide) (show 16 ≤ i from h)))
      simp [this]
    · simp [h]
  rw [this]
  simp
theorem flat_ints (n : Nat) : (List.replicate n [D.int 0]).flatten = intDs (List.replicate n 0) := by
  induction n with
  | zero => rfl
  | succ n ih => simp only [List.replicate_succ, List.flatten_cons, ih]; rfl
theorem scal_intDs (l : List Nat) : (intDs l).all scal = true := scal_ints l

noncomputable def i6E (v0 v1 v2 v3 v4 v5 : Option D) : Lo := [(S "text", v0), (S "halves", v1), (S "groups", v2), (S "behind", v3), (S "number", v4), (S "group", v5)]
noncomputable def I6Q (t : List Nat) (hv : List (List Nat)) (gs : List Nat) : Fl × St → Prop := fun q => ∃ bh, q = (.next, ⟨(i6E (some (.str t)) (some (.list (hv.map .str))) (some (.list (intDs gs))) bh none none), none⟩)
noncomputable def I6I (t : List Nat) (hv : List (List Nat)) (gs : List Nat) (bh : Option D) : List Nat → St → Prop := fun r st => ∃ dn, gs = dn ++ r ∧ ∃ o : Option D, st = ⟨(i6E (some (.str t)) (some (.list (hv.map .str))) (some (.list (intDs gs))) bh (some (.int (numW dn))) o), none⟩
theorem ip6_gen (k : Nat) (t : List Nat) (hv : List (List Nat)) (h1 : List Nat) (g1 gs : List Nat) (ht : t.length ≤ 1000000) (hs : splitL t [58, 58] = hv) (h0 : hv[0]? = some h1) (hn : hv.length ≤ 2)
    (hg1 : callD T0 12 200 40 (k+3) (S "groups_of") [.str h1, .bool (decide (hv.length = 1))] = some (.list (intDs g1))) (hl1 : g1.length ≤ 8)
    (hc : (hv.length = 1 ∧ gs = g1) ∨ (hv.length = 2 ∧ ∃ h2 g2, hv[1]? = some h2 ∧ callD T0 12 200 40 (k+3) (S "groups_of") [.str h2, .bool true] = some (.list (intDs g2)) ∧ g1.length + g2.length ≤ 7 ∧ gs = g1 ++ List.replicate (8 - g1.length - g2.length) 0 ++ g2))
    (hl : gs.length = 8) (hb : ∀ g ∈ gs, g < 65536) : callD T0 12 200 40 (k+4) (S "ip6_of") [.str t] = some (.int (numW gs)) := by
  have hsz := sizeLine_eq
  have e2 : ofStr (S "::") = [58, 58] := rfl
  have hil := intDs_len gs
  have hil1 := intDs_len g1
  refine call_of2 (i6E (some (.str t)) none none none none none) rfl rfl rfl ?_
  walk_at "go"
  rw [e2]
  refine go_split ht (by decide) ?_
  rw [hs]
  walk_at "go"
  refine go_iff ?_ ?_
  · walk_at "go"
    rw [List.length_map]
    exact decide_eq_false (by omega)
  walk_at "go"
  refine go_iteml (d := .str h1) (by decide) (by show (hv.map D.str)[0]? = _; rw [List.getElem?_map, h0]; rfl) ?_
  walk_at "go"
  rw [List.length_map]
  have eb : ((hv.length : Int) == 1) = decide (hv.length = 1) := by
    rw [Bool.eq_iff_iff, beq_iff_eq, decide_eq_true_eq]; omega
  rw [eb]
  refine go_of hg1 ?_
  walk_at "go"
  refine go_iff ?_ ?_
  · walk_at "go"
  walk_at "go"
  refine go_ifj (hv.length = 2) (I6Q t hv gs) ?_ (fun h => ?_) (fun h => ?_) ?_
  · walk_at "go"
    rw [List.length_map, Bool.eq_iff_iff, beq_iff_eq, decide_eq_true_eq]; omega
  · obtain ⟨_, h2, g2, hh2, hg2, h7, rfl⟩ := hc.resolve_left fun q => by rw [h] at q; cases q.1
    have hil2 := intDs_len g2
    walk_at "go"
    refine go_iteml (d := .str h2) (by decide) (by show (hv.map D.str)[1]? = _; rw [List.getElem?_map, hh2]; rfl) ?_
    walk_at "go"
    refine go_of hg2 ?_
    walk_at "go"
    refine go_iff ?_ ?_
    · walk_at "go"
      refine ⟨fun h => Bool.noConfusion h, fun _ => ?_⟩
      walk_at "go"
      rw [intDs_len, intDs_len]
      refine ⟨fun h => ?_, fun _ => ?_⟩
      · have := of_decide_eq_true h; omega
      walk_at "go"
    walk_at "go"
    have en : ((8 : Int) - ((intDs g1).length : Int) - ((intDs g2).length : Int)).toNat = 8 - g1.length - g2.length := by rw [intDs_len, intDs_len]; lia
    refine go_mull (by rw [en, List.length_singleton]; lia) ?_
    rw [en, flat_ints]
    refine go_addl ?_ ?_
    · rw [intDs_len, intDs_len, List.length_replicate]; omega
    rw [← intDs_app]
    walk_at "go"
    refine go_addl ?_ ?_
    · rw [intDs_len, intDs_len, List.length_append, List.length_replicate]; omega
    rw [← intDs_app]
    walk_at "go"
    exact ⟨_, rfl⟩
  · obtain ⟨_, rfl⟩ := hc.resolve_right fun q => h q.1
    walk_at "go"
    exact ⟨_, rfl⟩
  rintro _ ⟨bh, rfl⟩
  dsimp only
  refine go_iff ?_ ?_
  · walk_at "go"
    rw [intDs_len, hl]
    rfl
  walk_at "go"
  refine go_for0 (go_iter_list rfl rfl (by rw [intDs_len]; omega) ⟨scal_intDs gs, ?_⟩)
  refine for_endR (fun g => D.int ((g : Nat) : Int)) (I6I t hv gs bh) ⟨[], rfl, none, rfl⟩ ?_ ?_
  · rintro g r _ ⟨dn, hdn, o, rfl⟩
    have hlen : dn.length ≤ 7 := by
      have h := congrArg List.length hdn
      rw [List.length_append, List.length_cons] at h
      lia
    have hgb : g < 65536 := hb g (by rw [hdn]; simp)
    have hnl := numW_lt dn.length dn rfl fun x hx => hb x (by rw [hdn]; simp [hx])
    have hp : 65536 ^ dn.length ≤ 65536 ^ 7 := Nat.pow_le_pow_right (by decide) hlen
    refine go_set0 rfl ?_
    walk_at "go"
    rw [show ((16 : Int)).toNat = 16 from rfl]
    rw [bor_low _ _ hgb]
    refine ⟨rfl, dn ++ [g], by rw [hdn]; simp, some (.int g), ?_⟩
    rw [numW_snoc]
    rfl
  · rintro _ ⟨dn, hdn, o, rfl⟩
    rw [List.append_nil] at hdn
    subst hdn
    walk_at "go"
theorem ip6_one (k : Nat) (t h : List Nat) (gs : List Nat) (ht : t.length ≤ 1000000) (hs : splitL t [58, 58] = [h]) (hg : callD T0 12 200 40 (k+3) (S "groups_of") [.str h, .bool true] = some (.list (intDs gs)))
    (hl : gs.length = 8) (hb : ∀ g ∈ gs, g < 65536) : callD T0 12 200 40 (k+4) (S "ip6_of") [.str t] = some (.int (numW gs)) :=
  ip6_gen k t [h] h gs gs ht hs rfl (Nat.le_succ 1) hg (Nat.le_of_eq hl) (.inl ⟨rfl, rfl⟩) hl hb
theorem ip6_two (k : Nat) (t h1 h2 : List Nat) (g1 g2 : List Nat) (ht : t.length ≤ 1000000) (hs : splitL t [58, 58] = [h1, h2])
    (hg1 : callD T0 12 200 40 (k+3) (S "groups_of") [.str h1, .bool false] = some (.list (intDs g1)))
    (hg2 : callD T0 12 200 40 (k+3) (S "groups_of") [.str h2, .bool true] = some (.list (intDs g2)))
    (hl : g1.length + g2.length ≤ 7) (hb1 : ∀ g ∈ g1, g < 65536) (hb2 : ∀ g ∈ g2, g < 65536) :
    callD T0 12 200 40 (k+4) (S "ip6_of") [.str t] = some (.int (numW (g1 ++ List.replicate (8 - g1.length - g2.length) 0 ++ g2))) := by
  refine ip6_gen k t [h1, h2] h1 g1 _ ht hs rfl (Nat.le_refl 2) hg1 (by omega) (.inr ⟨rfl, h2, g2, rfl, hg2, hl, rfl⟩) (by simp only [List.length_append, List.length_replicate]; omega) ?_
  intro g hg
  rw [List.mem_append, List.mem_append] at hg
  rcases hg with (hg | hg) | hg
  · exact hb1 g hg
  · rw [(List.mem_replicate.mp hg).2]; decide
  · exact hb2 g hg
end Mine.G
namespace Mine.G
/-- the first longest run of noughts, by the program's own steps -/
noncomputable def nrStp (s : Int × Nat × Nat) (a : Nat × Nat) : Int × Nat × Nat :=
  let r := if a.2 = 0 then s.2.2 + 1 else 0
  if s.2.1 < r then ((a.1 : Int) + 1 - r, r, r) else (s.1, s.2.1, r)
noncomputable def nrun (gs : List Nat) : Int × Nat × Nat := (idxL 0 gs).foldl nrStp (0, 0, 0)
theorem pairs_ints : ∀ (k : Nat) (l : List Nat), pairs k (intDs l) = (idxL k l).map fun a => D.tuple [.int a.1, .int a.2]
  | _, [] => rfl
  | k, p :: r => by
    have := pairs_ints (k + 1) r
    simp only [intDs] at this
    simp [pairs, idxL, intDs, this]
theorem go_ifx_to {Φ : Phi} {n : Nat} {kd : Kd} {ρ : Ro} {k : D → Prop} {t b o : Expr} {p : Pos} (d : D) (h : Go (testE Φ n kd ρ t) fun c => (c = true → Go (evalE Φ n kd ρ b) (· = d)) ∧ (c = false → Go (evalE Φ n kd ρ o) (· = d))) (hk : k d) :
    Go (evalE Φ (n + 1) kd ρ (.IfExp t b o p)) k :=
  go_ifx (h.mono fun c hc => And.intro (fun h1 => (hc.1 h1).mono fun x hx => hx ▸ hk) (fun h2 => (hc.2 h2).mono fun x hx => hx ▸ hk))
theorem nrun_spec (k : Nat) (gs : List Nat) (hl : gs.length ≤ 1000) : callD T0 12 200 40 (k+1) (S "nought_run") [.list (intDs gs)] = some (.tuple [.int (nrun gs).1, .int (nrun gs).2.1]) := by
  have hsz := sizeLine_eq
  have hil := intDs_len gs
  refine call_of2 [(S "groups", some (.list (intDs gs))), (S "begin", none), (S "many", none), (S "run", none), (S "place", none), (S "group", none)] rfl rfl rfl ?_
  walk_at "go"
  refine go_forp (l := intDs gs) rfl rfl (by omega) (scal_intDs _) ?_
  rw [pairs_ints]
  refine for_endR _ (fun r st => ∃ dn, idxL 0 gs = dn ++ r ∧ ∃ a b : Option D, st = ⟨[(S "groups", some (.list (intDs gs))), (S "begin", some (.int (dn.foldl nrStp (0, 0, 0)).1)), (S "many", some (.int (dn.foldl nrStp (0, 0, 0)).2.1)), (S "run", some (.int (dn.foldl nrStp (0, 0, 0)).2.2)), (S "place", a), (S "group", b)], none⟩) ⟨[], rfl, none, none, rfl⟩ ?_ ?_
  · rintro ⟨i, g⟩ r _ ⟨dn, hdn, a, b, rfl⟩
    have hf : (dn ++ [(i, g)]).foldl nrStp (0, 0, 0) = nrStp (dn.foldl nrStp (0, 0, 0)) (i, g) := by simp
    generalize hs : dn.foldl nrStp (0, 0, 0) = s at *
    obtain ⟨b0, m0, r0⟩ := s
    dsimp only
    refine go_bind2 rfl ?_
    refine go_assign0 rfl (go_ifx_to (.int ((if g = 0 then r0 + 1 else 0 : Nat) : Int)) ?_ ?_)
    · walk_at "go"
      by_cases hg : g = 0
      · subst hg
        refine ⟨fun _ => ?_, fun h => by simp at h⟩
        walk_at "go"
        simp
      · refine ⟨fun h => ?_, fun _ => ?_⟩
        · simp at h; omega
        walk_at "go"
        simp [hg]
    · generalize hr : (if g = 0 then r0 + 1 else 0 : Nat) = r'
      walk_at "go"
      have hst : nrStp (b0, m0, r0) (i, g) = if m0 < r' then ((i : Int) + 1 - r', r', r') else (b0, m0, r') := by simp only [nrStp, hr]
      refine go_ifd (m0 < r') ?_ (fun hc => ?_) (fun hc => ?_)
      · walk_at "go"
        simp
      · rw [if_pos hc] at hst
        walk_at "go"
        refine ⟨rfl, dn ++ [(i, g)], by rw [hdn]; simp, some (.int i), some (.int g), ?_⟩
        rw [hf, hst]
        rfl
      · rw [if_neg hc] at hst
        walk_at "go"
        refine ⟨rfl, dn ++ [(i, g)], by rw [hdn]; simp, some (.int i), some (.int g), ?_⟩
        rw [hf, hst]
        rfl
  · rintro _ ⟨dn, hdn, a, b, rfl⟩
    rw [List.append_nil] at hdn
    subst hdn
    walk_at "go"
    rfl
end Mine.G
namespace Mine.G
theorem num_append : ∀ (a b : List Nat), num (a ++ b) = num a * 16 ^ b.length + num b
  | [], b => by simp [num]
  | x :: a, b => by
    simp only [List.cons_append, num, num_append a b, List.length_append, Nat.add_mul, Nat.pow_add, Nat.mul_assoc]
    lia
noncomputable def word (xs : List Nat) (j : Nat) : List Nat := (xs.drop (4 * j)).take 4
noncomputable def grp (xs : List Nat) (j : Nat) : Nat := num (word xs j)
noncomputable def gsX (xs : List Nat) : List Nat := (List.range 8).map (grp xs)
noncomputable def wsX (xs : List Nat) : List (List Nat) := (List.range 8).map fun j => bareL 3 (chars (word xs j))
theorem word4 {xs : List Nat} (hx : Nib xs) (hl : xs.length = 32) {j : Nat} (hj : j < 8) : ∃ a b c d, word xs j = [a, b, c, d] ∧ a < 16 ∧ b < 16 ∧ c < 16 ∧ d < 16 := by
  have h : (word xs j).length = 4 := by unfold word; rw [List.length_take, List.length_drop]; omega
  have hn : Nib (word xs j) := nib_sub hx _ _
  match hw : word xs j, h, hn with
  | [a, b, c, d], _, hn => exact ⟨a, b, c, d, rfl, hn a (by simp), hn b (by simp), hn c (by simp), hn d (by simp)⟩
theorem grp_lt {xs : List Nat} (hx : Nib xs) (j : Nat) : grp xs j < 65536 := by
  have h := num_lt _ (nib_sub hx (4 * j) 4)
  have hl : ((xs.drop (4 * j)).take 4).length ≤ 4 := by simp only [List.length_take]; omega
  have : 16 ^ ((xs.drop (4 * j)).take 4).length ≤ 16 ^ 4 := Nat.pow_le_pow_right (by decide) hl
  unfold grp word
  omega
theorem num_chunk {xs : List Nat} (hx : Nib xs) {r a b : Nat} (h : r + (a + b) = xs.length) : num xs / 16 ^ r % 16 ^ b = num ((xs.drop a).take b) := by
  have hlb : (xs.drop (a + b)).length = r := by rw [List.length_drop, ← h, Nat.add_sub_cancel]
  have hle : b ≤ (xs.drop a).length := by rw [List.length_drop]; omega
  have hlw : ((xs.drop a).take b).length = b := by rw [List.length_take]; exact Nat.min_eq_left hle
  have hb := num_lt (xs.drop (a + b)) fun y hy => hx y (List.mem_of_mem_drop hy)
  have hw := num_lt _ (nib_sub hx a b)
  rw [hlb] at hb
  rw [hlw] at hw
  have e : xs = xs.take a ++ ((xs.drop a).take b ++ xs.drop (a + b)) := by
    rw [← List.drop_drop, List.take_append_drop, List.take_append_drop]
  have hnum := congrArg num e
  rw [num_append, num_append, List.length_append, hlw, hlb, Nat.pow_add, ← Nat.mul_assoc, ← Nat.add_assoc, ← Nat.add_mul] at hnum
  rw [hnum, Nat.mul_comm _ (16 ^ r), Nat.mul_add_div (Nat.pow_pos (by decide)), Nat.div_eq_of_lt hb, Nat.add_zero, Nat.mul_comm _ (16 ^ b), Nat.mul_add_mod, Nat.mod_eq_of_lt hw]
theorem grp_eq {xs : List Nat} (hx : Nib xs) (hl : xs.length = 32) {j : Nat} (hj : j < 8) : num xs / 2 ^ (112 - 16 * j) % 65536 = grp xs j := by
  have hp : (2 : Nat) ^ (112 - 16 * j) = 16 ^ (28 - 4 * j) := by
    rw [show (16 : Nat) = 2 ^ 4 from rfl, ← Nat.pow_mul]
    congr 1
    omega
  rw [hp]
  exact num_chunk (b := 4) hx (by rw [hl]; omega)
theorem hext_word (k : Nat) {xs : List Nat} (hx : Nib xs) (hl : xs.length = 32) {j : Nat} (hj : j < 8) :
    callD T0 12 200 40 (k+1) (S "hex_text") [.int (grp xs j)] = some (.str (bareL 3 (chars (word xs j)))) := by
  obtain ⟨a, b, c, d, hw, ha, hb, hc, hd⟩ := word4 hx hl hj
  have e1 : grp xs j = val4 a b c d := by
    unfold grp
    rw [hw]
    simp only [num, val4, List.length_cons, List.length_nil]
    lia
  have e2 : bareL 3 (chars (word xs j)) = bare4 a b c d := by
    rw [hw]
    have h0 : ∀ x < 16, (hexc x = 48 ↔ x = 0) := by decide
    unfold bare4
    by_cases h1 : a = 0
    · subst h1
      by_cases h2 : b = 0
      · subst h2
        by_cases h3 : c = 0
        · subst h3
          rfl
        · have hc' : hexc c ≠ 48 := fun h => h3 ((h0 c hc).mp h)
          simp only [if_true, h3, if_false]
          show bareL 1 [hexc c, hexc d] = _
          unfold bareL
          split
          · rename_i heq; simp at heq; first | exact absurd heq.1 hc' | exact absurd heq.2.1 hc'
          · rfl
      · have hb' : hexc b ≠ 48 := fun h => h2 ((h0 b hb).mp h)
        simp only [if_true, h2, if_false]
        show bareL 2 [hexc b, hexc c, hexc d] = _
        unfold bareL
        split
        · rename_i heq; simp at heq; first | exact absurd heq.1 hb' | exact absurd heq.2.1 hb'
        · rfl
    · have ha' : hexc a ≠ 48 := fun h => h1 ((h0 a ha).mp h)
      simp only [h1, if_false]
      show bareL 3 [hexc a, hexc b, hexc c, hexc d] = _
      unfold bareL
      split
      · rename_i heq; simp at heq; first | exact absurd heq.1 ha' | exact absurd heq.2.1 ha'
      · rfl
  rw [e1, e2]
  exact hext_spec k ha hb hc hd

/-- the run of noughts, by the noughts alone -/
noncomputable def nbStp (s : Int × Nat × Nat) (a : Nat × Bool) : Int × Nat × Nat :=
  let r := if a.2 then s.2.2 + 1 else 0
  if s.2.1 < r then ((a.1 : Int) + 1 - r, r, r) else (s.1, s.2.1, r)
noncomputable def nrB (zs : List Bool) : Int × Nat × Nat := (idxL 0 zs).foldl nbStp (0, 0, 0)
theorem nrun_bool : ∀ (gs : List Nat) (k : Nat) (s : Int × Nat × Nat), (idxL k gs).foldl nrStp s = (idxL k (gs.map fun g => g == 0)).foldl nbStp s
  | [], _, _ => rfl
  | g :: gs, k, s => by
    simp only [List.map_cons, idxL, List.foldl_cons]
    have : nrStp s (k, g) = nbStp s (k, g == 0) := by simp [nrStp, nbStp]
    rw [this]
    exact nrun_bool gs (k + 1) _
noncomputable def zsX (xs : List Nat) : List Bool := (gsX xs).map fun g => g == 0
theorem nrun_z (xs : List Nat) : nrun (gsX xs) = nrB (zsX xs) := nrun_bool _ _ _
theorem nrB_fits : ∀ a b c d e f g h : Bool, 0 ≤ (nrB [a, b, c, d, e, f, g, h]).1 ∧ (nrB [a, b, c, d, e, f, g, h]).1 + (nrB [a, b, c, d, e, f, g, h]).2.1 ≤ 8 := by decide +kernel
theorem zsX_eq (xs : List Nat) : zsX xs = [grp xs 0 == 0, grp xs 1 == 0, grp xs 2 == 0, grp xs 3 == 0, grp xs 4 == 0, grp xs 5 == 0, grp xs 6 == 0, grp xs 7 == 0] := rfl
end Mine.G
namespace Mine.G
theorem sl_map {α β : Type} (f : α → β) (l : List α) (a b : Nat) : sliceL (l.map f) a b = (sliceL l a b).map f := by unfold sliceL; rw [List.map_drop, List.map_take]
theorem sum_le {l : List (List Nat)} {B : Nat} (h : ∀ w ∈ l, w.length ≤ B) : (l.map List.length).sum ≤ B * l.length := by
  induction l with
  | nil => simp
  | cons a l ih =>
    have h1 := h a (.head _)
    have h2 := ih fun w hw => h w (.tail _ hw)
    simp only [List.map_cons, List.sum_cons, List.length_cons, Nat.mul_succ]
    omega
theorem go_join' {x : List Nat} {l : List (List Nat)} {k : D → Prop} (hb : ∀ w ∈ l, w.length ≤ 1000) (hl : l.length ≤ 1000) (hx : x.length ≤ 1000) (h : k (.str (joinL x l))) : Go (methodD .join (.str x) [.list (l.map .str)]) k := by
  refine go_join ?_ h
  have := sum_le hb
  have hsz := sizeLine_eq
  have : l.length * x.length ≤ 1000 * 1000 := Nat.mul_le_mul hl hx
  omega
theorem join_len (x : List Nat) : ∀ l : List (List Nat), (joinL x l).length ≤ (l.map List.length).sum + l.length * x.length
  | [] => by simp [joinL]
  | [a] => by simp [joinL]
  | a :: b :: r => by
    have := join_len x (b :: r)
    simp only [joinL, List.length_append, List.map_cons, List.sum_cons, List.length_cons, Nat.succ_mul] at *
    omega
theorem join_len' {x : List Nat} {l : List (List Nat)} {B : Nat} (h : ∀ w ∈ l, w.length ≤ B) (hx : x.length ≤ 2) : (joinL x l).length ≤ (B + 2) * l.length := by
  have h1 := join_len x l
  have h2 := sum_le h
  have h3 : l.length * x.length ≤ l.length * 2 := Nat.mul_le_mul_left _ hx
  rw [Nat.add_mul, Nat.mul_comm 2]
  omega
theorem bare_len : ∀ (m : Nat) (w : List Nat), (bareL m w).length ≤ w.length
  | 0, w => by cases w <;> simp [bareL]
  | m + 1, [] => by simp [bareL]
  | m + 1, [c] => by unfold bareL; split <;> simp_all
  | m + 1, c :: d :: r => by
    by_cases h : c = 48
    · subst h
      have := bare_len m (d :: r)
      show (bareL m (d :: r)).length ≤ _
      simp only [List.length_cons] at *
      omega
    · have e : bareL (m + 1) (c :: d :: r) = c :: d :: r := by
        unfold bareL
        split
        · rename_i heq; simp at heq; lia
        · rfl
      rw [e]; exact Nat.le_refl _
theorem word_len (xs : List Nat) (j : Nat) : (word xs j).length ≤ 4 := by unfold word; rw [List.length_take]; omega
theorem wsX_len (xs : List Nat) : (wsX xs).length = 8 := by unfold wsX; rw [List.length_map, List.length_range]
theorem wsX_small (xs : List Nat) : ∀ w ∈ wsX xs, w.length ≤ 4 := by
  intro w hw
  unfold wsX at hw
  obtain ⟨j, _, rfl⟩ := List.mem_map.mp hw
  have h1 := bare_len 3 (chars (word xs j))
  rw [chars_length] at h1
  have := word_len xs j
  omega
theorem dot4_len {a b c d : Nat} (ha : a < 256) (hb : b < 256) (hc : c < 256) (hd : d < 256) : (dot4 a b c d).length ≤ 15 := by
  have h1 := digits_len ha
  have h2 := digits_len hb
  have h3 := digits_len hc
  have h4 := digits_len hd
  unfold dot4 joinL
  simp only [joinL, List.length_append, List.length_cons, List.length_nil]
  lia
theorem dotN_len (n : Nat) : (dotN n).length ≤ 15 := dot4_len (Nat.mod_lt _ (by decide)) (Nat.mod_lt _ (by decide)) (Nat.mod_lt _ (by decide)) (Nat.mod_lt _ (by decide))
noncomputable abbrev mixC (xs : List Nat) : Prop := (nrB (zsX xs)).1 = 0 ∧ ((nrB (zsX xs)).2.1 = 6 ∨ ((nrB (zsX xs)).2.1 = 5 ∧ grp xs 5 = 65535))
noncomputable def partsI (xs : List Nat) : List (List Nat) := if mixC xs then (wsX xs).take 6 ++ [dotN (num xs % 2 ^ 32)] else wsX xs
noncomputable def gapT (ps : List (List Nat)) (b e : Nat) : List Nat := joinL [58] (ps.take b) ++ [58, 58] ++ joinL [58] (ps.drop e)
noncomputable def textI (xs : List Nat) : List Nat :=
  if (nrB (zsX xs)).2.1 < 2 then joinL [58] (wsX xs) else gapT (partsI xs) (nrB (zsX xs)).1.toNat ((nrB (zsX xs)).1 + (nrB (zsX xs)).2.1).toNat
noncomputable def itE (v0 v1 v2 v3 v4 : Option D) : Lo := [(S "number", v0), (S "groups", v1), (S "begin", v2), (S "many", v3), (S "parts", v4)]
theorem ip6t_spec (k : Nat) (xs : List Nat) (hx : Nib xs) (hl : xs.length = 32) : callD T0 12 200 40 (k+2) (S "ip6_text") [.int (num xs)] = some (.str (textI xs)) := by
  have hsz := sizeLine_eq
  have e1 : ofStr (S ":") = [58] := rfl
  have e2 : ofStr (S "::") = [58, 58] := rfl
  have hfit := nrB_fits (grp xs 0 == 0) (grp xs 1 == 0) (grp xs 2 == 0) (grp xs 3 == 0) (grp xs 4 == 0) (grp xs 5 == 0) (grp xs 6 == 0) (grp xs 7 == 0)
  rw [← zsX_eq] at hfit
  refine call_of2 (itE (some (.int (num xs))) none none none none) rfl rfl rfl ?_
  walk_at "go"
  refine go_iterT rfl ?_
  walk_at "go"
  refine ⟨_, rfl, by simp only [List.length_cons, List.length_nil]; omega, by simp only [List.length_cons, List.length_nil]; omega, rfl, ?_⟩
  refine go_mapM (l := List.range 8) (f := fun j => D.int ((112 - 16 * j : Nat) : Int)) (fun j => .int (grp xs j)) ?_ ?_
  · intro j hj
    rw [List.mem_range] at hj
    walk_at "go"
    rw [Int.toNat_natCast, fdiv_pow, band65535, grp_eq hx hl hj]
  refine ⟨scal_intf _ _, ?_⟩
  have hgs : ((List.range 8).map fun j => D.int ((grp xs j : Nat) : Int)) = intDs (gsX xs) := by unfold intDs gsX; rw [List.map_map]; rfl
  rw [hgs]
  walk_at "go"
  refine go_of (nrun_spec (k := k) (gsX xs) (by unfold gsX; simp)) ?_
  rw [nrun_z]
  walk_at "go"
  refine go_iterL rfl ?_
  walk_at "go"
  refine ⟨_, rfl, by rw [intDs_len]; unfold gsX; rw [List.length_map, List.length_range]; omega, by rw [intDs_len]; unfold gsX; rw [List.length_map, List.length_range]; omega, scal_intDs _, ?_⟩
  rw [← hgs]
  refine go_mapM (l := List.range 8) (f := fun j => D.int ((grp xs j : Nat) : Int)) (fun j => .str (bareL 3 (chars (word xs j)))) ?_ ?_
  · intro j hj
    rw [List.mem_range] at hj
    walk_at "go"
    exact go_of (hext_word k hx hl hj) rfl
  refine ⟨scal_strf _ _, ?_⟩
  rw [hgs]
  have hws : ((List.range 8).map fun j => D.str (bareL 3 (chars (word xs j)))) = (wsX xs).map .str := by unfold wsX; rw [List.map_map]; rfl
  rw [hws]
  walk_at "go"
  refine go_ifd ((nrB (zsX xs)).2.1 < 2) ?_ (fun hc => ?_) (fun hc => ?_)
  · walk_at "go"
    apply decide_eq_decide.mpr
    omega
  · walk_at "go"
    rw [e1]
    refine go_join' (fun w hw => by have := wsX_small xs w hw; omega) (by rw [wsX_len]; omega) (by decide) ?_
    unfold textI
    rw [if_pos hc]
  · walk_at "go"
    have tail : textI xs = gapT (partsI xs) (nrB (zsX xs)).1.toNat ((nrB (zsX xs)).1 + (nrB (zsX xs)).2.1).toNat := if_neg hc
    rw [tail]
    have hpl : (partsI xs).length ≤ 8 := by
      unfold partsI
      split
      · rw [List.length_append, List.length_take, wsX_len]; simp
      · rw [wsX_len]; exact Nat.le_refl _
    have hps : ∀ w ∈ partsI xs, w.length ≤ 15 := by
      intro w hw
      unfold partsI at hw
      split at hw
      · rw [List.mem_append] at hw
        rcases hw with hw | hw
        · have := wsX_small xs w (List.mem_of_mem_take hw); omega
        · simp only [List.mem_singleton] at hw
          subst hw
          exact dotN_len _
      · have := wsX_small xs w hw; omega
    have fin : ∀ (b e : Nat), (joinL [58] ((partsI xs).take b)).length + [58, 58].length ≤ sizeLine ∧ (joinL [58] ((partsI xs).take b) ++ [58, 58]).length + (joinL [58] ((partsI xs).drop e)).length ≤ sizeLine := by
      intro b e
      have h1 := join_len' (x := [58]) (l := (partsI xs).take b) (B := 15) (fun w hw => hps w (List.mem_of_mem_take hw)) (by decide)
      have h2 := join_len' (x := [58]) (l := (partsI xs).drop e) (B := 15) (fun w hw => hps w (List.mem_of_mem_drop hw)) (by decide)
      have h3 : ((partsI xs).take b).length ≤ 8 := by rw [List.length_take]; omega
      have h4 : ((partsI xs).drop e).length ≤ 8 := by rw [List.length_drop]; omega
      simp only [List.length_append, List.length_cons, List.length_nil]
      lia
    refine go_ifd (mixC xs) ?_ (fun hm => ?_) (fun hm => ?_)
    · walk_at "go"
      refine ⟨fun h => ?_, fun h => ?_⟩
      · symm; exact decide_eq_false fun hm => by rw [hm.1] at h; simp at h
      have hb : (nrB (zsX xs)).1 = 0 := by simpa using h
      walk_at "go"
      refine ⟨fun h => ?_, fun h => ?_⟩
      · have h6 : (nrB (zsX xs)).2.1 = 6 := by simp at h; omega
        refine ⟨fun hh => Bool.noConfusion hh, fun _ => ?_⟩
        walk_at "go"
        exact (decide_eq_true ⟨hb, .inl h6⟩).symm
      have h6 : (nrB (zsX xs)).2.1 ≠ 6 := by simp at h; omega
      walk_at "go"
      refine ⟨fun h => ?_, fun h => ?_⟩
      · have h5 : (nrB (zsX xs)).2.1 ≠ 5 := by simp at h; omega
        refine ⟨fun hh => Bool.noConfusion hh, fun _ => ?_⟩
        walk_at "go"
        refine ⟨fun _ => ?_, fun hh => Bool.noConfusion hh⟩
        symm; exact decide_eq_false fun hm => hm.2.elim h6 fun q => h5 q.1
      have h5 : (nrB (zsX xs)).2.1 = 5 := by simp at h; omega
      walk_at "go"
      refine go_iteml (d := .int (grp xs 5)) (by decide) rfl ?_
      walk_at "go"
      by_cases hg : grp xs 5 = 65535
      · have hgb : (((grp xs 5 : Nat) : Int) == 65535) = true := by rw [hg]; rfl
        rw [hgb]
        refine ⟨fun hh => Bool.noConfusion hh, fun _ => ?_⟩
        walk_at "go"
        refine ⟨fun _ => ?_, fun hh => Bool.noConfusion hh⟩
        refine ⟨fun hh => Bool.noConfusion hh, fun _ => ?_⟩
        walk_at "go"
        exact (decide_eq_true ⟨hb, .inr ⟨h5, hg⟩⟩).symm
      · refine ⟨fun _ => ?_, fun hh => by simp at hh; omega⟩
        refine ⟨fun hh => Bool.noConfusion hh, fun _ => ?_⟩
        walk_at "go"
        refine ⟨fun _ => ?_, fun hh => Bool.noConfusion hh⟩
        symm; exact decide_eq_false fun hm => hm.2.elim h6 fun q => hg q.2
    · have hpi : partsI xs = (wsX xs).take 6 ++ [dotN (num xs % 2 ^ 32)] := if_pos hm
      walk_at "go"
      refine go_sll (a := 0) (b := 6) ?_ rfl rfl ?_
      · rw [List.length_map, wsX_len]; omega
      rw [sl_map]
      walk_at "go"
      rw [band32]
      refine go_of (ip4t_spec k _) ?_
      walk_at "go"
      have hpp : (sliceL (wsX xs) 0 6).map D.str ++ [D.str (dotN (num xs % 4294967296))] = (partsI xs).map .str := by
        rw [hpi, List.map_append]; rfl
      refine go_addl ?_ ?_
      · have := congrArg List.length hpp
        rw [List.length_append] at this
        rw [this, List.length_map]; omega
      rw [hpp]
      walk_at "go"
      refine go_sll ?_ rfl (bound_int ?_) ?_
      · rw [List.length_map]; omega
      · omega
      rw [sl_map]
      walk_at "go"
      refine go_join' (fun w hw => by have := hps w (List.mem_of_mem_take (List.mem_of_mem_drop hw)); omega) (by unfold sliceL; rw [List.length_drop, List.length_take]; omega) (by decide) ?_
      walk_at "go"
      have s1 : sliceL (partsI xs) 0 (nrB (zsX xs)).1.toNat = (partsI xs).take (nrB (zsX xs)).1.toNat := rfl
      rw [s1, e1, e2]
      refine go_adds (fin _ 0).1 ?_
      walk_at "go"
      refine go_sll ?_ (bound_int ?_) rfl ?_
      · rw [List.length_map]; omega
      · omega
      rw [sl_map]
      have s2 : sliceL (partsI xs) ((nrB (zsX xs)).1 + (nrB (zsX xs)).2.1).toNat ((partsI xs).map D.str).length = (partsI xs).drop ((nrB (zsX xs)).1 + (nrB (zsX xs)).2.1).toNat := by
        unfold sliceL; rw [List.length_map, List.take_length]
      rw [s2]
      walk_at "go"
      refine go_join' (fun w hw => by have := hps w (List.mem_of_mem_drop hw); omega) (by rw [List.length_drop]; omega) (by decide) ?_
      rw [e1]
      refine go_adds (fin _ _).2 ?_
      rfl
    · have hpi : partsI xs = wsX xs := if_neg hm
      rw [← hpi]
      walk_at "go"
      refine go_sll ?_ rfl (bound_int ?_) ?_
      · rw [List.length_map]; omega
      · omega
      rw [sl_map]
      walk_at "go"
      refine go_join' (fun w hw => by have := hps w (List.mem_of_mem_take (List.mem_of_mem_drop hw)); omega) (by unfold sliceL; rw [List.length_drop, List.length_take]; omega) (by decide) ?_
      walk_at "go"
      have s1 : sliceL (partsI xs) 0 (nrB (zsX xs)).1.toNat = (partsI xs).take (nrB (zsX xs)).1.toNat := rfl
      rw [s1, e1, e2]
      refine go_adds (fin _ 0).1 ?_
      walk_at "go"
      refine go_sll ?_ (bound_int ?_) rfl ?_
      · rw [List.length_map]; omega
      · omega
      rw [sl_map]
      have s2 : sliceL (partsI xs) ((nrB (zsX xs)).1 + (nrB (zsX xs)).2.1).toNat ((partsI xs).map D.str).length = (partsI xs).drop ((nrB (zsX xs)).1 + (nrB (zsX xs)).2.1).toNat := by
        unfold sliceL; rw [List.length_map, List.take_length]
      rw [s2]
      walk_at "go"
      refine go_join' (fun w hw => by have := hps w (List.mem_of_mem_drop hw); omega) (by rw [List.length_drop]; omega) (by decide) ?_
      rw [e1]
      refine go_adds (fin _ _).2 ?_
      rfl
end Mine.G
namespace Mine.G
open StrLaws Builtin.Str in
theorem findL_spec (x y : List Nat) : (findL x y = -1 ∧ ∀ i, ¬ (i + y.length ≤ x.length ∧ (x.drop i).take y.length = y)) ∨
    ∃ i : Nat, findL x y = i ∧ (i + y.length ≤ x.length ∧ (x.drop i).take y.length = y) ∧ ∀ k, k < i → ¬ (k + y.length ≤ x.length ∧ (x.drop k).take y.length = y) := by
  have hat : ∀ i, At (toStr x) (toStr y) (toStr x).length i ↔ (i + y.length ≤ x.length ∧ (x.drop i).take y.length = y) := by
    intro i
    have hx : (toStr x).length = x.length := by simp [toStr, Str.length]
    have hy : (toStr y).length = y.length := by simp [toStr, Str.length]
    unfold At
    rw [subAt_eq, hx, hy]
    simp [toStr]
  rcases occ_head (toStr x) (toStr y) 1 (Nat.le_refl _) with ⟨h0, hn⟩ | ⟨i, r, h0, h1, h2⟩
  · left
    refine ⟨?_, fun i hi => hn i ((hat i).mpr hi)⟩
    unfold findL Txt.find
    rw [h0]
  · right
    refine ⟨i, ?_, (hat i).mp h1, fun k hk hh => h2 k hk ((hat k).mpr hh)⟩
    unfold findL Txt.find
    rw [h0]
theorem findL_le (x y : List Nat) : findL x y ≤ x.length := by
  rcases findL_spec x y with ⟨h, _⟩ | ⟨i, h, h1, _⟩
  · rw [h]; omega
  · rw [h]; omega
noncomputable abbrev mixS (xs : List Nat) : Prop := (chars xs).take 24 = List.replicate 20 48 ++ [102, 102, 102, 102] ∨ ((chars xs).take 24 = List.replicate 24 48 ∧ sliceL (chars xs) 24 28 ≠ [48, 48, 48, 48])
noncomputable def partsS (xs : List Nat) : List (List Nat) := if mixS xs then (wsX xs).take 6 ++ [dotX (xs.drop 24)] else wsX xs
noncomputable def patS (m : Nat) : List Nat := (List.replicate m [58, 48]).flatten ++ [58]
noncomputable def bigT (ps : List (List Nat)) : List Nat := [58] ++ joinL [58] ps ++ [58]
noncomputable def shStp (T : List Nat) (_ : Unit) (k : Nat) : Unit ⊕ D :=
  if 0 ≤ findL T (patS (8 - k)) then .inr (.str (sliceL T 1 (findL T (patS (8 - k))).toNat ++ [58, 58] ++ sliceL T ((findL T (patS (8 - k))).toNat + 2 * (8 - k) + 1) (T.length - 1))) else .inl ()
noncomputable def shortD (T : List Nat) : D := match runL (shStp T) (List.range 7) () with
  | .inr d => d
  | .inl _ => .str (sliceL T 1 (T.length - 1))
theorem pat_len (m : Nat) : (patS m).length = 2 * m + 1 := by
  unfold patS
  rw [List.length_append]
  have : (List.replicate m [58, 48]).flatten.length = 2 * m := by
    induction m with
    | zero => rfl
    | succ m ih => simp only [List.replicate_succ, List.flatten_cons, List.length_append, ih, List.length_cons, List.length_nil]; lia
  rw [this]
  rfl
theorem sl_len (x : List Nat) (a b : Nat) : (sliceL x a b).length ≤ x.length := by unfold sliceL; rw [List.length_drop, List.length_take]; omega
theorem dotX_len {xs : List Nat} (hx : Nib xs) : (dotX xs).length ≤ 15 := dot4_len (byte_lt hx 0) (byte_lt hx 1) (byte_lt hx 2) (byte_lt hx 3)
theorem nib_drop {xs : List Nat} (hx : Nib xs) (n : Nat) : Nib (xs.drop n) := fun y hy => hx y (List.mem_of_mem_drop hy)
theorem go_rngd {kl : List D → Prop} (h : kl ((List.range 7).map fun (k : Nat) => D.int (8 - (k : Int)))) : Go (rangeD [.int 8, .int 1, .int (-1)]) kl := go_of (a := rangeDown 8 1) rfl h
theorem rngd_eq : ((List.range 7).map fun (k : Nat) => D.int (8 - (k : Int))) = (List.range 7).map fun (k : Nat) => D.int ((8 - k : Nat) : Int) := by rfl
noncomputable def shE (v0 v1 v2 v3 v4 : Option D) : Lo := [(S "digits", v0), (S "words", v1), (S "text", v2), (S "many", v3), (S "at", v4)]
noncomputable def ShQ (xs : List Nat) : Fl × St → Prop := fun q => q = (.next, ⟨(shE (some (.str (chars xs))) (some (.list ((partsS xs).map .str))) none none none), none⟩)
noncomputable def ShI (xs : List Nat) (T : List Nat) : Unit → St → Prop := fun (_ : Unit) st => ∃ a b : Option D, ∃ ws, st = ⟨(shE (some (.str (chars xs))) ws (some (.str T)) a b), none⟩
theorem short_spec (k : Nat) (xs : List Nat) (hx : Nib xs) (hl : xs.length = 32) : callD T0 12 200 40 (k+3) (S "_law_short") [.str (chars xs)] = some (shortD (bigT (partsS xs))) := by
  have hsz := sizeLine_eq
  have hcl := chars_length xs
  have e1 : ofStr (S ":") = [58] := rfl
  have e2 : ofStr (S "::") = [58, 58] := rfl
  have e3 : ofStr (S ":0") = [58, 48] := rfl
  have e4 : ofStr (S "0") = [48] := rfl
  have e5 : ofStr (S "ffff") = [102, 102, 102, 102] := rfl
  have e6 : ofStr (S "0000") = [48, 48, 48, 48] := rfl
  refine call_of2 (shE (some (.str (chars xs))) none none none none) rfl rfl rfl ?_
  walk_at "go"
  refine go_rng1 (n := 8) (by decide) ?_
  refine ⟨by rw [List.length_map, List.length_range]; omega, scal_ints _, ?_⟩
  refine go_mapM (fun j => .str (bareL 3 (chars (word xs j)))) ?_ ?_
  · intro j hj
    rw [List.mem_range] at hj
    walk_at "go"
    refine go_sls (by omega) (bound_int (by omega)) (bound_int (by omega)) ?_
    have t1 : ((4 : Int) * (j : Int)).toNat = 4 * j := by omega
    have t2 : ((4 : Int) * (j : Int) + 4).toNat = 4 * j + 4 := by lia
    rw [t1, t2, slice_chars, show 4 * j + 4 - 4 * j = 4 by lia]
    walk_at "go"
    refine go_of (bare_spec _ (chars (word xs j)) 3 (by rw [chars_length]; exact word_len xs j) (by decide)) ?_
    rfl
  refine ⟨scal_strf _ _, ?_⟩
  have hws : ((List.range 8).map fun j => D.str (bareL 3 (chars (word xs j)))) = (wsX xs).map .str := by unfold wsX; rw [List.map_map]; rfl
  rw [hws]
  have hpl : (partsS xs).length ≤ 8 ∧ (partsS xs) ≠ [] := by
    unfold partsS
    split
    · exact ⟨by rw [List.length_append, List.length_take, wsX_len]; simp, by simp⟩
    · exact ⟨by rw [wsX_len]; exact Nat.le_refl _, fun h => by have := wsX_len xs; rw [h] at this; cases this⟩
  have hps : ∀ w ∈ partsS xs, w.length ≤ 15 := by
    intro w hw
    unfold partsS at hw
    split at hw
    · rw [List.mem_append] at hw
      rcases hw with hw | hw
      · have := wsX_small xs w (List.mem_of_mem_take hw); omega
      · simp only [List.mem_singleton] at hw
        subst hw
        exact dotX_len (nib_drop hx _)
    · have := wsX_small xs w hw; omega
  have hjl : (joinL [58] (partsS xs)).length ≤ 136 := by
    have := join_len' (x := [58]) (l := partsS xs) (B := 15) hps (by decide)
    have := Nat.mul_le_mul_left (15 + 2) hpl.1
    omega
  have hT : (bigT (partsS xs)).length ≤ 138 := by unfold bigT; simp only [List.length_append, List.length_cons, List.length_nil]; omega
  have hT2 : 2 ≤ (bigT (partsS xs)).length := by unfold bigT; simp only [List.length_append, List.length_cons, List.length_nil]; lia
  walk_at "go"
  refine go_ifj (mixS xs) (ShQ xs) ?_ (fun hm => ?_) (fun hm => ?_) ?_
  · walk_at "go"
    refine go_sls (by omega) rfl rfl ?_
    have s24 : sliceL (chars xs) 0 (24 : Int).toNat = (chars xs).take 24 := rfl
    rw [s24]
    walk_at "go"
    rw [e4]
    rw [e5]
    have r20 : (List.replicate (20 : Int).toNat [48]).flatten ++ [102, 102, 102, 102] = List.replicate 20 48 ++ [102, 102, 102, 102] := rfl
    rw [r20]
    refine ⟨fun h => ?_, fun h => ?_⟩
    · exact (decide_eq_true (.inl (eq_of_beq h))).symm
    have hn1 : ¬ (chars xs).take 24 = List.replicate 20 48 ++ [102, 102, 102, 102] := ne_of_b h
    walk_at "go"
    refine go_sls (by omega) rfl rfl ?_
    rw [s24]
    walk_at "go"
    rw [e4]
    have r24 : (List.replicate (24 : Int).toNat [48]).flatten = List.replicate 24 48 := rfl
    rw [r24]
    refine ⟨fun h => ?_, fun h => ?_⟩
    · refine ⟨fun hh => Bool.noConfusion hh, fun _ => ?_⟩
      walk_at "go"
      have hn2 : ¬ (chars xs).take 24 = List.replicate 24 48 := ne_of_b h
      exact (decide_eq_false (fun hm => hm.elim hn1 fun q => hn2 q.1)).symm
    have hy2 : (chars xs).take 24 = List.replicate 24 48 := eq_of_beq h
    walk_at "go"
    refine go_sls (by omega) rfl rfl ?_
    have s28 : sliceL (chars xs) (24 : Int).toNat (28 : Int).toNat = sliceL (chars xs) 24 28 := rfl
    rw [s28]
    walk_at "go"
    rw [e6]
    by_cases h3 : sliceL (chars xs) 24 28 = [48, 48, 48, 48]
    · refine ⟨fun _ => ?_, fun hh => absurd h3 (ne_of_nb hh)⟩
      refine ⟨fun hh => Bool.noConfusion hh, fun _ => ?_⟩
      walk_at "go"
      exact (decide_eq_false (fun hm => hm.elim hn1 fun q => q.2 h3)).symm
    · refine ⟨fun hh => absurd (eq_of_nb hh) h3, fun _ => ?_⟩
      walk_at "go"
      refine ⟨fun _ => ?_, fun hh => Bool.noConfusion hh⟩
      exact (decide_eq_true (.inr ⟨hy2, h3⟩)).symm
  · have hpi : partsS xs = (wsX xs).take 6 ++ [dotX (xs.drop 24)] := if_pos hm
    · walk_at "go"
      refine go_sll (a := 0) (b := 6) ?_ rfl rfl ?_
      · rw [List.length_map, wsX_len]; omega
      rw [sl_map]
      walk_at "go"
      refine go_sls (a := 24) (b := (chars xs).length) (by omega) rfl rfl ?_
      rw [slice_chars, hcl, hl, List.take_of_length_le (by rw [List.length_drop]; omega)]
      walk_at "go"
      refine go_of (dotted_spec k (xs.drop 24) (nib_drop hx _) (by rw [List.length_drop]; omega)) ?_
      walk_at "go"
      have hpp : (sliceL (wsX xs) 0 6).map D.str ++ [D.str (dotX (xs.drop 24))] = (partsS xs).map .str := by
        rw [hpi, List.map_append]; rfl
      refine go_addl ?_ ?_
      · have := congrArg List.length hpp
        rw [List.length_append] at this
        rw [this, List.length_map]; omega
      rw [hpp]
      walk_at "go"
      rfl
  · have hpi : partsS xs = wsX xs := if_neg hm
    unfold ShQ
    rw [hpi]
    walk_at "go"
    rfl
  · rintro _ rfl
    dsimp only
    walk_at "go"
    refine go_join' (fun w hw => by have := hps w hw; omega) (by omega) (by decide) ?_
    rw [e1]
    refine go_adds ?_ ?_
    · simp only [List.length_cons, List.length_nil]; omega
    walk_at "go"
    rw [e1]
    refine go_adds ?_ ?_
    · simp only [List.length_append, List.length_cons, List.length_nil]; omega
    walk_at "go"
    have hTT : [58] ++ joinL [58] (partsS xs) ++ [58] = bigT (partsS xs) := rfl
    rw [hTT]
    generalize hTe : bigT (partsS xs) = T at *
    refine go_for0 ?_
    walk_at "go"
    refine go_neg' ?_
    walk_at "go"
    refine ⟨1, rfl, ?_⟩
    walk_at "go"
    refine go_rngd ?_
    refine ⟨rfl, ?_⟩
    rw [rngd_eq]
    refine for_endP (fun k => k < 7) (fun k hk => List.mem_range.mp hk) _ (ShI xs T) (shStp T) () ⟨none, none, _, rfl⟩ ?_ ?_ ?_
    · rintro _ j _ hj ⟨a, b, ws, rfl⟩
      refine go_set0 rfl ?_
      walk_at "go"
      rw [e3]
      refine go_muls ?_ ?_
      · simp only [List.length_cons, List.length_nil]; omega
      rw [Int.toNat_natCast]
      walk_at "go"
      rw [e1]
      have hpl := pat_len (8 - j)
      have hpe : (List.replicate (8 - j) [58, 48]).flatten ++ [58] = patS (8 - j) := rfl
      refine go_adds ?_ ?_
      · rw [← hpe, List.length_append] at hpl
        omega
      rw [hpe]
      walk_at "go"
      refine go_find ?_
      walk_at "go"
      have hle := findL_le T (patS (8 - j))
      by_cases hat : 0 ≤ findL T (patS (8 - j))
      · have hst : shStp T () j = .inr (.str (sliceL T 1 (findL T (patS (8 - j))).toNat ++ [58, 58] ++ sliceL T ((findL T (patS (8 - j))).toNat + 2 * (8 - j) + 1) (T.length - 1))) := if_pos hat
        refine go_ift ?_ ?_
        · walk_at "go"
          simp [hat]
        · walk_at "go"
          rw [hst]
          generalize findL T (patS (8 - j)) = at' at *
          refine go_sls (by omega) (bound_int (by omega)) (bound_int (by omega)) ?_
          walk_at "go"
          rw [e2]
          have l1 := sl_len T (1 : Int).toNat at'.toNat
          refine go_adds ?_ ?_
          · simp only [List.length_cons, List.length_nil]; omega
          walk_at "go"
          refine go_sls (by omega) (bound_int (by omega)) (bound_int (by omega)) ?_
          have t1 : (at' + 2 * ((8 - j : Nat) : Int) + 1).toNat = at'.toNat + 2 * (8 - j) + 1 := by omega
          have t2 : ((T.length : Int) - 1).toNat = T.length - 1 := by lia
          rw [t1, t2]
          have l2 := sl_len T (at'.toNat + 2 * (8 - j) + 1) (T.length - 1)
          refine go_adds ?_ ?_
          · simp only [List.length_append, List.length_cons, List.length_nil]; lia
          rfl
      · have hst : shStp T () j = .inl () := if_neg hat
        refine go_iff ?_ ?_
        · walk_at "go"
          simp; omega
        · walk_at "go"
          rw [hst]
          exact ⟨rfl, some (.int ((8 - j : Nat) : Int)), some (.int (findL T (patS (8 - j)))), ws, rfl⟩
    · rintro _ _ hrun ⟨a, b, ws, rfl⟩
      walk_at "go"
      refine go_sls (by omega) (bound_int (by omega)) (bound_int (by omega)) ?_
      have t2 : ((T.length : Int) - 1).toNat = T.length - 1 := by lia
      rw [t2]
      unfold shortD
      rw [hrun]
      rfl
    · intro d _ hrun
      unfold shortD
      rw [hrun]
end Mine.G
namespace Mine.G
/-- a text stands in another at a place -/
noncomputable def Occ (x y : List Nat) (i : Nat) : Prop := i + y.length ≤ x.length ∧ (x.drop i).take y.length = y
/-- the parts of a text between a mark's stands, the first ones taken first -/
noncomputable def Sp (y : List Nat) : List Nat → List (List Nat) → Prop
  | _, [] => False
  | x, [p] => p = x ∧ ∀ i, ¬ Occ x y i
  | x, p :: q :: r => ∃ x', x = p ++ (y ++ x') ∧ (∀ k, k < p.length → ¬ Occ x y k) ∧ Sp y x' (q :: r)
theorem occ_here (p y x : List Nat) : Occ (p ++ (y ++ x)) y p.length := by
  refine ⟨by simp only [List.length_append]; lia, ?_⟩
  rw [List.drop_left, List.take_left]
theorem sp_unique {y : List Nat} : ∀ {ps qs : List (List Nat)} {x : List Nat}, Sp y x ps → Sp y x qs → ps = qs
  | [], _, _, h, _ => h.elim
  | [_], [], _, _, h => h.elim
  | _ :: _ :: _, [], _, _, h => h.elim
  | [p], [q], _, h, h' => by rw [h.1, h'.1]
  | [p], q :: q' :: r, _, h, h' => by
    obtain ⟨x', e, _, _⟩ := h'
    exact absurd (e ▸ occ_here q y x') (h.2 _)
  | p :: p' :: r, [q], _, h, h' => by
    obtain ⟨x', e, _, _⟩ := h
    exact absurd (e ▸ occ_here p y x') (h'.2 _)
  | p :: p' :: r, q :: q' :: s, x, h, h' => by
    obtain ⟨x1, e1, n1, s1⟩ := h
    obtain ⟨x2, e2, n2, s2⟩ := h'
    have hl : p.length = q.length := by
      rcases Nat.lt_trichotomy p.length q.length with h | h | h
      · exact absurd (e1 ▸ occ_here p y x1) (n2 _ h)
      · exact h
      · exact absurd (e2 ▸ occ_here q y x2) (n1 _ h)
    have e3 : p ++ (y ++ x1) = q ++ (y ++ x2) := e1.symm.trans e2
    obtain ⟨e4, e5⟩ := List.append_inj e3 hl
    have e6 := List.append_cancel_left e5
    subst e4
    subst e6
    rw [sp_unique s1 s2]
open StrLaws Builtin.Str in
theorem at_iff (x y : List Nat) (i : Nat) : At (toStr x) (toStr y) (toStr x).length i ↔ Occ x y i := by
  have hx : (toStr x).length = x.length := by simp [toStr, Str.length]
  have hy : (toStr y).length = y.length := by simp [toStr, Str.length]
  unfold At
  rw [subAt_eq, hx, hy]
  simp [toStr, Occ]
theorem occ_drop {x y : List Nat} {a k : Nat} (hy : y ≠ []) (h : Occ (x.drop a) y k) : Occ x y (a + k) := by
  obtain ⟨h1, h2⟩ := h
  rw [List.length_drop] at h1
  rw [List.drop_drop] at h2
  have : 0 < y.length := List.length_pos_iff.mpr hy
  exact ⟨by omega, h2⟩
open StrLaws Builtin.Str in
theorem sp_parts {x y : List Nat} (hy : y ≠ []) : ∀ (cuts : List Nat) (a f : Nat), ChainG (toStr x) (toStr y) (toStr x).length a cuts f → (∀ k, f ≤ k → ¬ At (toStr x) (toStr y) (toStr x).length k) → a ≤ x.length →
    Sp y (x.drop a) ((partsFrom (toStr x) (toStr y).length a cuts).map ofStr)
  | [], a, f, h, hn, ha => by
    have e : f = a := h
    subst e
    have hx : (toStr x).length = x.length := by simp [toStr, Str.length]
    refine ⟨?_, fun i hi => hn (f + i) (by lia) ((at_iff x y _).mpr (occ_drop hy hi))⟩
    show ofStr (strSub (toStr x) f (toStr x).length) = _
    unfold ofStr
    rw [strSub_toList, hx]
    exact List.take_of_length_le (by simp [toStr])
  | c :: r, a, f, h, hn, ha => by
    obtain ⟨h1, h2, h3, h4⟩ := h
    have hx : (toStr x).length = x.length := by simp [toStr, Str.length]
    have hyl : (toStr y).length = y.length := by simp [toStr, Str.length]
    have ho := (at_iff x y c).mp h2
    obtain ⟨p, q, e⟩ := partsFrom_ne (toStr x) (toStr y).length (c + (toStr y).length) r
    have ih := sp_parts hy r (c + (toStr y).length) f h4 hn (by rw [hyl]; exact ho.1)
    rw [hyl] at ih e
    have e0 : (partsFrom (toStr x) (toStr y).length a (c :: r)).map ofStr = ofStr (strSub (toStr x) a c) :: ofStr p :: q.map ofStr := by
      show ofStr _ :: (partsFrom (toStr x) (toStr y).length (c + (toStr y).length) r).map ofStr = _
      rw [hyl, e]
      rfl
    rw [e] at ih
    rw [e0]
    have ep : ofStr (strSub (toStr x) a c) = (x.drop a).take (c - a) := by
      unfold ofStr
      rw [strSub_toList]
      rfl
    have el : ((x.drop a).take (c - a)).length = c - a := by
      have := ho.1
      rw [List.length_take, List.length_drop]; lia
    rw [ep]
    refine ⟨x.drop (c + y.length), ?_, ?_, ih⟩
    · have e1 : y ++ x.drop (c + y.length) = x.drop c := by
        have := List.take_append_drop y.length (x.drop c)
        rw [ho.2, List.drop_drop] at this
        exact this
      rw [e1]
      have e2 : x.drop c = (x.drop a).drop (c - a) := by rw [List.drop_drop]; congr 1; omega
      rw [e2, List.take_append_drop]
    · intro k hk hoc
      rw [el] at hk
      exact h3 (a + k) (by lia) (by omega) ((at_iff x y _).mpr (occ_drop hy hoc))
open StrLaws Builtin.Str in
theorem splitL_sp {x y : List Nat} (hy : y ≠ []) (hc : ∀ c ∈ y, c < 256) : Sp y x (splitL x y) := by
  have hx : (toStr x).length = x.length := by simp [toStr, Str.length]
  have hyl : (toStr y).length = y.length := by simp [toStr, Str.length]
  have hpos : 0 < y.length := List.length_pos_iff.mpr hy
  obtain ⟨f, hG, hn⟩ := occ_tight (toStr x) (toStr y) (by rw [hyl]; exact hpos)
  have hox : ofStr (toStr x) = x := rfl
  unfold splitL Txt.split
  by_cases h1 : (decide ((toStr x).length < (toStr y).length) || decide (Builtin.Str.strKind (toStr x) < Builtin.Str.strKind (toStr y))) = true
  · rw [if_pos h1]
    have hk : Builtin.Str.strKind (toStr y) = 1 := by
      unfold Builtin.Str.strKind
      rw [if_pos]
      show (y.toArray.all fun x => decide (x < 256)) = true
      simp only [List.all_toArray, List.all_eq_true, decide_eq_true_eq]
      exact hc
    have hk2 : 1 ≤ Builtin.Str.strKind (toStr x) := by unfold Builtin.Str.strKind; split; exact Nat.le_refl _; split <;> lia
    rw [hk, hx, hyl] at h1
    simp only [Bool.or_eq_true, decide_eq_true_eq] at h1
    refine ⟨rfl, fun i hi => ?_⟩
    have := hi.1
    omega
  · rw [if_neg h1]
    by_cases h2 : (occurrences (toStr x) (toStr y) 0 (toStr x).length ((toStr x).length + 1)).isEmpty = true
    · rw [if_pos h2]
      have e0 := List.isEmpty_iff.mp h2
      rw [e0] at hG
      have ef : f = 0 := hG
      subst ef
      exact ⟨rfl, fun i hi => hn i (Nat.zero_le _) ((at_iff x y i).mpr hi)⟩
    · rw [if_neg h2, partsBetween_eq]
      have := sp_parts hy _ 0 f hG hn (Nat.zero_le _)
      exact this
theorem splitL_eq {x y : List Nat} {ps : List (List Nat)} (hy : y ≠ []) (hc : ∀ c ∈ y, c < 256) (h : Sp y x ps) : splitL x y = ps := sp_unique (splitL_sp hy hc) h
theorem occ_one {x : List Nat} {c i : Nat} : Occ x [c] i ↔ x[i]? = some c := by
  unfold Occ
  constructor
  · rintro ⟨h1, h2⟩
    have h3 := congrArg (fun l => l[0]?) h2
    simpa [List.getElem?_take, List.getElem?_drop] using h3
  · intro h
    have hi : i < x.length := by
      rcases Nat.lt_or_ge i x.length with h' | h'
      · exact h'
      · rw [List.getElem?_eq_none h'] at h; cases h
    refine ⟨hi, ?_⟩
    rw [List.getElem?_eq_getElem hi] at h
    rw [List.drop_eq_getElem_cons hi, List.length_singleton, List.take_succ_cons, List.take_zero]
    rw [Option.some.inj h]
theorem occ_one_not {x : List Nat} {c : Nat} (h : c ∉ x) (i : Nat) : ¬ Occ x [c] i := fun ho => h (List.mem_of_getElem? (occ_one.mp ho))
/-- parts that are free of a sign, joined by it, fall apart as they were -/
theorem sp_join (c : Nat) : ∀ (ps : List (List Nat)), ps ≠ [] → (∀ p ∈ ps, c ∉ p) → Sp [c] (joinL [c] ps) ps
  | [], h, _ => absurd rfl h
  | [p], _, h => ⟨rfl, occ_one_not (h p (.head _))⟩
  | p :: q :: r, _, h => by
    refine ⟨joinL [c] (q :: r), ?_, ?_, sp_join c (q :: r) (by simp) fun a ha => h a (.tail _ ha)⟩
    · show p ++ [c] ++ joinL [c] (q :: r) = _
      rw [List.append_assoc]
    · intro k hk ho
      have e : joinL [c] (p :: q :: r) = p ++ ([c] ++ joinL [c] (q :: r)) := by
        show p ++ [c] ++ joinL [c] (q :: r) = _
        rw [List.append_assoc]
      have h1 := occ_one.mp ho
      rw [e, List.getElem?_append_left hk] at h1
      exact h p (.head _) (List.mem_of_getElem? h1)
theorem split_join {c : Nat} (hc : c < 256) {ps : List (List Nat)} (h0 : ps ≠ []) (h : ∀ p ∈ ps, c ∉ p) : splitL (joinL [c] ps) [c] = ps :=
  splitL_eq (by simp) (by simpa using hc) (sp_join c ps h0 h)
theorem split_none {c : Nat} (hc : c < 256) {x : List Nat} (h : c ∉ x) : splitL x [c] = [x] := splitL_eq (by simp) (by simpa using hc) ⟨rfl, occ_one_not h⟩

/-- no two of the sign run -/
noncomputable def nd (c : Nat) : List Nat → Bool
  | [] => true
  | a :: r => !(a == c && r.head? == some c) && nd c r
theorem nd_occ {c : Nat} : ∀ {x : List Nat}, nd c x = true → ∀ i, ¬ Occ x [c, c] i
  | [], _, i, ⟨h, _⟩ => by simp at h
  | a :: r, h, i, ho => by
    simp only [nd, Bool.and_eq_true, Bool.not_eq_true'] at h
    cases i with
    | zero =>
      have h2 := ho.2
      match r, h with
      | [], _ => simp at h2
      | b :: r, h =>
        simp at h2
        obtain ⟨rfl, rfl⟩ := h2
        simp at h
    | succ i =>
      have h1 := ho.1
      have h2 := ho.2
      exact nd_occ h.2 i ⟨by simp only [List.length_cons] at *; omega, h2⟩
theorem nd_free {c : Nat} : ∀ (p x : List Nat), c ∉ p → nd c (p ++ x) = nd c x
  | [], _, _ => rfl
  | a :: p, x, h => by
    have ha : (a == c) = false := by
      have : a ≠ c := fun e => h (e ▸ .head _)
      simpa using this
    show (!(a == c && (p ++ x).head? == some c) && nd c (p ++ x)) = _
    rw [nd_free p x fun hm => h (.tail _ hm), ha]
    rfl
theorem nd_sep {c : Nat} {p x : List Nat} (hp : p ≠ []) (h : c ∉ p) : nd c (c :: (p ++ x)) = nd c x := by
  rw [← nd_free p x h]
  show (!(c == c && (p ++ x).head? == some c) && nd c (p ++ x)) = _
  match p, hp with
  | a :: p, _ =>
    have ha : (some a == some c) = false := by
      have : a ≠ c := fun e => h (e ▸ .head _)
      simpa using this
    show (!(c == c && (some a == some c)) && _) = _
    rw [ha]
    simp
theorem nd_join {c : Nat} : ∀ (ps : List (List Nat)) (x : List Nat), (∀ p ∈ ps, p ≠ [] ∧ c ∉ p) → nd c (joinL [c] ps ++ x) = nd c x
  | [], _, _ => rfl
  | [p], x, h => nd_free p x (h p (.head _)).2
  | p :: q :: r, x, h => by
    have e : joinL [c] (p :: q :: r) ++ x = p ++ (c :: (joinL [c] (q :: r) ++ x)) := by
      show p ++ [c] ++ joinL [c] (q :: r) ++ x = _
      simp
    rw [e, nd_free p _ (h p (.head _)).2]
    have ih := nd_join (q :: r) x fun a ha => h a (.tail _ ha)
    have hq := h q (.tail _ (.head _))
    rw [← ih]
    obtain ⟨y, hy⟩ : ∃ y, joinL [c] (q :: r) ++ x = q ++ y := by
      cases r with
      | nil => exact ⟨x, rfl⟩
      | cons s r => exact ⟨[c] ++ joinL [c] (s :: r) ++ x, by simp [joinL]⟩
    rw [hy, nd_sep hq.1 hq.2, nd_free q y hq.2]
theorem split2_none {ps : List (List Nat)} (h : ∀ p ∈ ps, p ≠ [] ∧ 58 ∉ p) : splitL (joinL [58] ps) [58, 58] = [joinL [58] ps] := by
  refine splitL_eq (by simp) (by simp) ⟨rfl, nd_occ ?_⟩
  have := nd_join (c := 58) ps [] h
  rw [List.append_nil] at this
  exact this
theorem split2_gap {a b : List (List Nat)} (ha : ∀ p ∈ a, p ≠ [] ∧ 58 ∉ p) (hb : ∀ p ∈ b, p ≠ [] ∧ 58 ∉ p) : splitL (joinL [58] a ++ [58, 58] ++ joinL [58] b) [58, 58] = [joinL [58] a, joinL [58] b] := by
  refine splitL_eq (by simp) (by simp) ⟨joinL [58] b, by simp, ?_, rfl, nd_occ ?_⟩
  · intro k hk ho
    have h1 := nd_join (c := 58) a [58] ha
    have h2 := nd_occ (h1.trans rfl) k
    refine h2 ⟨by simp only [List.length_append, List.length_cons, List.length_nil]; omega, ?_⟩
    have h3 := ho.2
    have e : joinL [58] a ++ [58, 58] ++ joinL [58] b = (joinL [58] a ++ [58]) ++ ([58] ++ joinL [58] b) := by simp
    rw [e, List.drop_append_of_le_length (by simp; omega), List.take_append_of_le_length (by simp; omega)] at h3
    exact h3
  · have := nd_join (c := 58) b [] hb
    rw [List.append_nil] at this
    exact this
end Mine.G
namespace Mine.G
/-- the parts, each behind a colon, and a colon at the end -/
noncomputable def RR (ps : List (List Nat)) : List Nat := (ps.map fun p => 58 :: p).flatten ++ [58]
theorem RR_cons (p : List Nat) (ps : List (List Nat)) : RR (p :: ps) = 58 :: (p ++ RR ps) := by simp [RR]
theorem RR_head (ps : List (List Nat)) : ∃ r, RR ps = 58 :: r := by
  cases ps with
  | nil => exact ⟨[], rfl⟩
  | cons p ps => exact ⟨_, RR_cons p ps⟩
theorem join_RR : ∀ ps : List (List Nat), ps ≠ [] → 58 :: (joinL [58] ps ++ [58]) = RR ps
  | [], h => absurd rfl h
  | [p], _ => by simp [RR, joinL]
  | p :: q :: r, _ => by
    rw [RR_cons, ← join_RR (q :: r) (by simp)]
    simp [joinL]
theorem bigT_RR {ps : List (List Nat)} (h : ps ≠ []) : bigT ps = RR ps := by
  rw [← join_RR ps h]
  unfold bigT
  simp
theorem pat_succ (m : Nat) : patS (m + 1) = 58 :: 48 :: patS m := by simp [patS, List.replicate_succ]
theorem pat_head (m : Nat) : ∃ r, patS m = 58 :: r := by
  cases m with
  | zero => exact ⟨[], rfl⟩
  | succ m => exact ⟨_, pat_succ m⟩
/-- the first m flags are set -/
noncomputable def allT : Nat → List Bool → Bool
  | 0, _ => true
  | _ + 1, [] => false
  | m + 1, b :: r => b && allT m r
noncomputable def zb (ps : List (List Nat)) : List Bool := ps.map fun p => p == [48]
theorem pre_pat : ∀ (m : Nat) (ps : List (List Nat)), (∀ p ∈ ps, 58 ∉ p) → (patS m <+: RR ps ↔ allT m (zb ps) = true)
  | 0, ps, _ => by
    obtain ⟨r, hr⟩ := RR_head ps
    rw [hr]
    exact ⟨fun _ => rfl, fun _ => ⟨r, rfl⟩⟩
  | m + 1, [], _ => by
    constructor
    · intro h
      have := h.length_le
      rw [pat_len] at this
      simp [RR] at this
    · intro h; cases h
  | m + 1, p :: ps, hf => by
    have ih := pre_pat m ps fun a ha => hf a (.tail _ ha)
    have hp := hf p (.head _)
    rw [pat_succ, RR_cons, List.cons_prefix_cons]
    show _ ↔ ((p == [48]) && allT m (zb ps)) = true
    rw [Bool.and_eq_true, beq_iff_eq]
    constructor
    · rintro ⟨_, h⟩
      obtain ⟨r, hr⟩ := RR_head ps
      obtain ⟨s, hs⟩ := pat_head m
      match p, hp with
      | [], _ =>
        rw [List.nil_append, hr, List.cons_prefix_cons] at h
        exact absurd h.1 (by decide)
      | [a], _ =>
        rw [List.cons_append, List.nil_append, List.cons_prefix_cons] at h
        exact ⟨by rw [← h.1], ih.mp h.2⟩
      | a :: b :: q, hp =>
        rw [List.cons_append, List.cons_append, hs, List.cons_prefix_cons, List.cons_prefix_cons] at h
        exact absurd (.tail _ (h.2.1 ▸ .head _)) hp
    · rintro ⟨rfl, h⟩
      exact ⟨rfl, by rw [List.cons_append, List.nil_append, List.cons_prefix_cons]; exact ⟨rfl, ih.mpr h⟩⟩
/-- where the j-th part's colon stands -/
noncomputable def off (ps : List (List Nat)) (j : Nat) : Nat := ((ps.take j).map fun p => p.length + 1).sum
theorem off_drop : ∀ (ps : List (List Nat)) (j : Nat), j ≤ ps.length → (RR ps).drop (off ps j) = RR (ps.drop j)
  | ps, 0, _ => rfl
  | [], j + 1, h => by simp at h
  | p :: ps, j + 1, h => by
    have e : off (p :: ps) (j + 1) = p.length + 1 + off ps j := by simp [off]
    have ih := off_drop ps j (by simpa using h)
    rw [e, RR_cons, ← List.drop_drop, List.drop_succ_cons, List.drop_left, ih]
    rfl
theorem off_take : ∀ (ps : List (List Nat)) (j : Nat), j ≤ ps.length → (RR ps).take (off ps j) = ((ps.take j).map fun p => 58 :: p).flatten
  | ps, 0, _ => rfl
  | [], j + 1, h => by simp at h
  | p :: ps, j + 1, h => by
    have e : off (p :: ps) (j + 1) = (p.length + off ps j) + 1 := by simp [off]; lia
    have ih := off_take ps j (by simpa using h)
    rw [e, RR_cons, List.take_succ_cons, List.take_append, Nat.add_sub_cancel_left, ih, List.take_of_length_le (by lia)]
    simp
theorem off_mono (ps : List (List Nat)) {i j : Nat} (h : i < j) (hj : j ≤ ps.length) : off ps i < off ps j := by
  unfold off
  have e : ps.take j = ps.take i ++ (ps.drop i).take (j - i) := by
    rw [← List.take_append_drop i (ps.take j), List.take_take, Nat.min_eq_left (by omega), List.drop_take]
  rw [e, List.map_append, List.sum_append]
  obtain ⟨d, hd⟩ : ∃ d, j - i = d + 1 := ⟨j - i - 1, by lia⟩
  have hl : (ps.drop i) ≠ [] := by
    intro h0
    have := congrArg List.length h0
    rw [List.length_drop] at this
    simp at this
    omega
  obtain ⟨q, r, hq⟩ : ∃ q r, ps.drop i = q :: r := by cases hh : ps.drop i with | nil => exact absurd hh hl | cons q r => exact ⟨q, r, rfl⟩
  rw [hq, hd, List.take_succ_cons]
  simp only [List.map_cons, List.sum_cons]
  lia
theorem occ_pre {x y : List Nat} {i : Nat} (h : Occ x y i) : y <+: x.drop i := by
  rw [← h.2]; exact List.take_prefix _ _
theorem pre_occ {x y : List Nat} {i : Nat} (hy : y ≠ []) (h : y <+: x.drop i) : Occ x y i := by
  have hl := h.length_le
  rw [List.length_drop] at hl
  have : 0 < y.length := List.length_pos_iff.mpr hy
  exact ⟨by omega, (List.prefix_iff_eq_take.mp h).symm⟩
theorem occ_off : ∀ (ps : List (List Nat)) (m i : Nat), (∀ p ∈ ps, 58 ∉ p) → Occ (RR ps) (patS (m + 1)) i → ∃ j, j ≤ ps.length ∧ i = off ps j ∧ allT (m + 1) (zb (ps.drop j)) = true
  | [], m, i, _, h => by
    have := h.1
    rw [pat_len] at this
    simp [RR] at this
    lia
  | p :: ps, m, i, hf, h => by
    by_cases h0 : i = 0
    · subst h0
      exact ⟨0, Nat.zero_le _, rfl, (pre_pat (m + 1) (p :: ps) hf).mp (occ_pre h)⟩
    · have hpre := occ_pre h
      rw [RR_cons] at hpre
      obtain ⟨i', rfl⟩ : ∃ i', i = i' + 1 := ⟨i - 1, by omega⟩
      rw [List.drop_succ_cons] at hpre
      by_cases h1 : i' < p.length
      · rw [List.drop_append_of_le_length (by omega), List.drop_eq_getElem_cons h1, pat_succ, List.cons_append, List.cons_prefix_cons] at hpre
        exact absurd (hpre.1 ▸ List.getElem_mem h1) (hf p (.head _))
      · have e : i' = p.length + (i' - p.length) := by omega
        rw [e, ← List.drop_drop, List.drop_left] at hpre
        obtain ⟨j, hj, e1, e2⟩ := occ_off ps m (i' - p.length) (fun a ha => hf a (.tail _ ha)) (pre_occ (by rw [pat_succ]; simp) hpre)
        refine ⟨j + 1, by simpa using hj, ?_, e2⟩
        have : off (p :: ps) (j + 1) = p.length + 1 + off ps j := by simp [off]
        rw [this]
        lia
/-- the first place from which m flags are set -/
noncomputable def frun (m : Nat) : List Bool → Option Nat
  | [] => if m = 0 then some 0 else none
  | b :: r => if allT m (b :: r) then some 0 else (frun m r).map (· + 1)
theorem frun_spec (m : Nat) : ∀ zs : List Bool, match frun m zs with
    | some j => j ≤ zs.length ∧ allT m (zs.drop j) = true ∧ ∀ i, i < j → allT m (zs.drop i) = false
    | none => ∀ i, i ≤ zs.length → allT m (zs.drop i) = false
  | [] => by
    unfold frun
    by_cases h : m = 0
    · rw [if_pos h]; subst h
      exact ⟨Nat.le_refl _, rfl, fun i hi => by omega⟩
    · rw [if_neg h]
      intro i hi
      obtain ⟨k, rfl⟩ : ∃ k, m = k + 1 := ⟨m - 1, by omega⟩
      rw [List.drop_nil]
      rfl
  | b :: r => by
    have ih := frun_spec m r
    unfold frun
    by_cases h : allT m (b :: r) = true
    · rw [if_pos h]
      exact ⟨Nat.zero_le _, h, fun i hi => by omega⟩
    · rw [if_neg h]
      cases hr : frun m r with
      | none =>
        rw [hr] at ih
        intro i hi
        cases i with
        | zero => exact Bool.eq_false_iff.mpr h
        | succ i => exact ih i (by simpa using hi)
      | some j =>
        rw [hr] at ih
        obtain ⟨h1, h2, h3⟩ := ih
        refine ⟨by simpa using h1, h2, fun i hi => ?_⟩
        cases i with
        | zero => exact Bool.eq_false_iff.mpr h
        | succ i => exact h3 i (Nat.lt_of_succ_lt_succ hi)
theorem zb_drop (ps : List (List Nat)) (j : Nat) : (zb ps).drop j = zb (ps.drop j) := by simp [zb, List.map_drop]
theorem zb_len (ps : List (List Nat)) : (zb ps).length = ps.length := by simp [zb]
theorem find_run {ps : List (List Nat)} (hf : ∀ p ∈ ps, 58 ∉ p) (m : Nat) : findL (RR ps) (patS (m + 1)) = match frun (m + 1) (zb ps) with | some j => (off ps j : Int) | none => -1 := by
  have hs := frun_spec (m + 1) (zb ps)
  have hne : patS (m + 1) ≠ [] := by rw [pat_succ]; simp
  have here : ∀ j, j ≤ ps.length → allT (m + 1) (zb (ps.drop j)) = true → Occ (RR ps) (patS (m + 1)) (off ps j) := by
    intro j hj h
    refine pre_occ hne ?_
    rw [off_drop ps j hj]
    exact (pre_pat (m + 1) (ps.drop j) fun p hp => hf p (List.mem_of_mem_drop hp)).mpr h
  rcases findL_spec (RR ps) (patS (m + 1)) with ⟨h1, h2⟩ | ⟨i, h1, h2, h3⟩
  · rw [h1]
    cases hr : frun (m + 1) (zb ps) with
    | none => rfl
    | some j =>
      rw [hr] at hs
      obtain ⟨g1, g2, _⟩ := hs
      rw [zb_len] at g1
      rw [zb_drop] at g2
      exact absurd (here j g1 g2) (h2 _)
  · rw [h1]
    obtain ⟨j, hj, e1, e2⟩ := occ_off ps m i hf h2
    cases hr : frun (m + 1) (zb ps) with
    | none =>
      rw [hr] at hs
      have := hs j (by rw [zb_len]; exact hj)
      rw [zb_drop, e2] at this
      cases this
    | some k =>
      rw [hr] at hs
      obtain ⟨g1, g2, g3⟩ := hs
      rw [zb_len] at g1
      rw [zb_drop] at g2
      have : j = k := by
        rcases Nat.lt_trichotomy j k with h | h | h
        · have := g3 j h
          rw [zb_drop, e2] at this
          cases this
        · exact h
        · exact absurd (here k g1 g2) (h3 _ (by rw [e1]; exact off_mono ps h hj))
      subst this
      rw [e1]
end Mine.G
namespace Mine.G
theorem flat_drop1 : ∀ l : List (List Nat), ((l.map fun p => 58 :: p).flatten).drop 1 = joinL [58] l
  | [] => rfl
  | [p] => by simp [joinL]
  | p :: q :: r => by
    have ih := flat_drop1 (q :: r)
    have e : joinL [58] (p :: q :: r) = p ++ [58] ++ joinL [58] (q :: r) := rfl
    rw [e, ← ih]
    simp
theorem RR_init (ps : List (List Nat)) : (RR ps).take ((RR ps).length - 1) = (ps.map fun p => 58 :: p).flatten := by
  unfold RR
  rw [List.length_append, List.length_singleton, Nat.add_sub_cancel, List.take_left]
theorem slice_head (ps : List (List Nat)) (j : Nat) (h : j ≤ ps.length) : sliceL (RR ps) 1 (off ps j) = joinL [58] (ps.take j) := by
  unfold sliceL
  rw [off_take ps j h, flat_drop1]
theorem slice_tail (ps : List (List Nat)) (j : Nat) (h : j ≤ ps.length) : sliceL (RR ps) (off ps j + 1) ((RR ps).length - 1) = joinL [58] (ps.drop j) := by
  unfold sliceL
  rw [← List.drop_drop, List.drop_take, off_drop ps j h]
  have e : (RR ps).length - 1 - off ps j = (RR (ps.drop j)).length - 1 := by
    rw [← off_drop ps j h, List.length_drop]; omega
  rw [e, RR_init, flat_drop1]
theorem allT_off : ∀ (m : Nat) (qs : List (List Nat)), allT m (zb qs) = true → off qs m = 2 * m ∧ m ≤ qs.length
  | 0, qs, _ => ⟨rfl, Nat.zero_le _⟩
  | m + 1, [], h => by cases h
  | m + 1, q :: qs, h => by
    have h' : ((q == [48]) && allT m (zb qs)) = true := h
    rw [Bool.and_eq_true, beq_iff_eq] at h'
    obtain ⟨rfl, h2⟩ := h'
    obtain ⟨i1, i2⟩ := allT_off m qs h2
    have e : off ([48] :: qs) (m + 1) = 2 + off qs m := by simp [off]
    exact ⟨by omega, by simpa using i2⟩
theorem off_add (ps : List (List Nat)) (j m : Nat) : off ps (j + m) = off ps j + off (ps.drop j) m := by
  unfold off
  have e : ps.take (j + m) = ps.take j ++ (ps.drop j).take m := by rw [List.take_add]
  rw [e, List.map_append, List.sum_append]
noncomputable def bestL (zs : List Bool) : List Nat → Option (Nat × Nat)
  | [] => none
  | k :: r => match frun (8 - k) zs with
    | some j => some (j, 8 - k)
    | none => bestL zs r
theorem short_run {ps : List (List Nat)} (hf : ∀ p ∈ ps, 58 ∉ p) : ∀ l : List Nat, (∀ k ∈ l, k < 7) →
    runL (shStp (RR ps)) l () = match bestL (zb ps) l with | some (j, m) => .inr (.str (gapT ps j (j + m))) | none => .inl ()
  | [], _ => rfl
  | k :: l, h => by
    have ih := short_run hf l fun a ha => h a (.tail _ ha)
    have hk := h k (.head _)
    obtain ⟨m, hm⟩ : ∃ m, 8 - k = m + 1 := ⟨7 - k, by omega⟩
    have hfr := find_run hf m
    have hs := frun_spec (m + 1) (zb ps)
    unfold runL bestL shStp
    rw [hm]
    cases hr : frun (m + 1) (zb ps) with
    | none =>
      rw [hr] at hfr
      rw [hfr]
      exact ih
    | some j =>
      rw [hr] at hfr hs
      obtain ⟨g1, g2, _⟩ := hs
      rw [zb_len] at g1
      rw [zb_drop] at g2
      obtain ⟨a1, a2⟩ := allT_off _ _ g2
      rw [List.length_drop] at a2
      rw [hfr]
      dsimp only
      rw [if_pos (Int.natCast_nonneg _), Int.toNat_natCast]
      dsimp only
      have e : off ps j + 2 * (m + 1) = off ps (j + (m + 1)) := by rw [off_add, a1]
      rw [e, slice_head ps j g1, slice_tail ps (j + (m + 1)) (by omega)]
      rfl
theorem shortD_best {ps : List (List Nat)} (h0 : ps ≠ []) (hf : ∀ p ∈ ps, 58 ∉ p) : shortD (bigT ps) = .str (match bestL (zb ps) (List.range 7) with | some (j, m) => gapT ps j (j + m) | none => joinL [58] ps) := by
  rw [bigT_RR h0]
  unfold shortD
  rw [short_run hf _ fun k hk => List.mem_range.mp hk]
  cases bestL (zb ps) (List.range 7) with
  | some q => rfl
  | none =>
    dsimp only
    have e := slice_tail ps 0 (Nat.zero_le _)
    have e0 : off ps 0 + 1 = 1 := rfl
    rw [e0, List.drop_zero] at e
    rw [e]
theorem best_nrB : ∀ a b c d e f g h : Bool, bestL [a, b, c, d, e, f, g, h] (List.range 7) =
    if (nrB [a, b, c, d, e, f, g, h]).2.1 < 2 then none else some ((nrB [a, b, c, d, e, f, g, h]).1.toNat, (nrB [a, b, c, d, e, f, g, h]).2.1) := by decide +kernel
theorem best_six : ∀ g h : Bool, nrB [true, true, true, true, true, true, false, h] = nrB [true, true, true, true, true, true, false, h] ∧ (nrB [true, true, true, true, true, true, false, h]).1 = 0 ∧ (nrB [true, true, true, true, true, true, false, h]).2.1 = 6 ∧ bestL [true, true, true, true, true, true, false] (List.range 7) = some (0, 6) := by decide +kernel
theorem best_five : ∀ g h : Bool, (nrB [true, true, true, true, true, false, g, h]).1 = 0 ∧ (nrB [true, true, true, true, true, false, g, h]).2.1 = 5 ∧ bestL [true, true, true, true, true, false, false] (List.range 7) = some (0, 5) := by decide +kernel
theorem six_of : ∀ a b c d e f g h : Bool, (!((nrB [a, b, c, d, e, f, g, h]).1 == 0 && (nrB [a, b, c, d, e, f, g, h]).2.1 == 6) || (a && b && c && d && e && f && !g)) = true := by decide +kernel
theorem five_of : ∀ a b c d e f g h : Bool, (!((nrB [a, b, c, d, e, f, g, h]).1 == 0 && (nrB [a, b, c, d, e, f, g, h]).2.1 == 5) || (a && b && c && d && e && !f)) = true := by decide +kernel
end Mine.G
namespace Mine.G
/-- a word of hex signs and its number -/
noncomputable def HexW (w : List Nat) (v : Nat) : Prop := 1 ≤ w.length ∧ w.length ≤ 4 ∧ hexNum w 0 = some v
theorem hexv_sign {c v : Nat} (h : hexv c = some v) : c ≠ 58 ∧ c ≠ 46 ∧ c ≠ 47 := by
  unfold hexv at h
  split at h
  · omega
  · split at h
    · omega
    · split at h
      · omega
      · cases h
theorem HexW.free {w : List Nat} {v : Nat} (h : HexW w v) : 58 ∉ w ∧ 46 ∉ w ∧ 47 ∉ w := by
  have := hexNum_all w 0 v h.2.2
  refine ⟨fun hm => ?_, fun hm => ?_, fun hm => ?_⟩ <;> obtain ⟨x, hx⟩ := this _ hm <;> have := hexv_sign hx <;> lia
theorem HexW.ne {w : List Nat} {v : Nat} (h : HexW w v) : w ≠ [] := by
  rintro rfl
  exact absurd h.1 (by decide)
theorem hexv_hexc : ∀ x < 16, hexv (hexc x) = some x := by decide
theorem hexNum_chars : ∀ (ws : List Nat) (a : Nat), Nib ws → hexNum (chars ws) a = some (a * 16 ^ ws.length + num ws)
  | [], a, _ => by simp [chars, hexNum, num]
  | x :: r, a, h => by
    have ih := hexNum_chars r (a * 16 + x) fun y hy => h y (.tail _ hy)
    show (match hexv (hexc x) with | some v => hexNum (chars r) (a * 16 + v) | none => none) = _
    rw [hexv_hexc x (h x (.head _))]
    dsimp only
    rw [ih]
    simp only [num, List.length_cons, Nat.pow_succ, Nat.add_mul]
    rw [Nat.mul_assoc, Nat.mul_comm 16, Nat.add_assoc]
theorem hexNum_bare : ∀ (m : Nat) (w : List Nat), hexNum (bareL m w) 0 = hexNum w 0
  | 0, w => by cases w <;> rfl
  | m + 1, [] => rfl
  | m + 1, [c] => by unfold bareL; split <;> simp_all
  | m + 1, c :: d :: r => by
    by_cases h : c = 48
    · subst h
      exact hexNum_bare m (d :: r)
    · have e : bareL (m + 1) (c :: d :: r) = c :: d :: r := by
        unfold bareL
        split
        · rename_i heq; simp at heq; omega
        · rfl
      rw [e]
theorem bare_ne : ∀ (m : Nat) (w : List Nat), w ≠ [] → 1 ≤ (bareL m w).length
  | 0, c :: w, _ => by simp [bareL]
  | m + 1, [], h => absurd rfl h
  | m + 1, [c], _ => by unfold bareL; split <;> simp_all
  | m + 1, c :: d :: r, _ => by
    by_cases h : c = 48
    · subst h
      exact bare_ne m (d :: r) (by simp)
    · have e : bareL (m + 1) (c :: d :: r) = c :: d :: r := by
        unfold bareL
        split
        · rename_i heq; simp at heq; omega
        · rfl
      rw [e]; simp
  | 0, [], h => absurd rfl h
theorem hexW_bare {xs : List Nat} (hx : Nib xs) (hl : xs.length = 32) {j : Nat} (hj : j < 8) (m : Nat) : HexW (bareL m (chars (word xs j))) (grp xs j) := by
  have hw4 : (word xs j).length = 4 := by unfold word; rw [List.length_take, List.length_drop]; lia
  have hb := bare_len m (chars (word xs j))
  rw [chars_length, hw4] at hb
  refine ⟨bare_ne _ _ ?_, hb, ?_⟩
  · intro h
    have := congrArg List.length h
    rw [chars_length, hw4] at this
    cases this
  · rw [hexNum_bare, hexNum_chars (word xs j) 0 (nib_sub hx _ _)]
    simp [grp]
theorem bare_word (k : Nat) {xs : List Nat} (hx : Nib xs) (hl : xs.length = 32) {j : Nat} (hj : j < 8) {a b c d : Nat} (hw : word xs j = [a, b, c, d]) (ha : a < 16) (hb : b < 16) (hc : c < 16) (hd : d < 16) :
    bareL 3 (chars (word xs j)) = bare4 a b c d ∧ grp xs j = val4 a b c d := by
  have e : grp xs j = val4 a b c d := by
    unfold grp
    rw [hw]
    simp only [num, val4, List.length_cons, List.length_nil]
    lia
  have h1 := hext_word 0 hx hl hj
  rw [e, hext_spec 0 ha hb hc hd] at h1
  exact ⟨(D.str.inj (Option.some.inj h1)).symm, e⟩
theorem two_zero {p q : Nat} : p * 16 + q = 0 ↔ p = 0 ∧ q = 0 := by lia
theorem two_full {p q M : Nat} (h : q < 16) : p * 16 + q = M * 16 + 15 ↔ p = M ∧ q = 15 := by lia
theorem val4_zero {a b c d : Nat} : val4 a b c d = 0 ↔ a = 0 ∧ b = 0 ∧ c = 0 ∧ d = 0 := by
  unfold val4
  rw [two_zero, two_zero, two_zero, and_assoc, and_assoc]
theorem val4_full {a b c d : Nat} (ha : a < 16) (hb : b < 16) (hc : c < 16) (hd : d < 16) : val4 a b c d = 65535 ↔ a = 15 ∧ b = 15 ∧ c = 15 ∧ d = 15 := by
  unfold val4
  rw [show (65535 : Nat) = 4095 * 16 + 15 from rfl, two_full hd, show (4095 : Nat) = 255 * 16 + 15 from rfl, two_full hc, show (255 : Nat) = 15 * 16 + 15 from rfl, two_full hb, and_assoc, and_assoc]
theorem bare_zero {xs : List Nat} (hx : Nib xs) (hl : xs.length = 32) {j : Nat} (hj : j < 8) : (bareL 3 (chars (word xs j)) == [48]) = (grp xs j == 0) := by
  obtain ⟨a, b, c, d, hw, ha, hb, hc, hd⟩ := word4 hx hl hj
  obtain ⟨e1, e2⟩ := bare_word 0 hx hl hj hw ha hb hc hd
  rw [e1, e2]
  rw [Bool.eq_iff_iff, beq_iff_eq, beq_iff_eq, val4_zero]
  have h0 : ∀ x < 16, (hexc x = 48 ↔ x = 0) := by decide
  have := h0 d hd
  unfold bare4
  split
  · split
    · split
      · simp_all
      · simp_all
    · simp_all
  · simp_all
theorem zb_ws {xs : List Nat} (hx : Nib xs) (hl : xs.length = 32) : zb (wsX xs) = zsX xs := by
  rw [zsX_eq]
  have e : zb (wsX xs) = (List.range 8).map fun j => (bareL 3 (chars (word xs j)) == [48]) := by unfold zb wsX; rw [List.map_map]; rfl
  rw [e]
  have : (List.range 8).map (fun j => (bareL 3 (chars (word xs j)) == [48])) = (List.range 8).map fun j => (grp xs j == 0) :=
    List.map_congr_left fun j hj => bare_zero hx hl (List.mem_range.mp hj)
  rw [this]
  rfl
theorem hexc_inj : ∀ a < 16, ∀ b < 16, hexc a = hexc b → a = b := by decide
theorem chars_inj : ∀ {a b : List Nat}, Nib a → Nib b → chars a = chars b → a = b
  | [], [], _, _, _ => rfl
  | [], _ :: _, _, _, h => by cases h
  | _ :: _, [], _, _, h => by cases h
  | x :: a, y :: b, ha, hb, h => by
    obtain ⟨h1, h2⟩ := List.cons.inj h
    rw [hexc_inj x (ha x (.head _)) y (hb y (.head _)) h1, chars_inj (fun z hz => ha z (.tail _ hz)) (fun z hz => hb z (.tail _ hz)) h2]
theorem take24 (xs : List Nat) : xs.take 24 = word xs 0 ++ (word xs 1 ++ (word xs 2 ++ (word xs 3 ++ (word xs 4 ++ word xs 5)))) := by
  unfold word
  have e : ∀ a : Nat, xs.take (a + 4) = xs.take a ++ (xs.drop a).take 4 := fun a => List.take_add
  rw [show (24 : Nat) = 4 * 5 + 4 from rfl, e, show 4 * 5 = 4 * 4 + 4 from rfl, e, show 4 * 4 = 4 * 3 + 4 from rfl, e, show 4 * 3 = 4 * 2 + 4 from rfl, e, show 4 * 2 = 4 * 1 + 4 from rfl, e, show 4 * 1 = 4 * 0 + 4 from rfl, e]
  simp
noncomputable def MX (xs : List Nat) : Prop := (grp xs 0 = 0 ∧ grp xs 1 = 0 ∧ grp xs 2 = 0 ∧ grp xs 3 = 0 ∧ grp xs 4 = 0) ∧ ((grp xs 5 = 0 ∧ grp xs 6 ≠ 0) ∨ grp xs 5 = 65535)
theorem mixC_iff (xs : List Nat) : mixC xs ↔ MX xs := by
  unfold mixC MX
  rw [zsX_eq]
  have h6 := six_of (grp xs 0 == 0) (grp xs 1 == 0) (grp xs 2 == 0) (grp xs 3 == 0) (grp xs 4 == 0) (grp xs 5 == 0) (grp xs 6 == 0) (grp xs 7 == 0)
  have h5 := five_of (grp xs 0 == 0) (grp xs 1 == 0) (grp xs 2 == 0) (grp xs 3 == 0) (grp xs 4 == 0) (grp xs 5 == 0) (grp xs 6 == 0) (grp xs 7 == 0)
  constructor
  · rintro ⟨h0, h | ⟨h, hf⟩⟩
    · rw [h0, h] at h6
      simp at h6
      exact ⟨⟨h6.1.1.1.1.1.1, h6.1.1.1.1.1.2, h6.1.1.1.1.2, h6.1.1.1.2, h6.1.1.2⟩, .inl ⟨h6.1.2, h6.2⟩⟩
    · rw [h0, h] at h5
      simp at h5
      exact ⟨⟨h5.1.1.1.1.1, h5.1.1.1.1.2, h5.1.1.1.2, h5.1.1.2, h5.1.2⟩, .inr hf⟩
  · rintro ⟨⟨g0, g1, g2, g3, g4⟩, ⟨g5, g6⟩ | g5⟩
    · have := best_six true (grp xs 7 == 0)
      have e6 : (grp xs 6 == 0) = false := by simpa using g6
      rw [g0, g1, g2, g3, g4, g5, e6]
      exact ⟨this.2.1, .inl this.2.2.1⟩
    · have := best_five (grp xs 6 == 0) (grp xs 7 == 0)
      rw [g0, g1, g2, g3, g4, g5]
      exact ⟨this.1, .inr ⟨this.2.1, rfl⟩⟩
theorem nib_rep {n c : Nat} (h : c < 16) : Nib (List.replicate n c) := fun x hx => by rw [List.mem_replicate] at hx; omega
theorem app4 {a b c d : List Nat} (h : a.length = c.length) : a ++ b = c ++ d ↔ a = c ∧ b = d :=
  ⟨fun e => List.append_inj e h, fun e => by rw [e.1, e.2]⟩
theorem grp_zero {xs : List Nat} (hx : Nib xs) (hl : xs.length = 32) {j : Nat} (hj : j < 8) : grp xs j = 0 ↔ word xs j = [0, 0, 0, 0] := by
  obtain ⟨a, b, c, d, hw, ha, hb, hc, hd⟩ := word4 hx hl hj
  rw [(bare_word 0 hx hl hj hw ha hb hc hd).2, val4_zero, hw]
  constructor
  · rintro ⟨rfl, rfl, rfl, rfl⟩; rfl
  · intro h; cases h; exact ⟨rfl, rfl, rfl, rfl⟩
theorem grp_full {xs : List Nat} (hx : Nib xs) (hl : xs.length = 32) : grp xs 5 = 65535 ↔ word xs 5 = [15, 15, 15, 15] := by
  obtain ⟨a, b, c, d, hw, ha, hb, hc, hd⟩ := word4 hx hl (show 5 < 8 by decide)
  rw [(bare_word 0 hx hl (by decide) hw ha hb hc hd).2, val4_full ha hb hc hd, hw]
  constructor
  · rintro ⟨rfl, rfl, rfl, rfl⟩; rfl
  · intro h; cases h; exact ⟨rfl, rfl, rfl, rfl⟩
theorem mixS_iff {xs : List Nat} (hx : Nib xs) (hl : xs.length = 32) : mixS xs ↔ MX xs := by
  unfold mixS MX
  have n24 : Nib (xs.take 24) := fun y hy => hx y (List.mem_of_mem_take hy)
  have q1 : (chars xs).take 24 = List.replicate 20 48 ++ [102, 102, 102, 102] ↔ xs.take 24 = List.replicate 20 0 ++ List.replicate 4 15 := by
    rw [← chars_take]
    constructor
    · intro h
      refine chars_inj n24 ?_ h
      intro y hy
      rw [List.mem_append, List.mem_replicate, List.mem_replicate] at hy
      omega
    · intro h; rw [h]; rfl
  have q2 : (chars xs).take 24 = List.replicate 24 48 ↔ xs.take 24 = List.replicate 24 0 := by
    rw [← chars_take]
    constructor
    · intro h
      exact chars_inj n24 (nib_rep (by decide)) h
    · intro h; rw [h]; rfl
  have q3 : sliceL (chars xs) 24 28 = [48, 48, 48, 48] ↔ word xs 6 = [0, 0, 0, 0] := by
    rw [slice_chars]
    constructor
    · intro h
      exact chars_inj (nib_sub hx _ _) (nib_rep (n := 4) (c := 0) (by decide)) h
    · intro h; show chars (word xs 6) = _; rw [h]; rfl
  have l : ∀ j, j < 6 → (word xs j).length = ([0, 0, 0, 0] : List Nat).length := fun j hj => by
    show _ = 4
    unfold word
    rw [List.length_take, List.length_drop]
    clear q1 q2 q3; omega
  have s1 : xs.take 24 = List.replicate 20 0 ++ List.replicate 4 15 ↔ word xs 0 = [0, 0, 0, 0] ∧ word xs 1 = [0, 0, 0, 0] ∧ word xs 2 = [0, 0, 0, 0] ∧ word xs 3 = [0, 0, 0, 0] ∧ word xs 4 = [0, 0, 0, 0] ∧ word xs 5 = [15, 15, 15, 15] := by
    rw [take24]
    show _ = [0, 0, 0, 0] ++ ([0, 0, 0, 0] ++ ([0, 0, 0, 0] ++ ([0, 0, 0, 0] ++ ([0, 0, 0, 0] ++ [15, 15, 15, 15])))) ↔ _
    rw [app4 (l 0 (by decide)), app4 (l 1 (by decide)), app4 (l 2 (by decide)), app4 (l 3 (by decide)), app4 (l 4 (by decide))]
  have s2 : xs.take 24 = List.replicate 24 0 ↔ word xs 0 = [0, 0, 0, 0] ∧ word xs 1 = [0, 0, 0, 0] ∧ word xs 2 = [0, 0, 0, 0] ∧ word xs 3 = [0, 0, 0, 0] ∧ word xs 4 = [0, 0, 0, 0] ∧ word xs 5 = [0, 0, 0, 0] := by
    rw [take24]
    show _ = [0, 0, 0, 0] ++ ([0, 0, 0, 0] ++ ([0, 0, 0, 0] ++ ([0, 0, 0, 0] ++ ([0, 0, 0, 0] ++ [0, 0, 0, 0])))) ↔ _
    rw [app4 (l 0 (by decide)), app4 (l 1 (by decide)), app4 (l 2 (by decide)), app4 (l 3 (by decide)), app4 (l 4 (by decide))]
  rw [Ne, q1, q2, q3, s1, s2, ← grp_zero hx hl (j := 0) (by decide), ← grp_zero hx hl (j := 1) (by decide), ← grp_zero hx hl (j := 2) (by decide), ← grp_zero hx hl (j := 3) (by decide), ← grp_zero hx hl (j := 4) (by decide), ← grp_zero hx hl (j := 5) (by decide), ← grp_zero hx hl (j := 6) (by decide), ← grp_full hx hl]
  clear s1 s2 q1 q2 q3 l n24
  constructor
  · rintro (⟨a, b, c, d, e, f⟩ | ⟨⟨a, b, c, d, e, f⟩, g⟩)
    · exact ⟨⟨a, b, c, d, e⟩, .inr f⟩
    · exact ⟨⟨a, b, c, d, e⟩, .inl ⟨f, g⟩⟩
  · rintro ⟨⟨a, b, c, d, e⟩, ⟨f, g⟩ | f⟩
    · exact .inr ⟨⟨a, b, c, d, e, f⟩, g⟩
    · exact .inl ⟨a, b, c, d, e, f⟩
end Mine.G
namespace Mine.G
theorem dot_eq {ys : List Nat} (hl : ys.length = 8) (hy : Nib ys) : dotN (num ys) = dotX ys := by
  have c : ∀ {r a m : Nat}, r + (a + 2) = 8 → m = 16 ^ r → num ys / m % 256 = num ((ys.drop a).take 2) := fun h e => e ▸ num_chunk (b := 2) hy (h.trans hl.symm)
  unfold dotN dotX byteAt
  rw [c (r := 6) (a := 2 * 0) rfl (by decide), c (r := 4) (a := 2 * 1) rfl (by decide), c (r := 2) (a := 2 * 2) rfl (by decide), c (r := 0) (a := 2 * 3) rfl (by decide)]
theorem low_num {xs : List Nat} (hx : Nib xs) (hl : xs.length = 32) : num xs % 2 ^ 32 = num (xs.drop 24) := by
  have hd : (xs.drop 24).length = 8 := by rw [List.length_drop]; omega
  have h1 := congrArg num (List.take_append_drop 24 xs).symm
  rw [num_append, hd] at h1
  have h2 := num_lt (xs.drop 24) (nib_drop hx _)
  rw [hd] at h2
  lia
theorem dot_low {xs : List Nat} (hx : Nib xs) (hl : xs.length = 32) : dotN (num xs % 2 ^ 32) = dotX (xs.drop 24) := by
  rw [low_num hx hl]
  exact dot_eq (by rw [List.length_drop]; omega) (nib_drop hx _)
theorem parts_eq {xs : List Nat} (hx : Nib xs) (hl : xs.length = 32) : partsI xs = partsS xs := by
  unfold partsI partsS
  by_cases h : mixC xs
  · rw [if_pos h, if_pos ((mixS_iff hx hl).mpr ((mixC_iff xs).mp h)), dot_low hx hl]
  · rw [if_neg h, if_neg fun h' => h ((mixC_iff xs).mpr ((mixS_iff hx hl).mp h'))]
theorem digits_free {i : Nat} (h : i < 256) : ∀ c ∈ digitsOf (i : Int), 48 ≤ c ∧ c ≤ 57 := by
  have := (digits_ok i h).2.2.1
  rw [List.all_eq_true] at this
  intro c hc
  simpa using this c hc
theorem digits_ne {i : Nat} (h : i < 256) : digitsOf (i : Int) ≠ [] := (digits_ok i h).2.1
theorem dot4_mem {a b c d x : Nat} (ha : a < 256) (hb : b < 256) (hc : c < 256) (hd : d < 256) (h : x ∈ dot4 a b c d) : x = 46 ∨ (48 ≤ x ∧ x ≤ 57) := by
  unfold dot4 at h
  simp only [joinL, List.mem_append, List.mem_singleton] at h
  have h1 := digits_free ha
  have h2 := digits_free hb
  have h3 := digits_free hc
  have h4 := digits_free hd
  rcases h with (h | h) | (h | h) | (h | h) | h
  · exact .inr (h1 x h)
  · exact .inl h
  · exact .inr (h2 x h)
  · exact .inl h
  · exact .inr (h3 x h)
  · exact .inl h
  · exact .inr (h4 x h)
theorem dot4_ge {a b c d : Nat} : 3 ≤ (dot4 a b c d).length := by
  unfold dot4
  simp only [joinL, List.length_append, List.length_singleton]
  lia
theorem dotX_free {ys : List Nat} (hy : Nib ys) : 58 ∉ dotX ys ∧ 47 ∉ dotX ys ∧ dotX ys ≠ [] ∧ dotX ys ≠ [48] := by
  have hm : ∀ x ∈ dotX ys, x = 46 ∨ (48 ≤ x ∧ x ≤ 57) := fun x hx => dot4_mem (byte_lt hy 0) (byte_lt hy 1) (byte_lt hy 2) (byte_lt hy 3) hx
  have hg : 3 ≤ (dotX ys).length := dot4_ge
  refine ⟨fun h => ?_, fun h => ?_, fun h => ?_, fun h => ?_⟩
  · have := hm _ h; omega
  · have := hm _ h; omega
  · rw [h] at hg; simp at hg
  · rw [h] at hg; simp at hg
theorem wsX_hex {xs : List Nat} (hx : Nib xs) (hl : xs.length = 32) : ∀ w ∈ wsX xs, ∃ v, HexW w v := by
  intro w hw
  unfold wsX at hw
  obtain ⟨j, hj, rfl⟩ := List.mem_map.mp hw
  exact ⟨_, hexW_bare hx hl (List.mem_range.mp hj) 3⟩
theorem partsS_free {xs : List Nat} (hx : Nib xs) (hl : xs.length = 32) : ∀ p ∈ partsS xs, p ≠ [] ∧ 58 ∉ p := by
  intro p hp
  have hd := dotX_free (nib_drop hx 24)
  have hw := wsX_hex hx hl
  unfold partsS at hp
  split at hp
  · rw [List.mem_append, List.mem_singleton] at hp
    rcases hp with hp | rfl
    · obtain ⟨v, h⟩ := hw p (List.mem_of_mem_take hp)
      exact ⟨h.ne, h.free.1⟩
    · exact ⟨hd.2.2.1, hd.1⟩
  · obtain ⟨v, h⟩ := hw p hp
    exact ⟨h.ne, h.free.1⟩
theorem textI_short {xs : List Nat} (hx : Nib xs) (hl : xs.length = 32) : shortD (bigT (partsS xs)) = .str (textI xs) := by
  have hne : partsS xs ≠ [] := by
    intro h
    unfold partsS at h
    split at h
    · simp at h
    · have := wsX_len xs; rw [h] at this; cases this
  rw [shortD_best hne fun p hp => (partsS_free hx hl p hp).2]
  congr 1
  unfold textI
  by_cases hm : mixC xs
  · have hm' := (mixC_iff xs).mp hm
    have hS : partsS xs = (wsX xs).take 6 ++ [dotX (xs.drop 24)] := if_pos ((mixS_iff hx hl).mpr hm')
    have hz : zb (partsS xs) = [grp xs 0 == 0, grp xs 1 == 0, grp xs 2 == 0, grp xs 3 == 0, grp xs 4 == 0, grp xs 5 == 0, false] := by
      have e1 : zb (partsS xs) = (zb (wsX xs)).take 6 ++ [dotX (xs.drop 24) == [48]] := by rw [hS]; simp [zb, List.map_take]
      have e2 : (dotX (xs.drop 24) == [48]) = false := by simpa using (dotX_free (nib_drop hx 24)).2.2.2
      rw [e1, e2, zb_ws hx hl, zsX_eq]
      rfl
    rw [hz]
    rw [parts_eq hx hl]
    rw [zsX_eq]
    obtain ⟨⟨g0, g1, g2, g3, g4⟩, ⟨g5, g6⟩ | g5⟩ := hm'
    · have := best_six true (grp xs 7 == 0)
      have e6 : (grp xs 6 == 0) = false := by simpa using g6
      rw [g0, g1, g2, g3, g4, g5, e6]
      have q1 : bestL [(0 : Nat) == 0, (0 : Nat) == 0, (0 : Nat) == 0, (0 : Nat) == 0, (0 : Nat) == 0, (0 : Nat) == 0, false] (List.range 7) = some (0, 6) := this.2.2.2
      have q2 : (nrB [(0 : Nat) == 0, (0 : Nat) == 0, (0 : Nat) == 0, (0 : Nat) == 0, (0 : Nat) == 0, (0 : Nat) == 0, false, grp xs 7 == 0]).1 = 0 := this.2.1
      have q3 : (nrB [(0 : Nat) == 0, (0 : Nat) == 0, (0 : Nat) == 0, (0 : Nat) == 0, (0 : Nat) == 0, (0 : Nat) == 0, false, grp xs 7 == 0]).2.1 = 6 := this.2.2.1
      rw [q1, q2, q3]
      rfl
    · have := best_five (grp xs 6 == 0) (grp xs 7 == 0)
      rw [g0, g1, g2, g3, g4, g5]
      have q1 : bestL [(0 : Nat) == 0, (0 : Nat) == 0, (0 : Nat) == 0, (0 : Nat) == 0, (0 : Nat) == 0, (65535 : Nat) == 0, false] (List.range 7) = some (0, 5) := this.2.2
      have q2 : (nrB [(0 : Nat) == 0, (0 : Nat) == 0, (0 : Nat) == 0, (0 : Nat) == 0, (0 : Nat) == 0, (65535 : Nat) == 0, grp xs 6 == 0, grp xs 7 == 0]).1 = 0 := this.1
      have q3 : (nrB [(0 : Nat) == 0, (0 : Nat) == 0, (0 : Nat) == 0, (0 : Nat) == 0, (0 : Nat) == 0, (65535 : Nat) == 0, grp xs 6 == 0, grp xs 7 == 0]).2.1 = 5 := this.2.1
      rw [q1, q2, q3]
      rfl
  · have hS : partsS xs = wsX xs := if_neg fun h => hm ((mixC_iff xs).mpr ((mixS_iff hx hl).mp h))
    have hfit := nrB_fits (grp xs 0 == 0) (grp xs 1 == 0) (grp xs 2 == 0) (grp xs 3 == 0) (grp xs 4 == 0) (grp xs 5 == 0) (grp xs 6 == 0) (grp xs 7 == 0)
    have hb := best_nrB (grp xs 0 == 0) (grp xs 1 == 0) (grp xs 2 == 0) (grp xs 3 == 0) (grp xs 4 == 0) (grp xs 5 == 0) (grp xs 6 == 0) (grp xs 7 == 0)
    rw [← zsX_eq] at hfit hb
    rw [parts_eq hx hl, hS, zb_ws hx hl, hb]
    by_cases h2 : (nrB (zsX xs)).2.1 < 2
    · rw [if_pos h2, if_pos h2]
    · rw [if_neg h2, if_neg h2]
      dsimp only
      congr 1
      lia
end Mine.G
namespace Mine.G
theorem num_rep0 (n : Nat) : num (List.replicate n 0) = 0 := by
  induction n with
  | zero => rfl
  | succ n ih => simp [List.replicate_succ, num, ih]
theorem num_rep15 (n : Nat) : num (List.replicate n 15) = 16 ^ n - 1 := by
  induction n with
  | zero => rfl
  | succ n ih =>
    have : 0 < 16 ^ n := Nat.pow_pos (by decide)
    rw [List.replicate_succ]
    simp only [num, ih, List.length_replicate, Nat.pow_succ]
    omega
theorem cut_len {xs : List Nat} {L up fill : Nat} (hL : L ≤ 4 * xs.length) : (cutL xs L up fill).length = xs.length := by
  unfold cutL
  split
  · rfl
  · simp only [List.length_append, List.length_take, List.length_singleton, List.length_replicate]
    lia
theorem cut_nib {xs : List Nat} (hx : Nib xs) {L up fill : Nat} (hu : (up = 0 ∧ fill = 0) ∨ (up = 1 ∧ fill = 15)) : Nib (cutL xs L up fill) := by
  unfold cutL
  split
  · exact hx
  · intro y hy
    have hc := cut_digit (nib_getD hx (L / 4)) (Nat.mod_lt L (show 4 > 0 by decide))
    rw [List.mem_append, List.mem_append, List.mem_singleton, List.mem_replicate] at hy
    rcases hy with (hy | hy) | hy
    · exact hx y (List.mem_of_mem_take hy)
    · subst hy
      rcases hu with ⟨rfl, rfl⟩ | ⟨rfl, rfl⟩
      · exact hc.2
      · exact hc.1
    · lia
theorem nib15 (n : Nat) : Nib (List.replicate n 15) := nib_rep (by decide)
/-- a number's parts about a place: P ahead, the digit x, R behind (below M) -/
theorem low_parts {P x R M r q : Nat} (hM : 0 < M) (hr : 0 < r) (hR : R < M) (hq : r * q = 16) : ((P * 16 + x) * M + R) / (r * M) * (r * M) = (P * 16 + x / r * r) * M := by
  have e1 : ((P * 16 + x) * M + R) / (r * M) = P * q + x / r := by
    rw [Nat.mul_comm r M, ← Nat.div_div_eq_div_mul, Nat.mul_comm _ M, Nat.mul_add_div hM, Nat.div_eq_of_lt hR, Nat.add_zero]
    have e2 : P * 16 + x = r * (P * q) + x := by
      rw [← hq, Nat.mul_left_comm]
    rw [e2, Nat.mul_add_div hr]
  rw [e1, ← Nat.mul_assoc, Nat.add_mul, Nat.mul_assoc P q r, Nat.mul_comm q r, hq]
theorem num_one (x : Nat) : num [x] = x := by simp [num]
theorem exp_eq {n L : Nat} (h : L / 4 < n) : 4 * n - L = 4 - L % 4 + 4 * (n - 1 - L / 4) := by omega
theorem fill_eq {A r M : Nat} (hr : 0 < r) (hM : 0 < M) : (A + (r - 1)) * M + (M - 1) = A * M + r * M - 1 := by
  obtain ⟨q, rfl⟩ : ∃ q, r = q + 1 := ⟨r - 1, (Nat.sub_add_cancel hr).symm⟩
  rw [Nat.add_sub_cancel, Nat.add_mul, Nat.add_mul q, Nat.one_mul, ← Nat.add_assoc, Nat.add_sub_assoc hM]
theorem cut_num {xs : List Nat} (hx : Nib xs) {L : Nat} (hL : L ≤ 4 * xs.length) :
    num (cut0 xs L) = lowN (num xs) L (4 * xs.length) ∧ num (cutF xs L) = lowN (num xs) L (4 * xs.length) + 2 ^ (4 * xs.length - L) - 1 := by
  unfold cut0 cutF cutL
  by_cases h : L / 4 = xs.length
  · rw [if_pos h, if_pos h]
    have : 4 * xs.length - L = 0 := by omega
    unfold lowN
    rw [this]
    simp
  · rw [if_neg h, if_neg h]
    have hw : L / 4 < xs.length := by omega
    generalize hn : xs.length = n at *
    have hsplit : xs = xs.take (L / 4) ++ ([xs.getD (L / 4) 0] ++ xs.drop (L / 4 + 1)) := by
      have hg : xs.getD (L / 4) 0 = xs[L / 4]'(by omega) := by simp [List.getD_eq_getElem?_getD, hn, hw]
      rw [hg, List.singleton_append, ← List.drop_eq_getElem_cons, List.take_append_drop]
    have hdl : (xs.drop (L / 4 + 1)).length = n - 1 - L / 4 := by rw [List.length_drop]; lia
    have hnum : num xs = (num (xs.take (L / 4)) * 16 + xs.getD (L / 4) 0) * 16 ^ (n - 1 - L / 4) + num (xs.drop (L / 4 + 1)) := by
      have h1 := congrArg num hsplit
      rw [num_append, num_append, List.length_append, hdl, List.length_singleton, Nat.pow_add, num_one, Nat.pow_one, ← Nat.mul_assoc, ← Nat.add_assoc, ← Nat.add_mul] at h1
      exact h1
    have hR := num_lt (xs.drop (L / 4 + 1)) (nib_drop hx _)
    rw [hdl] at hR
    have hj : L % 4 < 4 := Nat.mod_lt _ (by decide)
    have hpow : 2 ^ (4 * n - L) = 2 ^ (4 - L % 4) * 16 ^ (n - 1 - L / 4) := by
      rw [show (16 : Nat) = 2 ^ 4 from rfl, ← Nat.pow_mul, ← Nat.pow_add]
      exact congrArg _ (exp_eq hw)
    have hq : 2 ^ (4 - L % 4) * 2 ^ (L % 4) = 16 := by
      rw [← Nat.pow_add, show 4 - L % 4 + L % 4 = 4 by omega]
    have hM : 0 < 16 ^ (n - 1 - L / 4) := Nat.pow_pos (by decide)
    have hr : 0 < 2 ^ (4 - L % 4) := Nat.two_pow_pos _
    have key := low_parts (P := num (xs.take (L / 4))) (x := xs.getD (L / 4) 0) hM hr hR hq
    unfold lowN
    rw [hpow, hnum, key]
    generalize hMe : 16 ^ (n - 1 - L / 4) = M at *
    generalize 2 ^ (4 - L % 4) = r at *
    constructor
    · rw [num_append, num_append, num_rep0, List.length_replicate, List.length_singleton, num_one, hMe, Nat.pow_one, Nat.zero_mul, Nat.add_zero, Nat.add_zero]
    · rw [num_append, num_append, num_rep15, List.length_replicate, List.length_singleton, num_one, hMe, Nat.pow_one, Nat.one_mul, ← Nat.add_assoc]
      exact fill_eq hr hM
theorem low_full {B L : Nat} (hL : L ≤ B) : lowN (2 ^ B - 1) L B = maskN L B := by
  have hlt : 2 ^ B - 1 < 2 ^ B := by have := Nat.two_pow_pos B; omega
  unfold lowN maskN
  rw [← and_mask hlt (Nat.sub_le B L), Nat.and_comm, Nat.and_two_pow_sub_one_eq_mod]
  have := Nat.two_pow_pos (B - L)
  have := Nat.two_pow_pos B
  exact Nat.mod_eq_of_lt (by omega)
theorem mask_num {n L : Nat} (hL : L ≤ 4 * n) : num (cut0 (List.replicate n 15) L) = maskN L (4 * n) := by
  have h := (cut_num (nib15 n) (L := L) (by rw [List.length_replicate]; exact hL)).1
  rw [h, num_rep15, List.length_replicate]
  have : (16 : Nat) ^ n = 2 ^ (4 * n) := by rw [Nat.pow_mul]
  rw [this, low_full hL]
theorem low_facts {n L B : Nat} (hL : L ≤ B) (hn : n < 2 ^ B) : lowN n L B % 2 ^ (B - L) = 0 ∧ lowN n L B + 2 ^ (B - L) - 1 < 2 ^ B := by
  unfold lowN
  refine ⟨Nat.mul_mod_left _ _, ?_⟩
  have h1 : 2 ^ B = 2 ^ L * 2 ^ (B - L) := by rw [← Nat.pow_add]; congr 1; omega
  have hp := Nat.two_pow_pos (B - L)
  have h2 : n / 2 ^ (B - L) < 2 ^ L := by
    rw [Nat.div_lt_iff_lt_mul hp, ← h1]; exact hn
  have h3 : (n / 2 ^ (B - L) + 1) * 2 ^ (B - L) ≤ 2 ^ L * 2 ^ (B - L) := Nat.mul_le_mul_right _ h2
  rw [Nat.add_mul, ← h1] at h3
  omega
end Mine.G
namespace Mine.G
open StrLaws in
theorem contains_one (x : List Nat) (c : Nat) : containsL x [c] = decide (c ∈ x) := found_one (toStr x) c
theorem split_small (x : List Nat) {y : List Nat} (hy : y ≠ []) : (splitL x y).length ≤ x.length + 1 ∧ ∀ p ∈ splitL x y, p.length ≤ x.length + 1 := by
  have hyl : (toStr y).length = y.length := by simp [toStr, Str.length]
  have h := split_weight (toStr x) (toStr y) (by rw [hyl]; exact List.length_pos_iff.mpr hy)
  have hx : (toStr x).length = x.length := by simp [toStr, Str.length]
  rw [hx] at h
  have e : (Txt.split (toStr x) (toStr y)).map (·.length) = (splitL x y).map List.length := by
    unfold splitL
    rw [List.map_map]
    apply List.map_congr_left
    intro a _
    simp [ofStr, Str.length]
  have e2 : (Txt.split (toStr x) (toStr y)).length = (splitL x y).length := by unfold splitL; rw [List.length_map]
  rw [e, e2] at h
  refine ⟨by lia, fun p hp => ?_⟩
  have : ∀ (l : List (List Nat)), p ∈ l → p.length ≤ (l.map List.length).sum := by
    intro l
    induction l with
    | nil => intro h; cases h
    | cons a l ih =>
      intro h
      simp only [List.map_cons, List.sum_cons]
      cases h with
      | head => lia
      | tail _ h => have := ih h; lia
  have := this _ hp
  lia
theorem decNum_digits {i : Nat} (h : i < 256) {m : Nat} (hm : i ≤ m) : decOf (digitsOf (i : Int)) m = some i := by
  obtain ⟨h1, h2, h3, h4, h5⟩ := digits_ok i h
  unfold decOf
  have hi : digitsOf (Int.ofNat i) = digitsOf (i : Int) := rfl
  rw [hi] at h1 h2 h3 h4 h5
  rw [if_neg]
  · rw [h5]
    dsimp only
    rw [if_pos hm]
  · rintro (h | h | ⟨h, h'⟩)
    · exact h2 h
    · omega
    · rcases h4 with h4 | h4
      · exact h4 h
      · exact h' h4
theorem digits_nodot {i : Nat} (h : i < 256) (c : Nat) (hc : c < 48) : c ∉ digitsOf (i : Int) := fun hm => by have := digits_free h c hm; omega
theorem dot4_split {a b c d : Nat} (ha : a < 256) (hb : b < 256) (hc : c < 256) (hd : d < 256) : splitL (dot4 a b c d) [46] = [digitsOf (a : Int), digitsOf (b : Int), digitsOf (c : Int), digitsOf (d : Int)] := by
  refine split_join (by decide) (by simp) ?_
  intro p hp
  simp only [List.mem_cons, List.not_mem_nil, or_false] at hp
  rcases hp with rfl | rfl | rfl | rfl
  · exact digits_nodot ha _ (by decide)
  · exact digits_nodot hb _ (by decide)
  · exact digits_nodot hc _ (by decide)
  · exact digits_nodot hd _ (by decide)
theorem dot4_val {a b c d : Nat} (ha : a < 256) (hb : b < 256) (hc : c < 256) (hd : d < 256) : ip4V (dot4 a b c d) = some (((a * 256 + b) * 256 + c) * 256 + d) := by
  unfold ip4V
  rw [dot4_split ha hb hc hd, if_neg (by simp)]
  simp only [ip4Parts, decNum_digits ha (show a ≤ 255 by omega), decNum_digits hb (show b ≤ 255 by omega), decNum_digits hc (show c ≤ 255 by omega), decNum_digits hd (show d ≤ 255 by omega), Nat.zero_mul, Nat.zero_add]
theorem num_two {xs : List Nat} (h : 2 ≤ xs.length) : num xs = num (xs.take 2) * 16 ^ (xs.length - 2) + num (xs.drop 2) := by
  have e := congrArg num (List.take_append_drop 2 xs).symm
  rw [num_append, List.length_drop] at e
  exact e
theorem dotX_val {ys : List Nat} (hl : ys.length = 8) (hy : Nib ys) : ip4V (dotX ys) = some (num ys) := by
  unfold dotX
  rw [dot4_val (byte_lt hy 0) (byte_lt hy 1) (byte_lt hy 2) (byte_lt hy 3)]
  have d2 : (ys.drop 2).length = 6 := by rw [List.length_drop, hl]
  have d4 : (ys.drop 4).length = 4 := by rw [List.length_drop, hl]
  have d6 : (ys.drop 6).length = 2 := by rw [List.length_drop, hl]
  have n0 := num_two (xs := ys) (by rw [hl]; decide)
  have n2 := num_two (xs := ys.drop 2) (by rw [d2]; decide)
  have n4 := num_two (xs := ys.drop 4) (by rw [d4]; decide)
  rw [hl] at n0
  rw [d2, List.drop_drop] at n2
  rw [d4, List.drop_drop] at n4
  have b3 : byteAt ys 3 = num (ys.drop 6) := congrArg num (List.take_of_length_le (Nat.le_of_eq d6))
  have b0 : byteAt ys 0 = num (ys.take 2) := rfl
  have b1 : byteAt ys 1 = num ((ys.drop 2).take 2) := rfl
  have b2 : byteAt ys 2 = num ((ys.drop 4).take 2) := rfl
  rw [b0, b1, b2, b3, n0, n2, n4]
  generalize num (ys.take 2) = p, num ((ys.drop 2).take 2) = q, num ((ys.drop 4).take 2) = r, num (ys.drop 6) = t
  clear d2 d4 d6 n0 n2 n4 b0 b1 b2 b3 hl hy
  exact congrArg some (by omega)
/-- a dotted part and its number -/
structure DotW (p : List Nat) (v : Nat) : Prop where
  ne : p ≠ []
  colon : 58 ∉ p
  slash : 47 ∉ p
  dot : 46 ∈ p
  len : p.length ≤ 15
  val : ip4V p = some v
theorem dotW_X {ys : List Nat} (hl : ys.length = 8) (hy : Nib ys) : DotW (dotX ys) (num ys) where
  ne := (dotX_free hy).2.2.1
  colon := (dotX_free hy).1
  slash := (dotX_free hy).2.1
  dot := by unfold dotX dot4; simp [joinL]
  len := dotX_len hy
  val := dotX_val hl hy
/-- parts and the groups that they stand for; 'e': the last may be dotted -/
inductive Fit : Bool → List (List Nat) → List Nat → Prop
  | nil {e} : Fit e [] []
  | cons {e w v ps gs} : HexW w v → Fit e ps gs → Fit e (w :: ps) (v :: gs)
  | dot {p v} : DotW p v → Fit true [p] [v / 65536, v % 65536]
theorem Fit.up {e : Bool} {ps : List (List Nat)} {gs : List Nat} (h : Fit false ps gs) : Fit e ps gs := by
  generalize hf : false = f at h
  induction h with
  | nil => exact .nil
  | cons hw _ ih => exact .cons hw (ih hf)
  | dot => cases hf
theorem Fit.take {ps : List (List Nat)} {gs : List Nat} (h : Fit false ps gs) : ∀ b, Fit false (ps.take b) (gs.take b) := by
  generalize hf : false = f at h
  induction h with
  | nil => intro b; rw [List.take_nil, List.take_nil]; exact .nil
  | cons hw _ ih =>
    intro b
    cases b with
    | zero => exact .nil
    | succ b => exact .cons hw (ih hf b)
  | dot => cases hf
theorem Fit.drop {ps : List (List Nat)} {gs : List Nat} (h : Fit false ps gs) : ∀ b, Fit false (ps.drop b) (gs.drop b) := by
  generalize hf : false = f at h
  induction h with
  | nil => intro b; rw [List.drop_nil, List.drop_nil]; exact .nil
  | cons hw h' ih =>
    intro b
    cases b with
    | zero => subst hf; exact .cons hw h'
    | succ b => exact ih hf b
  | dot => cases hf
theorem Fit.snoc {ps : List (List Nat)} {gs : List Nat} {p : List Nat} {v : Nat} (h : Fit false ps gs) (hd : DotW p v) : Fit true (ps ++ [p]) (gs ++ [v / 65536, v % 65536]) := by
  generalize hf : false = f at h
  induction h with
  | nil => exact .dot hd
  | cons hw _ ih => exact .cons hw (ih hf)
  | dot => cases hf
theorem Fit.len {ps : List (List Nat)} {gs : List Nat} (h : Fit false ps gs) : ps.length = gs.length := by
  generalize hf : false = f at h
  induction h with
  | nil => rfl
  | cons hw _ ih => simp only [List.length_cons, ih hf]
  | dot => cases hf
theorem Fit.free {e : Bool} {ps : List (List Nat)} {gs : List Nat} (h : Fit e ps gs) : ∀ p ∈ ps, (p ≠ [] ∧ 58 ∉ p) ∧ 47 ∉ p ∧ p.length ≤ 15 := by
  induction h with
  | nil => intro p hp; cases hp
  | cons hw _ ih =>
    intro p hp
    cases hp with
    | head => exact ⟨⟨hw.ne, hw.free.1⟩, hw.free.2.2, by have := hw.2.1; omega⟩
    | tail _ hp => exact ih p hp
  | dot hd =>
    intro p hp
    rw [List.mem_singleton] at hp
    subst hp
    exact ⟨⟨hd.ne, hd.colon⟩, hd.slash, hd.len⟩
theorem Fit.nodot {ps : List (List Nat)} {gs : List Nat} (h : Fit false ps gs) : ∀ p ∈ ps, 46 ∉ p := by
  generalize hf : false = f at h
  induction h with
  | nil => intro p hp; cases hp
  | cons hw _ ih =>
    intro p hp
    cases hp with
    | head => exact hw.free.2.1
    | tail _ hp => exact ih hf p hp
  | dot => cases hf
theorem gOf_hex {w : List Nat} {v : Nat} (h : HexW w v) : gOf w = [v] := by
  unfold gOf
  rw [contains_one, decide_eq_false h.free.2.1, h.2.2]
  rfl
theorem gOf_dot {w : List Nat} {v : Nat} (h : DotW w v) : gOf w = [v / 65536, v % 65536] := by
  unfold gOf
  rw [contains_one, decide_eq_true h.dot, h.val]
  rfl
theorem Fit.groups {e : Bool} {ps : List (List Nat)} {gs : List Nat} (h : Fit e ps gs) : (ps.map gOf).flatten = gs := by
  induction h with
  | nil => rfl
  | cons hw _ ih => rw [List.map_cons, List.flatten_cons, ih, gOf_hex hw]; rfl
  | dot hd => rw [List.map_cons, List.flatten_cons, gOf_dot hd]; rfl
theorem Fit.ok {e : Bool} {ps : List (List Nat)} {gs : List Nat} (h : Fit e ps gs) : ∀ (i : Nat) (q : List Nat), ps[i]? = some q → partOk e (decide (i = ps.length - 1)) q := by
  induction h with
  | nil => intro i q hq; cases hq
  | @cons e w v ps gs hw h' ih =>
    intro i q hq
    cases i with
    | zero =>
      cases hq
      exact .inl ⟨by rw [contains_one]; exact decide_eq_false hw.free.2.1, hw.1, hw.2.1, v, hw.2.2⟩
    | succ i =>
      have h1 := ih i q hq
      have hlt : i < ps.length := (List.getElem?_eq_some_iff.mp (show ps[i]? = some q from hq)).1
      have e1 : decide (i + 1 = (w :: ps).length - 1) = decide (i = ps.length - 1) := by
        apply decide_eq_decide.mpr
        rw [List.length_cons]
        lia
      rw [e1]
      exact h1
  | @dot p v hd =>
    intro i q hq
    cases i with
    | zero =>
      cases hq
      have hs := split_small p (y := [46]) (by simp)
      have hl := hd.len
      exact .inr ⟨by rw [contains_one]; exact decide_eq_true hd.dot, rfl, rfl, by omega, by omega, fun q hq => by have := hs.2 q hq; omega, v, hd.val⟩
    | succ i => cases hq
theorem fit_groups (k : Nat) {e : Bool} {ps : List (List Nat)} {gs : List Nat} (h : Fit e ps gs) (hn : ps.length ≤ 8) : callD T0 12 200 40 (k+3) (S "groups_of") [.str (joinL [58] ps), .bool e] = some (.list (intDs gs)) := by
  by_cases h0 : ps = []
  · subst h0
    cases h
    exact groups_nil k e
  · have hfree := h.free
    have hsp := split_join (c := 58) (by decide) h0 fun p hp => (hfree p hp).1.2
    have hjl : (joinL [58] ps).length ≤ 136 := by
      have := join_len' (x := [58]) (l := ps) (B := 15) (fun p hp => (hfree p hp).2.2) (by decide)
      have := Nat.mul_le_mul_left (15 + 2) hn
      lia
    have hne : joinL [58] ps ≠ [] := by
      match ps, h0, hfree with
      | [p], _, hfree => exact (hfree p (.head _)).1.1
      | p :: q :: r, _, _ => intro hh; simp [joinL] at hh
    have := groups_spec k e (joinL [58] ps) hne (by omega) ps hsp (by omega) (fun a ha => by
      have hm := mem_idx ps 0 a ha
      exact h.ok a.1 a.2 hm.2)
    rw [h.groups] at this
    exact this
end Mine.G
namespace Mine.G
theorem num_step {xs : List Nat} (hl : xs.length = 32) {j : Nat} (hj : j < 8) : num (xs.take (4 * (j + 1))) = num (xs.take (4 * j)) * 65536 + grp xs j := by
  have hw : (word xs j).length = 4 := by unfold word; rw [List.length_take, List.length_drop]; omega
  have e : xs.take (4 * (j + 1)) = xs.take (4 * j) ++ word xs j := by
    rw [show 4 * (j + 1) = 4 * j + 4 by lia, List.take_add]
    rfl
  rw [e, num_append, hw]
  rfl
theorem gsX_num {xs : List Nat} (hl : xs.length = 32) : numW (gsX xs) = num xs := by
  have e : numW (gsX xs) = (((((((0 * 65536 + grp xs 0) * 65536 + grp xs 1) * 65536 + grp xs 2) * 65536 + grp xs 3) * 65536 + grp xs 4) * 65536 + grp xs 5) * 65536 + grp xs 6) * 65536 + grp xs 7 := rfl
  have h0 : num (xs.take (4 * 0)) = 0 := rfl
  have h8 : xs.take (4 * (7 + 1)) = xs := List.take_of_length_le (by omega)
  have s0 := num_step hl (show 0 < 8 by decide)
  have s1 := num_step hl (show 1 < 8 by decide)
  have s2 := num_step hl (show 2 < 8 by decide)
  have s3 := num_step hl (show 3 < 8 by decide)
  have s4 := num_step hl (show 4 < 8 by decide)
  have s5 := num_step hl (show 5 < 8 by decide)
  have s6 := num_step hl (show 6 < 8 by decide)
  have s7 := num_step hl (show 7 < 8 by decide)
  rw [h8] at s7
  rw [e, s7, s6, s5, s4, s3, s2, s1, s0, h0]
theorem gsX_lt {xs : List Nat} (hx : Nib xs) : ∀ g ∈ gsX xs, g < 65536 := by
  intro g hg
  unfold gsX at hg
  obtain ⟨j, _, rfl⟩ := List.mem_map.mp hg
  exact grp_lt hx j
theorem gsX_len (xs : List Nat) : (gsX xs).length = 8 := by unfold gsX; rw [List.length_map, List.length_range]
theorem mem_join {c : Nat} : ∀ (ps : List (List Nat)), c ∈ joinL [58] ps → c = 58 ∨ ∃ p ∈ ps, c ∈ p
  | [], h => by cases h
  | [p], h => .inr ⟨p, .head _, h⟩
  | p :: q :: r, h => by
    have e : joinL [58] (p :: q :: r) = p ++ [58] ++ joinL [58] (q :: r) := rfl
    rw [e, List.mem_append, List.mem_append, List.mem_singleton] at h
    rcases h with (h | h) | h
    · exact .inr ⟨p, .head _, h⟩
    · exact .inl h
    · rcases mem_join (q :: r) h with h | ⟨a, h1, h2⟩
      · exact .inl h
      · exact .inr ⟨a, .tail _ h1, h2⟩
/-- a text of six, its number -/
structure Fine (t : List Nat) (n : Nat) : Prop where
  len : t.length ≤ 400
  slash : 47 ∉ t
  v4 : ip4V t = none
  v6 : ∀ k, callD T0 12 200 40 (k+4) (S "ip6_of") [.str t] = some (.int n)
theorem v4_nodot {t : List Nat} (h : 46 ∉ t) : ip4V t = none := by
  unfold ip4V
  rw [split_none (by decide) h, if_pos (by simp)]
theorem decNum_none : ∀ (t : List Nat) (a : Nat), 58 ∈ t → decNum t a = none
  | [], _, h => by cases h
  | c :: r, a, h => by
    unfold decNum
    by_cases hc : 48 ≤ c ∧ c ≤ 57
    · rw [if_pos hc]
      cases h with
      | head => omega
      | tail _ h => exact decNum_none r _ h
    · rw [if_neg hc]
theorem decOf_none {t : List Nat} (h : 58 ∈ t) (m : Nat) : decOf t m = none := by
  unfold decOf
  split
  · rfl
  · rw [decNum_none t 0 h]
theorem v4_dot {u ys : List Nat} (hy : Nib ys) (hu : 46 ∉ u) (hc : 58 ∈ u) : ip4V (u ++ dotX ys) = none := by
  have e : u ++ dotX ys = joinL [46] [u ++ digitsOf (byteAt ys 0 : Int), digitsOf (byteAt ys 1 : Int), digitsOf (byteAt ys 2 : Int), digitsOf (byteAt ys 3 : Int)] := by
    unfold dotX dot4
    simp [joinL]
  have hs : splitL (u ++ dotX ys) [46] = [u ++ digitsOf (byteAt ys 0 : Int), digitsOf (byteAt ys 1 : Int), digitsOf (byteAt ys 2 : Int), digitsOf (byteAt ys 3 : Int)] := by
    rw [e]
    refine split_join (by decide) (by simp) ?_
    intro p hp
    simp only [List.mem_cons, List.not_mem_nil, or_false] at hp
    rcases hp with rfl | rfl | rfl | rfl
    · rw [List.mem_append]
      rintro (h | h)
      · exact hu h
      · exact digits_nodot (byte_lt hy 0) _ (by decide) h
    · exact digits_nodot (byte_lt hy 1) _ (by decide)
    · exact digits_nodot (byte_lt hy 2) _ (by decide)
    · exact digits_nodot (byte_lt hy 3) _ (by decide)
  unfold ip4V
  rw [hs, if_neg (by simp)]
  unfold ip4Parts
  rw [decOf_none (List.mem_append_left _ hc)]
theorem join_snoc (d : List Nat) : ∀ l : List (List Nat), ∃ u, joinL [58] (l ++ [d]) = u ++ d ∧ (l ≠ [] → 58 ∈ u) ∧ ∀ c ∈ u, c = 58 ∨ ∃ p ∈ l, c ∈ p
  | [] => ⟨[], rfl, fun h => absurd rfl h, fun c h => by cases h⟩
  | [p] => ⟨p ++ [58], rfl, fun _ => by simp, fun c h => by
      rw [List.mem_append, List.mem_singleton] at h
      rcases h with h | h
      · exact .inr ⟨p, .head _, h⟩
      · exact .inl h⟩
  | p :: q :: r => by
    obtain ⟨u, h1, h2, h3⟩ := join_snoc d (q :: r)
    refine ⟨p ++ [58] ++ u, ?_, fun _ => by simp, fun c h => ?_⟩
    · show p ++ [58] ++ joinL [58] (q :: r ++ [d]) = _
      rw [h1, List.append_assoc, List.append_assoc, List.append_assoc]
    · rw [List.mem_append, List.mem_append, List.mem_singleton] at h
      rcases h with (h | h) | h
      · exact .inr ⟨p, .head _, h⟩
      · exact .inl h
      · rcases h3 c h with h | ⟨a, h, h'⟩
        · exact .inl h
        · exact .inr ⟨a, .tail _ h, h'⟩
theorem slash_join {ps : List (List Nat)} (h : ∀ p ∈ ps, 47 ∉ p) : 47 ∉ joinL [58] ps := fun hm => by
  rcases mem_join ps hm with h1 | ⟨p, h1, h2⟩
  · cases h1
  · exact h p h1 h2
theorem nodot_join {ps : List (List Nat)} (h : ∀ p ∈ ps, 46 ∉ p) : 46 ∉ joinL [58] ps := fun hm => by
  rcases mem_join ps hm with h1 | ⟨p, h1, h2⟩
  · cases h1
  · exact h p h1 h2
theorem join8_len {ps : List (List Nat)} (h : ∀ p ∈ ps, p.length ≤ 15) (hn : ps.length ≤ 8) : (joinL [58] ps).length ≤ 136 := by
  have := join_len' (x := [58]) (l := ps) (B := 15) h (by decide)
  have := Nat.mul_le_mul_left (15 + 2) hn
  lia
theorem v6_full {xs : List Nat} (hx : Nib xs) (hl : xs.length = 32) {ps : List (List Nat)} (h : Fit true ps (gsX xs)) (hn : ps.length ≤ 8) (k : Nat) : callD T0 12 200 40 (k+4) (S "ip6_of") [.str (joinL [58] ps)] = some (.int (num xs)) := by
  have hf := h.free
  have hlen := join8_len (fun p hp => (hf p hp).2.2) hn
  have := ip6_one k (joinL [58] ps) (joinL [58] ps) (gsX xs) (by omega) (split2_none fun p hp => (hf p hp).1) (fit_groups k h hn) (gsX_len xs) (gsX_lt hx)
  rw [gsX_num hl] at this
  exact this
theorem v6_gap {xs : List Nat} (hx : Nib xs) (hl : xs.length = 32) {a b : List (List Nat)} {ga gb : List Nat} (h1 : Fit false a ga) (h2 : Fit true b gb) (ha : a.length ≤ 8) (hb : b.length ≤ 8)
    (hg : gsX xs = ga ++ List.replicate (8 - ga.length - gb.length) 0 ++ gb) (h7 : ga.length + gb.length ≤ 7) (k : Nat) : callD T0 12 200 40 (k+4) (S "ip6_of") [.str (joinL [58] a ++ [58, 58] ++ joinL [58] b)] = some (.int (num xs)) := by
  have hf1 := h1.free
  have hf2 := h2.free
  have hl1 := join8_len (fun p hp => (hf1 p hp).2.2) ha
  have hl2 := join8_len (fun p hp => (hf2 p hp).2.2) hb
  have hlt := gsX_lt hx
  have := ip6_two k (joinL [58] a ++ [58, 58] ++ joinL [58] b) (joinL [58] a) (joinL [58] b) ga gb (by simp only [List.length_append, List.length_cons, List.length_nil]; lia)
    (split2_gap (fun p hp => (hf1 p hp).1) (fun p hp => (hf2 p hp).1)) (fit_groups k h1 ha) (fit_groups k h2 hb) h7
    (fun g hgm => hlt g (by rw [hg]; simp [hgm])) (fun g hgm => hlt g (by rw [hg]; simp [hgm]))
  rw [← hg, gsX_num hl] at this
  exact this
theorem gsX_get (xs : List Nat) {j : Nat} (h : j < 8) : (gsX xs)[j]? = some (grp xs j) := by
  unfold gsX
  rw [List.getElem?_map, List.getElem?_range h]
  rfl
theorem gsX_gap (xs : List Nat) {b e : Nat} (hb : b < e) (he : e ≤ 8) (hz : ∀ j, b ≤ j → j < e → grp xs j = 0) :
    gsX xs = (gsX xs).take b ++ List.replicate (8 - ((gsX xs).take b).length - ((gsX xs).drop e).length) 0 ++ (gsX xs).drop e := by
  have hl := gsX_len xs
  have e1 : 8 - ((gsX xs).take b).length - ((gsX xs).drop e).length = e - b := by
    rw [List.length_take, List.length_drop, hl, Nat.min_eq_left (Nat.le_trans (Nat.le_of_lt hb) he)]
    clear hl hz; omega
  have e2 : ((gsX xs).drop b).take (e - b) = List.replicate (e - b) 0 := by
    rw [List.eq_replicate_iff]
    refine ⟨by rw [List.length_take, List.length_drop, hl]; exact Nat.min_eq_left (Nat.sub_le_sub_right he b), fun g hg => ?_⟩
    obtain ⟨i, hi⟩ := List.getElem?_of_mem hg
    have hlt : i < e - b := by
      have := (List.getElem?_eq_some_iff.mp hi).1
      rw [List.length_take] at this
      exact Nat.lt_of_lt_of_le this (Nat.min_le_left _ _)
    rw [List.getElem?_take_of_lt hlt, List.getElem?_drop, gsX_get xs (Nat.lt_of_lt_of_le (Nat.add_lt_of_lt_sub' hlt) he)] at hi
    rw [← Option.some.inj hi]
    exact hz _ (Nat.le_add_right _ _) (Nat.add_lt_of_lt_sub' hlt)
  rw [e1, ← e2, List.append_assoc]
  have e3 : ((gsX xs).drop b).take (e - b) ++ (gsX xs).drop e = (gsX xs).drop b := by
    have : (gsX xs).drop e = ((gsX xs).drop b).drop (e - b) := by rw [List.drop_drop, Nat.add_sub_cancel' (Nat.le_of_lt hb)]
    rw [this, List.take_append_drop]
  rw [e3, List.take_append_drop]
/-- all eight words -/
theorem fine_words {xs : List Nat} (hx : Nib xs) (hl : xs.length = 32) {ws : List (List Nat)} (h : Fit false ws (gsX xs)) : Fine (joinL [58] ws) (num xs) where
  len := by have := join8_len (fun p hp => (h.free p hp).2.2) (by rw [h.len, gsX_len]; exact Nat.le_refl _); omega
  slash := slash_join fun p hp => (h.free p hp).2.1
  v4 := v4_nodot (nodot_join h.nodot)
  v6 := v6_full hx hl h.up (by rw [h.len, gsX_len]; exact Nat.le_refl _)
theorem fine_words_gap {xs : List Nat} (hx : Nib xs) (hl : xs.length = 32) {ws : List (List Nat)} (h : Fit false ws (gsX xs)) {b e : Nat} (hb : b < e) (he : e ≤ 8) (hz : ∀ j, b ≤ j → j < e → grp xs j = 0) : Fine (gapT ws b e) (num xs) := by
  have hwl : ws.length = 8 := by rw [h.len, gsX_len]
  have hgl := gsX_len xs
  have f := h.free
  have f1 : ∀ p ∈ ws.take b, p ∈ ws := fun p hp => List.mem_of_mem_take hp
  have f2 : ∀ p ∈ ws.drop e, p ∈ ws := fun p hp => List.mem_of_mem_drop hp
  have l1 : (ws.take b).length ≤ 8 := by rw [List.length_take]; omega
  have l2 : (ws.drop e).length ≤ 8 := by rw [List.length_drop]; omega
  have j1 := join8_len (fun p hp => (f p (f1 p hp)).2.2) l1
  have j2 := join8_len (fun p hp => (f p (f2 p hp)).2.2) l2
  refine ⟨?_, ?_, ?_, ?_⟩
  · unfold gapT
    simp only [List.length_append, List.length_cons, List.length_nil]; omega
  · unfold gapT
    simp only [List.mem_append, not_or]
    exact ⟨⟨slash_join fun p hp => (f p (f1 p hp)).2.1, by simp⟩, slash_join fun p hp => (f p (f2 p hp)).2.1⟩
  · refine v4_nodot ?_
    unfold gapT
    simp only [List.mem_append, not_or]
    exact ⟨⟨nodot_join fun p hp => h.nodot p (f1 p hp), by simp⟩, nodot_join fun p hp => h.nodot p (f2 p hp)⟩
  · exact v6_gap hx hl (h.take b) (h.drop e).up l1 l2 (gsX_gap xs hb he hz) (by rw [List.length_take, List.length_drop]; omega)
theorem gsX_tail {xs : List Nat} (hx : Nib xs) (hl : xs.length = 32) : gsX xs = (gsX xs).take 6 ++ [num (xs.drop 24) / 65536, num (xs.drop 24) % 65536] := by
  have e : gsX xs = (gsX xs).take 6 ++ [grp xs 6, grp xs 7] := rfl
  have hd : (xs.drop 24) = word xs 6 ++ word xs 7 := by
    unfold word
    have h1 : xs.drop (4 * 7) = (xs.drop (4 * 6)).drop 4 := by rw [List.drop_drop]
    have h2 : ((xs.drop (4 * 6)).drop 4).take 4 = (xs.drop (4 * 6)).drop 4 := List.take_of_length_le (by rw [List.length_drop, List.length_drop]; omega)
    rw [h1, h2, List.take_append_drop]
  have hw : (word xs 7).length = 4 := by unfold word; rw [List.length_take, List.length_drop]; lia
  have hn : num (xs.drop 24) = grp xs 6 * 65536 + grp xs 7 := by rw [hd, num_append, hw]; rfl
  have := grp_lt hx 7
  have q1 : num (xs.drop 24) / 65536 = grp xs 6 := by omega
  have q2 : num (xs.drop 24) % 65536 = grp xs 7 := by omega
  rw [q1, q2]
  exact e
theorem dotW_of {xs : List Nat} (hx : Nib xs) (hl : xs.length = 32) : DotW (dotX (xs.drop 24)) (num (xs.drop 24)) := dotW_X (by rw [List.length_drop]; omega) (nib_drop hx _)
/-- six words and a dotted end -/
theorem fine_dot {xs : List Nat} (hx : Nib xs) (hl : xs.length = 32) {ws : List (List Nat)} (h : Fit false ws (gsX xs)) : Fine (joinL [58] (ws.take 6 ++ [dotX (xs.drop 24)])) (num xs) := by
  have hwl : ws.length = 8 := by rw [h.len, gsX_len]
  have hF : Fit true (ws.take 6 ++ [dotX (xs.drop 24)]) (gsX xs) := by
    rw [gsX_tail hx hl]
    exact (h.take 6).snoc (dotW_of hx hl)
  have hn : (ws.take 6 ++ [dotX (xs.drop 24)]).length ≤ 8 := by rw [List.length_append, List.length_take]; simp; omega
  refine ⟨?_, slash_join fun p hp => (hF.free p hp).2.1, ?_, v6_full hx hl hF hn⟩
  · have := join8_len (fun p hp => (hF.free p hp).2.2) hn
    omega
  · obtain ⟨u, h1, h2, h3⟩ := join_snoc (dotX (xs.drop 24)) (ws.take 6)
    rw [h1]
    refine v4_dot (nib_drop hx _) (fun hm => ?_) (h2 fun h0 => ?_)
    · rcases h3 46 hm with h4 | ⟨p, h4, h5⟩
      · cases h4
      · exact h.nodot p (List.mem_of_mem_take h4) h5
    · have := congrArg List.length h0
      rw [List.length_take, hwl] at this
      cases this
theorem fine_dot_gap {xs : List Nat} (hx : Nib xs) (hl : xs.length = 32) {ws : List (List Nat)} (h : Fit false ws (gsX xs)) {b e : Nat} (hb : b < e) (he : e ≤ 6) (hz : ∀ j, b ≤ j → j < e → grp xs j = 0) : Fine (gapT (ws.take 6 ++ [dotX (xs.drop 24)]) b e) (num xs) := by
  have hwl : ws.length = 8 := by rw [h.len, gsX_len]
  have hgl := gsX_len xs
  have t6 : (ws.take 6).length = 6 := by rw [List.length_take]; lia
  have e1 : (ws.take 6 ++ [dotX (xs.drop 24)]).take b = ws.take b := by
    rw [List.take_append_of_le_length (by omega), List.take_take, Nat.min_eq_left (by omega)]
  have e2 : (ws.take 6 ++ [dotX (xs.drop 24)]).drop e = (ws.take 6).drop e ++ [dotX (xs.drop 24)] := List.drop_append_of_le_length (by omega)
  have e3 : (gsX xs).drop e = ((gsX xs).take 6).drop e ++ [num (xs.drop 24) / 65536, num (xs.drop 24) % 65536] := by
    have := congrArg (List.drop e) (gsX_tail hx hl)
    rw [List.drop_append_of_le_length (by rw [List.length_take]; omega)] at this
    exact this
  have hF : Fit true ((ws.take 6).drop e ++ [dotX (xs.drop 24)]) ((gsX xs).drop e) := by
    rw [e3]
    exact ((h.take 6).drop e).snoc (dotW_of hx hl)
  have f := h.free
  have g := hF.free
  have f1 : ∀ p ∈ ws.take b, p ∈ ws := fun p hp => List.mem_of_mem_take hp
  have l1 : (ws.take b).length ≤ 8 := by rw [List.length_take]; omega
  have l2 : ((ws.take 6).drop e ++ [dotX (xs.drop 24)]).length ≤ 8 := by rw [List.length_append, List.length_drop]; simp; omega
  have j1 := join8_len (fun p hp => (f p (f1 p hp)).2.2) l1
  have j2 := join8_len (fun p hp => (g p hp).2.2) l2
  unfold gapT
  rw [e1, e2]
  refine ⟨?_, ?_, ?_, ?_⟩
  · simp only [List.length_append (as := joinL [58] (List.take b ws) ++ [58, 58]), List.length_append (bs := [58, 58]), List.length_cons, List.length_nil]; omega
  · rw [List.mem_append, List.mem_append, not_or, not_or]
    exact ⟨⟨slash_join fun p hp => (f p (f1 p hp)).2.1, by simp⟩, slash_join fun p hp => (g p hp).2.1⟩
  · obtain ⟨u, h1, _, h3⟩ := join_snoc (dotX (xs.drop 24)) ((ws.take 6).drop e)
    rw [h1, ← List.append_assoc]
    refine v4_dot (nib_drop hx _) (fun hm => ?_) (by simp)
    rw [List.mem_append, List.mem_append] at hm
    rcases hm with (hm | hm) | hm
    · exact nodot_join (fun p hp => h.nodot p (f1 p hp)) hm
    · simp at hm
    · rcases h3 46 hm with h4 | ⟨p, h4, h5⟩
      · cases h4
      · exact h.nodot p (List.mem_of_mem_take (List.mem_of_mem_drop h4)) h5
  · exact v6_gap hx hl (h.take b) hF l1 l2 (gsX_gap xs hb (by omega) hz) (by rw [List.length_take, List.length_drop]; omega)
end Mine.G
namespace Mine.G
theorem fit_map (f : Nat → List Nat) (g : Nat → Nat) : ∀ l : List Nat, (∀ j ∈ l, HexW (f j) (g j)) → Fit false (l.map f) (l.map g)
  | [], _ => .nil
  | j :: l, h => .cons (h j (.head _)) (fit_map f g l fun i hi => h i (.tail _ hi))
theorem fit_wsX {xs : List Nat} (hx : Nib xs) (hl : xs.length = 32) : Fit false (wsX xs) (gsX xs) :=
  fit_map _ _ _ fun _ hj => hexW_bare hx hl (List.mem_range.mp hj) 3
theorem nrB_zero : ∀ a b c d e f g h : Bool, ((List.range 8).all fun j => !(decide ((nrB [a, b, c, d, e, f, g, h]).1.toNat ≤ j) && decide (j < ((nrB [a, b, c, d, e, f, g, h]).1 + (nrB [a, b, c, d, e, f, g, h]).2.1).toNat)) || [a, b, c, d, e, f, g, h].getD j false) = true := by decide +kernel
theorem zsX_get (xs : List Nat) {j : Nat} (h : j < 8) : (zsX xs).getD j false = (grp xs j == 0) := by
  unfold zsX
  rw [List.getD_eq_getElem?_getD, List.getElem?_map, gsX_get xs h]
  rfl
theorem nrB_run {xs : List Nat} : ∀ j, (nrB (zsX xs)).1.toNat ≤ j → j < ((nrB (zsX xs)).1 + (nrB (zsX xs)).2.1).toNat → j < 8 → grp xs j = 0 := by
  intro j h1 h2 h3
  have h := nrB_zero (grp xs 0 == 0) (grp xs 1 == 0) (grp xs 2 == 0) (grp xs 3 == 0) (grp xs 4 == 0) (grp xs 5 == 0) (grp xs 6 == 0) (grp xs 7 == 0)
  rw [← zsX_eq, List.all_eq_true] at h
  have := h j (List.mem_range.mpr h3)
  rw [decide_eq_true h1, decide_eq_true h2, zsX_get xs h3] at this
  simpa using this
theorem fine_text {xs : List Nat} (hx : Nib xs) (hl : xs.length = 32) : Fine (textI xs) (num xs) := by
  have hF := fit_wsX hx hl
  have hfit := nrB_fits (grp xs 0 == 0) (grp xs 1 == 0) (grp xs 2 == 0) (grp xs 3 == 0) (grp xs 4 == 0) (grp xs 5 == 0) (grp xs 6 == 0) (grp xs 7 == 0)
  rw [← zsX_eq] at hfit
  have hrun := @nrB_run xs
  unfold textI
  by_cases h2 : (nrB (zsX xs)).2.1 < 2
  · rw [if_pos h2]
    exact fine_words hx hl hF
  · rw [if_neg h2]
    by_cases hm : mixC xs
    · have e1 : partsI xs = (wsX xs).take 6 ++ [dotX (xs.drop 24)] := by
        unfold partsI
        rw [if_pos hm, dot_low hx hl]
      rw [e1]
      obtain ⟨h0, h6⟩ := hm
      refine fine_dot_gap hx hl hF ?_ ?_ fun j h3 h4 => hrun j h3 h4 ?_
      · omega
      · omega
      · omega
    · have e1 : partsI xs = wsX xs := if_neg hm
      rw [e1]
      refine fine_words_gap hx hl hF ?_ ?_ fun j h3 h4 => hrun j h3 h4 ?_
      · omega
      · omega
      · omega
end Mine.G
namespace Mine.G
theorem decOf_len {i m : Nat} (h : i < 256) (hm : i ≤ m) (k : Nat) : callD T0 12 200 40 (k+1) (S "decimal_of") [.str (digitsOf (i : Int)), .int m] = some (.int i) := by
  have hsz := sizeLine_eq
  have := decimal_spec k (digitsOf (i : Int)) m (by have := digits_len h; omega)
  rw [decNum_digits h hm] at this
  exact this
noncomputable def prE (v0 v1 v2 v3 v4 v5 : Option D) : Lo := [(S "text", v0), (S "parts", v1), (S "nfproto", v2), (S "bits", v3), (S "base", v4), (S "length", v5)]
noncomputable def PrQ (T : List Nat) (ps : List (List Nat)) (P B n : Nat) : Fl × St → Prop := fun q => q = (.next, ⟨(prE (some (.str T)) (some (.list (ps.map .str))) (some (.int (P : Nat))) (some (.int (B : Nat))) (some (.int (n : Nat))) none), none⟩)
theorem pre_spec (k : Nat) {t T : List Nat} {n L P B : Nat} {ps : List (List Nat)} (hlen : t.length ≤ 400) (hB : B ≤ 200) (hc : (ip4V t = some n ∧ P = 2 ∧ B = 32) ∨ (ip4V t = none ∧ P = 10 ∧ B = 128 ∧ callD T0 12 200 40 (k+4) (S "ip6_of") [.str t] = some (.int n)))
    (hn : n < 2 ^ B) (hT : T.length ≤ 1000) (hs : splitL T [47] = ps) (hL : L ≤ B) (hp : (ps = [t] ∧ L = B) ∨ ps = [t, digitsOf (L : Int)]) :
    callD T0 12 200 40 (k+5) (S "prefix_of") [.str T] = some (.tuple [.int P, .int (lowN n L B), .int L]) := by
  have hsz := sizeLine_eq
  have e1 : ofStr (S "/") = [47] := rfl
  have hsm := split_small t (y := [46]) (by simp)
  have hp0 : ps[0]? = some t := by rcases hp with ⟨rfl, _⟩ | rfl <;> rfl
  have hpl : ps.length = 1 ∨ ps.length = 2 := by rcases hp with ⟨rfl, _⟩ | rfl; exact .inl rfl; exact .inr rfl
  have hp1 : ps.length = 2 → ps[1]? = some (digitsOf (L : Int)) := by
    rcases hp with ⟨rfl, _⟩ | rfl
    · intro h; cases h
    · intro; rfl
  have hp2 : ps.length = 1 → L = B := by
    rcases hp with ⟨rfl, h⟩ | rfl
    · exact fun _ => h
    · intro h; cases h
  have h4 := ip4_spec (k + 2) t (by omega) (fun p hp => by have := hsm.2 p hp; lia) (by omega)
  refine call_of2 (prE (some (.str T)) none none none none none) rfl rfl rfl ?_
  walk_at "go"
  rw [e1]
  refine go_split (by omega) (by decide) ?_
  rw [hs]
  walk_at "go"
  refine go_iff ?_ ?_
  · walk_at "go"
    rw [List.length_map]
    exact decide_eq_false (by lia)
  walk_at "go"
  refine go_iteml (d := .str t) (by decide) (by rw [List.getElem?_map]; show (ps[0]?).map _ = _; rw [hp0]; rfl) ?_
  walk_at "go"
  refine go_of h4 ?_
  walk_at "go"
  refine go_ifj (ip4V t = none) (PrQ T ps P B n) ?_ (fun h => ?_) (fun h => ?_) ?_
  · cases hv : ip4V t with
    | none => (walk_at "go"); exact (decide_eq_true rfl).symm
    | some v => (walk_at "go"); exact (decide_eq_false (fun e => nomatch e)).symm
  · obtain ⟨_, rfl, rfl, h6⟩ := hc.resolve_left fun q => by rw [h] at q; cases q.1
    walk_at "go"
    refine go_iteml (d := .str t) (by decide) (by rw [List.getElem?_map]; show (ps[0]?).map _ = _; rw [hp0]; rfl) ?_
    walk_at "go"
    refine go_of h6 ?_
    walk_at "go"
    rfl
  · obtain ⟨hv, rfl, rfl⟩ := hc.resolve_right fun q => h q.1
    rw [hv]
    walk_at "go"
    rfl
  rintro _ rfl
  dsimp only
  refine go_iff ?_ ?_
  · walk_at "go"
  refine go_done ?_
  dsimp only
  refine go_assign0 rfl (go_ifx_to (.int (L : Int)) ?_ ?_)
  · walk_at "go"
    rw [List.length_map]
    refine ⟨fun h => ?_, fun h => ?_⟩
    · have h1 : ps.length = 1 := nat_of_b h
      walk_at "go"
      rw [hp2 h1]
    · have h1 : ps.length = 2 := hpl.resolve_left (nat_of_nb h)
      walk_at "go"
      refine go_iteml (d := .str (digitsOf (L : Int))) (by decide) (by rw [List.getElem?_map]; show (ps[1]?).map _ = _; rw [hp1 h1]; rfl) ?_
      walk_at "go"
      exact go_of (decOf_len (m := B) (by omega) hL _) rfl
  walk_at "go"
  refine go_iff ?_ ?_
  · walk_at "go"
  walk_at "go"
  refine go_of (mask_spec _ L B hL hB) ?_
  walk_at "go"
  rw [band_nat, maskN, and_mask hn (Nat.sub_le _ _)]
  rfl
theorem pre6_spec (k : Nat) {t T : List Nat} {n L : Nat} {ps : List (List Nat)} (hF : Fine t n) (hn : n < 2 ^ 128) (hT : T.length ≤ 1000) (hs : splitL T [47] = ps) (hL : L ≤ 128) (hp : (ps = [t] ∧ L = 128) ∨ ps = [t, digitsOf (L : Int)]) :
    callD T0 12 200 40 (k+5) (S "prefix_of") [.str T] = some (.tuple [.int 10, .int (lowN n L 128), .int L]) :=
  pre_spec k hF.len (by decide) (.inr ⟨hF.v4, rfl, rfl, hF.v6 k⟩) hn hT hs hL hp
theorem pre4_spec (k : Nat) {t T : List Nat} {n L : Nat} {ps : List (List Nat)} (hlen : t.length ≤ 400) (hv : ip4V t = some n) (hn : n < 2 ^ 32) (hT : T.length ≤ 1000) (hs : splitL T [47] = ps) (hL : L ≤ 32) (hp : (ps = [t] ∧ L = 32) ∨ ps = [t, digitsOf (L : Int)]) :
    callD T0 12 200 40 (k+5) (S "prefix_of") [.str T] = some (.tuple [.int 2, .int (lowN n L 32), .int L]) :=
  pre_spec k hlen (by decide) (.inl ⟨hv, rfl, rfl⟩) hn hT hs hL hp
theorem low_all {n B : Nat} : lowN n B B = n := by unfold lowN; rw [Nat.sub_self]; simp
theorem split_slash {t : List Nat} (h : 47 ∉ t) {L : Nat} (hL : L < 256) : splitL (t ++ [47] ++ digitsOf (L : Int)) [47] = [t, digitsOf (L : Int)] := by
  have := split_join (c := 47) (by decide) (ps := [t, digitsOf (L : Int)]) (by simp) (by
    intro p hp
    simp only [List.mem_cons, List.not_mem_nil, or_false] at hp
    rcases hp with rfl | rfl
    · exact h
    · exact digits_nodot hL _ (by decide))
  exact this
theorem pre6_one (k : Nat) {t : List Nat} {n : Nat} (hF : Fine t n) (hn : n < 2 ^ 128) : callD T0 12 200 40 (k+5) (S "prefix_of") [.str t] = some (.tuple [.int 10, .int n, .int 128]) := by
  have := pre6_spec k hF hn (by have := hF.len; omega) (split_none (by decide) hF.slash) (Nat.le_refl 128) (.inl ⟨rfl, rfl⟩)
  rw [low_all] at this
  exact this
theorem pre6_two (k : Nat) {t : List Nat} {n L : Nat} (hF : Fine t n) (hn : n < 2 ^ 128) (hL : L ≤ 128) : callD T0 12 200 40 (k+5) (S "prefix_of") [.str (t ++ [47] ++ digitsOf (L : Int))] = some (.tuple [.int 10, .int (lowN n L 128), .int L]) :=
  pre6_spec k hF hn (by have := hF.len; have := digits_len (show L < 256 by omega); simp only [List.length_append, List.length_singleton]; omega) (split_slash hF.slash (by omega)) hL (.inr rfl)
theorem pre4_one (k : Nat) {ys : List Nat} (hy : Nib ys) (hl : ys.length = 8) : callD T0 12 200 40 (k+5) (S "prefix_of") [.str (dotX ys)] = some (.tuple [.int 2, .int (num ys), .int 32]) := by
  have hd := dotW_X hl hy
  have h15 := hd.len
  have hn := num_lt ys hy
  rw [hl] at hn
  have := pre4_spec k (by omega) hd.val (by omega) (by omega) (split_none (by decide) hd.slash) (Nat.le_refl 32) (.inl ⟨rfl, rfl⟩)
  rw [low_all] at this
  exact this
theorem pre4_two (k : Nat) {ys : List Nat} {L : Nat} (hy : Nib ys) (hl : ys.length = 8) (hL : L ≤ 32) : callD T0 12 200 40 (k+5) (S "prefix_of") [.str (dotX ys ++ [47] ++ digitsOf (L : Int))] = some (.tuple [.int 2, .int (lowN (num ys) L 32), .int L]) := by
  have hd := dotW_X hl hy
  have h15 := hd.len
  have hn := num_lt ys hy
  rw [hl] at hn
  have h3 := digits_len (show L < 256 by omega)
  exact pre4_spec k (by omega) hd.val (by omega) (by simp only [List.length_append, List.length_singleton]; omega) (split_slash hd.slash (by omega)) hL (.inr rfl)
end Mine.G
namespace Mine.G
theorem go_if_join {Φ : Phi} {N n W : Nat} {kd : Kd} {st : St} {K : Fl × St → Prop} {r : List Stmt} {p : Pos} {t : Expr} {b o : List Stmt} (P : Fl × St → Prop)
    (h : Go (testE Φ N kd (lessL (lookL st.env) (ownAfter st.own t)) t) fun c => (c = true → Go (execB Φ N W n kd (letGo st t) b) P) ∧ (c = false → Go (execB Φ N W n kd (letGo st t) o) P))
    (hk : ∀ q, P q → match q with | (.next, st) => Go (execB Φ N W n kd st r) K | (.ret d, st) => K (.ret d, st)) :
    Go (execB Φ N W (n + 1) kd st (.If t b o p :: r)) K :=
  go_if (h.mono fun c hc => And.intro (fun h1 => (hc.1 h1).mono hk) (fun h1 => (hc.2 h1).mono hk))
noncomputable def upc (c : Nat) : Nat := if 97 ≤ c ∧ c ≤ 122 then c - 32 else c
theorem upperL_cons {c : Nat} (h : c < 128) (r : List Nat) : upperL (c :: r) = upc c :: upperL r := by
  have e : toStr (c :: r) = ⟨#[c]⟩ ++ toStr r := by
    apply PySem.Str.ext'
    rw [PySem.Str.cps_append]
    apply Array.toList_inj.mp
    simp [toStr]
  unfold upperL
  rw [e, PySem.W.KOpn.upper_app, PySem.W.KOpn.upper_one h]
  unfold ofStr
  rw [PySem.Str.cps_append, Array.toList_append]
  rfl
theorem upperL_nil : upperL [] = [] := by rfl
theorem hexv_up {c v : Nat} (h : hexv c = some v) : hexv (upc c) = some v ∧ c < 128 := by
  have hc : c < 103 := by
    unfold hexv at h
    split at h
    · omega
    · split at h
      · omega
      · split at h
        · omega
        · cases h
  have : ∀ c < 103, (hexv c).isSome = true → hexv (upc c) = hexv c := by decide
  exact ⟨by rw [this c hc (by rw [h]; rfl), h], by omega⟩
theorem hexNum_up : ∀ (w : List Nat) (a v : Nat), hexNum w a = some v → hexNum (upperL w) a = some v ∧ (upperL w).length = w.length
  | [], a, v, h => by rw [upperL_nil]; exact ⟨h, rfl⟩
  | c :: r, a, v, h => by
    unfold hexNum at h
    cases hc : hexv c with
    | none => rw [hc] at h; cases h
    | some x =>
      rw [hc] at h
      obtain ⟨h1, h2⟩ := hexv_up hc
      obtain ⟨i1, i2⟩ := hexNum_up r _ v h
      rw [upperL_cons h2]
      refine ⟨?_, by simp [i2]⟩
      unfold hexNum
      rw [h1]
      exact i1
theorem HexW.up {w : List Nat} {v : Nat} (h : HexW w v) : HexW (upperL w) v := by
  obtain ⟨h1, h2⟩ := hexNum_up w 0 v h.2.2
  exact ⟨by rw [h2]; exact h.1, by rw [h2]; exact h.2.1, h1⟩
theorem flat_zero (n : Nat) : (List.replicate n [48, 48, 48, 48]).flatten = chars (List.replicate (4 * n) 0) := by
  rw [chars_rep]
  induction n with
  | zero => rfl
  | succ n ih =>
    rw [List.replicate_succ, List.flatten_cons, ih, show 4 * (n + 1) = 4 * n + 1 + 1 + 1 + 1 by lia]
    simp only [List.replicate_succ]
    rfl
theorem zero_words {xs : List Nat} (hx : Nib xs) {b e : Nat} (h : chars ((xs.drop (4 * b)).take (4 * e - 4 * b)) = (List.replicate (e - b) [48, 48, 48, 48]).flatten) : ∀ j, b ≤ j → j < e → grp xs j = 0 := by
  intro j h1 h2
  rw [flat_zero] at h
  have h3 := chars_inj (nib_sub hx _ _) (nib_rep (by decide)) h
  have h4 : word xs j = List.replicate 4 0 := by
    have e1 : word xs j = (((xs.drop (4 * b)).take (4 * e - 4 * b)).drop (4 * (j - b))).take 4 := by
      unfold word
      rw [List.drop_take, List.drop_drop, List.take_take, show 4 * b + 4 * (j - b) = 4 * j by omega, Nat.min_eq_left (by omega)]
    rw [e1, h3, List.drop_replicate, List.take_replicate, Nat.min_eq_left (by omega)]
  unfold grp
  rw [h4]
  rfl
noncomputable def gapD (gl : List (Nat × Nat)) : List D := gl.map fun p => D.tuple [.int p.1, .int p.2]
theorem gapD_app (a b : List (Nat × Nat)) : gapD (a ++ b) = gapD a ++ gapD b := List.map_append
theorem gapD_len (a : List (Nat × Nat)) : (gapD a).length = a.length := List.length_map _
noncomputable def GapOk (xs : List Nat) (tp : Nat) (gl : List (Nat × Nat)) : Prop := ∀ p ∈ gl, p.2 = 0 ∨ (p.1 < p.2 ∧ p.2 ≤ tp ∧ ∀ j, p.1 ≤ j → j < p.2 → grp xs j = 0)
theorem GapOk.snoc {xs : List Nat} {tp b e : Nat} {gl : List (Nat × Nat)} (h : GapOk xs tp gl) (h1 : b < e) (h2 : e ≤ tp) (hz : ∀ j, b ≤ j → j < e → grp xs j = 0) : GapOk xs tp (gl ++ [(b, e)]) := by
  intro p hp
  rw [List.mem_append, List.mem_singleton] at hp
  rcases hp with hp | rfl
  · exact h p hp
  · exact .inr ⟨h1, h2, hz⟩
/-- the parts that a style writes -/
noncomputable def PartsOf (xs : List Nat) (tp : Nat) (ps : List (List Nat)) : Prop := ∃ ws, Fit false ws (gsX xs) ∧ ((tp = 8 ∧ ps = ws) ∨ (tp = 6 ∧ ps = ws.take 6 ++ [dotX (xs.drop 24)]))
theorem PartsOf.small {xs : List Nat} {tp : Nat} {ps : List (List Nat)} (hx : Nib xs) (h : PartsOf xs tp ps) : tp ≤ 8 ∧ ps.length ≤ 8 ∧ ∀ p ∈ ps, p.length ≤ 15 := by
  obtain ⟨ws, hF, h⟩ := h
  have hwl : ws.length = 8 := by rw [hF.len, gsX_len]
  have f := hF.free
  rcases h with ⟨rfl, rfl⟩ | ⟨rfl, rfl⟩
  · exact ⟨by decide, by omega, fun p hp => (f p hp).2.2⟩
  · refine ⟨by decide, by rw [List.length_append, List.length_take]; simp; lia, fun p hp => ?_⟩
    rw [List.mem_append, List.mem_singleton] at hp
    rcases hp with hp | rfl
    · exact (f p (List.mem_of_mem_take hp)).2.2
    · exact dotX_len (nib_drop hx _)
theorem PartsOf.fine {xs : List Nat} {tp : Nat} {ps : List (List Nat)} (hx : Nib xs) (hl : xs.length = 32) (h : PartsOf xs tp ps) : Fine (joinL [58] ps) (num xs) := by
  obtain ⟨ws, hF, ⟨rfl, rfl⟩ | ⟨rfl, rfl⟩⟩ := h
  · exact fine_words hx hl hF
  · exact fine_dot hx hl hF
theorem PartsOf.fine_gap {xs : List Nat} {tp : Nat} {ps : List (List Nat)} (hx : Nib xs) (hl : xs.length = 32) (h : PartsOf xs tp ps) {b e : Nat} (hb : b < e) (he : e ≤ tp) (hz : ∀ j, b ≤ j → j < e → grp xs j = 0) : Fine (gapT ps b e) (num xs) := by
  obtain ⟨ws, hF, ⟨rfl, rfl⟩ | ⟨rfl, rfl⟩⟩ := h
  · exact fine_words_gap hx hl hF hb he hz
  · exact fine_dot_gap hx hl hF hb he hz
theorem go_rng2 {a b : Nat} {kl : List D → Prop} (ha : a < 2 ^ 20) (hb : b < 2 ^ 20) (hk : kl ((List.range' a (b - a)).map fun (k : Nat) => D.int k)) : Go (rangeD [.int (a : Int), .int (b : Int)]) kl := by
  refine go_if_pos (by simpa using ⟨ha, hb⟩) (go_some ?_)
  have : rangeUp (a : Int) (b : Int) = (List.range' a (b - a)).map fun (k : Nat) => D.int k := by
    unfold rangeUp
    have e : ((b : Int) - a).toNat = b - a := by omega
    rw [e, List.range'_eq_map_range, List.map_map]
    apply List.map_congr_left
    intro k _
    show D.int _ = D.int _
    congr 1
  rw [this]
  exact hk
end Mine.G
namespace Mine.G
theorem call_go {tab : List FnRec} {N W n k : Nat} {f nm : Str} {args : List D} {ps : List Str} {ds : List D} {body : List Stmt} {sc : Scope} {K : D → Prop} (env : Lo) (hf : (tab.find? fun r => r.name == f) = some ⟨nm, ps, ds, body, sc⟩)
    (hl : (decide (args.length ≤ ps.length) && decide (ps.length ≤ args.length + ds.length)) = true) (he : bindD sc.names (ps.zip (fillD ps ds args)) = env)
    (h : Go (execB (callD tab N W n k) N W n (fun x => sc.names.lookup x) ⟨env, none⟩ body) fun q => ∃ d, q.1 = .ret d ∧ K d) :
    Go (callD tab N W n (k + 1) f args) K := by
  obtain ⟨q, h1, d, h2, h3⟩ := h
  exact ⟨d, call_of2 env hf hl he ⟨q, h1, h2⟩, h3⟩
theorem go_divn {a b : Nat} {k : D → Prop} (h0 : 0 < b) (hb : b < 2 ^ 256) (h : k (.int ((a / b : Nat) : Int))) : Go (binD .FloorDiv (.int (a : Int)) (.int (b : Int))) k := by
  refine go_div ⟨by lia, by simpa using hb⟩ ?_
  rw [← Int.ofNat_fdiv]
  exact h
theorem go_modn {a b : Nat} {k : D → Prop} (h0 : 0 < b) (h : k (.int ((a % b : Nat) : Int))) : Go (binD .Mod (.int (a : Int)) (.int (b : Int))) k := by
  refine go_mod (by omega) ?_
  rw [← Int.ofNat_fmod]
  exact h
theorem pow_lit (a n : Nat) : ((a : Int)) ^ n = ((a ^ n : Nat) : Int) := by simp
theorem Fit.snocH {ps : List (List Nat)} {gs : List Nat} {p : List Nat} {v : Nat} (h : Fit false ps gs) (hd : HexW p v) : Fit false (ps ++ [p]) (gs ++ [v]) := by
  generalize hf : false = f at h
  induction h with
  | nil => exact .cons hd .nil
  | cons hw _ ih => exact .cons hw (ih hf)
  | dot => cases hf
theorem range'_cons {a n m : Nat} {r : List Nat} (h : a :: r = List.range' n m) : a = n ∧ 0 < m ∧ r = List.range' (n + 1) (m - 1) := by
  cases m with
  | zero => cases h
  | succ m =>
    rw [List.range'_succ] at h
    obtain ⟨h1, h2⟩ := List.cons.inj h
    exact ⟨h1, by lia, h2⟩
theorem range'_nil {n m : Nat} (h : [] = List.range' n m) : m = 0 := by
  cases m with
  | zero => rfl
  | succ m => rw [List.range'_succ] at h; cases h
noncomputable def spE (v0 v1 v2 v3 v4 v5 v6 v7 v8 : Option D) : Lo := [(S "digits", v0), (S "style", v1), (S "words", v2), (S "k", v3), (S "word", v4), (S "top", v5), (S "gaps", v6), (S "begin", v7), (S "end", v8)]
noncomputable def SpI1 (xs : List Nat) (st : Nat) : List Nat → St → Prop := fun r s => ∃ wl, r = List.range' wl.length (8 - wl.length) ∧ wl.length ≤ 8 ∧ Fit false wl ((gsX xs).take wl.length) ∧ ∃ a b : Option D, s = ⟨(spE (some (.str (chars xs))) (some (.int st)) (some (.list (wl.map .str))) a b none none none none), some (S "words")⟩
noncomputable def SpQ1 (xs : List Nat) (st : Nat) (a0 b0 : Option D) : Fl × St → Prop := fun q => ∃ tp ps o, PartsOf xs tp ps ∧ q = (.next, ⟨(spE (some (.str (chars xs))) (some (.int st)) (some (.list (ps.map .str))) a0 b0 (some (.int (tp : Nat))) none none none), o⟩)
noncomputable def SpI2 (xs : List Nat) (st : Nat) (a0 b0 : Option D) (tp : Nat) (ps : List (List Nat)) : List Nat → St → Prop := fun r s => ∃ pos, r = List.range' pos (tp - pos) ∧ pos ≤ tp ∧ ∃ gl a b, GapOk xs tp gl ∧ 0 < gl.length ∧ gl.length + 8 * (tp - pos) ≤ 65 ∧ s = ⟨(spE (some (.str (chars xs))) (some (.int st)) (some (.list (ps.map .str))) a0 b0 (some (.int (tp : Nat))) (some (.list (gapD gl))) a b), some (S "gaps")⟩
noncomputable def SpI3 (xs : List Nat) (st : Nat) (a0 b0 : Option D) (tp : Nat) (ps : List (List Nat)) (pos : Nat) : List Nat → St → Prop := fun r' s => ∃ e, r' = List.range' e (tp + 1 - e) ∧ pos + 1 ≤ e ∧ e ≤ tp + 1 ∧ ∃ gl b, GapOk xs tp gl ∧ 0 < gl.length ∧ gl.length + (tp + 1 - e) + 8 * (tp - pos - 1) ≤ 65 ∧ s = ⟨(spE (some (.str (chars xs))) (some (.int st)) (some (.list (ps.map .str))) a0 b0 (some (.int (tp : Nat))) (some (.list (gapD gl))) (some (.int (pos : Nat))) b), some (S "gaps")⟩
noncomputable def SpQ2 (xs : List Nat) (st : Nat) (a0 b0 : Option D) (tp : Nat) (ps : List (List Nat)) (pos e : Nat) (gl : List (Nat × Nat)) : Fl × St → Prop := fun q => ∃ gl' : List (Nat × Nat), GapOk xs tp gl' ∧ 0 < gl'.length ∧ gl'.length ≤ gl.length + 1 ∧ q = (.next, ⟨(spE (some (.str (chars xs))) (some (.int st)) (some (.list (ps.map .str))) a0 b0 (some (.int (tp : Nat))) (some (.list (gapD gl'))) (some (.int (pos : Nat))) (some (.int (e : Nat)))), some (S "gaps")⟩)
theorem spelled_spec (k : Nat) (xs : List Nat) (st : Nat) (hx : Nib xs) (hl : xs.length = 32) : ∃ t, callD T0 12 200 40 (k+3) (S "_law_spelled") [.str (chars xs), .int st] = some (.str t) ∧ Fine t (num xs) := by
  have hsz := sizeLine_eq
  have hcl := chars_length xs
  have hcz : (chars xs).length ≤ sizeLine := by rw [hcl, hl, hsz]; decide
  have e1 : ofStr (S ":") = [58] := rfl
  have e2 : ofStr (S "::") = [58, 58] := rfl
  have e3 : ofStr (S "0000") = [48, 48, 48, 48] := rfl
  have m4 : ∀ n : Nat, (n : Int).fmod 4 = ((n % 4 : Nat) : Int) := fun n => (Int.ofNat_fmod n 4).symm
  have m2 : ∀ n : Nat, (n : Int).fmod 2 = ((n % 2 : Nat) : Int) := fun n => (Int.ofNat_fmod n 2).symm
  suffices h : Go (callD T0 12 200 40 (k+3) (S "_law_spelled") [.str (chars xs), .int st]) (fun d => ∃ t, d = .str t ∧ Fine t (num xs)) by
    obtain ⟨d, h1, t, rfl, h2⟩ := h
    exact ⟨t, h1, h2⟩
  refine call_go (spE (some (.str (chars xs))) (some (.int st)) none none none none none none none) rfl rfl rfl ?_
  walk_at "go"
  refine go_for1 rfl ?_
  walk_at "go"
  refine go_rng1 (n := 8) (by decide) ?_
  refine ⟨scal_ints _, ?_⟩
  refine for_endR _ (SpI1 xs st)
    ⟨[], by rw [List.range_eq_range']; rfl, by decide, .nil, none, none, rfl⟩ ?_ ?_
  · rintro j r _ ⟨wl, hr, hw8, hF, a, b, rfl⟩
    obtain ⟨rfl, hpos, hr'⟩ := range'_cons hr
    have hj : wl.length < 8 := by omega
    have tS : sliceL (chars xs) ((4 : Int) * (wl.length : Int)).toNat ((4 : Int) * (wl.length : Int) + 4).toNat = chars (word xs wl.length) := by
      have t1 : ((4 : Int) * (wl.length : Int)).toNat = 4 * wl.length := by lia
      have t2 : ((4 : Int) * (wl.length : Int) + 4).toNat = 4 * wl.length + 4 := by lia
      rw [t1, t2, slice_chars, Nat.add_sub_cancel_left]
      rfl
    have hb1 : 0 ≤ (4 : Int) * (wl.length : Int) ∧ (4 : Int) * (wl.length : Int) < 2 ^ 62 := by lia
    have hb2 : 0 ≤ (4 : Int) * (wl.length : Int) + 4 ∧ (4 : Int) * (wl.length : Int) + 4 < 2 ^ 62 := by lia
    have p4 : 4 ^ wl.length < 2 ^ 256 := Nat.lt_of_le_of_lt (Nat.pow_le_pow_right (by decide) (Nat.le_of_lt hj)) (by decide)
    have t3 : (4 : Int) ^ ((wl.length : Int)).toNat = ((4 ^ wl.length : Nat) : Int) := by simp
    have p2 : 2 ^ (16 + wl.length) < 2 ^ 256 := Nat.pow_lt_pow_right (by decide) (by omega)
    have t4 : (2 : Int) ^ ((16 : Int) + (wl.length : Int)).toNat = ((2 ^ (16 + wl.length) : Nat) : Int) := by
      have t5 : ((16 : Int) + (wl.length : Int)).toNat = 16 + wl.length := by lia
      rw [t5]; simp
    have hW := hexW_bare hx hl hj (st / 4 ^ wl.length % 4)
    have hsp := bare_spec (k + 1) (chars (word xs wl.length)) (st / 4 ^ wl.length % 4) (by rw [chars_length]; exact word_len xs _) (Nat.le_of_lt_succ (Nat.mod_lt _ (by decide)))
    generalize bareL (st / 4 ^ wl.length % 4) (chars (word xs wl.length)) = w at hW hsp
    have hnext : ∀ w', HexW w' (grp xs wl.length) → Fit false (wl ++ [w']) ((gsX xs).take (wl ++ [w']).length) := by
      intro w' hw'
      have e : (gsX xs).take (wl ++ [w']).length = (gsX xs).take wl.length ++ [grp xs wl.length] := by
        rw [List.length_append, List.length_singleton, List.take_add_one, gsX_get xs hj]
        rfl
      rw [e]
      exact hF.snocH hw'
    have hql : (wl.map D.str).length ≤ 1000000 := by rw [List.length_map]; omega
    have hul : w.length ≤ 1000000 := Nat.le_trans hW.2.1 (by decide)
    refine go_set1 rfl ?_
    walk_at "go"
    refine go_sls hcz (bound_int hb1) (bound_int hb2) ?_
    rw [tS]
    walk_at "go"
    rw [t3]
    refine go_divn (Nat.pow_pos (by decide)) p4 ?_
    walk_at "go"
    rw [m4]
    refine go_of hsp ?_
    walk_at "go"
    refine go_append1 rfl rfl hql ?_
    refine go_ifx_to (.str (if st / 2 ^ (16 + wl.length) % 2 = 1 then upperL w else w)) ?_ ?_
    · walk_at "go"
      rw [t4]
      refine go_divn (Nat.pow_pos (by decide)) p2 ?_
      walk_at "go"
      rw [m2]
      refine ⟨fun h => ?_, fun h => ?_⟩
      · rw [if_pos (nat_of_b h)]
        walk_at "go"
        exact go_upper hul rfl
      · rw [if_neg (nat_of_nb h)]
        walk_at "go"
    · walk_at "go"
      refine And.intro rfl ⟨wl ++ [if st / 2 ^ (16 + wl.length) % 2 = 1 then upperL w else w], ?_, ?_, hnext _ ?_, some (.int wl.length), some (.str w), ?_⟩
      · rw [List.length_append, List.length_singleton, hr']
        congr 1
      · rw [List.length_append, List.length_singleton]; exact hj
      · split
        · exact hW.up
        · exact hW
      · rw [List.map_append]
        rfl
  · rintro _ ⟨ws, hr, hw8, hF, a0, b0, rfl⟩
    have hw : ws.length = 8 := by have := range'_nil hr; omega
    rw [hw, List.take_of_length_le (by rw [gsX_len]; exact Nat.le_refl _)] at hF
    walk_at "go"
    refine go_if_join (SpQ1 xs st a0 b0) ?_ ?_
    · rw [own_stay rfl]
      walk_at "go"
      rw [go_own1 rfl]
      refine ⟨fun _ => ?_, fun _ => ?_⟩
      · walk_at "go"
        refine go_sll (a := 0) (b := 6) (by rw [List.length_map]; omega) rfl rfl ?_
        rw [sl_map]
        walk_at "go"
        refine go_sls (a := 24) (b := (chars xs).length) (by omega) rfl rfl ?_
        rw [slice_chars, hcl, hl, List.take_of_length_le (by rw [List.length_drop]; omega)]
        walk_at "go"
        refine go_of (dotted_spec k (xs.drop 24) (nib_drop hx _) (by rw [List.length_drop]; omega)) ?_
        walk_at "go"
        have hpp : (sliceL ws 0 6).map D.str ++ [D.str (dotX (xs.drop 24))] = (ws.take 6 ++ [dotX (xs.drop 24)]).map .str := by
          rw [List.map_append]; rfl
        refine go_addl ?_ ?_
        · rw [List.length_map, List.length_singleton]
          unfold sliceL
          rw [List.length_drop, List.length_take]; lia
        rw [hpp]
        walk_at "go"
        exact ⟨6, ws.take 6 ++ [dotX (xs.drop 24)], none, ⟨ws, hF, .inr ⟨rfl, rfl⟩⟩, rfl⟩
      · walk_at "go"
        exact ⟨8, ws, some (S "words"), ⟨ws, hF, .inl ⟨rfl, rfl⟩⟩, rfl⟩
    · rintro _ ⟨tp, ps, o, hP, rfl⟩
      obtain ⟨hp1, hp2, hp3⟩ := hP.small hx
      dsimp only
      refine go_assign_list ?_
      walk_at "go"
      refine ⟨rfl, ?_⟩
      walk_at "go"
      refine go_for1 rfl ?_
      walk_at "go"
      refine go_rng1 (n := tp) (by omega) ?_
      refine ⟨scal_ints _, ?_⟩
      refine for_endR _ (SpI2 xs st a0 b0 tp ps)
        ⟨0, by rw [List.range_eq_range']; rfl, Nat.zero_le _, [(0, 0)], none, none, ?_, by decide, ?_, rfl⟩ ?_ ?_
      · intro p hp
        rw [List.mem_singleton] at hp
        subst hp
        exact .inl rfl
      · simp; omega
      · rintro pos r _ ⟨_, hr, hpt, gl, a, b, hG, hgl, hg65, rfl⟩
        obtain ⟨rfl, hpos, hr'⟩ := range'_cons hr
        refine go_set1 rfl ?_
        refine go_for1 rfl ?_
        walk_at "go"
        have c1 : (pos : Int) + 1 = ((pos + 1 : Nat) : Int) := rfl
        have c2 : (tp : Int) + 1 = ((tp + 1 : Nat) : Int) := rfl
        rw [c1, c2]
        refine go_rng2 (by omega) (by omega) ?_
        refine ⟨scal_ints _, ?_⟩
        refine for_endR _ (SpI3 xs st a0 b0 tp ps pos)
          ⟨pos + 1, rfl, Nat.le_refl _, by omega, gl, b, hG, hgl, by omega, rfl⟩ ?_ ?_
        · rintro e r2 _ ⟨_, hr2, he1, he2, gl, b, hG, hgl, hg65, rfl⟩
          obtain ⟨rfl, hpos2, hr2'⟩ := range'_cons hr2
          have tS : sliceL (chars xs) ((4 : Int) * (pos : Int)).toNat ((4 : Int) * (e : Int)).toNat = chars ((xs.drop (4 * pos)).take (4 * e - 4 * pos)) := by
            have t1 : ((4 : Int) * (pos : Int)).toNat = 4 * pos := by lia
            have t2 : ((4 : Int) * (e : Int)).toNat = 4 * e := by lia
            rw [t1, t2, slice_chars]
          have hb1 : 0 ≤ (4 : Int) * (pos : Int) ∧ (4 : Int) * (pos : Int) < 2 ^ 62 := by clear hG tS; omega
          have hb2 : 0 ≤ (4 : Int) * (e : Int) ∧ (4 : Int) * (e : Int) < 2 ^ 62 := by clear hG tS; omega
          have t3 : ((e : Int) - (pos : Int)).toNat = e - pos := by clear hG tS hb1 hb2; omega
          have hml : 0 ≤ (e : Int) - (pos : Int) ∧ (e : Int) - (pos : Int) ≤ 1000000 ∧ [48, 48, 48, 48].length * ((e : Int) - (pos : Int)).toNat ≤ sizeLine := by
            rw [t3, hsz]; clear hG tS hb1 hb2 t3; simp only [List.length_cons, List.length_nil]; omega
          have hgz : (gapD gl).length ≤ 1000000 := by rw [gapD_len]; clear hG tS hb1 hb2 t3 hml; omega
          refine go_set1 rfl ?_
          refine go_if_join (SpQ2 xs st a0 b0 tp ps pos e gl) ?_ ?_
          · rw [own_stay rfl, go_own1 rfl]
            walk_at "go"
            refine go_sls hcz (bound_int hb1) (bound_int hb2) ?_
            rw [tS]
            walk_at "go"
            rw [e3]
            refine go_muls hml ?_
            rw [t3]
            walk_at "go"
            refine ⟨fun h => ?_, fun _ => ?_⟩
            · walk_at "go"
              refine go_append1 rfl rfl hgz ?_
              walk_at "go"
              refine ⟨gl ++ [(pos, e)], hG.snoc he1 (Nat.le_of_lt_succ (Nat.lt_of_sub_pos hpos2)) (zero_words hx (beq_iff_eq.mp h)), by simp, by simp, ?_⟩
              rw [gapD_app]
              rfl
            · walk_at "go"
              exact ⟨gl, hG, hgl, Nat.le_succ _, rfl⟩
          · rintro _ ⟨gl', hG', hgl', hle, rfl⟩
            dsimp only
            walk_at "go"
            refine And.intro rfl ⟨e + 1, ?_, by omega, by omega, gl', some (.int (e : Nat)), hG', hgl', by lia, rfl⟩
            rw [hr2']
            congr 1
        · rintro _ ⟨e, hr2, he1, he2, gl, b, hG, hgl, hg65, rfl⟩
          have he : e = tp + 1 := by have := range'_nil hr2; lia
          walk_at "go"
          refine And.intro rfl ⟨pos + 1, ?_, by lia, gl, some (.int (pos : Nat)), b, hG, hgl, by lia, rfl⟩
          rw [hr']
          congr 1
      · rintro _ ⟨pos, hr, hpt, gl, a, b, hG, hgl, hg65, rfl⟩
        have hgll := gapD_len gl
        walk_at "go"
        have hidx : st / 2 ^ 25 % gl.length < gl.length := Nat.mod_lt _ hgl
        rw [show Int.toNat 25 = 25 from rfl, fdiv_pow, hgll, ← Int.ofNat_fmod]
        generalize st / 2 ^ 25 % gl.length = idx at *
        obtain ⟨⟨b, e⟩, hbe⟩ : ∃ p, gl[idx]? = some p := ⟨gl[idx], List.getElem?_eq_getElem hidx⟩
        have hok := hG _ (List.mem_of_getElem? hbe)
        dsimp only at hok
        refine go_iteml (d := .tuple [.int (b : Nat), .int (e : Nat)]) (by omega) (by unfold gapD; rw [Int.toNat_natCast, List.getElem?_map, hbe]; rfl) ?_
        walk_at "go"
        refine go_ifd (e = 0) ?_ (fun h0 => ?_) (fun h0 => ?_)
        · walk_at "go"
          rw [Bool.eq_iff_iff, beq_iff_eq, decide_eq_true_eq]
          omega
        · walk_at "go"
          rw [e1]
          refine go_join' (fun w hw => by have := hp3 w hw; omega) (by omega) (by decide) ?_
          exact ⟨_, rfl, _, rfl, hP.fine hx hl⟩
        · obtain ⟨g1, g2, g3⟩ := hok.resolve_left h0
          have l1 : (ps.take b).length ≤ 8 := by rw [List.length_take]; omega
          have l2 : (ps.drop e).length ≤ 8 := by rw [List.length_drop]; omega
          have f1 : ∀ p ∈ ps.take b, p.length ≤ 15 := fun p hp => hp3 p (List.mem_of_mem_take hp)
          have f2 : ∀ p ∈ ps.drop e, p.length ≤ 15 := fun p hp => hp3 p (List.mem_of_mem_drop hp)
          have j1 := join8_len f1 l1
          have j2 := join8_len f2 l2
          walk_at "go"
          refine go_sll (a := 0) (b := b) (by rw [List.length_map]; omega) rfl (bound_nat (by omega)) ?_
          rw [sl_map]
          have s1 : sliceL ps 0 b = ps.take b := rfl
          rw [s1]
          walk_at "go"
          refine go_join' (fun w hw => by have := f1 w hw; omega) (by omega) (by decide) ?_
          walk_at "go"
          rw [e1, e2]
          refine go_adds ?_ ?_
          · simp only [List.length_cons, List.length_nil]; omega
          walk_at "go"
          refine go_sll (a := e) (b := (ps.map D.str).length) (by rw [List.length_map]; omega) (bound_nat (by omega)) rfl ?_
          rw [sl_map]
          have s2 : sliceL ps e (ps.map D.str).length = ps.drop e := by
            unfold sliceL; rw [List.length_map, List.take_length]
          rw [s2]
          walk_at "go"
          refine go_join' (fun w hw => by have := f2 w hw; omega) (by omega) (by decide) ?_
          rw [e1]
          refine go_adds ?_ ?_
          · simp only [List.length_append, List.length_cons, List.length_nil]; omega
          exact ⟨_, rfl, _, rfl, hP.fine_gap hx hl g1 g2 g3⟩
end Mine.G
namespace Mine.G
noncomputable def marksN : List (List Nat) := [[0,0,0,0],[0,0,0,0],[0,0,0,0],[0,0,0,0],[0,0,0,0],[0,0,0,0],[0,0,0,1],[15,15,15,15],[0,13,11,8],[2,0,0,1],[0,0,10,0],[15,14,8,0],[1,0,0,0],[12,0,0,0],[0,2,8,0]]
theorem marksN_ok : ∀ i < 15, ∃ w, marksN[i]? = some w ∧ w.length = 4 ∧ w.all (fun x => decide (x < 16)) = true := by
  have : ∀ i < 15, ((marksN[i]?).any fun w => decide (w.length = 4) && w.all (fun x => decide (x < 16))) = true := by decide
  intro i hi
  have h := this i hi
  cases hm : marksN[i]? with
  | none => rw [hm] at h; cases h
  | some w =>
    rw [hm] at h
    simp only [Option.any_some, Bool.and_eq_true, decide_eq_true_eq] at h
    exact ⟨w, rfl, h.1, h.2⟩
theorem nib_app {a b : List Nat} (ha : Nib a) (hb : Nib b) : Nib (a ++ b) := fun x hx => by
  rw [List.mem_append] at hx
  exact hx.elim (ha x) (hb x)
noncomputable def marksD : List D := marksN.map fun w => .str (chars w)
noncomputable def dgE (v0 v1 v2 v3 v4 v5 v6 v7 v8 : Option D) : Lo := [(S "script", v0), (S "first", v1), (S "kinds", v2), (S "marks", v3), (S "turns", v4), (S "drawn", v5), (S "digits", v6), (S "j", v7), (S "kind", v8)]
noncomputable def DgI (ns : List Int) (f : Nat) (kk : List Nat) (tv dv : Nat) : List Nat → St → Prop := fun r s => ∃ j, r = List.range' j (8 - j) ∧ j ≤ 8 ∧ ∃ ys, Nib ys ∧ ys.length = 4 * j ∧ ∃ a b, s = ⟨(dgE (some (.list (ns.map .int))) (some (.int f)) (some (.list (kk.map fun (x : Nat) => .int x))) (some (.list marksD)) (some (.int (tv : Nat))) (some (.int (dv : Nat))) (some (.str (chars ys))) a b), none⟩
noncomputable def DgQ (ns : List Int) (f : Nat) (kk : List Nat) (tv dv j kd : Nat) : Fl × St → Prop := fun q => ∃ ys', Nib ys' ∧ ys'.length = 4 * (j + 1) ∧ q = (.next, ⟨(dgE (some (.list (ns.map .int))) (some (.int f)) (some (.list (kk.map fun (x : Nat) => .int x))) (some (.list marksD)) (some (.int (tv : Nat))) (some (.int (dv : Nat))) (some (.str (chars ys'))) (some (.int (j : Nat))) (some (.int (kd : Nat)))), none⟩)
theorem digits_spec (k : Nat) (ns : List Int) (f : Nat) (kk : List Nat) (hn : ns.length ≤ 63) (hk : kk.length = 8) : ∃ ys, callD T0 12 200 40 (k+2) (S "_law_digits") [.list (ns.map .int), .int f, .list (kk.map fun (x : Nat) => .int x)] = some (.str (chars ys)) ∧ Nib ys ∧ ys.length = 32 := by
  have hsz := sizeLine_eq
  suffices h : Go (callD T0 12 200 40 (k+2) (S "_law_digits") [.list (ns.map .int), .int f, .list (kk.map fun (x : Nat) => .int x)]) (fun d => ∃ ys, d = .str (chars ys) ∧ Nib ys ∧ ys.length = 32) by
    obtain ⟨d, h1, ys, rfl, h2⟩ := h
    exact ⟨ys, h1, h2⟩
  refine call_go (dgE (some (.list (ns.map .int))) (some (.int f)) (some (.list (kk.map fun (x : Nat) => .int x))) none none none none none none) rfl rfl rfl ?_
  walk_at "go"
  refine go_of (pen_spec k ns f hn) ?_
  walk_at "go"
  have c1 : (f : Int) + 1 = ((f + 1 : Nat) : Int) := rfl
  rw [c1]
  refine go_of (pen_spec k ns (f + 1) hn) ?_
  generalize penV ns f = tv
  generalize penV ns (f + 1) = dv
  walk_at "go"
  refine go_for0 ?_
  walk_at "go"
  refine go_rng1 (n := 8) (by decide) ?_
  refine ⟨scal_ints _, ?_⟩
  refine for_endR _ (DgI ns f kk tv dv)
    ⟨0, by rw [List.range_eq_range'], by decide, [], fun x hx => (by cases hx), rfl, none, none, rfl⟩ ?_ ?_
  · rintro j r _ ⟨_, hr, hj8, ys, hy, hyl, a, b, rfl⟩
    obtain ⟨rfl, hpos, hr'⟩ := range'_cons hr
    have hj : j < 8 := by omega
    have hcl := chars_length ys
    obtain ⟨kj, hkj⟩ : ∃ kj, kk[j]? = some kj := ⟨kk[j], List.getElem?_eq_getElem (by omega)⟩
    have p16 : ∀ m, m ≤ 31 → 16 ^ m ≤ 16 ^ 31 := fun m hm => Nat.pow_le_pow_right (by decide) hm
    have p16' : ∀ m : Nat, 0 < 16 ^ m := fun m => Nat.pow_pos (by decide)
    refine go_set0 rfl ?_
    walk_at "go"
    refine go_iteml (d := .int (kj : Nat)) (by omega) (by rw [Int.toNat_natCast, List.getElem?_map, hkj]; rfl) ?_
    walk_at "go"
    have t3 : (16 : Int) ^ ((j : Int)).toNat = ((16 ^ j : Nat) : Int) := by simp
    rw [t3]
    refine go_divn (p16' j) (by have := p16 j (by omega); omega) ?_
    walk_at "go"
    have t4 : ((kj : Int) + ((tv / 16 ^ j : Nat) : Int)).fmod 16 = (((kj + tv / 16 ^ j) % 16 : Nat) : Int) := (Int.ofNat_fmod _ 16).symm
    rw [t4]
    have hk16 : (kj + tv / 16 ^ j) % 16 < 16 := Nat.mod_lt _ (by decide)
    generalize (kj + tv / 16 ^ j) % 16 = kd at *
    refine go_if_join (DgQ ns f kk tv dv j kd) ?_ ?_
    · show Go (testE _ _ _ (lookL _) _) _
      walk_at "go"
      refine ⟨fun h => ?_, fun h => ?_⟩
      · have hk15 : kd < 15 := by simp only [decide_eq_true_eq] at h; omega
        obtain ⟨w, hw, hwl, hwn⟩ := marksN_ok kd hk15
        have hcw := chars_length w
        have hwN : Nib w := fun x hx => by
          rw [List.all_eq_true] at hwn
          simpa using hwn x hx
        show Go (execB _ _ _ _ _ ⟨_, none⟩ _) _
        walk_at "go"
        refine go_iteml (d := .str (chars w)) (by omega) (by unfold marksD; rw [Int.toNat_natCast, List.getElem?_map, hw]; rfl) ?_
        refine go_adds (by omega) ?_
        rw [← chars_append]
        walk_at "go"
        exact ⟨ys ++ w, nib_app hy hwN, by rw [List.length_append]; omega, rfl⟩
      · show Go (execB _ _ _ _ _ ⟨_, none⟩ _) _
        walk_at "go"
        refine go_rng1 (n := 4) (by decide) ?_
        refine ⟨by rw [List.length_map, List.length_range]; omega, scal_ints _, ?_⟩
        refine go_mapM (fun i => .str [hexc (dv / 16 ^ (4 * j + i) % 16)]) ?_ ?_
        · intro i hi
          rw [List.mem_range] at hi
          walk_at "go"
          have t5 : ((4 : Int) * (j : Int) + (i : Int)).toNat = 4 * j + i := by lia
          have t6 : (16 : Int) ^ (4 * j + i) = ((16 ^ (4 * j + i) : Nat) : Int) := by simp
          rw [t5, t6]
          refine go_divn (p16' _) (by have := p16 (4 * j + i) (by lia); omega) ?_
          walk_at "go"
          have t7 : ((dv / 16 ^ (4 * j + i) : Nat) : Int).fmod 16 = ((dv / 16 ^ (4 * j + i) % 16 : Nat) : Int) := (Int.ofNat_fmod _ 16).symm
          rw [t7]
          refine go_items (by omega) (by rw [Int.toNat_natCast, marks16_eq]; exact marks16_get (Nat.mod_lt _ (by decide))) ?_
          rfl
        refine ⟨scal_strf _ _, ?_⟩
        walk_at "go"
        have hmm : ((List.range 4).map fun i => D.str [hexc (dv / 16 ^ (4 * j + i) % 16)]) = ((List.range 4).map fun i => [hexc (dv / 16 ^ (4 * j + i) % 16)]).map .str := by rw [List.map_map]; rfl
        rw [hmm]
        refine go_join' (fun w hw => ?_) (by simp) (by decide) ?_
        · obtain ⟨i, _, rfl⟩ := List.mem_map.mp hw
          simp
        have hjn : joinL (ofStr (S "")) ((List.range 4).map fun i => [hexc (dv / 16 ^ (4 * j + i) % 16)]) = chars ((List.range 4).map fun i => dv / 16 ^ (4 * j + i) % 16) := rfl
        have hjn' : joinL (ofStr (Str.ofString "")) ((List.range 4).map fun i => [hexc (dv / 16 ^ (4 * j + i) % 16)]) = chars ((List.range 4).map fun i => dv / 16 ^ (4 * j + i) % 16) := rfl
        rw [hjn']
        have hwl : ((List.range 4).map fun i => dv / 16 ^ (4 * j + i) % 16).length = 4 := by rw [List.length_map, List.length_range]
        have hwN : Nib ((List.range 4).map fun i => dv / 16 ^ (4 * j + i) % 16) := fun x hx => by
          obtain ⟨i, _, rfl⟩ := List.mem_map.mp hx
          exact Nat.mod_lt _ (by decide)
        generalize ((List.range 4).map fun i => dv / 16 ^ (4 * j + i) % 16) = w at *
        have hcw := chars_length w
        refine go_adds (by omega) ?_
        rw [← chars_append]
        walk_at "go"
        exact ⟨ys ++ w, nib_app hy hwN, by rw [List.length_append]; omega, rfl⟩
    · rintro _ ⟨ys', hy', hyl', rfl⟩
      dsimp only
      walk_at "go"
      refine And.intro rfl ⟨j + 1, ?_, by omega, ys', hy', hyl', some (.int (j : Nat)), some (.int (kd : Nat)), rfl⟩
      rw [hr']
      congr 1
  · rintro _ ⟨j, hr, hj8, ys, hy, hyl, a, b, rfl⟩
    have := range'_nil hr
    walk_at "go"
    exact ⟨_, rfl, ys, rfl, hy, by omega⟩
end Mine.G
namespace Mine.G
section
variable {kb : Bool → Prop}
theorem go_net2 {a b c d : Int} (h : kb (!([a, b] == [c, d]))) : Go (cmpD .NotEq (.tuple [.int a, .int b]) (.tuple [.int c, .int d])) kb := ⟨_, rfl, h⟩
theorem go_net3 {a b c d e f : Int} (h : kb (!([a, b, c] == [d, e, f]))) : Go (cmpD .NotEq (.tuple [.int a, .int b, .int c]) (.tuple [.int d, .int e, .int f])) kb := ⟨_, rfl, h⟩
theorem go_eqt3 {a b c d e f : Int} (h : kb ([a, b, c] == [d, e, f])) : Go (cmpD .Eq (.tuple [.int a, .int b, .int c]) (.tuple [.int d, .int e, .int f])) kb := ⟨_, rfl, h⟩
end
theorem short_text (k : Nat) {xs : List Nat} (hx : Nib xs) (hl : xs.length = 32) : callD T0 12 200 40 (k+3) (S "_law_short") [.str (chars xs)] = some (.str (textI xs)) := by
  rw [short_spec k xs hx hl, textI_short hx hl]
theorem text_len {xs : List Nat} (hx : Nib xs) (hl : xs.length = 32) : (textI xs).length ≤ 400 := (fine_text hx hl).len
theorem six_spec (k : Nat) (xs : List Nat) (L : Nat) (s1 s2 : Nat) (hx : Nib xs) (hl : xs.length = 32) (hL : L ≤ 128) :
    callD T0 12 200 40 (k+6) (S "_law_six_holds") [.str (chars xs), .int L, .list [.int s1, .int s2]] = some (.bool true) := by
  have hsz := sizeLine_eq
  have hcl := chars_length xs
  have e0 : ofStr (S "0") = [hexc 0] := rfl
  have ef : ofStr (S "f") = [hexc 15] := rfl
  have e1 : ofStr (S "/") = [47] := rfl
  have hN := num_lt xs hx
  rw [hl] at hN
  have hN' : num xs < 2 ^ 128 := by omega
  have hF := fine_text hx hl
  have u0 : (0 = 0 ∧ 0 = 0) ∨ (0 = 1 ∧ 0 = 15) := .inl ⟨rfl, rfl⟩
  have u1 : (1 = 0 ∧ 15 = 0) ∨ (1 = 1 ∧ 15 = 15) := .inr ⟨rfl, rfl⟩
  have n0 : Nib (cutL xs L 0 0) := cut_nib hx u0
  have n1 : Nib (cutL xs L 1 15) := cut_nib hx u1
  have l0 : (cutL xs L 0 0).length = 32 := by rw [cut_len (by omega), hl]
  have l1 : (cutL xs L 1 15).length = 32 := by rw [cut_len (by omega), hl]
  have hr : (List.replicate 32 15).length = 32 := List.length_replicate
  have nm : Nib (cutL (List.replicate 32 15) L 0 0) := cut_nib (nib15 32) u0
  have lm : (cutL (List.replicate 32 15) L 0 0).length = 32 := by rw [cut_len (by rw [hr]; omega), hr]
  have hnum := cut_num hx (L := L) (by omega)
  rw [hl] at hnum
  have hmask : num (cutL (List.replicate 32 15) L 0 0) = maskN L 128 := mask_num (n := 32) (by omega)
  have hlow : num (cutL xs L 0 0) = lowN (num xs) L 128 := hnum.1
  have hhigh : num (cutL xs L 1 15) = lowN (num xs) L 128 + 2 ^ (128 - L) - 1 := hnum.2
  have hlf := low_facts hL hN'
  have hFm := fine_text nm lm
  refine call_of2 [(S "digits", some (.str (chars xs))), (S "length", some (.int L)), (S "styles", some (.list [.int s1, .int s2])), (S "number", none), (S "text", none), (S "low", none), (S "high", none), (S "mask", none), (S "own", none), (S "net", none), (S "style", none)] rfl rfl rfl ?_
  walk_at "go"
  refine go_of (number_spec _ xs hx (by omega)) ?_
  walk_at "go"
  refine go_of (short_text _ hx hl) ?_
  walk_at "go"
  refine go_iff ?_ ?_
  · walk_at "go"
    refine go_of (ip6t_spec _ xs hx hl) ?_
    walk_at "go"
    rw [beq_self_eq_true]
    refine ⟨fun h => Bool.noConfusion h, fun _ => ?_⟩
    walk_at "go"
    refine go_of (hF.v6 _) ?_
    walk_at "go"
    rw [beq_self_eq_true]
    refine ⟨fun h => Bool.noConfusion h, fun _ => ?_⟩
    walk_at "go"
  walk_at "go"
  rw [e0]
  refine go_of (cut_spec _ xs L 0 0 u0 hx (by omega) (by omega)) ?_
  walk_at "go"
  refine go_of (number_spec _ _ n0 (by omega)) ?_
  walk_at "go"
  refine go_iff ?_ ?_
  · walk_at "go"
    refine go_of (ip6t_spec _ _ n0 l0) ?_
    walk_at "go"
    rw [e0]
    refine go_of (cut_spec _ xs L 0 0 u0 hx (by omega) (by omega)) ?_
    walk_at "go"
    refine go_of (short_text _ n0 l0) ?_
    walk_at "go"
    rw [beq_self_eq_true]
    rfl
  walk_at "go"
  rw [ef]
  refine go_of (cut_spec _ xs L 1 15 u1 hx (by omega) (by omega)) ?_
  walk_at "go"
  refine go_of (number_spec _ _ n1 (by omega)) ?_
  walk_at "go"
  refine go_iff ?_ ?_
  · walk_at "go"
    refine go_of (ip6t_spec _ _ n1 l1) ?_
    walk_at "go"
    rw [ef]
    refine go_of (cut_spec _ xs L 1 15 u1 hx (by omega) (by omega)) ?_
    walk_at "go"
    refine go_of (short_text _ n1 l1) ?_
    walk_at "go"
    rw [beq_self_eq_true]
    rfl
  walk_at "go"
  have er : (List.replicate (Int.toNat 32) (ofStr (S "f"))).flatten = chars (List.replicate 32 15) := rfl
  rw [er, e0]
  refine go_of (cut_spec _ (List.replicate 32 15) L 0 0 u0 (nib15 32) (by omega) (by omega)) ?_
  walk_at "go"
  refine go_of (short_text _ nm lm) ?_
  walk_at "go"
  refine go_of (mask_spec _ L 128 hL (by decide)) ?_
  rw [← hmask]
  walk_at "go"
  refine go_iff ?_ ?_
  · walk_at "go"
    refine go_of (number_spec _ _ nm (by omega)) ?_
    walk_at "go"
    rw [beq_self_eq_true]
    refine ⟨fun h => Bool.noConfusion h, fun _ => ?_⟩
    walk_at "go"
    refine go_of (ip6t_spec _ _ nm lm) ?_
    walk_at "go"
    rw [beq_self_eq_true]
    refine ⟨fun h => Bool.noConfusion h, fun _ => ?_⟩
    walk_at "go"
    refine go_of (hFm.v6 _) ?_
    walk_at "go"
    rw [beq_self_eq_true]
    refine ⟨fun h => Bool.noConfusion h, fun _ => ?_⟩
    walk_at "go"
  walk_at "go"
  refine go_iff ?_ ?_
  · walk_at "go"
    refine go_of (pspan_spec _ (num xs) L 128 hL (by decide) hN') ?_
    rw [hlow, hhigh]
    walk_at "go"
    refine go_net2 ?_
    rw [beq_self_eq_true]
    refine ⟨fun h => Bool.noConfusion h, fun _ => ?_⟩
    walk_at "go"
    have hsp := span_spec (k + 4) (lowN (num xs) L 128) (128 - L) 128 (by omega) (by decide) hlf.1 hlf.2
    rw [show 128 - (128 - L) = L by omega] at hsp
    refine go_of hsp ?_
    walk_at "go"
    rw [beq_self_eq_true]
    refine ⟨fun h => Bool.noConfusion h, fun _ => ?_⟩
    walk_at "go"
  walk_at "go"
  refine go_for0 (go_iter_list rfl rfl (by simp only [List.length_cons, List.length_nil]; omega) ⟨rfl, ?_⟩)
  refine for_endR (l := [s1, s2]) (fun (s : Nat) => D.int (s : Int)) (fun r st => ∃ o : Option D, st = ⟨[(S "digits", some (.str (chars xs))), (S "length", some (.int L)), (S "styles", some (.list [.int s1, .int s2])), (S "number", some (.int (num xs : Nat))), (S "text", some (.str (textI xs))), (S "low", some (.int (num (cutL xs L 0 0) : Nat))), (S "high", some (.int (num (cutL xs L 1 15) : Nat))), (S "mask", some (.str (chars (cutL (List.replicate 32 15) L 0 0)))), (S "own", some (.str (textI (cutL (List.replicate 32 15) L 0 0)))), (S "net", some (.int (num (cutL (List.replicate 32 15) L 0 0) : Nat))), (S "style", o)], none⟩) ⟨none, rfl⟩ ?_ ?_
  · rintro s r _ ⟨o, rfl⟩
    refine go_set0 rfl ?_
    obtain ⟨t, ht, hFt⟩ := spelled_spec (k + 2) xs s hx hl
    refine go_iff ?_ ?_
    · walk_at "go"
      refine go_of ht ?_
      walk_at "go"
      refine go_of (pre6_one k hFt hN') ?_
      walk_at "go"
      refine go_net3 ?_
      rw [beq_self_eq_true]
      rfl
    · walk_at "go"
      exact ⟨rfl, _, rfl⟩
  · rintro _ ⟨o, rfl⟩
    walk_at "go"
    rw [e1]
    refine go_adds (by have := hF.len; simp only [List.length_singleton]; omega) ?_
    walk_at "go"
    refine go_str (by omega) ?_
    have hdl := digits_len (show L < 256 by omega)
    refine go_adds (by have := hF.len; simp only [List.length_append, List.length_singleton]; lia) ?_
    walk_at "go"
    refine go_of (pre6_two k hF hN' hL) ?_
    rw [← hlow]
    walk_at "go"
    refine go_eqt3 ?_
    rw [beq_self_eq_true]
end Mine.G
namespace Mine.G
theorem four_spec (k : Nat) (xs : List Nat) (L : Nat) (hx : Nib xs) (hl : xs.length = 8) (hL : L ≤ 32) :
    callD T0 12 200 40 (k+6) (S "_law_four_holds") [.str (chars xs), .int L] = some (.bool true) := by
  have hsz := sizeLine_eq
  have hcl := chars_length xs
  have e0 : ofStr (S "0") = [hexc 0] := rfl
  have ef : ofStr (S "f") = [hexc 15] := rfl
  have e1 : ofStr (S "/") = [47] := rfl
  have hN := num_lt xs hx
  rw [hl] at hN
  have hN' : num xs < 2 ^ 32 := by omega
  have u0 : (0 = 0 ∧ 0 = 0) ∨ (0 = 1 ∧ 0 = 15) := .inl ⟨rfl, rfl⟩
  have u1 : (1 = 0 ∧ 15 = 0) ∨ (1 = 1 ∧ 15 = 15) := .inr ⟨rfl, rfl⟩
  have n0 : Nib (cutL xs L 0 0) := cut_nib hx u0
  have n1 : Nib (cutL xs L 1 15) := cut_nib hx u1
  have l0 : (cutL xs L 0 0).length = 8 := by rw [cut_len (by omega), hl]
  have l1 : (cutL xs L 1 15).length = 8 := by rw [cut_len (by omega), hl]
  have hr : (List.replicate 8 15).length = 8 := List.length_replicate
  have nm : Nib (cutL (List.replicate 8 15) L 0 0) := cut_nib (nib15 8) u0
  have lm : (cutL (List.replicate 8 15) L 0 0).length = 8 := by rw [cut_len (by rw [hr]; omega), hr]
  have hnum := cut_num hx (L := L) (by omega)
  rw [hl] at hnum
  have hmask : num (cutL (List.replicate 8 15) L 0 0) = maskN L 32 := mask_num (n := 8) (by omega)
  have hlow : num (cutL xs L 0 0) = lowN (num xs) L 32 := hnum.1
  have hhigh : num (cutL xs L 1 15) = lowN (num xs) L 32 + 2 ^ (32 - L) - 1 := hnum.2
  have hlf := low_facts hL hN'
  have hdx := dotX_len hx
  refine call_of2 [(S "digits", some (.str (chars xs))), (S "length", some (.int L)), (S "number", none), (S "low", none), (S "high", none), (S "mask", none)] rfl rfl rfl ?_
  walk_at "go"
  refine go_of (number_spec _ xs hx (by omega)) ?_
  walk_at "go"
  rw [e0]
  refine go_of (cut_spec _ xs L 0 0 u0 hx (by omega) (by omega)) ?_
  walk_at "go"
  refine go_of (number_spec _ _ n0 (by omega)) ?_
  walk_at "go"
  rw [ef]
  refine go_of (cut_spec _ xs L 1 15 u1 hx (by omega) (by omega)) ?_
  walk_at "go"
  refine go_of (number_spec _ _ n1 (by omega)) ?_
  walk_at "go"
  have er : ofStr (S "ffffffff") = chars (List.replicate 8 15) := rfl
  rw [er, e0]
  refine go_of (cut_spec _ (List.replicate 8 15) L 0 0 u0 (nib15 8) (by omega) (by omega)) ?_
  walk_at "go"
  refine go_iff ?_ ?_
  · walk_at "go"
    refine go_of (mask_spec _ L 32 hL (by decide)) ?_
    rw [← hmask]
    walk_at "go"
    refine go_of (number_spec _ _ nm (by omega)) ?_
    walk_at "go"
    rw [beq_self_eq_true]
    refine ⟨fun h => Bool.noConfusion h, fun _ => ?_⟩
    walk_at "go"
    refine go_of (mask_spec _ L 32 hL (by decide)) ?_
    rw [← hmask]
    walk_at "go"
    refine go_of (ip4t_spec _ _) ?_
    walk_at "go"
    refine go_of (dotted_spec _ _ nm (by omega)) ?_
    rw [dot_eq lm nm]
    walk_at "go"
    rw [beq_self_eq_true]
    refine ⟨fun h => Bool.noConfusion h, fun _ => ?_⟩
    walk_at "go"
  walk_at "go"
  refine go_iff ?_ ?_
  · walk_at "go"
    refine go_of (pspan_spec _ (num xs) L 32 hL (by decide) hN') ?_
    rw [hlow, hhigh]
    walk_at "go"
    refine go_net2 ?_
    rw [beq_self_eq_true]
    refine ⟨fun h => Bool.noConfusion h, fun _ => ?_⟩
    walk_at "go"
    have hsp := span_spec (k + 4) (lowN (num xs) L 32) (32 - L) 32 (by omega) (by decide) hlf.1 hlf.2
    rw [show 32 - (32 - L) = L by omega] at hsp
    refine go_of hsp ?_
    walk_at "go"
    rw [beq_self_eq_true]
    refine ⟨fun h => Bool.noConfusion h, fun _ => ?_⟩
    walk_at "go"
  walk_at "go"
  refine go_iff ?_ ?_
  · walk_at "go"
    refine go_of (dotted_spec _ xs hx (by omega)) ?_
    walk_at "go"
    refine go_of (pre4_one k hx hl) ?_
    walk_at "go"
    refine go_net3 ?_
    rw [beq_self_eq_true]
    rfl
  walk_at "go"
  refine go_of (dotted_spec _ xs hx (by omega)) ?_
  walk_at "go"
  rw [e1]
  refine go_adds (by simp only [List.length_singleton]; omega) ?_
  walk_at "go"
  refine go_str (by omega) ?_
  have hdl := digits_len (show L < 256 by omega)
  refine go_adds (by simp only [List.length_append, List.length_singleton]; lia) ?_
  walk_at "go"
  refine go_of (pre4_two k hx hl hL) ?_
  rw [← hlow]
  walk_at "go"
  refine go_eqt3 ?_
  rw [beq_self_eq_true]
end Mine.G
namespace Mine.G
theorem go_assignX {Φ : Phi} {N n W : Nat} {kd : Kd} {K : Fl × St → Prop} {r : List Stmt} {p p' : Pos} {x : Str} {e : Expr} {env : Lo} {o : Option Str} (he : noListE e = true) (ho : o = none ∨ ∃ y, o = some y ∧ mentions y e = true ∧ x ≠ y)
    (h : Go (evalE Φ N kd (lookL env) e) fun d => Go (setS kd ⟨env, none⟩ x d) fun st' => Go (execB Φ N W n kd st' r) K) :
    Go (execB Φ N W (n + 1) kd ⟨env, o⟩ (.Assign [.Name x p] e p' :: r)) K := by
  rcases ho with rfl | ⟨y, rfl, hm, hne⟩
  · exact go_assign0 he h
  · refine go_assign he ?_
    have e1 : letGo ⟨env, some y⟩ e = ⟨env, none⟩ := by unfold letGo; rw [own_gone hm]
    show Go (evalE Φ N kd (lessL (lookL env) (ownAfter (some y) e)) e) _
    rw [own_gone hm, e1]
    exact h.mono fun d hd => And.intro (fun hh => absurd (Option.some.inj hh) hne) (fun _ => hd)
theorem go_setX {kd : Kd} {x : Str} {env : Lo} {o : Option Str} {d : D} {Q : St → Prop} (ho : o = none ∨ ∃ y, o = some y ∧ x ≠ y) (hs : (hasL env x && storable kd x) = true) (h : Q ⟨setL env x d, o⟩) : Go (setS kd ⟨env, o⟩ x d) Q := by
  rcases ho with rfl | ⟨y, rfl, hne⟩
  · exact go_set0 hs h
  · refine go_set1 ?_ h
    simp only [Bool.and_eq_true] at hs
    simp only [hs.1, hs.2, hne, ne_eq, not_false_eq_true, decide_true, Bool.and_self]
theorem go_if_joinM {Φ : Phi} {N n W : Nat} {kd : Kd} {env : Lo} {y : Str} {K : Fl × St → Prop} {r : List Stmt} {p : Pos} {t : Expr} {b o : List Stmt} (hm : mentions y t = true) (P : Fl × St → Prop)
    (h : Go (testE Φ N kd (lookL env) t) fun c => (c = true → Go (execB Φ N W n kd ⟨env, none⟩ b) P) ∧ (c = false → Go (execB Φ N W n kd ⟨env, none⟩ o) P))
    (hk : ∀ q, P q → match q with | (.next, st) => Go (execB Φ N W n kd st r) K | (.ret d, st) => K (.ret d, st)) :
    Go (execB Φ N W (n + 1) kd ⟨env, some y⟩ (.If t b o p :: r)) K := by
  refine go_if_join P ?_ hk
  have e1 : letGo ⟨env, some y⟩ t = ⟨env, none⟩ := by unfold letGo; rw [own_gone hm]
  show Go (testE Φ N kd (lessL (lookL env) (ownAfter (some y) t)) t) _
  rw [own_gone hm, e1]
  exact h
noncomputable def kindsN : List (List Nat) := [[9, 8, 0, 0, 6, 0, 0, 6], [0, 0, 0, 0, 0, 7, 13, 14], [11, 0, 0, 0, 0, 0, 0, 6]]
noncomputable def kindsD : List D := kindsN.map fun kk => .list (kk.map fun (x : Nat) => .int x)
noncomputable def lensD : List D := [.int 61, .int 120, .int 10]
theorem kinds_get {j : Nat} (h : j < 3) : ∃ kk : List Nat, kindsD[j]? = some (.list (kk.map fun (x : Nat) => .int x)) ∧ kk.length = 8 := by
  match j, h with
  | 0, _ => exact ⟨_, rfl, rfl⟩
  | 1, _ => exact ⟨_, rfl, rfl⟩
  | 2, _ => exact ⟨_, rfl, rfl⟩
theorem lens_get {j : Nat} (h : j < 3) : ∃ v : Nat, lensD[j]? = some (.int (v : Int)) := by
  match j, h with
  | 0, _ => exact ⟨61, rfl⟩
  | 1, _ => exact ⟨120, rfl⟩
  | 2, _ => exact ⟨10, rfl⟩
noncomputable def lwE (v0 v1 v2 v3 v4 v5 : Option D) : Lo := [(S "script", v0), (S "kinds", v1), (S "k", v2), (S "digits", v3), (S "length", v4), (S "styles", v5)]
noncomputable def LwI (ns : List Int) : List Nat → St → Prop := fun r s => ∃ j, r = List.range' j (3 - j) ∧ j ≤ 3 ∧ ∃ o, (o = none ∨ o = some (S "kinds")) ∧ ∃ a b c d, s = ⟨(lwE (some (.list (ns.map .int))) (some (.list kindsD)) a b c d), o⟩
noncomputable def LwQ (ns : List Int) (j : Nat) (xs : List Nat) (L s1 s2 : Nat) : Fl × St → Prop := fun q => q = (.next, ⟨(lwE (some (.list (ns.map .int))) (some (.list kindsD)) (some (.int (j : Nat))) (some (.str (chars xs))) (some (.int (L : Nat))) (some (.list [.int s1, .int s2]))), none⟩)
theorem law_spec (k : Nat) (ns : List Int) (hn : ns.length ≤ 63) : callD T0 12 200 40 (k+7) (S "law") [.list (ns.map .int)] = some (.bool true) := by
  have hsz := sizeLine_eq
  refine call_of2 (lwE (some (.list (ns.map .int))) none none none none none) rfl rfl rfl ?_
  walk_at "go"
  refine go_for1 rfl ?_
  walk_at "go"
  refine go_rng1 (n := 3) (by decide) ?_
  refine ⟨scal_ints _, ?_⟩
  refine for_endR _ (LwI ns)
    ⟨0, by rw [List.range_eq_range'], by decide, some (S "kinds"), .inr rfl, none, none, none, none, rfl⟩ ?_ ?_
  · rintro j r _ ⟨_, hr, hj3, o, ho, a, b, c, d, rfl⟩
    obtain ⟨rfl, hpos, hr'⟩ := range'_cons hr
    have hj : j < 3 := by omega
    obtain ⟨kk, hkk, hk8⟩ := kinds_get hj
    obtain ⟨lv, hlv⟩ := lens_get hj
    obtain ⟨xs, hxs, hx, hl⟩ := digits_spec (k + 4) ns (5 * j) kk hn hk8
    refine go_setX (by rcases ho with rfl | rfl; exact .inl rfl; exact .inr ⟨_, rfl, by decide⟩) rfl ?_
    refine go_assignX rfl (by rcases ho with rfl | rfl; exact .inl rfl; exact .inr ⟨_, rfl, rfl, by decide⟩) ?_
    walk_at "go"
    refine go_iteml (d := .list (kk.map fun (x : Nat) => .int x)) (by omega) (by rw [Int.toNat_natCast]; exact hkk) ?_
    walk_at "go"
    have c0 : (5 : Int) * (j : Int) = ((5 * j : Nat) : Int) := by omega
    rw [c0]
    refine go_of hxs ?_
    walk_at "go"
    have c2 : (5 : Int) * (j : Int) + 2 = ((5 * j + 2 : Nat) : Int) := by lia
    rw [c2]
    refine go_of (pen_spec _ ns (5 * j + 2) hn) ?_
    walk_at "go"
    refine go_iteml (d := .int (lv : Nat)) (by omega) (by rw [Int.toNat_natCast]; exact hlv) ?_
    walk_at "go"
    have c129 : ((penV ns (5 * j + 2) : Int) + (lv : Int)).fmod 129 = (((penV ns (5 * j + 2) + lv) % 129 : Nat) : Int) := (Int.ofNat_fmod _ 129).symm
    rw [c129]
    have hL : (penV ns (5 * j + 2) + lv) % 129 ≤ 128 := by omega
    generalize (penV ns (5 * j + 2) + lv) % 129 = L at *
    walk_at "go"
    have c3 : (5 : Int) * (j : Int) + 3 = ((5 * j + 3 : Nat) : Int) := by lia
    have c4 : (5 : Int) * (j : Int) + 4 = ((5 * j + 4 : Nat) : Int) := by lia
    rw [c3]
    refine go_of (pen_spec _ ns (5 * j + 3) hn) ?_
    walk_at "go"
    rw [c4]
    refine go_of (pen_spec _ ns (5 * j + 4) hn) ?_
    walk_at "go"
    have c5 : (penV ns (5 * j + 4) : Int) + 2 ^ Int.toNat 27 - 1 = ((penV ns (5 * j + 4) + (2 ^ 27 - 1) : Nat) : Int) := by
      have : (2 : Int) ^ Int.toNat 27 = 134217728 := by decide
      rw [this]; lia
    rw [c5]
    generalize penV ns (5 * j + 3) = s1
    generalize penV ns (5 * j + 4) + (2 ^ 27 - 1) = s2
    have hcl := chars_length xs
    refine go_if_joinM rfl (LwQ ns j xs L s1 s2) ?_ ?_
    · walk_at "go"
      refine go_of (six_spec k xs L s1 s2 hx hl hL) ?_
      refine ⟨true, rfl, ?_⟩
      refine ⟨fun h => Bool.noConfusion h, fun _ => ?_⟩
      walk_at "go"
      refine go_sls (a := 24) (b := (chars xs).length) (by lia) rfl rfl ?_
      rw [slice_chars, hcl, hl, List.take_of_length_le (by rw [List.length_drop]; omega)]
      walk_at "go"
      have c33 : (L : Int).fmod 33 = ((L % 33 : Nat) : Int) := (Int.ofNat_fmod _ 33).symm
      rw [c33]
      refine go_of (four_spec k (xs.drop 24) (L % 33) (nib_drop hx _) (by rw [List.length_drop]; omega) (by lia)) ?_
      refine ⟨true, rfl, ?_⟩
      refine ⟨fun h => Bool.noConfusion h, fun _ => ?_⟩
      walk_at "go"
      refine ⟨fun h => Bool.noConfusion h, fun _ => ?_⟩
      walk_at "go"
      rfl
    · rintro _ rfl
      dsimp only
      walk_at "go"
      refine And.intro rfl ⟨j + 1, ?_, by omega, none, .inl rfl, _, _, _, _, rfl⟩
      rw [hr']
      congr 1
  · rintro _ ⟨j, hr, hj3, o, ho, a, b, c, d, rfl⟩
    rcases ho with rfl | rfl
    · walk_at "go"
    · walk_at "go"

end Mine.G
end
section
open PySem PySem.W PyProof.Rows
namespace Mine

noncomputable abbrev Ext (h h' : Heap) : Prop := ∀ b o, h.get? b = some o → h'.get? b = some o
theorem Ext.refl (h : Heap) : Ext h h := fun _ _ e => e
theorem Ext.trans {h h' h'' : Heap} (a : Ext h h') (b : Ext h' h'') : Ext h h'' := fun x o e => b x o (a x o e)
theorem Ext.push (h : Heap) (o : Obj) : Ext h (h.push o) := fun _ _ e => Heap.get?_push_of_some o e
theorem Ext.size {h h' : Heap} (x : Ext h h') {a : Addr} {o : Obj} (e : h.get? a = some o) : a < h'.objs.size := Heap.lt_size (x a o e)

/-- the state has only grown -/
noncomputable def Grew (s s' : Shared) : Prop := ∃ h' tk, s' = { s with heap := h', toks := tk } ∧ Ext s.heap h'
theorem Grew.refl (s : Shared) : Grew s s := ⟨s.heap, s.toks, rfl, Ext.refl _⟩
theorem Grew.trans {s s' s'' : Shared} (a : Grew s s') (b : Grew s' s'') : Grew s s'' := by
  obtain ⟨h, tk, rfl, e⟩ := a
  obtain ⟨h', tk', rfl, e'⟩ := b
  exact ⟨h', tk', rfl, e.trans e'⟩
theorem Grew.ext {s s' : Shared} (a : Grew s s') : Ext s.heap s'.heap := by
  obtain ⟨h, tk, rfl, e⟩ := a; exact e
theorem Grew.tok (s : Shared) (k : Nat) : Grew s { s with toks := k } := ⟨s.heap, k, rfl, Ext.refl _⟩
theorem Grew.of {s : Shared} {h' : Heap} {tk : Nat} (e : Ext s.heap h') : Grew s { s with heap := h', toks := tk } := ⟨h', tk, rfl, e⟩
theorem Grew.push (s : Shared) (o : Obj) : Grew s { s with heap := s.heap.push o } := ⟨_, s.toks, rfl, Ext.push _ _⟩
theorem Grew.pushT (s : Shared) (o : Obj) (k : Nat) : Grew s { s with heap := s.heap.push o, toks := k } := ⟨_, k, rfl, Ext.push _ _⟩

/-- what is shut out stands in the heap -/
noncomputable def XIn (X : Addr → Prop) (h : Heap) : Prop := ∀ q, X q → ∃ o, h.get? q = some o
theorem XIn.ext {X : Addr → Prop} {h h' : Heap} (x : XIn X h) (e : Ext h h') : XIn X h' := fun q hq => let ⟨o, ho⟩ := x q hq; ⟨o, e q o ho⟩
theorem XIn.fresh {X : Addr → Prop} {h : Heap} (x : XIn X h) : ¬ X h.objs.size := fun q => let ⟨_, ho⟩ := x _ q; Nat.lt_irrefl _ (Heap.lt_size ho)
theorem XIn.none {X : Addr → Prop} {h : Heap} (x : XIn X h) {a : Addr} (e : h.get? a = none) : ¬ X a := fun q => by
  obtain ⟨_, ho⟩ := x _ q; rw [e] at ho; cases ho

mutual
/-- a value reads as a datum; none of its objects lies in X -/
inductive Rd (X : Addr → Prop) (h : Heap) : Value → D → Prop
  | none : Rd X h .none .none
  | bool (b : Bool) : Rd X h (.bool b) (.bool b)
  | int (i : Int) (t : Tok) : Rd X h (.int i t) (.int i)
  | str (x : Str) (t : Tok) : Rd X h (.str x t) (.str (ofStr x))
  | list {a : Addr} {vs : Array Value} {n : Nat} {ds : List D} : ¬ X a → h.get? a = some { cls := .type "list", data := .seq vs n } → RdAll X h vs.toList ds → Rd X h (.ref a) (.list ds)
  | tuple {a : Addr} {vs : Array Value} {n : Nat} {ds : List D} : ¬ X a → h.get? a = some { cls := .type "tuple", data := .seq vs n } → RdAll X h vs.toList ds → Rd X h (.ref a) (.tuple ds)
inductive RdAll (X : Addr → Prop) (h : Heap) : List Value → List D → Prop
  | nil : RdAll X h [] []
  | cons {v d vs ds} : Rd X h v d → RdAll X h vs ds → RdAll X h (v :: vs) (d :: ds)
end

theorem Rd.moves {X X' : Addr → Prop} {h h' : Heap} (hk : ∀ a o vs n, o.data = .seq vs n → ¬ X a → h.get? a = some o → ¬ X' a ∧ h'.get? a = some o) : (∀ v d, Rd X h v d → Rd X' h' v d) ∧ ∀ v d, RdAll X h v d → RdAll X' h' v d := by
  refine ⟨fun v d r => ?_, fun v d r => ?_⟩
  · exact Rd.rec (motive_1 := fun v d _ => Rd X' h' v d) (motive_2 := fun v d _ => RdAll X' h' v d) .none .bool .int .str (fun hx e _ q => .list (hk _ _ _ _ rfl hx e).1 (hk _ _ _ _ rfl hx e).2 q) (fun hx e _ q => .tuple (hk _ _ _ _ rfl hx e).1 (hk _ _ _ _ rfl hx e).2 q) .nil (fun _ _ a b => .cons a b) r
  · exact RdAll.rec (motive_1 := fun v d _ => Rd X' h' v d) (motive_2 := fun v d _ => RdAll X' h' v d) .none .bool .int .str (fun hx e _ q => .list (hk _ _ _ _ rfl hx e).1 (hk _ _ _ _ rfl hx e).2 q) (fun hx e _ q => .tuple (hk _ _ _ _ rfl hx e).1 (hk _ _ _ _ rfl hx e).2 q) .nil (fun _ _ a b => .cons a b) r
theorem Rd.move {X X' : Addr → Prop} {h h' : Heap} (hk : ∀ a o vs n, o.data = .seq vs n → ¬ X a → h.get? a = some o → ¬ X' a ∧ h'.get? a = some o) {v d} (r : Rd X h v d) : Rd X' h' v d := (Rd.moves hk).1 v d r
theorem RdAll.move {X X' : Addr → Prop} {h h' : Heap} (hk : ∀ a o vs n, o.data = .seq vs n → ¬ X a → h.get? a = some o → ¬ X' a ∧ h'.get? a = some o) {v d} (r : RdAll X h v d) : RdAll X' h' v d := (Rd.moves hk).2 v d r

theorem Rd.ext {X : Addr → Prop} {h h' : Heap} (x : Ext h h') {v d} (r : Rd X h v d) : Rd X h' v d := r.move fun a o _ _ _ hx e => ⟨hx, x a o e⟩
theorem RdAll.ext {X : Addr → Prop} {h h' : Heap} (x : Ext h h') {v d} (r : RdAll X h v d) : RdAll X h' v d := r.move fun a o _ _ _ hx e => ⟨hx, x a o e⟩
theorem Rd.less {X X' : Addr → Prop} {h : Heap} (hs : ∀ a, X' a → X a) {v d} (r : Rd X h v d) : Rd X' h v d := r.move fun a o _ _ _ hx e => ⟨fun q => hx (hs a q), e⟩
theorem RdAll.less {X X' : Addr → Prop} {h : Heap} (hs : ∀ a, X' a → X a) {v d} (r : RdAll X h v d) : RdAll X' h v d := r.move fun a o _ _ _ hx e => ⟨fun q => hx (hs a q), e⟩

theorem RdAll.length {X : Addr → Prop} {h : Heap} {vs : List Value} {ds : List D} (r : RdAll X h vs ds) : vs.length = ds.length := by
  induction ds generalizing vs with
  | nil => cases r; rfl
  | cons d ds ih => cases r with
    | cons _ r => exact congrArg (· + 1) (ih r)
theorem RdAll.get {X : Addr → Prop} {h : Heap} {vs : List Value} {ds : List D} (r : RdAll X h vs ds) {i : Nat} {d : D} (e : ds[i]? = some d) : ∃ v, vs[i]? = some v ∧ Rd X h v d := by
  induction ds generalizing vs i with
  | nil => exact no e
  | cons d ds ih => cases r with
    | cons a r => cases i with
      | zero => cases e; exact ⟨_, rfl, a⟩
      | succ i => exact ih r e
theorem RdAll.getV {X : Addr → Prop} {h : Heap} {vs : List Value} {ds : List D} (r : RdAll X h vs ds) {i : Nat} {v : Value} (e : vs[i]? = some v) : ∃ d, ds[i]? = some d ∧ Rd X h v d := by
  induction ds generalizing vs i with
  | nil => cases r; exact no e
  | cons d ds ih => cases r with
    | cons a r => cases i with
      | zero => cases e; exact ⟨_, rfl, a⟩
      | succ i => exact ih r e
theorem RdAll.append {X : Addr → Prop} {h : Heap} {vs : List Value} {ds : List D} {ws : List Value} {es : List D} (r : RdAll X h vs ds) (q : RdAll X h ws es) : RdAll X h (vs ++ ws) (ds ++ es) := by
  induction ds generalizing vs with
  | nil => cases r; exact q
  | cons d ds ih => cases r with
    | cons a r => exact .cons a (ih r)
theorem RdAll.take {X : Addr → Prop} {h : Heap} {vs : List Value} {ds : List D} (r : RdAll X h vs ds) (k : Nat) : RdAll X h (vs.take k) (ds.take k) := by
  induction ds generalizing vs k with
  | nil => cases r; cases k <;> exact .nil
  | cons d ds ih => cases r with
    | cons a r => cases k with
      | zero => exact .nil
      | succ k => exact .cons a (ih r k)
theorem RdAll.drop {X : Addr → Prop} {h : Heap} {vs : List Value} {ds : List D} (r : RdAll X h vs ds) (k : Nat) : RdAll X h (vs.drop k) (ds.drop k) := by
  induction ds generalizing vs k with
  | nil => cases r; cases k <;> exact .nil
  | cons d ds ih => cases r with
    | cons a r => cases k with
      | zero => exact .cons a r
      | succ k => exact ih r k
theorem RdAll.rep {X : Addr → Prop} {h : Heap} {vs ds} (r : RdAll X h vs ds) : ∀ n, RdAll X h (List.replicate n vs).flatten (List.replicate n ds).flatten
  | 0 => .nil
  | n + 1 => by
    rw [List.replicate_succ, List.replicate_succ, List.flatten_cons, List.flatten_cons]
    exact r.append (r.rep n)

/-- what holds around a step: no exception handled, room for k calls more -/
structure Room (k : Nat) (A : Around) : Prop where
  handled : A.handled = none
  depth : A.depth + k < recursionLimit
  units : A.units + 4 * k + 200 < cLine
theorem Room.deeper {k : Nat} {A : Around} (r : Room (k + 1) A) (env : Env) : Room k (A.deeper env) := by
  refine ⟨r.handled, ?_, ?_⟩
  · show A.depth + 1 + k < _; have := r.depth; omega
  · show A.units + 3 + 4 * k + 200 < _; have := r.units; lia

section ops
variable {prog : Program} {w : World} {A : Around} {E : Value → Shared → Prop} {s : Shared} {X : Addr → Prop}

/-- the aim of a step that gives a value -/
noncomputable abbrev Gives' (X : Addr → Prop) (s : Shared) (d : D) (v : Value) (s' : Shared) : Prop := Grew s s' ∧ Rd X s'.heap v d

theorem ofStr_append (x y : Str) : ofStr (x ++ y) = ofStr x ++ ofStr y := by
  show (Str.append x y).cps.toList = _
  cases x; cases y; simp [Str.append, ofStr]
theorem ofStr_length (x : Str) : (ofStr x).length = x.length := by
  cases x; simp [ofStr, Str.length]
theorem toStr_ofStr (x : Str) : toStr (ofStr x) = x := by
  cases x; simp [toStr, ofStr]
theorem ofStr_toStr (x : List Nat) : ofStr (toStr x) = x := by simp [toStr, ofStr]
theorem ofStr_inj {x y : Str} (h : ofStr x = ofStr y) : x = y := by rw [← toStr_ofStr x, h, toStr_ofStr]
theorem Rd.strOf {X : Addr → Prop} {h : Heap} {x : Str} {t : Tok} {l : List Nat} (e : ofStr x = l) : Rd X h (.str x t) (.str l) := e ▸ .str x t

theorem Rd.ints {h : Heap} {a b : Value} {x y d : D} {f : Int → Int → Option D} (ha : Rd X h a x) (hb : Rd X h b y) (e : onInts f x y = some d) : ∃ i t j u, a = .int i t ∧ b = .int j u ∧ f i j = some d := by
  cases ha with
  | int i t => cases hb with
    | int j u => exact ⟨i, t, j, u, rfl, rfl, e⟩
    | _ => exact no e
  | _ => exact no e
theorem gives_int (s : Shared) (i : Int) (t : Tok) (k : Nat) : Gives' X s (.int i) (.int i t) { s with toks := k } := ⟨.tok _ _, .int _ _⟩
theorem op_add {a b : Value} {x y d : D} (ha : Rd X s.heap a x) (hb : Rd X s.heap b y) (hX : XIn X s.heap) (h : bAdd x y = some d) :
    wpAny (model prog w) A (binaryOp .Add a b) (Gives' X s d) E s := by
  cases ha with
  | int i t =>
    cases hb with
    | int j u =>
      cases h
      exact PyProof.Rows.add_int (gives_int ..)
    | _ => exact no h
  | str i t =>
    cases hb with
    | str j u =>
      obtain ⟨hz, h⟩ := of_if h
      rw [ofStr_length, ofStr_length] at hz
      cases h
      exact PyProof.Rows.add_str (fun t' tk => ⟨.tok _ _, .strOf (ofStr_append _ _)⟩) hz
    | _ => exact no h
  | list hx e r =>
    cases hb with
    | list hx' e' r' =>
      obtain ⟨hz, h⟩ := of_if h
      cases h
      have h1 := r.length
      have h2 := r'.length
      rw [Array.length_toList] at h1 h2
      refine P.add_list (n := _) e e' ⟨.push _ _, .list hX.fresh (Heap.get?_push_size _ rfl) ?_⟩ (by rw [h1, h2]; exact hz)
      rw [Array.toList_append]
      exact (r.append r').ext (Ext.push _ _)
    | _ => exact no h
  | _ => exact no h

theorem op_sub {a b : Value} {x y d : D} (ha : Rd X s.heap a x) (hb : Rd X s.heap b y) (h : bSub x y = some d) :
    wpAny (model prog w) A (binaryOp .Sub a b) (Gives' X s d) E s := by
  obtain ⟨i, t, j, u, rfl, rfl, h⟩ := ha.ints hb h
  cases h
  exact PyProof.Rows.sub_int (gives_int ..)
theorem op_div {a b : Value} {x y d : D} (ha : Rd X s.heap a x) (hb : Rd X s.heap b y) (h : bDiv x y = some d) :
    wpAny (model prog w) A (binaryOp .FloorDiv a b) (Gives' X s d) E s := by
  obtain ⟨i, t, j, u, rfl, rfl, h⟩ := ha.ints hb h
  obtain ⟨hz, h⟩ := of_if h
  cases h
  refine PyProof.Rows.floordiv_int hz.1 (gives_int ..) (.inl (PyProof.noPylong_of_log2 ?_))
  exact Nat.lt_of_lt_of_le ((Nat.log2_lt (fun e => hz.1 (Int.natAbs_eq_zero.mp e))).mpr hz.2) (by decide)
theorem op_mod {a b : Value} {x y d : D} (ha : Rd X s.heap a x) (hb : Rd X s.heap b y) (h : bMod x y = some d) :
    wpAny (model prog w) A (binaryOp .Mod a b) (Gives' X s d) E s := by
  obtain ⟨i, t, j, u, rfl, rfl, h⟩ := ha.ints hb h
  obtain ⟨hz, h⟩ := of_if h
  cases h
  exact PyProof.Rows.mod_int' hz (gives_int ..)
theorem op_pow {a b : Value} {x y d : D} (ha : Rd X s.heap a x) (hb : Rd X s.heap b y) (h : bPow x y = some d) :
    wpAny (model prog w) A (binaryOp .Pow a b) (Gives' X s d) E s := by
  obtain ⟨i, t, j, u, rfl, rfl, h⟩ := ha.ints hb h
  obtain ⟨hz, h⟩ := of_if h
  cases h
  exact PyProof.Rows.pow_int_small hz.1 hz.2.1 hz.2.2 (gives_int ..)
theorem op_shl {a b : Value} {x y d : D} (ha : Rd X s.heap a x) (hb : Rd X s.heap b y) (h : bShl x y = some d) :
    wpAny (model prog w) A (binaryOp .LShift a b) (Gives' X s d) E s := by
  obtain ⟨i, t, j, u, rfl, rfl, h⟩ := ha.ints hb h
  obtain ⟨hz, h⟩ := of_if h
  cases h
  have hb : Builtin.Int.intBits i ≤ 256 := intBits_le hz.2.2
  have hj := hz.2.1
  exact PyProof.Rows.lshift_int hz.1 (by clear hz; lia) (gives_int ..)
theorem op_shr {a b : Value} {x y d : D} (ha : Rd X s.heap a x) (hb : Rd X s.heap b y) (h : bShr x y = some d) :
    wpAny (model prog w) A (binaryOp .RShift a b) (Gives' X s d) E s := by
  obtain ⟨i, t, j, u, rfl, rfl, h⟩ := ha.ints hb h
  obtain ⟨hz, h⟩ := of_if h
  cases h
  exact PyProof.Rows.rshift_int hz (gives_int ..)
theorem op_and {a b : Value} {x y d : D} (ha : Rd X s.heap a x) (hb : Rd X s.heap b y) (h : bAnd x y = some d) :
    wpAny (model prog w) A (binaryOp .BitAnd a b) (Gives' X s d) E s := by
  obtain ⟨i, t, j, u, rfl, rfl, h⟩ := ha.ints hb h
  cases h
  exact PyProof.Rows.and_int (gives_int ..)
theorem op_or {a b : Value} {x y d : D} (ha : Rd X s.heap a x) (hb : Rd X s.heap b y) (h : bOr x y = some d) :
    wpAny (model prog w) A (binaryOp .BitOr a b) (Gives' X s d) E s := by
  obtain ⟨i, t, j, u, rfl, rfl, h⟩ := ha.ints hb h
  cases h
  exact PyProof.Rows.or_int (gives_int ..)
end ops
end Mine
end
section
open PySem PySem.W PyProof.Rows
namespace Mine
open Builtin Builtin.Str

theorem flat_rep {α : Type} (xs : Array α) : ∀ n : Nat, (List.foldl (fun x1 x2 => x1 ++ x2) #[] (List.replicate n xs)).toList = (List.replicate n xs.toList).flatten := by
  have g : ∀ (n : Nat) (acc : Array α), (List.foldl (fun x1 x2 => x1 ++ x2) acc (List.replicate n xs)).toList = acc.toList ++ (List.replicate n xs.toList).flatten := by
    intro n
    induction n with
    | zero => intro acc; simp
    | succ n ih => intro acc; rw [List.replicate_succ, List.foldl_cons, ih, List.replicate_succ, List.flatten_cons, Array.toList_append, List.append_assoc]
  intro n; simpa using g n #[]

theorem ofStr_mul {x : Str} {n : Int} (h0 : 0 ≤ n) : ofStr (Txt.mul x n) = (List.replicate n.toNat (ofStr x)).flatten := by
  unfold Txt.mul
  by_cases h1 : n < 1
  · have : n = 0 := by lia
    subst this
    rw [if_pos (by decide)]
    simp [ofStr, Str.empty]
  · rw [if_neg h1]
    by_cases h2 : (n == 1 || x.length == 0) = true
    · rw [if_pos h2]
      simp only [Bool.or_eq_true, beq_iff_eq] at h2
      rcases h2 with h2 | h2
      · subst h2; simp
      · have : ofStr x = [] := by rw [← List.length_eq_zero_iff, ofStr_length]; exact h2
        rw [this]; simp
    · rw [if_neg h2]
      exact flat_rep x.cps n.toNat

section ops
variable {prog : Program} {w : World} {A : Around} {E : Value → Shared → Prop} {s : Shared} {X : Addr → Prop}

theorem op_mul {a b : Value} {x y d : D} (ha : Rd X s.heap a x) (hb : Rd X s.heap b y) (hX : XIn X s.heap) (h : bMul x y = some d) :
    wpAny (model prog w) A (binaryOp .Mult a b) (Gives' X s d) E s := by
  cases ha with
  | int i t =>
    cases hb with
    | int j u =>
      obtain ⟨hz, h⟩ := of_if h
      cases h
      refine PyProof.Rows.mul_int (gives_int ..) ?_
      rcases (Bool.or_eq_true _ _).mp hz with hz | hz
      · exact .of_left (of_decide_eq_true hz)
      · exact .of_right (of_decide_eq_true hz)
    | _ => exact no h
  | str i t =>
    cases hb with
    | int j u =>
      · obtain ⟨⟨h0, h1, h2⟩, h⟩ := of_if h
        rw [ofStr_length] at h2
        cases h
        refine SB.mul ⟨?_, ?_, ?_⟩ fun t' k => ⟨.tok _ _, .strOf (ofStr_mul h0)⟩
        · simp; omega
        · intro a b c
          have h5 : (0:Int) < j := by omega
          have h6 : (i.length : Int) * j.toNat ≤ 2 ^ 24 := by
            have : ((i.length * j.toNat : Nat) : Int) ≤ ((sizeLine : Nat) : Int) := by exact_mod_cast h2
            rw [Int.natCast_mul] at this
            exact this
          have h7 : (j.toNat : Int) = j := by omega
          rw [h7] at h6
          have : (i.length : Int) ≤ (2 ^ 63 - 1) / j := (Int.le_ediv_iff_mul_le h5).mpr (by omega)
          omega
        · intro a b
          exact decide_eq_false (Nat.not_lt.mpr h2)
    | _ => exact no h
  | list hx e r =>
    rename_i l items k ds
    cases hb with
    | int j u =>
      · obtain ⟨⟨h0, h1, h2⟩, h⟩ := of_if h
        have hl := r.length
        rw [Array.length_toList] at hl
        rw [← hl] at h2
        cases h
        refine wpAny_binaryOp_repeat_ref (T := "list") (U := "int") (by decide) ⟨_, e, rfl⟩ (fun s' => typeIs_int s' j u) noFill_list_mul F.fills_int_mul F.slot_int_rmul repeat_list F.slot_int_index.lookup
          (call_meets F.slot_int_rmul (typeIs_int s j u) F.entry_int_rmul (F.args_int_rmul_2 _ _) (int___rmul___int_list j u l items k)
            ⟨e, rfl, ⟨_, e, rfl⟩, call_meets F.slot_list_mul ⟨_, e, rfl⟩ F.entry_list_mul (F.args_list_mul_2 _ _)
              (AutoListH.list___mul___list_int_3 l items k j u (by simp [Builtin.List.listFitsIndex]; omega) (by rw [sizeLine_eq] at h2; omega) (by simp [Builtin.List.listTooLong]; exact h2))
              ⟨e, .push _ _, .list hX.fresh (Heap.get?_push_size _ rfl) ?_⟩⟩)
        rw [flat_rep]
        by_cases hE : items.isEmpty = true
        · rw [if_pos hE]
          have : ds = [] := by
            rw [← List.length_eq_zero_iff, ← hl]; exact Array.isEmpty_iff_size_eq_zero.mp hE
          subst this
          simpa using RdAll.nil
        · rw [if_neg hE]
          exact (r.rep _).ext (Ext.push _ _)
    | _ => exact no h
  | _ => exact no h

theorem op_bin {op : Operator} {a b : Value} {x y d : D} (ha : Rd X s.heap a x) (hb : Rd X s.heap b y) (hX : XIn X s.heap) (h : binD op x y = some d) :
    wpAny (model prog w) A (binaryOp op a b) (Gives' X s d) E s := by
  cases op with
  | Add => exact op_add ha hb hX h
  | Sub => exact op_sub ha hb h
  | Mult => exact op_mul ha hb hX h
  | Mod => exact op_mod ha hb h
  | Pow => exact op_pow ha hb h
  | LShift => exact op_shl ha hb h
  | RShift => exact op_shr ha hb h
  | BitOr => exact op_or ha hb h
  | BitAnd => exact op_and ha hb h
  | FloorDiv => exact op_div ha hb h
  | _ => exact no h

theorem op_neg {a : Value} {i : Int} (ha : Rd X s.heap a (.int i)) : wpAny (model prog w) A (unaryOp .USub a) (Gives' X s (.int (-i))) E s := by
  cases ha
  exact PyProof.Rows.neg_int ⟨.tok _ _, .int _ _⟩

theorem reads_ints {X : Addr → Prop} {h : Heap} {vs : List Value} {ds : List D} {ns : List Int} (r : RdAll X h vs ds) (e : intsOf ds = some ns) : ReadsAll h vs (ns.map PyData.int) [] := by
  induction ds generalizing vs ns with
  | nil => cases r; cases e; exact .nil
  | cons d ds ih =>
    cases r with
    | cons a r =>
      cases a with
      | int i t =>
        obtain ⟨ms, hm, rfl⟩ := of_map e
        exact .cons (as := []) (.int i t) (ih r hm)
      | _ => exact no e
theorem intsAre_of {X : Addr → Prop} {h : Heap} {vs : List Value} {ds : List D} {ns : List Int} (r : RdAll X h vs ds) (e : intsOf ds = some ns) : IntsAre vs ns := by
  induction ds generalizing vs ns with
  | nil => cases r; cases e; exact .nil
  | cons d ds ih =>
    cases r with
    | cons a r =>
      cases a with
      | int i t =>
        obtain ⟨ms, hm, rfl⟩ := of_map e
        exact .cons i t (ih r hm)
      | _ => exact no e
theorem eqvAll_ints : ∀ ns ms : List Int, PyData.eqvAll (ns.map PyData.int) (ms.map PyData.int) = (ns == ms)
  | [], [] => rfl
  | [], _ :: _ => rfl
  | _ :: _, [] => rfl
  | a :: r, b :: t => by
    simp only [List.map_cons, PyData.eqvAll, PyData.eqv, eqvAll_ints r t]
    rfl
theorem shaped_ints (ns : List Int) : SeqAt.shaped (.tuple (ns.map PyData.int)) = true := by
  simp [SeqAt.shaped, PyData.canLay0, PyData.depth, PySem.W.ke_canLayAll0, PySem.W.ke_depthAll]

theorem op_eq {a b : Value} {x y : D} {r : Bool} (hR : A.units + 200 < cLine) (ha : Rd X s.heap a x) (hb : Rd X s.heap b y) (h : cmpEq x y = some r) :
    wpAny (model prog w) A (compareOp .Eq a b) (fun v s' => v = .bool r ∧ s' = s) E s ∧ wpAny (model prog w) A (compareOp .NotEq a b) (fun v s' => v = .bool (!r) ∧ s' = s) E s := by
  cases ha with
  | int i t =>
    cases hb with
    | int j u =>
      cases h
      exact ⟨PyProof.Rows.eq_int ⟨rfl, rfl⟩, PyProof.Rows.ne_int ⟨rfl, rfl⟩⟩
    | _ => exact no h
  | str i t =>
    cases hb with
    | str j u =>
      cases h
      exact ⟨P.eq_str ⟨rfl, rfl⟩, P.ne_str ⟨rfl, rfl⟩⟩
    | _ => exact no h
  | tuple hx e q =>
    cases hb with
    | tuple hx' e' q' =>
      obtain ⟨ns, en, h⟩ := of_bind h
      obtain ⟨ms, em, h⟩ := of_bind h
      obtain ⟨_, h⟩ := of_if h
      cases h
      have r1 := reads_tuple_at e rfl rfl (reads_ints q en)
      have r2 := reads_tuple_at e' rfl rfl (reads_ints q' em)
      have e3 : PyData.eqv (.tuple (ns.map PyData.int)) (.tuple (ms.map PyData.int)) = (ns == ms) := eqvAll_ints ns ms
      have hu : A.units + 200 < cLine := hR
      constructor
      · refine eq_dataH r1 r2 (shaped_ints _) (shaped_ints _) (by clear r1 r2 e3; omega) ⟨?_, rfl⟩
        rw [e3]
      · refine ne_dataH r1 r2 (shaped_ints _) (shaped_ints _) (by clear r1 r2 e3; omega) ⟨?_, rfl⟩
        rw [e3]
    | _ => exact no h
  | _ => exact no h
theorem Rd.intsB {h : Heap} {a b : Value} {x y : D} {f : Int → Int → Bool} {r : Bool} (ha : Rd X h a x) (hb : Rd X h b y) (e : onIntsB f x y = some r) : ∃ i t j u, a = .int i t ∧ b = .int j u ∧ f i j = r := by
  cases ha with
  | int i t => cases hb with
    | int j u => exact ⟨i, t, j, u, rfl, rfl, Option.some.inj e⟩
    | _ => exact no e
  | _ => exact no e
theorem op_cmp {op : CmpOp} {a b : Value} {x y : D} {r : Bool} (hR : A.units + 200 < cLine) (ha : Rd X s.heap a x) (hb : Rd X s.heap b y) (h : cmpD op x y = some r) :
    wpAny (model prog w) A (compareOp op a b) (fun v s' => v = .bool r ∧ s' = s) E s := by
  cases op with
  | Eq => exact (op_eq hR ha hb h).1
  | NotEq =>
    obtain ⟨q, h', rfl⟩ := of_map h
    exact (op_eq hR ha hb h').2
  | Lt =>
    obtain ⟨i, t, j, u, rfl, rfl, rfl⟩ := ha.intsB hb h
    exact PyProof.Rows.lt_int ⟨rfl, rfl⟩
  | LtE =>
    cases ha with
    | int i t =>
      cases hb with
      | int j u => cases h; exact PyProof.Rows.le_int ⟨rfl, rfl⟩
      | _ => exact no h
    | str i t =>
      cases hb with
      | str j u => cases h; exact P.le_str ⟨rfl, rfl⟩
      | _ => exact no h
    | _ => exact no h
  | Gt =>
    obtain ⟨i, t, j, u, rfl, rfl, rfl⟩ := ha.intsB hb h
    exact PyProof.Rows.gt_int ⟨rfl, rfl⟩
  | GtE =>
    obtain ⟨i, t, j, u, rfl, rfl, rfl⟩ := ha.intsB hb h
    exact PyProof.Rows.ge_int ⟨rfl, rfl⟩
  | Is =>
    cases hb with
    | none =>
      refine is_none ⟨?_, rfl⟩
      cases ha <;> (cases h; rfl)
    | _ => cases ha <;> exact no h
  | In =>
    cases ha with
    | str i t =>
      cases hb with
      | str j u =>
        cases h
        refine P.in_str ⟨?_, rfl⟩
        unfold containsL
        rw [toStr_ofStr, toStr_ofStr]
        rfl
      | _ => exact no h
    | _ => exact no h
  | IsNot => exact no h
  | NotIn => exact no h

theorem op_item {value slice : Expr} {a b : Value} {x y d : D} (ha : Rd X s.heap a x) (hb : Rd X s.heap b y) (h : itemD x y = some d)
    (hs : ∀ lo hi p, slice ≠ .Slice lo hi none p) :
    wpAny (model prog w) A (subscriptTail value slice a b) (Gives' X s d) E s := by
  have hsub : ∀ o i : Value, subscripted slice false o i = operate [o, i] (getItem o i) := by
    intro o i
    unfold subscripted
    split
    · exact absurd rfl (hs _ _ _)
    · rename_i h; cases h
    · rfl
  cases ha with
  | str i t =>
    cases hb with
    | int j u =>
      · obtain ⟨hz, h⟩ := of_if h
        obtain ⟨c, hc, rfl⟩ := of_map h
        have hlt : j.toNat < i.cps.size := by
          have := (List.getElem?_eq_some_iff.mp hc).1
          simpa [ofStr] using this
        refine PyProof.Rows.tail_any (T := "str") (typeIs_str s i t) F.slot_str_getitem.lookup (P.getItem_str (c := c) ?_ ?_ ⟨.tok _ _, .strOf rfl⟩) (hsub _ _)
        · simp; omega
        · have : seqIndex? j i.length = some j.toNat := by
            have h1 : ¬ j < 0 := by omega
            have h2 : (j < (i.length : Int)) := by
              have e0 : i.length = i.cps.size := rfl
              omega
            have h3 : (decide (0 ≤ j) && decide (j < (i.length : Int))) = true := by simp [hz.1, h2]
            unfold seqIndex?
            simp only [if_neg h1]
            rw [if_pos h3]
          rw [this]
          simpa [ofStr] using hc
    | _ => exact no h
  | list hx e r =>
    cases hb with
    | int j u =>
      · obtain ⟨hz, h⟩ := of_if h
        obtain ⟨v, hv, rv⟩ := r.get h
        refine PyProof.Rows.tail_any (T := "list") ⟨_, e, rfl⟩ list_getitem_lookup (wpAny_getItem_list ⟨_, e, rfl, _, rfl⟩ hz.1 (by omega) (by simpa using hv) ⟨.refl _, rv⟩) (hsub _ _)
    | _ => exact no h
  | _ => exact no h
end ops
end Mine
end
section
open PySem PySem.W PyProof.Rows
namespace Mine
open Builtin Builtin.Str

theorem take_drop_comm' {α : Type} (l : List α) (a b : Nat) : (l.drop a).take (b - a) = (l.take b).drop a := by
  rw [List.drop_take]

theorem strInd (x : Str) (lo hi : Option Int) (hl : ∀ i, lo = some i → 0 ≤ i) (hh : ∀ i, hi = some i → 0 ≤ i) :
    (strSliceIndices lo hi 1 x.length) = (List.range (min (hi.elim x.length Int.toNat) x.length - min (lo.elim 0 Int.toNat) x.length)).map (min (lo.elim 0 Int.toNat) x.length + ·) := by
  unfold strSliceIndices
  rw [← sliceRange_one]
  show sliceRange _ _ 1 = _
  congr 1
  · cases lo with
    | none => simp
    | some i =>
      have := hl i rfl
      show max 0 (min (if i < 0 then i + (x.length:Int) else i) (x.length : Int)) = ((min i.toNat x.length : Nat) : Int)
      rw [if_neg (by omega)]
      omega
  · cases hi with
    | none => simp
    | some i =>
      have := hh i rfl
      show max 0 (min (if i < 0 then i + (x.length:Int) else i) (x.length : Int)) = ((min i.toNat x.length : Nat) : Int)
      rw [if_neg (by omega)]
      omega

theorem ofStr_slice (x : Str) (lo hi : Option Int) (hl : ∀ i, lo = some i → 0 ≤ i) (hh : ∀ i, hi = some i → 0 ≤ i) :
    ofStr (Txt.slice x lo hi) = sliceL (ofStr x) (lo.elim 0 Int.toNat) (hi.elim x.length Int.toNat) := by
  have hlen : (ofStr x).length = x.length := ofStr_length x
  have key : ((strSliceIndices lo hi 1 x.length).filterMap (x.cps[·]?)) = sliceL (ofStr x) (lo.elim 0 Int.toNat) (hi.elim x.length Int.toNat) := by
    rw [strInd x lo hi hl hh, pick_run, take_drop_comm']
    unfold sliceL
    show List.drop _ (List.take _ (ofStr x)) = _
    generalize lo.elim 0 Int.toNat = a
    generalize hi.elim x.length Int.toNat = b
    rw [← hlen]
    rw [show List.take (min b (ofStr x).length) (ofStr x) = List.take b (ofStr x) by
      by_cases hb : b ≤ (ofStr x).length
      · rw [Nat.min_eq_left hb]
      · rw [Nat.min_eq_right (by omega), List.take_of_length_le (Nat.le_refl _), List.take_of_length_le (by omega)]]
    by_cases ha : a ≤ (ofStr x).length
    · rw [Nat.min_eq_left ha]
    · rw [Nat.min_eq_right (by omega), List.drop_of_length_le (by rw [List.length_take]; omega), List.drop_of_length_le (by rw [List.length_take]; omega)]
  unfold Txt.slice
  split
  · rename_i h
    have h2 : (strSliceIndices lo hi 1 x.length).length = x.length := by simpa using h
    rw [← key]
    rw [strInd x lo hi hl hh] at h2 ⊢
    rw [pick_run, take_drop_comm']
    simp only [List.length_map, List.length_range] at h2
    by_cases h0 : x.length = 0
    · have : x.cps.toList = [] := by rw [← List.length_eq_zero_iff]; simpa [ofStr, h0] using hlen
      show x.cps.toList = _
      rw [this]; simp
    · have ha : min (lo.elim 0 Int.toNat) x.length = 0 := by omega
      have hb : min (hi.elim x.length Int.toNat) x.length = x.length := by lia
      rw [ha, hb, List.drop_zero, List.take_of_length_le (by rw [← hlen]; exact Nat.le_refl _)]
      rfl
  · show (List.toArray _).toList = _
    rw [List.toList_toArray]
    exact key

theorem listSlice (items : Array Value) (lo hi : Option Int) (hl : ∀ i, lo = some i → 0 ≤ i) (hh : ∀ i, hi = some i → 0 ≤ i) :
    (slicePick items lo hi none).toList = sliceL items.toList (lo.elim 0 Int.toNat) (hi.elim items.size Int.toNat) := by
  rw [slicePick_plain, List.toList_toArray, take_drop_comm']
  have e1 : lo.elim 0 (clipAt items.size) = min (lo.elim 0 Int.toNat) items.size := by
    cases lo with
    | none => simp
    | some i =>
      have h := hl i rfl
      obtain ⟨n, rfl⟩ := Int.eq_ofNat_of_zero_le h
      simp only [Option.elim]
      rw [clipAt_nat]; rfl
  have e2 : hi.elim items.size (clipAt items.size) = min (hi.elim items.size Int.toNat) items.size := by
    cases hi with
    | none => simp
    | some i =>
      have h := hh i rfl
      obtain ⟨n, rfl⟩ := Int.eq_ofNat_of_zero_le h
      simp only [Option.elim]
      rw [clipAt_nat]; rfl
  rw [e1, e2]
  unfold sliceL
  have hlen : items.toList.length = items.size := Array.length_toList
  generalize lo.elim 0 Int.toNat = a
  generalize hi.elim items.size Int.toNat = b
  rw [← hlen]
  rw [show List.take (min b items.toList.length) items.toList = List.take b items.toList by
    by_cases hb : b ≤ items.toList.length
    · rw [Nat.min_eq_left hb]
    · rw [Nat.min_eq_right (by omega), List.take_of_length_le (Nat.le_refl _), List.take_of_length_le (by omega)]]
  by_cases ha : a ≤ items.toList.length
  · rw [Nat.min_eq_left ha]
  · rw [Nat.min_eq_right (by omega), List.drop_of_length_le (by rw [List.length_take]; omega), List.drop_of_length_le (by rw [List.length_take]; omega)]

theorem RdAll.slice {X : Addr → Prop} {h : Heap} {vs ds} (r : RdAll X h vs ds) (a b : Nat) : RdAll X h (sliceL vs a b) (sliceL ds a b) := (r.take b).drop a

/-- the value of a slice's bound -/
noncomputable def PartV (v : Value) : Option D → Prop
  | none => v = .none
  | some (.int i) => ∃ t, v = .int i t
  | some _ => True

section ops
variable {prog : Program} {w : World} {A : Around} {E : Value → Shared → Prop} {s : Shared} {X : Addr → Prop} {env : Env}

theorem op_slice {n : Str} {np p pos : Pos} {lower upper : Option Expr} {x d : D} {lo hi : Option D}
    (hv : wpAny (model prog w) A (eval (.Name n np) env) (Gives' X s x) E s)
    (hl : ∀ s₁, Grew s s₁ → wpAny (model prog w) A (evalPart lower env) (fun v s' => Grew s₁ s' ∧ PartV v lo) E s₁)
    (hu : ∀ s₁, Grew s s₁ → wpAny (model prog w) A (evalPart upper env) (fun v s' => Grew s₁ s' ∧ PartV v hi) E s₁)
    (hX : XIn X s.heap) (h : sliceD x lo hi = some d) :
    wpAny (model prog w) A (eval (.Subscript (.Name n np) (.Slice lower upper none p) pos) env) (Gives' X s d) E s := by
  have bound : ∀ (dflt : Nat) (o : Option D) (k : Nat) (v : Value), boundD dflt o = some k → PartV v o → ∃ l : Option (Int × Tok), v = partValue l ∧ k = (l.map (·.1)).elim dflt Int.toNat ∧ IsPart v (l.map (·.1)) ∧ ∀ i, l.map (·.1) = some i → 0 ≤ i := by
    intro dflt o k v hb hp
    cases o with
    | none =>
      cases hb
      cases (show v = .none from hp)
      exact ⟨none, rfl, rfl, .none, fun _ e => no e⟩
    | some o =>
      cases o with
      | int i =>
        obtain ⟨hz, hb⟩ := of_if hb
        cases hb
        obtain ⟨t, rfl⟩ := hp
        exact ⟨some (_, t), rfl, rfl, .int _ _, fun j e => Option.some.inj e ▸ hz.1⟩
      | _ => exact no hb
  cases x with
  | str l =>
    · obtain ⟨hz, h⟩ := of_if h
      obtain ⟨a, ha, h⟩ := of_bind h
      obtain ⟨b, hb, h⟩ := of_bind h
      cases h
      refine wpAny_Subscript_str_slice (wpAny_mono hv (fun o s₁ h₁ => wpAny_mono (hl s₁ h₁.1) (fun vl s₂ h₂ => wpAny_mono (hu s₂ (h₁.1.trans h₂.1)) (fun vu s₃ h₃ => ?_) fun _ _ e => e) fun _ _ e => e) fun _ _ e => e)
      obtain ⟨g1, r1⟩ := h₁
      obtain ⟨g2, p2⟩ := h₂
      obtain ⟨g3, p3⟩ := h₃
      obtain ⟨l1, rfl, rfl, _, n1⟩ := bound _ _ _ _ ha p2
      obtain ⟨l2, rfl, rfl, _, n2⟩ := bound _ _ _ _ hb p3
      cases r1 with
      | str y t =>
        refine ⟨y, t, l1, l2, rfl, rfl, rfl, ?_⟩
        have hle : y.length ≤ sizeLine := by rw [← ofStr_length]; exact hz
        have e := ofStr_slice y (l1.map (·.1)) (l2.map (·.1)) n1 n2
        rw [ofStr_length]
        exact post_val_or_str ⟨Nat.le_trans (Txt.slice_le y _ _) hle, fun t' k => ⟨(g1.trans (g2.trans g3)).trans (.pushT _ _ _), .strOf e⟩⟩
  | list l =>
    · obtain ⟨hz, h⟩ := of_if h
      obtain ⟨a, ha, h⟩ := of_bind h
      obtain ⟨b, hb, h⟩ := of_bind h
      cases h
      refine wpAny_Subscript_list_slice (wpAny_mono hv (fun o s₁ h₁ => wpAny_mono (hl s₁ h₁.1) (fun vl s₂ h₂ => wpAny_mono (hu s₂ (h₁.1.trans h₂.1)) (fun vu s₃ h₃ => ?_) fun _ _ e => e) fun _ _ e => e) fun _ _ e => e)
      obtain ⟨g1, r1⟩ := h₁
      obtain ⟨g2, p2⟩ := h₂
      obtain ⟨g3, p3⟩ := h₃
      obtain ⟨l1, rfl, rfl, q1, n1⟩ := bound _ _ _ _ ha p2
      obtain ⟨l2, rfl, rfl, q2, n2⟩ := bound _ _ _ _ hb p3
      cases r1 with
      | list hx e r =>
        rename_i y items k
        have e3 := (g2.trans g3).ext _ _ e
        have hlen := r.length
        rw [Array.length_toList] at hlen
        refine ⟨y, items, _, _, rfl, ⟨_, e3, rfl, _, rfl⟩, by rw [hlen]; exact hz, q1, q2, ((g1.trans (g2.trans g3)).trans (.push _ _)).trans (.push _ _), .list (vs := slicePick items (l1.map (·.1)) (l2.map (·.1)) none) (n := 0) ?_ ?_ ?_⟩
        · have := ((hX.ext (g1.trans (g2.trans g3)).ext).ext (Ext.push _ { cls := .type "slice", data := .fields #[partValue l1, partValue l2, .none] })).fresh
          rw [Heap.size_push] at this
          exact this
        · have := Heap.get?_push_size (s₃.heap.push { cls := .type "slice", data := .fields #[partValue l1, partValue l2, .none] }) (o := { cls := .type "list", data := .seq (slicePick items (l1.map (·.1)) (l2.map (·.1)) none) }) rfl
          rw [Heap.size_push] at this
          exact this
        · rw [listSlice _ _ _ n1 n2, ← hlen]
          exact (r.slice _ _).ext ((g2.trans g3).ext.trans ((Ext.push _ _).trans (Ext.push _ _)))
  | _ => exact no h

theorem one_sign {x : Str} {c : Nat} (h : ofStr x = [c]) : x = ⟨#[c]⟩ := ofStr_inj (by rw [h]; rfl)

/-- the value that a built-in's name stands for -/
noncomputable def biVal : Bi → Value
  | .len => .builtin "len"
  | .ord => .builtin "ord"
  | .str => .type "str"
  | .sum => .builtin "sum"

theorem op_builtin {b : Bi} {a : Value} {x d : D} (hh : A.handled = none) (ha : Rd X s.heap a x) (h : builtinD b [x] = some d) :
    wpAny (model prog w) A (call (biVal b) [a]) (Gives' X s d) E s := by
  cases b with
  | len =>
    cases ha with
    | str i t =>
      obtain ⟨hz, h⟩ := of_if h
      rw [ofStr_length, sizeLine_eq] at hz
      cases h
      rw [ofStr_length]
      exact PyProof.Rows.len_str (by omega) ⟨.tok _ _, .int _ _⟩
    | list hx e r =>
      obtain ⟨hz, h⟩ := of_if h
      cases h
      have hlen := r.length
      rw [Array.length_toList] at hlen
      rw [sizeLine_eq, ← hlen] at hz
      rw [← hlen]
      exact PySem.Calls.call_len_list ⟨_, e, rfl, _, rfl⟩ (by omega) ⟨.tok _ _, .int _ _⟩
    | _ => exact no h
  | ord =>
    cases ha with
    | str i t =>
      generalize hq : ofStr i = l at h
      rcases l with _ | ⟨c, _ | ⟨_, _⟩⟩
      · exact no h
      · cases h
        obtain rfl := one_sign hq
        exact PySem.P.ord_of_char ⟨.tok _ _, .int _ _⟩
      · exact no h
    | _ => exact no h
  | str =>
    cases ha with
    | int i t =>
      obtain ⟨hz, h⟩ := of_if h
      cases h
      refine PySem.P.str_of_int ?_ ⟨.tok _ _, .strOf rfl⟩
      by_cases h0 : i.natAbs = 0
      · rw [h0]; decide +kernel
      · have := (Nat.log2_lt h0).mpr hz
        omega
    | _ => exact no h
  | sum =>
    cases ha with
    | list hx e r =>
      rename_i l items k ds
      · obtain ⟨_, h⟩ := of_if h
        obtain ⟨ns, hn, rfl⟩ := of_map h
        have hI := intsAre_of r hn
        obtain ⟨xs, hxs⟩ := (show AllInts items by simpa using hI.allInts).items
        have hs : (numsOf items.toList).sum = ns.sum := by rw [hI.numsOf]
        subst hxs
        refine sum_intListG hh ⟨_, e, rfl, _, rfl⟩ fun h' tk t' hk => ⟨.of hk, ?_⟩
        rw [preSum_eq, List.take_of_length_le (by simp), ← nums_intItems, hs]
        exact .int _ _
    | _ => exact no h
end ops
end Mine
end
section
open PySem PySem.W PyProof.Rows
namespace Mine
open Builtin Builtin.Str

theorem joinL_eq (sep : Str) : ∀ ss : List Str, ofStr (Str.join sep ss) = joinL (ofStr sep) (ss.map ofStr)
  | [] => rfl
  | [a] => rfl
  | a :: b :: r => by
    show ofStr (a ++ sep ++ Str.join sep (b :: r)) = ofStr a ++ ofStr sep ++ joinL (ofStr sep) ((b :: r).map ofStr)
    rw [ofStr_append, ofStr_append, joinL_eq sep (b :: r)]

theorem strs_read {X : Addr → Prop} {h : Heap} (l : List (Str × Tok)) : RdAll X h (strValues l) ((l.map (·.1)).map fun x => D.str (ofStr x)) := by
  induction l with
  | nil => exact .nil
  | cons p r ih => exact .cons (.str _ _) ih

theorem strs_of {X : Addr → Prop} {h : Heap} {vs : List Value} {ds : List D} {ss : List (List Nat)} (r : RdAll X h vs ds) (e : strsOf ds = some ss) : ∃ l : List (Str × Tok), vs = strValues l ∧ (l.map (·.1)).map ofStr = ss := by
  induction ds generalizing vs ss with
  | nil => cases r; cases e; exact ⟨[], rfl, rfl⟩
  | cons d ds ih =>
    cases r with
    | cons a r =>
      cases a with
      | str x t =>
        obtain ⟨ms, hm, rfl⟩ := of_map e
        obtain ⟨l, rfl, rfl⟩ := ih r hm
        exact ⟨(x, t) :: l, rfl, rfl⟩
      | _ => exact no e

section ops
variable {prog : Program} {w : World} {A : Around} {E : Value → Shared → Prop} {s : Shared} {X : Addr → Prop} {env : Env}

theorem op_split {x y : Str} {t u : Tok} (hX : XIn X s.heap) (hy : y.length ≠ 0) (hz : x.length ≤ 1000000) :
    wpAny (model prog w) A (call (.builtin "str.split") [.str x t, .str y u]) (Gives' X s (.list ((Txt.split x y).map fun z => .str (ofStr z)))) E s := by
  have hy' : (y.length == 0) = false := by simpa using hy
  have fin : ∀ (l : List (Str × Tok)) (k : Nat), l.map (·.1) = Txt.split x y →
      Gives' X s (.list ((Txt.split x y).map fun z => .str (ofStr z))) (.ref s.heap.objs.size) { s with toks := k, heap := s.heap.push { cls := .type "list", data := .seq (strValues l).toArray } } := by
    intro l k hl
    refine ⟨.pushT _ _ _, .list hX.fresh (Heap.get?_push_size _ rfl) ?_⟩
    rw [← hl]
    exact strs_read l
  cases h1 : (decide (x.length < y.length) || decide (strKind x < strKind y))
  · cases hf : (occurrences x y 0 x.length (x.length + 1)).isEmpty
    · refine call_meets F.slot_str_split (typeIs_str _ _ _) F.entry_str_split (F.args_str_split_2 _ _) (meets_str_split_sep x y t u h1 hy' hf (by rw [sizeLine_eq]; omega) ?_) ?_
      · show (((0 :: (occurrences x y 0 x.length (x.length + 1)).map (· + y.length)).zip ((occurrences x y 0 x.length (x.length + 1)) ++ [x.length])).map fun p => strSub x p.1 p.2).length ≤ sizeLine
        have := StrLaws.occ_length_le x y 0 x.length (x.length + 1)
        rw [sizeLine_eq]
        simp only [List.length_map, List.length_zip, List.length_cons, List.length_append, List.length_nil]
        lia
      · show wants (Gives' X s _) E _ { s with toks := _, heap := s.heap.push { cls := .type "list", data := .seq (strsFrom s.toks (partsBetween x (occurrences x y 0 x.length (x.length + 1)) y.length)).toArray } }
        rw [strsFrom_eq]
        exact fin (numbered s.toks _) _ ((numbered_texts _ _).trans ((if_neg (ne_true_of_eq_false h1)).trans (if_neg (ne_true_of_eq_false hf))).symm)
    · exact call_meets F.slot_str_split (typeIs_str _ _ _) F.entry_str_split (F.args_str_split_2 _ _) (meets_str_split_not_found x y t u h1 hy' hf)
        (fin [(x, t)] _ ((if_neg (ne_true_of_eq_false h1)).trans (if_pos hf)).symm)
  · exact call_meets F.slot_str_split (typeIs_str _ _ _) F.entry_str_split (F.args_str_split_2 _ _) (meets_str_split_cannot_occur x y t u h1)
      (fin [(x, t)] _ (if_pos h1).symm)

/-- the built-in that a method's name stands for -/
noncomputable def meId : Me → String
  | .split => "str.split"
  | .join => "str.join"
  | .find => "str.find"
  | .upper => "str.upper"

theorem methodD_str {m : Me} {x d : D} {ds : List D} (h : methodD m x ds = some d) : ∃ l, x = .str l := by
  cases x with
  | str l => exact ⟨l, rfl⟩
  | _ => cases m <;> exact no h
theorem methodD_one {m : Me} (hm : m ≠ .upper) {l : List Nat} {d : D} {ds : List D} (h : methodD m (.str l) ds = some d) : ∃ y, ds = [y] := by
  rcases ds with _ | ⟨y, _ | ⟨z, r⟩⟩
  · cases m with
    | upper => exact absurd rfl hm
    | _ => exact no h
  · exact ⟨y, rfl⟩
  · cases m with
    | upper => exact absurd rfl hm
    | _ => cases y <;> exact no h
theorem op_method {m : Me} {a : Value} {vs : List Value} {x d : D} {ds : List D} (ha : Rd X s.heap a x) (hv : RdAll X s.heap vs ds) (hX : XIn X s.heap) (h : methodD m x ds = some d) :
    wpAny (model prog w) A (call (.builtin (meId m)) (a :: vs)) (Gives' X s d) E s := by
  obtain ⟨l, rfl⟩ := methodD_str h
  cases ha with
  | str i t =>
    cases m with
    | upper =>
      cases hv with
      | nil =>
        obtain ⟨hz, h⟩ := of_if h
        rw [ofStr_length] at hz
        cases h
        unfold upperL
        rw [toStr_ofStr]
        exact SC.upper (fit_upper (Nat.le_trans hz (by decide))) ⟨.tok _ _, .strOf rfl⟩
      | cons hb r => exact no h
    | split =>
      obtain ⟨y, rfl⟩ := methodD_one (by intro e; cases e) h
      cases hv with
      | cons hb r =>
        cases r
        cases hb with
        | str j u =>
          obtain ⟨hz, h⟩ := of_ifn h
          rw [ofStr_length, ofStr_length] at hz
          cases h
          have := op_split (prog := prog) (w := w) (A := A) (E := E) (s := s) (x := i) (y := j) (t := t) (u := u) hX (fun e => hz (.inl e)) (Nat.not_lt.mp fun e => hz (.inr e))
          unfold splitL
          rw [toStr_ofStr, toStr_ofStr, List.map_map]
          exact this
        | _ => exact no h
    | join =>
      obtain ⟨y, rfl⟩ := methodD_one (by intro e; cases e) h
      cases hv with
      | cons hb r =>
        cases r
        cases hb with
        | list hx e r =>
          obtain ⟨ss, hs, h⟩ := of_bind h
          obtain ⟨hz, h⟩ := of_if h
          rw [ofStr_length] at hz
          cases h
          obtain ⟨l, hl, hss⟩ := strs_of r hs
          refine SC.join (l := l) (texts := l.map (·.1)) ⟨_, e, rfl, _, by rw [← hl]⟩ rfl ?_ fun t' k => ⟨.tok _ _, .strOf ?_⟩
          · unfold JoinOk
            rw [StrLaws.joinTotal]
            have e1 : (ss.map List.length).sum = ((l.map (·.1)).map (·.length)).sum := by
              rw [← hss, List.map_map]
              exact congrArg List.sum (List.map_congr_left fun z _ => ofStr_length z)
            have e2 : ss.length = (l.map (·.1)).length := by rw [← hss]; exact List.length_map _
            rw [e1, e2] at hz
            rw [Bool.not_eq_true']
            exact decide_eq_false (Nat.not_lt.mpr hz)
          · show ofStr (glued i _) = _
            rw [StrLaws.glued_eq_join, joinL_eq, hss]
        | _ => exact no h
    | find =>
      obtain ⟨y, rfl⟩ := methodD_one (by intro e; cases e) h
      cases hv with
      | cons hb r =>
        cases r
        cases hb with
        | str j u =>
          cases h
          unfold findL
          rw [toStr_ofStr, toStr_ofStr]
          exact SC.find ⟨.tok _ _, .int _ _⟩
        | _ => exact no h
end ops
end Mine
end
section
open PySem PySem.W PyProof.Rows
namespace Mine

theorem mapM'_get {α β : Type} {f : α → Option β} : ∀ {l : List α} {r : List β}, mapM' f l = some r → l.length = r.length ∧ ∀ (i : Nat) (a : α), l[i]? = some a → ∃ b, f a = some b ∧ r[i]? = some b
  | [], r, h => by cases h; exact ⟨rfl, fun i a h => no h⟩
  | a :: l, r, h => by
    obtain ⟨b, hb, h⟩ := of_bind h
    obtain ⟨bs, hbs, h⟩ := of_bind h
    cases h
    obtain ⟨h1, h2⟩ := mapM'_get hbs
    refine ⟨congrArg (· + 1) h1, fun i x hx => ?_⟩
    cases i with
    | zero => cases hx; exact ⟨b, hb, rfl⟩
    | succ i => exact h2 i x hx

theorem Rd.inj {X X' : Addr → Prop} {h : Heap} {v d d'} (r : Rd X h v d) (r' : Rd X' h v d') : d = d' := by
  refine Rd.rec (motive_1 := fun v d _ => ∀ d', Rd X' h v d' → d = d') (motive_2 := fun v d _ => ∀ d', RdAll X' h v d' → d = d') ?_ ?_ ?_ ?_ ?_ ?_ ?_ ?_ r d' r'
  · intro d' q; cases q; rfl
  · intro b d' q; cases q; rfl
  · intro i t d' q; cases q; rfl
  · intro x t d' q; cases q; rfl
  · intro a vs n ds hx e _ ih d' q
    cases q with
    | list hx' e' r' =>
      cases e.symm.trans e'
      rw [ih _ r']
    | tuple hx' e' r' => exact absurd (Value.type.inj (congrArg Obj.cls (Option.some.inj (e.symm.trans e')))) (by decide)
  · intro a vs n ds hx e _ ih d' q
    cases q with
    | tuple hx' e' r' =>
      cases e.symm.trans e'
      rw [ih _ r']
    | list hx' e' r' => exact absurd (Value.type.inj (congrArg Obj.cls (Option.some.inj (e.symm.trans e')))) (by decide)
  · intro d' q; cases q; rfl
  · intro v d vs ds _ _ i1 i2 d' q
    cases q with
    | cons a' r' => rw [i1 _ a', i2 _ r']

/-- a value that is no object reads alike in every heap -/
theorem Rd.anyHeap {X X' : Addr → Prop} {h h' : Heap} {v d} (r : Rd X h v d) (hs : scal d = true) : Rd X' h' v d := by
  cases r with
  | none => exact .none
  | bool b => exact .bool b
  | int i t => exact .int i t
  | str x t => exact .str x t
  | list _ _ _ => exact Bool.noConfusion hs
  | tuple _ _ _ => exact Bool.noConfusion hs

/-- what the program's top has laid -/
structure FnIs (r : FnRec) (fd : FuncData) (h : Heap) : Prop where
  body : fd.body = .stmts r.body
  scope : fd.scope = r.scope
  closure : fd.closure = []
  globals : fd.globals = mainGlobals
  builtins : fd.builtins = builtinsNs
  code : h.CodeRec fd.code fd.qualname
  co : r.scope.isCoroutine = false
  gen : r.scope.isGenerator = false
  kind : r.scope.kind = .function
  nodup : r.params.Nodup
  names : ∀ p ∈ r.params, r.scope.names.lookup p = some .local ∨ r.scope.names.lookup p = some .cell
  binds : ∀ (prog : Program) (w : World) (A : Around) (E : Value → Shared → Prop) (s : Shared) (Q : List (Str × Value) → Shared → Prop) (vals : List Value), Ext h s.heap →
    vals.length ≤ r.params.length → r.params.length ≤ vals.length + r.dflts.length →
    (∀ dv, RdAll (fun _ => True) s.heap dv (r.dflts.drop (vals.length + r.dflts.length - r.params.length)) → Q (r.params.zip (vals ++ dv)) s) →
    wpAny (model prog w) A (bindArgs fd ⟨vals, []⟩) Q E s

structure Glo (tab : List FnRec) (mg mb : Str → Option Value) (h : Heap) : Prop where
  g : h.Ns mainGlobals mg
  b : h.Ns builtinsNs mb
  nolimit : h.NoLimit
  bi : ∀ f b, biOf f = some b → mg f = none ∧ mb f = some (biVal b)
  range : mg (Str.ofString "range") = none ∧ mb (Str.ofString "range") = some (.type "range")
  enum : mg (Str.ofString "enumerate") = none ∧ mb (Str.ofString "enumerate") = some (.type "enumerate")
  fn : ∀ f r, (tab.find? fun r => r.name == f) = some r → ∃ a o fd, mg f = some (.ref a) ∧ h.get? a = some o ∧ o.data = .func fd ∧ FnIs r fd h

theorem FnIs.ext {r : FnRec} {fd : FuncData} {h h' : Heap} (x : FnIs r fd h) (e : Ext h h') : FnIs r fd h' :=
  { x with code := x.code.keeps e, binds := fun prog w A E s Q vals he => x.binds prog w A E s Q vals (e.trans he) }
theorem Glo.ext {tab : List FnRec} {mg mb : Str → Option Value} {h h' : Heap} (x : Glo tab mg mb h) (e : Ext h h') : Glo tab mg mb h' where
  g := x.g.keeps e
  b := x.b.keeps e
  nolimit := x.nolimit.keeps e
  bi := x.bi
  range := x.range
  enum := x.enum
  fn := fun f r hf => let ⟨a, o, fd, h1, h2, h3, h4⟩ := x.fn f r hf; ⟨a, o, fd, h1, e _ _ h2, h3, h4.ext e⟩

/-- the names of a frame (or of a comprehension in it) -/
structure EnvOk (X : Addr → Prop) (env : Env) (ρ : Ro) (h : Heap) : Prop where
  kind : env.scope.kind = .function
  gl : env.globals = mainGlobals
  bi : env.builtins = builtinsNs
  cells : ∀ x, env.kindOf x = some .cell → (env.cells.lookup x).isSome = true
  var : ∀ x d, ρ x = some d → ∃ v, Rd X h v d ∧ ((env.kindOf x = some .local ∧ ∃ m, h.Ns env.locals m ∧ m x = some v) ∨ (env.kindOf x = some .cell ∧ ∃ c, env.cells.lookup x = some c ∧ h.IsCell c (some v)))
theorem EnvOk.ext {X : Addr → Prop} {env : Env} {ρ : Ro} {h h' : Heap} (x : EnvOk X env ρ h) (e : Ext h h') : EnvOk X env ρ h' := by
  refine ⟨x.kind, x.gl, x.bi, x.cells, fun y d hy => ?_⟩
  obtain ⟨v, r, q⟩ := x.var y d hy
  exact ⟨v, r.ext e, q.imp (fun ⟨a, m, b, c⟩ => ⟨a, m, b.keeps e, c⟩) fun ⟨a, c, b, d⟩ => ⟨a, c, b, d.keeps e⟩⟩

section sound
variable (prog : Program) (w : World) (tab : List FnRec) (mg mb : Str → Option Value) (k : Nat)
noncomputable def SoundEv (ev : Kd → Ro → Expr → Option D) : Prop :=
  ∀ (A : Around) (E : Value → Shared → Prop) (s : Shared) (X : Addr → Prop) (env : Env) (ρ : Ro) (e : Expr) (d : D), Room k A → Glo tab mg mb s.heap → EnvOk X env ρ s.heap → XIn X s.heap →
    ev env.kindOf ρ e = some d → wpAny (model prog w) A (eval e env) (Gives' X s d) E s
noncomputable def SoundTe (te : Kd → Ro → Expr → Option Bool) : Prop :=
  ∀ (A : Around) (E : Value → Shared → Prop) (s : Shared) (X : Addr → Prop) (env : Env) (ρ : Ro) (e : Expr) (b : Bool), Room k A → Glo tab mg mb s.heap → EnvOk X env ρ s.heap → XIn X s.heap →
    te env.kindOf ρ e = some b → wpAny (model prog w) A (isTrue e env (eval e env)) (fun b' s' => Grew s s' ∧ b' = b) E s
noncomputable def SoundPhi (Φ : Phi) : Prop :=
  ∀ (h₀ : Heap) (f : Str) (ds : List D) (d : D), Glo tab mg mb h₀ → Φ f ds = some d → ∃ a, mg f = some (.ref a) ∧ (∀ h, Glo tab mg mb h → ∃ o fd, h.get? a = some o ∧ o.data = .func fd) ∧
    ∀ (A : Around) (E : Value → Shared → Prop) (s : Shared) (X : Addr → Prop) (vs : List Value), Room k A → Glo tab mg mb s.heap → XIn X s.heap → RdAll X s.heap vs ds →
      wpAny (model prog w) A (call (.ref a) vs) (Gives' X s d) E s
end sound

section
variable {prog : Program} {w : World} {tab : List FnRec} {mg mb : Str → Option Value} {k : Nat} {A : Around} {E : Value → Shared → Prop} {s : Shared} {X : Addr → Prop} {env : Env} {ρ : Ro}

theorem evs_sound {ev : Kd → Ro → Expr → Option D} (hev : SoundEv prog w tab mg mb k ev) (hA : Room k A) (pos : Pos) : ∀ (es : List Expr) (ds : List D) (s : Shared), Glo tab mg mb s.heap → EnvOk X env ρ s.heap → XIn X s.heap →
    es.all noStar = true → evs ev env.kindOf ρ es = some ds → wpAny (model prog w) A (spliced (backTo pos (starEach es env))) (fun vs s' => Grew s s' ∧ RdAll X s'.heap vs ds) E s
  | [], ds, s, hG, hE, hX, _, h => by
    cases h
    exact wpAny_items_nil ⟨.refl _, .nil⟩
  | e :: es, ds, s, hG, hE, hX, hn, h => by
    obtain ⟨d, hd, h⟩ := of_bind h
    obtain ⟨dr, hdr, h⟩ := of_bind h
    cases h
    obtain ⟨hn1, hn2⟩ := Bool.and_eq_true_iff.mp hn
    refine wpAny_items_cons (wpAny_mono (hev A E s X env ρ e d hA hG hE hX hd) (fun v s₁ h₁ => ?_) fun _ _ x => x) (by cases e <;> first | rfl | exact Bool.noConfusion hn1)
    obtain ⟨g1, r1⟩ := h₁
    refine wpAny_mono (evs_sound hev hA pos es dr s₁ (hG.ext g1.ext) (hE.ext g1.ext) (hX.ext g1.ext) hn2 hdr) (fun vs s₂ h₂ => ?_) fun _ _ x => x
    exact ⟨g1.trans h₂.1, .cons (r1.ext h₂.1.ext) h₂.2⟩

theorem evalArgs_sound {ev : Kd → Ro → Expr → Option D} (hev : SoundEv prog w tab mg mb k ev) (hA : Room k A) (f : Value) (pos : Pos) (es : List Expr) (ds : List D) (hG : Glo tab mg mb s.heap) (hE : EnvOk X env ρ s.heap) (hX : XIn X s.heap)
    (hn : es.all noStar = true) (h : evs ev env.kindOf ρ es = some ds) :
    wpAny (model prog w) A (evalArgs f true (backTo pos (starEach es env)) []) (fun a s' => a.kw = [] ∧ Grew s s' ∧ RdAll X s'.heap a.pos ds) E s ∧ (backTo pos (starEach es env)).any (·.1) = false := by
  have hb : ∀ es : List Expr, es.all noStar = true → (backTo pos (starEach es env)).any (·.1) = false := by
    intro es
    induction es with
    | nil => intro _; rfl
    | cons e es ih =>
      intro hn
      obtain ⟨hn1, hn2⟩ := Bool.and_eq_true_iff.mp hn
      have : starEach (e :: es) env = (false, eval e env) :: starEach es env := by cases e <;> first | rfl | exact Bool.noConfusion hn1
      rw [this]
      show (false || (backTo pos (starEach es env)).any (·.1)) = false
      rw [ih hn2]; rfl
  refine ⟨?_, hb es hn⟩
  have hs := evs_sound (E := E) hev hA pos es ds s hG hE hX hn h
  have h1 := hb es hn
  revert hs h1
  generalize backTo pos (starEach es env) = l
  intro hs h1
  match l, h1, hs with
  | [], _, hs =>
    unfold evalArgs
    show wpAny _ A (spliced [] >>= _) _ E s
    refine wpAny_bind (wpAny_mono hs (fun vs s' h' => ?_) fun _ _ x => x)
    refine wpAny_holding ?_
    exact wpAny_bind (wpAny_pure (wpAny_bind (wpAny_pure (wpAny_pure ⟨rfl, h'.1, h'.2⟩))))
  | (true, _) :: _, h, _ => simp at h
  | (false, x) :: rest, _, hs => exact Calls.evalArgs_plain (wpAny_mono hs (fun vs s' h' => ⟨rfl, h'.1, h'.2⟩) fun _ _ x => x)
end
end Mine
end
section
open PySem PySem.W PyProof.Rows
namespace Mine

/-- no name space of a frame, no cell -/
noncomputable def NotFrame (o : Obj) : Prop := (∀ es ep, o.data ≠ .dict es ep) ∧ (∀ v, o.data ≠ .cell v)
theorem NotFrame.seq {c : Value} {d : Option Addr} {xs : Array Value} {n : Nat} {sl : Array (Option Value)} : NotFrame ⟨c, d, .seq xs n, sl⟩ := ⟨fun _ _ x => (by cases x), fun _ x => (by cases x)⟩
theorem NotFrame.fields {c : Value} {d : Option Addr} {xs : Array Value} {sl : Array (Option Value)} : NotFrame ⟨c, d, .fields xs, sl⟩ := ⟨fun _ _ x => (by cases x), fun _ x => (by cases x)⟩

/-- an iterator over data -/
noncomputable def Itr (prog : Program) (w : World) (X : Addr → Prop) (s : Shared) (ds : List D) (it : Value) (s₂ : Shared) : Prop :=
  ∃ (I : Addr) (fp wr : List Addr) (P : Nat → Value → Prop) (St : Nat → Heap → Prop), it = .ref I ∧ (∀ A' : Around, A'.handled = none → Walks prog w A' I fp wr ds.length P St) ∧ ds.length ≤ sizeLine ∧
    St 0 s₂.heap ∧ (∀ i h, St i h → (∀ b ∈ fp, ∃ o, h.get? b = some o ∧ NotFrame o) ∧ ∀ b ∈ wr, ∃ o, h.get? b = some o ∧ ∀ vs n, o.data ≠ .seq vs n) ∧ (∀ b ∈ fp, ¬ X b) ∧ (∀ b ∈ wr, s.heap.get? b = none) ∧ Grew s s₂ ∧
    (∀ i v, P i v → ∃ d, ds[i]? = some d ∧ Rd X s₂.heap v d)

theorem NotFrame.ofSeq {o : Obj} {xs : Array Value} {n : Nat} (h : o.data = .seq xs n) : NotFrame o := ⟨fun _ _ x => (by rw [h] at x; cases x), fun _ x => (by rw [h] at x; cases x)⟩
theorem NotFrame.ofFields {o : Obj} {xs : Array Value} (h : o.data = .fields xs) : NotFrame o := ⟨fun _ _ x => (by rw [h] at x; cases x), fun _ x => (by rw [h] at x; cases x)⟩
theorem noSeq_fields {o : Obj} {xs : Array Value} (h : o.data = .fields xs) : ∀ vs n, o.data ≠ .seq vs n := fun _ _ x => (by rw [h] at x; cases x)

theorem Walks.bounded {prog : Program} {w : World} {A : Around} {I : Addr} {fp wr : List Addr} {n : Nat} {P : Nat → Value → Prop} {St : Nat → Heap → Prop} (W : Walks prog w A I fp wr n P St) :
    Walks prog w A I fp wr n (fun i v => i < n ∧ P i v) St where
  sub := W.sub
  frame := W.frame
  item := fun i s Q E hi st hQ => W.item i s Q E hi st fun v h' tk hP => hQ v h' tk ⟨hi, hP⟩
  done := W.done
  self := W.self

theorem fresh_none (h : Heap) : h.get? h.objs.size = none := by
  cases e : h.get? h.objs.size with
  | none => rfl
  | some o => exact absurd (Heap.lt_size e) (Nat.lt_irrefl _)

section
variable {prog : Program} {w : World} {A : Around} {E : Value → Shared → Prop} {s₀ s : Shared} {X : Addr → Prop}

theorem itr_list {a : Addr} {items : Array Value} {k : Nat} {ds : List D} (hg : Grew s₀ s) (hX : XIn X s.heap) (hx : ¬ X a) (e : s.heap.get? a = some { cls := .type "list", data := .seq items k }) (r : RdAll X s.heap items.toList ds)
    (hz : ds.length ≤ sizeLine) : wpAny (model prog w) A (pyIter (.ref a)) (Itr prog w X s₀ ds) E s := by
  have hlen := r.length
  rw [Array.length_toList] at hlen
  have hne : a ≠ s.heap.objs.size := Nat.ne_of_lt (Heap.lt_size e)
  refine wpAny_pyIter_list ⟨_, e, rfl, _, rfl⟩ ?_
  refine ⟨s.heap.objs.size, [s.heap.objs.size, a], [s.heap.objs.size], (fun i v => items[i]? = some v), (fun i h => h.IsListIter s.heap.objs.size a i ∧ h.IsList a items), rfl, fun A' hA => by rw [← hlen]; exact Walks.list hA s.heap.objs.size a hne items, hz, ⟨⟨_, Heap.get?_push_size _ rfl, rfl, rfl⟩, _, Heap.get?_push_of_some _ e, rfl, _, rfl⟩, ?_, ?_, ?_, hg.trans (.push _ _), fun i v hP => ?_⟩
  · rintro i h ⟨⟨o, ho, _, hd⟩, o', ho', _, n', hd'⟩
    refine ⟨fun b hb => ?_, fun b hb => ?_⟩
    · simp only [List.mem_cons, List.not_mem_nil, or_false] at hb
      rcases hb with rfl | rfl
      · exact ⟨o, ho, .ofFields hd⟩
      · exact ⟨o', ho', .ofSeq hd'⟩
    · simp only [List.mem_cons, List.not_mem_nil, or_false] at hb
      subst hb
      exact ⟨o, ho, noSeq_fields hd⟩
  · intro b hb
    simp only [List.mem_cons, List.not_mem_nil, or_false] at hb
    rcases hb with rfl | rfl
    · exact hX.fresh
    · exact hx
  · intro b hb
    simp only [List.mem_cons, List.not_mem_nil, or_false] at hb
    subst hb
    cases q : s₀.heap.get? s.heap.objs.size with
    | none => rfl
    | some o => exact absurd (Heap.lt_size (hg.ext _ _ q)) (Nat.lt_irrefl _)
  · obtain ⟨d, hd, rd⟩ := r.getV (i := i) (v := v) (by simpa using hP)
    exact ⟨d, hd, rd.ext (Ext.push _ _)⟩

theorem itr_tuple {a : Addr} {items : Array Value} {k : Nat} {ds : List D} (hg : Grew s₀ s) (hX : XIn X s.heap) (hx : ¬ X a) (e : s.heap.get? a = some { cls := .type "tuple", data := .seq items k }) (r : RdAll X s.heap items.toList ds)
    (hz : ds.length ≤ sizeLine) : wpAny (model prog w) A (pyIter (.ref a)) (Itr prog w X s₀ ds) E s := by
  have hlen := r.length
  rw [Array.length_toList] at hlen
  have hne : a ≠ s.heap.objs.size := Nat.ne_of_lt (Heap.lt_size e)
  refine wpAny_pyIter_tuple ⟨_, e, rfl, _, rfl⟩ ?_
  refine ⟨s.heap.objs.size, [s.heap.objs.size, a], [s.heap.objs.size], (fun i v => items[i]? = some v), (fun i h => h.IsTupleIter s.heap.objs.size a i ∧ h.IsTuple a items), rfl, fun A' hA => by rw [← hlen]; exact Walks.tuple hA s.heap.objs.size a hne items, hz, ⟨⟨_, Heap.get?_push_size _ rfl, rfl, rfl⟩, _, Heap.get?_push_of_some _ e, rfl, _, rfl⟩, ?_, ?_, ?_, hg.trans (.push _ _), fun i v hP => ?_⟩
  · rintro i h ⟨⟨o, ho, _, hd⟩, o', ho', _, n', hd'⟩
    refine ⟨fun b hb => ?_, fun b hb => ?_⟩
    · simp only [List.mem_cons, List.not_mem_nil, or_false] at hb
      rcases hb with rfl | rfl
      · exact ⟨o, ho, .ofFields hd⟩
      · exact ⟨o', ho', .ofSeq hd'⟩
    · simp only [List.mem_cons, List.not_mem_nil, or_false] at hb
      subst hb
      exact ⟨o, ho, noSeq_fields hd⟩
  · intro b hb
    simp only [List.mem_cons, List.not_mem_nil, or_false] at hb
    rcases hb with rfl | rfl
    · exact hX.fresh
    · exact hx
  · intro b hb
    simp only [List.mem_cons, List.not_mem_nil, or_false] at hb
    subst hb
    cases q : s₀.heap.get? s.heap.objs.size with
    | none => rfl
    | some o => exact absurd (Heap.lt_size (hg.ext _ _ q)) (Nat.lt_irrefl _)
  · obtain ⟨d, hd, rd⟩ := r.getV (i := i) (v := v) (by simpa using hP)
    exact ⟨d, hd, rd.ext (Ext.push _ _)⟩

theorem itr_one {o : Obj} {n : Nat} {ds : List D} {P : Nat → Value → Prop} {St : Nat → Heap → Prop} (hg : Grew s₀ s) (hX : XIn X s.heap) (hn : n = ds.length)
    (W : ∀ A' : Around, A'.handled = none → Walks prog w A' s.heap.objs.size [s.heap.objs.size] [s.heap.objs.size] n P St) (hz : ds.length ≤ sizeLine) (hSt : ∀ i h, St i h → ∃ o, h.get? s.heap.objs.size = some o ∧ ∃ vs, o.data = .fields vs)
    (hst : St 0 (s.heap.push o)) (hP : ∀ i v, P i v → ∃ d, ds[i]? = some d ∧ Rd X (s.heap.push o) v d) : Itr prog w X s₀ ds (.ref s.heap.objs.size) { s with heap := s.heap.push o } := by
  subst hn
  refine ⟨s.heap.objs.size, [s.heap.objs.size], [s.heap.objs.size], P, St, rfl, W, hz, hst, ?_, ?_, ?_, hg.trans (.push _ _), hP⟩
  · intro i h hsti
    obtain ⟨o, ho, vs, hd⟩ := hSt i h hsti
    refine ⟨fun b hb => ?_, fun b hb => ?_⟩
    · simp only [List.mem_cons, List.not_mem_nil, or_false] at hb
      subst hb
      exact ⟨o, ho, .ofFields hd⟩
    · simp only [List.mem_cons, List.not_mem_nil, or_false] at hb
      subst hb
      exact ⟨o, ho, noSeq_fields hd⟩
  · intro b hb
    simp only [List.mem_cons, List.not_mem_nil, or_false] at hb
    subst hb
    exact hX.fresh
  · intro b hb
    simp only [List.mem_cons, List.not_mem_nil, or_false] at hb
    subst hb
    cases q : s₀.heap.get? s.heap.objs.size with
    | none => rfl
    | some o => exact absurd (Heap.lt_size (hg.ext _ _ q)) (Nat.lt_irrefl _)

theorem signAt_read {x : Str} {h : Heap} : ∀ i v, SignAt x i v → ∃ d, ((ofStr x).map fun c => D.str [c])[i]? = some d ∧ Rd X h v d := by
  rintro i v ⟨c, u, hc, rfl⟩
  refine ⟨.str [c], ?_, .strOf rfl⟩
  rw [List.getElem?_map]
  have : (ofStr x)[i]? = some c := by simpa [ofStr] using hc
  rw [this]; rfl

theorem itr_str {x : Str} {t : Tok} (hg : Grew s₀ s) (hX : XIn X s.heap) (hz : (ofStr x).length ≤ sizeLine) :
    wpAny (model prog w) A (pyIter (.str x t)) (Itr prog w X s₀ ((ofStr x).map fun c => .str [c])) E s := by
  have hn : x.cps.size = ((ofStr x).map fun c => D.str [c]).length := by simp [ofStr]
  have hz' : ((ofStr x).map fun c => D.str [c]).length ≤ sizeLine := by simpa using hz
  cases ha : x.cps.all (· < 128)
  · exact wpAny_pyIter_wide ha (itr_one hg hX hn (fun A' hA => Walks.strWide hA _ x t) hz' (fun i h ⟨o, ho, _, hd⟩ => ⟨o, ho, _, hd⟩) ⟨_, Heap.get?_push_size _ rfl, rfl, rfl⟩ signAt_read)
  · exact wpAny_pyIter_ascii ha (itr_one hg hX hn (fun A' hA => Walks.strAscii hA _ x t) hz' (fun i h ⟨o, ho, _, hd⟩ => ⟨o, ho, _, hd⟩) ⟨_, Heap.get?_push_size _ rfl, rfl, rfl⟩ signAt_read)

theorem fits {x : Int} (h : x.natAbs < 2 ^ 24) : Builtin.Range.rangeFitsLong x = true := by
  have h2 : -(2 ^ 63 : Int) ≤ x ∧ x < 2 ^ 63 := by omega
  unfold Builtin.Range.rangeFitsLong
  simp only [Bool.and_eq_true, decide_eq_true_eq]
  exact h2

theorem itr_range {r : Addr} {a b c : Int} {t u v : Tok} (hg : Grew s₀ s) (hX : XIn X s.heap) (hr : IsRange s.heap r a b c t u v) (hs : Builtin.Range.small a b c = true)
    (h0 : 0 ≤ Builtin.Range.rangeSize a b c) (hz : (Builtin.Range.rangeSize a b c).toNat ≤ sizeLine) :
    wpAny (model prog w) A (pyIter (.ref r)) (Itr prog w X s₀ ((List.range (Builtin.Range.rangeSize a b c).toNat).map fun (k : Nat) => .int (a + k * c))) E s := by
  refine wpAny_pyIter_range hr hs (itr_one (n := (Builtin.Range.rangeSize a b c).toNat) hg hX (by simp) (fun A' hA => Walks.bounded (Walks.range hA s.heap.objs.size a c _)) (by simpa using hz) (fun i h hi => ⟨_, hi, _, rfl⟩) ?_ ?_)
  · have h1 : a + ((0 : Nat) : Int) * c = a := by simp
    have h2 : (((Builtin.Range.rangeSize a b c).toNat : Nat) : Int) - ((0 : Nat) : Int) = Builtin.Range.rangeSize a b c := by rw [Int.toNat_of_nonneg h0]; simp
    rw [h1, h2]
    exact Heap.get?_push_size _ rfl
  · rintro i v ⟨hi, t, rfl⟩
    refine ⟨.int (a + i * c), ?_, .int _ _⟩
    rw [List.getElem?_map, List.getElem?_range hi]
    rfl

theorem range_run {r : Addr} {a b c : Int} {t u v : Tok} {n : Nat} {out : List D} (hg : Grew s₀ s) (hX : XIn X s.heap) (hr : IsRange s.heap r a b c t u v) (hs : Builtin.Range.small a b c = true)
    (hn : Builtin.Range.rangeSize a b c = (n : Int)) (hz : n ≤ sizeLine) (ho : out = (List.range n).map fun (k : Nat) => .int (a + k * c)) :
    wpAny (model prog w) A (pyIter (.ref r)) (Itr prog w X s₀ out) E s := by
  have h1 : (Builtin.Range.rangeSize a b c).toNat = n := by rw [hn]; rfl
  have := itr_range (prog := prog) (w := w) (A := A) (E := E) hg hX hr hs (by rw [hn]; exact Int.natCast_nonneg n) (by rw [h1]; exact hz)
  rw [h1] at this
  rw [ho]
  exact this
theorem size_up {a b : Int} : Builtin.Range.rangeSize a b 1 = ((b - a).toNat : Int) := by
  rw [rangeSize_one]
  split <;> omega
theorem size_down {a b : Int} : Builtin.Range.rangeSize a b (-1) = ((a - b).toNat : Int) := by
  unfold Builtin.Range.rangeSize
  rw [if_neg (by decide)]
  simp only [Int.neg_neg, Int.ediv_one]
  split <;> omega
theorem size_le {a b : Int} (ha : a.natAbs < 2 ^ 20) (hb : b.natAbs < 2 ^ 20) : (a - b).toNat ≤ sizeLine ∧ (a - b).toNat < 2 ^ 22 := by
  rw [sizeLine_eq]
  omega
theorem small_up {a b : Int} (ha : a.natAbs < 2 ^ 20) (hb : b.natAbs < 2 ^ 20) : Builtin.Range.small a b 1 = true := small_one (by omega) (by omega) (by omega) (by omega)
theorem op_range {vs : List Value} {ds out : List D} (hg : Grew s₀ s) (hX : XIn X s.heap) (hv : RdAll X s.heap vs ds) (h : rangeD ds = some out) :
    wpAny (model prog w) A (call (.type "range") vs) (fun xv s₁ => wpAny (model prog w) A (pyIter xv) (Itr prog w X s₀ out) E s₁) E s := by
  cases hv with
  | nil => exact no h
  | cons h1 r1 =>
    cases r1 with
    | nil =>
      cases h1 with
      | int b t =>
        obtain ⟨hb, h⟩ := of_if h
        cases h
        refine call_range_1 (range_run (hg.trans (.pushT s _ (s.toks + 1 + 1))) (hX.ext (Ext.push _ _)) (IsRange.new s.heap 0 b 1 s.toks t (s.toks + 1)) (small_up (by decide) hb) size_up (size_le hb (by decide)).1 ?_)
        exact List.map_congr_left fun k _ => by rw [Int.mul_one]
      | _ => exact no h
    | cons h2 r2 =>
      cases h1 with
      | int a t =>
        cases r2 with
        | nil =>
          cases h2 with
          | int b u =>
            obtain ⟨⟨ha, hb⟩, h⟩ := of_if h
            cases h
            refine call_range_2 (range_run (hg.trans (.pushT s _ (s.toks + 1))) (hX.ext (Ext.push _ _)) (IsRange.new s.heap a b 1 t u s.toks) (small_up ha hb) size_up (size_le hb ha).1 ?_)
            exact List.map_congr_left fun k _ => by rw [Int.mul_one]
          | _ => exact no h
        | cons h3 r3 =>
          cases h2 with
          | int b u =>
            cases r3 with
            | cons h4 r4 => cases h3 <;> exact no h
            | nil =>
              cases h3 with
              | int c v =>
                obtain ⟨⟨ha, hb, rfl⟩, h'⟩ := of_if h
                cases h'
                have hl := size_le ha hb
                refine call_range_3 (by decide) (range_run (hg.trans (.pushT s _ s.toks)) (hX.ext (Ext.push _ _)) (IsRange.new s.heap a b (-1) t u v) ?_ size_down hl.1 ?_) (.inl (PyProof.noPylong_of_log2 (by decide +kernel)))
                · unfold Builtin.Range.small
                  rw [fits (Nat.lt_trans ha (by decide)), fits (Nat.lt_trans hb (by decide)), fits (by decide), fits (x := Builtin.Range.rangeSize a b (-1)) (by rw [size_down]; exact Nat.lt_trans hl.2 (by decide)), if_neg (by decide), fits (by lia)]
                  exact Bool.or_true _
                · refine List.map_congr_left fun k _ => ?_
                  rw [Int.mul_neg, Int.mul_one]
                  rfl
              | _ => exact no h
          | _ => cases r3 <;> exact no h
      | _ => cases r2 <;> exact no h
end

section
variable {M : Model} {A : Around} {E : Value → Shared → Prop} {s : Shared}
theorem callWith_val {pos : Pos} {f : Value} (hf : ∀ a, f ≠ .ref a) {args : List (Bool × Sem Value)} {Q : Value → Shared → Prop} (hplain : args.any (·.1) = false)
    (h : wpAny M A (evalArgs f true args []) (fun a s₁ => wpAny M A (call f a.pos a.kw) Q E s₁) E s) :
    wpAny M A (callWith pos f [] args []) Q E s := by
  have hk : keeperOf f = pure .machine := by
    unfold keeperOf
    cases f <;> first | rfl | exact absurd rfl (hf _)
  unfold callWith
  refine wpAny_bind (wpAny_holding (wpAny_mono h (fun a s₁ h₁ => wpAny_bind (wpAny_standAt ?_)) fun _ _ x => x))
  simp only [hplain, List.any_nil, Bool.or_false, hk, List.nil_append]
  refine wpAny_bind (wpAny_pure ?_)
  exact wpAny_bind (wpAny_mono h₁ (fun r s₂ hr => wpAny_bind (wpAny_holding (wpAny_point (wpAny_pure hr)))) fun _ _ x => x)
end
end Mine
end
section
open PySem PySem.W PyProof.Rows
namespace Mine

theorem closure_go (env : Env) : ∀ (names : List (Str × NameKind)) (acc : List (Str × Addr)), (∀ p ∈ names, p.2 = .free → (env.cells.lookup p.1).isSome = true) →
    ∃ cl, (forIn names acc (fun (p : Str × NameKind) (cs : List (Str × Addr)) => if p.2 == .free then (do let c ← cellOf env p.1; pure (.yield ((p.1, c) :: cs))) else pure (.yield cs)) : Sem (List (Str × Addr))) = pure cl ∧
      ∀ y, cl.lookup y = if (names.any fun p => p.1 == y && p.2 == .free) = true then env.cells.lookup y else acc.lookup y
  | [], acc, _ => ⟨acc, rfl, fun y => rfl⟩
  | (n, k) :: r, acc, h => by
    have hr : ∀ p ∈ r, p.2 = .free → (env.cells.lookup p.1).isSome = true := fun p hp => h p (List.mem_cons_of_mem _ hp)
    by_cases hk : k = .free
    · subst hk
      obtain ⟨c, hc⟩ := Option.isSome_iff_exists.mp (h (n, .free) List.mem_cons_self rfl)
      obtain ⟨cl, e, hl⟩ := closure_go env r ((n, c) :: acc) hr
      refine ⟨cl, ?_, fun y => ?_⟩
      · rw [List.forIn_cons]
        have hco : cellOf env n = pure c := by unfold cellOf; simp only at hc; rw [hc]
        have hf : ((NameKind.free : NameKind) == .free) = true := rfl
        simp only [hf, if_true, hco, pure_bind]
        exact e
      · rw [hl y]
        by_cases hy : (r.any fun p => p.1 == y && p.2 == .free) = true
        · rw [if_pos hy, if_pos (by rw [List.any_cons, hy, Bool.or_true])]
        · rw [if_neg hy]
          by_cases hn : n = y
          · subst hn
            rw [if_pos (by simp), List.lookup_cons]
            simpa using hc.symm
          · have h1 : (y == n) = false := by simpa using Ne.symm hn
            have h2 : (n == y) = false := by simpa using hn
            rw [List.lookup_cons, h1, if_neg (by simp only [List.any_cons, h2, Bool.false_and, Bool.false_or]; exact hy)]
    · have hkf : (k == NameKind.free) = false := by simpa using hk
      obtain ⟨cl, e, hl⟩ := closure_go env r acc hr
      refine ⟨cl, ?_, fun y => ?_⟩
      · rw [List.forIn_cons]
        simp only [hkf, Bool.false_eq_true, if_false, pure_bind]
        exact e
      · rw [hl y]
        simp only [List.any_cons, hkf, Bool.and_false, Bool.false_or]

theorem lookup_mem {α : Type} {y : Str} {k : α} : ∀ {l : List (Str × α)}, l.lookup y = some k → (y, k) ∈ l := fun h => mem_of_lookup h

theorem closure_of {env : Env} {sc : Scope} (h : ∀ p ∈ sc.names, p.2 = .free → (env.cells.lookup p.1).isSome = true) :
    ∃ cl, closureFor sc env = pure cl ∧ ∀ y, sc.names.lookup y = some .free → cl.lookup y = env.cells.lookup y := by
  obtain ⟨cl, e, hl⟩ := closure_go env sc.names [] h
  refine ⟨cl, ?_, fun y hy => ?_⟩
  · unfold closureFor
    simp only [bind_pure_comp] at e ⊢
    have e2 := congrArg (fun m : Sem (List (Str × Addr)) => id <$> m) e
    simp only [id_map] at e2
    first | exact e2 | (simpa using e2)
  · rw [hl y, if_pos]
    exact List.any_eq_true.mpr ⟨(y, .free), lookup_mem hy, by simp⟩

theorem kindOf_in {env : Env} {sc : Scope} {cl : List (Str × Addr)} {C : Addr} (hk : env.scope.kind = .function) : (compEnvC sc cl C env).kindOf = kdIn env.kindOf sc := by
  funext x
  show (relabel sc env).names.lookup x = _
  unfold relabel kdIn
  simp only
  induction sc.names with
  | nil => rfl
  | cons p r ih =>
    obtain ⟨n, k⟩ := p
    rw [List.map_cons]
    by_cases hx : x = n
    · subst hx
      cases hkk : k with
      | free =>
        by_cases hc : env.kindOf x = some .cell
        · simp only [List.lookup_cons, hk, hc, beq_self_eq_true, Bool.and_self, if_true]
        · simp only [List.lookup_cons, hk, hc, beq_self_eq_true, Bool.and_true, Bool.true_and, beq_iff_eq, if_false]
      | _ => first | rfl | simp [List.lookup_cons]
    · have h1 : (x == n) = false := by simpa using hx
      by_cases hc : (k == NameKind.free && env.scope.kind == .function && env.kindOf n == some .cell) = true
      · rw [if_pos hc]; simp only [List.lookup_cons, h1]; exact ih
      · rw [if_neg hc]; simp only [List.lookup_cons, h1]; exact ih

/-- what an element of a comprehension is, of an item -/
noncomputable def CompF (ev : Kd → Ro → Expr → Option D) (env : Env) (sc : Scope) (ρ : Ro) (x : Str) (elt : Expr) (v y : Value) : Prop :=
  ∀ d r, scal d = true → Rd (fun _ => True) {} v d → ev (kdIn env.kindOf sc) (roIn env.kindOf sc ρ x d) elt = some r → Rd (fun _ => True) {} y r

theorem comp_paired {ev : Kd → Ro → Expr → Option D} {env : Env} {sc : Scope} {ρ : Ro} {x : Str} {elt : Expr} {vs ys : List Value} {ds rs : List D}
    (hp : Paired (CompF ev env sc ρ x elt) vs ys) (hv : ∀ (j : Nat) v, vs[j]? = some v → ∃ d, ds[j]? = some d ∧ scal d = true ∧ Rd (fun _ => True) {} v d) (hl : vs.length = ds.length)
    (hm : mapM' (fun d => ev (kdIn env.kindOf sc) (roIn env.kindOf sc ρ x d) elt) ds = some rs) : RdAll (fun _ => True) {} ys rs := by
  induction ds generalizing vs ys rs with
  | nil =>
    cases hp with
    | nil => cases hm; exact .nil
    | cons _ _ => exact absurd hl (Nat.succ_ne_zero _)
  | cons d ds ih =>
    cases hp with
    | nil => exact absurd hl.symm (Nat.succ_ne_zero _)
    | cons hF hr =>
      obtain ⟨r, hr1, hm⟩ := of_bind hm
      obtain ⟨rs', hrs, hm⟩ := of_bind hm
      cases hm
      obtain ⟨d', hd, hs, rd⟩ := hv 0 _ rfl
      cases hd
      exact .cons (hF _ _ hs rd hr1) (ih hr (fun j w hw => hv (j + 1) w hw) (Nat.succ.inj hl) hrs)

section
variable {prog : Program} {w : World} {tab : List FnRec} {mg mb : Str → Option Value} {k : Nat} {A : Around} {E : Value → Shared → Prop} {s : Shared} {X : Addr → Prop} {env : Env} {ρ : Ro}

theorem range_name (hG : Glo tab mg mb s.heap) (hE : EnvOk X env ρ s.heap) {f : Str} {p : Pos} {v : Value} {Q : Value → Shared → Prop} (hg : globalName env.kindOf f = true) (hm : mg f = none) (hb : mb f = some v) (h : Q v s) :
    wpAny (model prog w) A (eval (.Name f p) env) Q E s := by
  simp only [globalName, Bool.and_eq_true, beq_iff_eq, bne_iff_ne, ne_eq] at hg
  refine Calls.Name_function_global hE.kind hg.1 (Calls.loadGlobal_builtin (mg := mg) (mb := mb) (hE.gl ▸ hG.g) hm (hE.bi ▸ hG.b) hb h) (by simpa using hg.2)

theorem fn_name (hG : Glo tab mg mb s.heap) (hE : EnvOk X env ρ s.heap) {f : Str} {p : Pos} {v : Value} {Q : Value → Shared → Prop} (hg : globalName env.kindOf f = true) (hm : mg f = some v) (h : Q v s) :
    wpAny (model prog w) A (eval (.Name f p) env) Q E s := by
  simp only [globalName, Bool.and_eq_true, beq_iff_eq, bne_iff_ne, ne_eq] at hg
  refine Calls.Name_function_global hE.kind hg.1 (Calls.loadGlobal_global (mg := mg) (hE.gl ▸ hG.g) hm h) (by simpa using hg.2)

theorem var_name (hE : EnvOk X env ρ s.heap) {x : Str} {p : Pos} {d : D} {Q : Value → Shared → Prop} (hx : x ≠ Str.ofString "__debug__") (h : ρ x = some d) (hQ : ∀ v, Rd X s.heap v d → Q v s) :
    wpAny (model prog w) A (eval (.Name x p) env) Q E s := by
  obtain ⟨v, r, q⟩ := hE.var x d h
  refine wpAny_Name ?_ (by simpa using hx)
  rcases q with ⟨hk, m, hn, hm⟩ | ⟨hk, c, hc, hcell⟩
  · exact wpAny_loadName_local hE.kind hk hn hm (hQ v r)
  · exact wpAny_loadName_cell hE.kind hk hc hcell (hQ v r)

theorem notSet_fold {e : Expr} (h : ∀ a b c, e ≠ .Set a b c) (x : Value) : foldedSetIterable e env x = pure x := by
  unfold foldedSetIterable
  cases e <;> first | rfl | exact absurd rfl (h _ _ _)

theorem iterD_plain {ev : Kd → Ro → Expr → Option D} {kd : Kd} {e : Expr} (hc : noCall e = true) : iterD ev kd ρ e = (ev kd ρ e).bind seqD := by
  cases e <;> first | rfl | exact Bool.noConfusion hc
theorem iter_sound {ev : Kd → Ro → Expr → Option D} (hev : SoundEv prog w tab mg mb k ev) (hA : Room k A) (hG : Glo tab mg mb s.heap) (hE : EnvOk X env ρ s.heap) (hX : XIn X s.heap) {e : Expr} {ds : List D} (h : iterD ev env.kindOf ρ e = some ds) :
    wpAny (model prog w) A (eval e env) (fun xv s₁ => wpAny (model prog w) A (pyIter xv) (Itr prog w X s ds) E s₁) E s ∧ ∀ a b c, e ≠ .Set a b c := by
  have plain : ∀ e, noCall e = true → iterD ev env.kindOf ρ e = some ds → wpAny (model prog w) A (eval e env) (fun xv s₁ => wpAny (model prog w) A (pyIter xv) (Itr prog w X s ds) E s₁) E s := by
    intro e he h
    rw [iterD_plain he] at h
    obtain ⟨d, hd, h⟩ := of_bind h
    refine wpAny_mono (hev A E s X env ρ e _ hA hG hE hX hd) (fun v s₁ h₁ => ?_) fun _ _ x => x
    obtain ⟨g, r⟩ := h₁
    cases r with
    | list hx e r =>
      obtain ⟨hz, h⟩ := of_if h
      cases h
      exact itr_list g (hX.ext g.ext) hx e r hz
    | tuple hx e r =>
      obtain ⟨hz, h⟩ := of_if h
      cases h
      exact itr_tuple g (hX.ext g.ext) hx e r hz
    | str y t =>
      obtain ⟨hz, h⟩ := of_if h
      cases h
      exact itr_str g (hX.ext g.ext) hz
    | _ => exact no h
  cases e with
  | Set a b c => exact no h
  | Call f args kws pos =>
    refine ⟨?_, fun _ _ _ q => by cases q⟩
    cases f with
    | Name f fp =>
      cases kws with
      | cons _ _ => exact no h
      | nil =>
        obtain ⟨⟨rfl, hg, hn, _⟩, h'⟩ := of_if h
        obtain ⟨as, has, h'⟩ := of_bind h'
        obtain ⟨ha, hp⟩ := evalArgs_sound (E := E) hev hA (.type "range") pos args as hG hE hX hn has
        show wpAny _ A (do callWith pos (← eval (.Name (Str.ofString "range") fp) env) [] (backTo pos (starEach args env)) []) _ _ s
        refine wpAny_bind (range_name hG hE hg hG.range.1 hG.range.2 ?_)
        refine callWith_val (fun _ x => by cases x) hp (wpAny_mono ha (fun a s₁ h₁ => ?_) fun _ _ x => x)
        obtain ⟨hkw, g1, r1⟩ := h₁
        rw [hkw]
        exact op_range g1 (hX.ext g1.ext) r1 h'
    | _ => exact no h
  | _ => exact ⟨plain _ rfl h, fun _ _ _ q => by cases q⟩

theorem comp_pack {ev : Kd → Ro → Expr → Option D} (hev : SoundEv prog w tab mg mb k ev) (hA : Room k A) (hG : Glo tab mg mb s.heap) (hE : EnvOk X env ρ s.heap) (hX : XIn X s.heap) {iter elt : Expr} {x : Str} {sc : Scope} {ds rs : List D}
    (hok : compOk env.kindOf sc x = true) (hi : iterD ev env.kindOf ρ iter = some ds) (hds : ds.all scal = true) (hrs : rs.all scal = true)
    (hm : mapM' (fun d => ev (kdIn env.kindOf sc) (roIn env.kindOf sc ρ x d) elt) ds = some rs) :
    ∃ cl, closureFor sc env = pure cl ∧ (∀ y ∈ sc.names, y.2 ≠ .cell) ∧ sc.kind = .function ∧ (∀ y ∈ sc.names, y.2 = .local → sc.names.lookup y.1 = some .local) ∧ sc.names.lookup x = some .local ∧
      (∀ v, foldedSetIterable iter env v = pure v) ∧
      wpAny (model prog w) A (eval iter env) (fun xv s₁ => wpAny (model prog w) A (pyIter xv) (fun it s₂ => ∃ I fp wr n P St, it = .ref I ∧ Walks prog w A I fp wr n P St ∧ n ≤ sizeLine ∧ St 0 s₂.heap ∧
        (∀ b ∈ fp, ∃ o, s₂.heap.get? b = some o ∧ NotFrame o) ∧ (∀ b ∈ wr, s.heap.get? b = none) ∧ Grew s s₂ ∧ QuietOnC prog w A env sc cl x [] elt wr P (fun _ => true) (CompF ev env sc ρ x elt) s₂ ∧
        (∀ vs ys : List Value, vs.length = n → (∀ j v, vs[j]? = some v → P j v) → Paired (CompF ev env sc ρ x elt) (vs.filter fun _ => true) ys → RdAll (fun _ => True) {} ys rs)) E s₁) E s := by
  simp only [compOk, Bool.and_eq_true, beq_iff_eq, List.all_eq_true] at hok
  obtain ⟨⟨hk, hx⟩, hall⟩ := hok
  have hfree : ∀ p ∈ sc.names, p.2 = .free → env.kindOf p.1 = some .cell := fun p hp hf => by
    have := (hall p hp).2
    rw [hf] at this
    simpa using this
  obtain ⟨cl, hcl, hlook⟩ := closure_of (env := env) (sc := sc) fun p hp hf => hE.cells _ (hfree p hp hf)
  obtain ⟨hit, hset⟩ := iter_sound (E := E) hev hA hG hE hX hi
  refine ⟨cl, hcl, fun y hy => ?_, hk, fun y hy hl => ?_, hx, notSet_fold hset, wpAny_mono hit (fun xv s₁ h₁ => wpAny_mono h₁ (fun it s₂ h₂ => ?_) fun _ _ x => x) fun _ _ x => x⟩
  · simpa using (hall y hy).1.1
  · have := (hall y hy).1.2
    rw [hl] at this
    simpa using this
  obtain ⟨I, fp, wr, P, St, rfl, W, hz, hst, hfp', hfX, hwr, hg, hP⟩ := h₂
  have hfp := (hfp' 0 _ hst).1
  have hP' : ∀ i v, P i v → ∃ d, ds[i]? = some d ∧ scal d = true ∧ Rd (fun _ => True) {} v d := fun i v hv => by
    obtain ⟨d, hd, r⟩ := hP i v hv
    have hs : scal d = true := List.all_eq_true.mp hds d (List.mem_of_getElem? hd)
    exact ⟨d, hd, hs, r.anyHeap hs⟩
  refine ⟨I, fp, wr, ds.length, P, St, rfl, W A hA.handled, hz, hst, hfp, hwr, hg, ⟨fun C i v s₃ m₃ E' _ hPv hn hm3 hk3 _ => ?_, fun C i v s₃ m₃ E' hC hPv _ hn hm3 hk3 _ => ?_⟩, fun vs ys hlen hPj hF => ?_⟩
  · rw [List.forIn_nil]
    exact wpAny_pure ⟨rfl, ⟨_, _, rfl, fun _ _ e => e⟩⟩
  · obtain ⟨d, hd, hs, rd⟩ := hP' i v hPv
    obtain ⟨r, hr, hrm⟩ := (mapM'_get hm).2 i d hd
    have hrs1 : scal r = true := List.all_eq_true.mp hrs r (List.mem_of_getElem? hrm)
    have hext : ∀ b o, s.heap.get? b = some o → s₃.heap.get? b = some o := fun b o e => hk3 b o (fun hb => by rw [hwr b hb] at e; cases e) (hg.ext b o e)
    have hG3 : Glo tab mg mb s₃.heap := hG.ext hext
    have hE3 : EnvOk X (compEnvC sc cl C env) (roIn env.kindOf sc ρ x d) s₃.heap := by
      have hkd := kindOf_in (env := env) (sc := sc) (cl := cl) (C := C) hE.kind
      refine ⟨hk, hE.gl, hE.bi, fun y hy => ?_, fun y d' hy => ?_⟩
      · rw [hkd] at hy
        unfold kdIn at hy
        split at hy
        · rename_i hf
          have hc := hfree (y, .free) (lookup_mem hf) rfl
          show (cl.lookup y).isSome = true
          rw [hlook y hf]
          exact hE.cells y hc
        · rename_i hnf
          exact absurd rfl ((show ∀ y ∈ sc.names, y.2 ≠ .cell from fun y hy => by simpa using (hall y hy).1.1) (y, .cell) (lookup_mem hy))
      · unfold roIn at hy
        split at hy
        · rename_i hyx
          subst hyx
          cases hy
          refine ⟨v, rd.anyHeap hs, .inl ⟨?_, m₃, hn, hm3⟩⟩
          rw [hkd]
          unfold kdIn
          rw [hx]
        · split at hy
          · rename_i hkc
            have hkc' := hkc
            unfold kdIn at hkc
            split at hkc
            · rename_i hf
              have hc := hfree (y, .free) (lookup_mem hf) rfl
              obtain ⟨v', r', q⟩ := hE.var y d' hy
              rcases q with ⟨hk', _⟩ | ⟨_, c, hc1, hc2⟩
              · rw [hc] at hk'; cases hk'
              · refine ⟨v', r'.ext hext, .inr ⟨by rw [hkd]; exact hkc', c, ?_, hc2.keeps hext⟩⟩
                show cl.lookup y = some c
                rw [hlook y hf]; exact hc1
            · rename_i hnf
              exact absurd rfl ((show ∀ y ∈ sc.names, y.2 ≠ .cell from fun y hy => by simpa using (hall y hy).1.1) (y, .cell) (lookup_mem hkc))
          · cases hy
    refine wpAny_mono (hev A E' s₃ X (compEnvC sc cl C env) (roIn env.kindOf sc ρ x d) elt r hA hG3 hE3 (hX.ext hext) (by rw [kindOf_in hE.kind]; exact hr)) (fun y s₄ h₄ => ⟨fun d' r' hs' rd' hr' => ?_, ?_⟩) fun _ _ e => e
    · have : d' = d := Rd.inj rd' rd
      subst this
      rw [hr] at hr'
      cases hr'
      exact h₄.2.anyHeap hrs1
    · obtain ⟨h', tk, e, he⟩ := h₄.1
      exact ⟨h', tk, e, he⟩
  · rw [List.filter_eq_self.mpr (fun _ _ => rfl)] at hF
    exact comp_paired hF (fun j v hv => hP' j v (hPj j v hv)) hlen hm
end
end Mine
end
section
open PySem PySem.W PyProof.Rows
namespace Mine

theorem of_ifs {α : Type} {c : Prop} [Decidable c] {y a : α} {x : Option α} (h : (if c then some y else x) = some a) : (c ∧ y = a) ∨ (¬ c ∧ x = some a) := by
  by_cases hc : c
  · rw [if_pos hc] at h; exact .inl ⟨hc, Option.some.inj h⟩
  · rw [if_neg hc] at h; exact .inr ⟨hc, h⟩
theorem meSlot {f : Str} {m : Me} (h : meOf f = some m) : Slot "str" f (meId m) ∧ typeOf (.builtin (meId m)) = pure (.type "method_descriptor") := by
  rcases of_ifs h with ⟨rfl, rfl⟩ | ⟨_, h⟩
  · exact ⟨F.slot_str_split, F.type_str_split⟩
  rcases of_ifs h with ⟨rfl, rfl⟩ | ⟨_, h⟩
  · exact ⟨F.slot_str_join, F.type_str_join⟩
  rcases of_ifs h with ⟨rfl, rfl⟩ | ⟨_, h⟩
  · exact ⟨F.slot_str_find, F.type_str_find⟩
  rcases of_ifs h with ⟨rfl, rfl⟩ | ⟨_, h⟩
  · exact ⟨F.slot_str_upper, F.type_str_upper⟩
  exact no h

section
variable {prog : Program} {w : World} {tab : List FnRec} {mg mb : Str → Option Value} {k : Nat}

theorem cbool {c : Bool} {v : Value} {s s' : Shared} (h : v = .bool c ∧ s' = s) {A : Around} {E : Value → Shared → Prop} {Q : Bool → Shared → Prop} (hq : Q c s) : wpAny (model prog w) A (truthy v) Q E s' := by
  obtain ⟨rfl, rfl⟩ := h
  exact wpAny_truthy_bool hq

theorem compE_some {ev : Kd → Ro → Expr → Option D} {kd : Kd} {ρ : Ro} {elt : Expr} {gens : List Comprehension} {sc : Scope} {d : D} (h : compE ev kd ρ elt gens sc = some d) :
    ∃ x xp iter, gens = [⟨.Name x xp, iter, [], 0⟩] ∧ compOk kd sc x = true ∧ ∃ ds, iterD ev kd ρ iter = some ds ∧ (ds.length ≤ sizeLine ∧ ds.all scal = true) ∧
      ∃ rs, mapM' (fun d => ev (kdIn kd sc) (roIn kd sc ρ x d) elt) ds = some rs ∧ rs.all scal = true ∧ d = .list rs := by
  rcases gens with _ | ⟨⟨t, iter, ifs, n⟩, _ | ⟨_, _⟩⟩
  · exact no h
  · cases t with
    | Name x xp =>
      rcases ifs with _ | ⟨_, _⟩
      · rcases n with n | n
        · cases n with
          | zero =>
            obtain ⟨hok, h⟩ := of_if h
            obtain ⟨ds, hi, h⟩ := of_bind h
            obtain ⟨hds, h⟩ := of_if h
            obtain ⟨rs, hm, h⟩ := of_bind h
            obtain ⟨hrs, h⟩ := of_if h
            cases h
            exact ⟨x, xp, iter, rfl, hok, ds, hi, hds, rs, hm, hrs, rfl⟩
          | succ n => exact no h
        · exact no h
      · exact no h
    | _ => exact no h
  · exact no h
theorem next_ev {ev : Kd → Ro → Expr → Option D} (hev : SoundEv prog w tab mg mb k ev) {A : Around} {E : Value → Shared → Prop} {s : Shared} {X : Addr → Prop} {env : Env} {ρ : Ro} {e : Expr} {d : D} {Q : Value → Shared → Prop}
    (hA : Room k A) (hG : Glo tab mg mb s.heap) (hE : EnvOk X env ρ s.heap) (hX : XIn X s.heap) (h : ev env.kindOf ρ e = some d)
    (hq : ∀ v s₁, Grew s s₁ → Rd X s₁.heap v d → Glo tab mg mb s₁.heap → EnvOk X env ρ s₁.heap → XIn X s₁.heap → Q v s₁) : wpAny (model prog w) A (eval e env) Q E s :=
  wpAny_mono (hev A E s X env ρ e d hA hG hE hX h) (fun v s₁ h₁ => hq v s₁ h₁.1 h₁.2 (hG.ext h₁.1.ext) (hE.ext h₁.1.ext) (hX.ext h₁.1.ext)) fun _ _ x => x
theorem step_len {ev : Kd → Ro → Expr → Option D} {kd : Kd} {ρ : Ro} {es : List Expr} {ds : List D} {vs : List Value} {X : Addr → Prop} {h : Heap} (hd : evs ev kd ρ es = some ds) (r : RdAll X h vs ds) (hl : es.length ≤ 1000) : vs.length ≤ sizeLine := by
  rw [r.length, ← (mapM'_get hd).1, sizeLine_eq]
  exact Nat.le_trans hl (by decide)
theorem slice_part {ev : Kd → Ro → Expr → Option D} (hev : SoundEv prog w tab mg mb k ev) {A : Around} {E : Value → Shared → Prop} {s : Shared} {X : Addr → Prop} {env : Env} {ρ : Ro} (hA : Room k A) (hG : Glo tab mg mb s.heap) (hE : EnvOk X env ρ s.heap) (hX : XIn X s.heap)
    (o : Option Expr) (r : Option D) (ho : optD ev env.kindOf ρ o = some r) (hint : ∀ y, r = some y → ∃ i, y = .int i) (s₁ : Shared) (g : Grew s s₁) :
    wpAny (model prog w) A (evalPart o env) (fun v s' => Grew s₁ s' ∧ PartV v r) E s₁ := by
  cases o with
  | none =>
    cases ho
    exact wpAny_pure ⟨.refl _, rfl⟩
  | some e =>
    obtain ⟨y, hy, rfl⟩ := of_map ho
    obtain ⟨i, rfl⟩ := hint y rfl
    refine wpAny_mono (hev A E s₁ X env ρ e _ hA (hG.ext g.ext) (hE.ext g.ext) (hX.ext g.ext) hy) (fun v s' h' => ⟨h'.1, ?_⟩) fun _ _ x => x
    cases h'.2 with
    | int _ t => exact ⟨t, rfl⟩
theorem bound_int' {n z : Nat} {r : Option D} (hb : boundD n r = some z) (y : D) (hy : r = some y) : ∃ i, y = .int i := by
  subst hy
  cases y with
  | int i => exact ⟨i, rfl⟩
  | _ => exact no hb
theorem slice_ints {a d : D} {l u : Option D} (h : sliceD a l u = some d) : (∀ y, l = some y → ∃ i, y = .int i) ∧ (∀ y, u = some y → ∃ i, y = .int i) := by
  cases a with
  | str x =>
    obtain ⟨_, h⟩ := of_if h
    obtain ⟨_, h1, h⟩ := of_bind h
    obtain ⟨_, h2, h⟩ := of_bind h
    exact ⟨bound_int' h1, bound_int' h2⟩
  | list x =>
    obtain ⟨_, h⟩ := of_if h
    obtain ⟨_, h1, h⟩ := of_bind h
    obtain ⟨_, h2, h⟩ := of_bind h
    exact ⟨bound_int' h1, bound_int' h2⟩
  | _ => exact no h
theorem noSlice_ne {s : Expr} (h : ∀ lo hi st p, s ≠ .Slice lo hi st p) : ∀ lo hi p, s ≠ .Slice lo hi none p := fun lo hi p e => h lo hi none p e
theorem subD_sound {ev : Kd → Ro → Expr → Option D} (hev : SoundEv prog w tab mg mb k ev) {A : Around} {E : Value → Shared → Prop} {s : Shared} {X : Addr → Prop} {env : Env} {ρ : Ro} (hA : Room k A) (hG : Glo tab mg mb s.heap) (hE : EnvOk X env ρ s.heap) (hX : XIn X s.heap)
    {v sl : Expr} {p : Pos} {d : D} (h : subD ev env.kindOf ρ v sl = some d) : wpAny (model prog w) A (eval (.Subscript v sl p) env) (Gives' X s d) E s := by
  have plain : ∀ sl, (∀ lo hi p, sl ≠ .Slice lo hi none p) → ((ev env.kindOf ρ v).bind fun a => (ev env.kindOf ρ sl).bind fun b => itemD a b) = some d → wpAny (model prog w) A (eval (.Subscript v sl p) env) (Gives' X s d) E s := by
    intro sl hns h
    obtain ⟨a, ha, h⟩ := of_bind h
    obtain ⟨b, hb, h⟩ := of_bind h
    refine Subscript_ (next_ev hev hA hG hE hX ha fun va s₁ g1 r1 hG1 hE1 hX1 => next_ev hev hA hG1 hE1 hX1 hb fun vb s₂ g2 r2 _ _ _ => ?_)
    exact wpAny_mono (op_item (r1.ext g2.ext) r2 h hns) (fun v s' h' => ⟨(g1.trans g2).trans h'.1, h'.2⟩) fun _ _ x => x
  cases sl with
  | Slice lo hi st q =>
    cases v with
    | Name x np =>
      cases st with
      | some _ => exact no h
      | none =>
        obtain ⟨hx, h⟩ := of_ifn h
        obtain ⟨a, ha, h⟩ := of_bind h
        obtain ⟨l, hl, h⟩ := of_bind h
        obtain ⟨u, hu, h⟩ := of_bind h
        have hints := slice_ints h
        exact op_slice (var_name hE hx ha fun v r => ⟨.refl _, r⟩) (slice_part hev hA hG hE hX lo l hl hints.1) (slice_part hev hA hG hE hX hi u hu hints.2) hX h
    | _ => exact no h
  | _ => exact plain _ (fun _ _ _ q => nomatch q) h
theorem comp_sound {ev : Kd → Ro → Expr → Option D} (hev : SoundEv prog w tab mg mb k ev) {A : Around} {E : Value → Shared → Prop} {s : Shared} {X : Addr → Prop} {env : Env} {ρ : Ro} (hA : Room k A) (hG : Glo tab mg mb s.heap) (hE : EnvOk X env ρ s.heap) (hX : XIn X s.heap)
    {elt : Expr} {gens : List Comprehension} {sc : Scope} {p : Pos} {d : D} (h : compE ev env.kindOf ρ elt gens sc = some d) : wpAny (model prog w) A (eval (.ListComp elt gens sc p) env) (Gives' X s d) E s := by
  obtain ⟨x, xp, iter, rfl, hok, ds, hi, hds, rs, hm, hrs, rfl⟩ := compE_some h
  obtain ⟨cl, hcl, hcell, hk, hnames, hx, hset, hw⟩ := comp_pack (E := E) hev hA hG hE hX hok hi hds.2 hrs hm
  refine wpAny_ListComp_free (fun _ => true) (CompF ev env sc ρ x elt) hcl hcell hk hnames hx (wpAny_mono hw (fun xv s₁ h₁ => wpAny_mono h₁ (fun it s₂ h₂ => ?_) fun _ _ x => x) fun _ _ x => x) hset
  obtain ⟨I, fp, wr, n, P, St, rfl, W, hz, hst, hfp, hwr, g, hq, hfin⟩ := h₂
  refine ⟨I, fp, wr, n, P, St, rfl, W, hz, hst, fun b hb => let ⟨o, ho, _⟩ := hfp b hb; Heap.lt_size ho, hq, fun D h' tk ys vs hD hl hpl hlen hPj hF hkeep => ?_⟩
  have r := hfin vs ys.toList hlen hPj hF
  have hext : Ext s.heap h' := fun b o e => hkeep b o (fun hb => by rw [hwr b hb] at e; cases e) (g.ext b o e)
  refine ⟨?_, ?_⟩
  · obtain ⟨h₂, tk₂, rfl, _⟩ := g
    exact .of hext
  · obtain ⟨n, hpl⟩ := hpl
    refine .list ((hX.ext g.ext).none hD) hpl ?_
    refine r.move fun a o vs n hd hx _ => absurd trivial hx
theorem not_any {l : List (Bool × Sem Value)} (h : l.any (·.1) = false) : l.all (fun p => !p.1) = true := by
  rw [List.all_eq_true]
  intro y hy
  have := List.any_eq_false.mp h y hy
  rw [Bool.not_eq_true']
  exact Bool.not_eq_true _ |>.mp this
theorem callE_sound {Φ : Phi} {ev : Kd → Ro → Expr → Option D} (hΦ : SoundPhi prog w tab mg mb k Φ) (hev : SoundEv prog w tab mg mb k ev) {A : Around} {E : Value → Shared → Prop} {s : Shared} {X : Addr → Prop} {env : Env} {ρ : Ro} (hA : Room k A) (hG : Glo tab mg mb s.heap) (hE : EnvOk X env ρ s.heap) (hX : XIn X s.heap)
    {f : Expr} {args : List Expr} {kws : List Keyword} {p : Pos} {d : D} (h : callE Φ ev env.kindOf ρ f args kws p = some d) : wpAny (model prog w) A (eval (.Call f args kws p) env) (Gives' X s d) E s := by
  cases f with
  | Attribute o m ap =>
    cases kws with
    | cons _ _ => exact no h
    | nil =>
      obtain ⟨⟨hline, hbase, hn, hlen⟩, h⟩ := of_if h
      obtain ⟨m', hm, h⟩ := of_bind h
      obtain ⟨x, hx, h⟩ := of_bind h
      obtain ⟨ds, hds, h⟩ := of_bind h
      obtain ⟨slot, hty⟩ := meSlot hm
      obtain ⟨l, rfl⟩ := methodD_str h
      have hb : attributeBase o m env (eval o env) = eval o env := by cases o <;> first | rfl | exact Bool.noConfusion hbase
      have hplain := (evalArgs_sound (E := E) hev hA (.builtin (meId m')) p args ds hG hE hX hn hds).2
      refine wpAny_Call_method (T := "str") (id := meId m') hb ?_ hline F.plainAttrs_str slot hty (next_ev hev hA hG hE hX hx fun ov s₁ g1 r1 hG1 hE1 hX1 => ?_)
      · simp only [Bool.and_eq_true, decide_eq_true_eq]
        exact ⟨⟨not_any hplain, rfl⟩, by simp; omega⟩
      · have r1' := r1
        cases r1' with
        | str y t =>
          refine ⟨typeIs_str _ _ _, (fun a e => by cases e), ?_⟩
          obtain ⟨ha, hp⟩ := evalArgs_sound (E := E) hev hA (.builtin (meId m')) p args ds hG1 hE1 hX1 hn hds
          refine Calls.callWith_builtin hp (wpAny_mono ha (fun a s₂ h₂ => ?_) fun _ _ x => x)
          obtain ⟨hkw, g2, r2⟩ := h₂
          rw [hkw]
          exact wpAny_mono (op_method (r1.ext g2.ext) r2 (hX1.ext g2.ext) h) (fun v s' h' => ⟨(g1.trans g2).trans h'.1, h'.2⟩) fun _ _ x => x
  | Name f fp =>
    cases kws with
    | cons _ _ => exact no h
    | nil =>
      obtain ⟨⟨hg, hn, hne, hlen⟩, h⟩ := of_if h
      obtain ⟨ds, hds, h⟩ := of_bind h
      show wpAny _ A (do callWith p (← eval (.Name f fp) env) [] (backTo p (starEach args env)) []) _ _ s
      cases hb : biOf f with
      | some b =>
        rw [hb] at h
        obtain ⟨h1, h⟩ := of_if h
        obtain ⟨hm, hv⟩ := hG.bi f b hb
        obtain ⟨ha, hp⟩ := evalArgs_sound (E := E) hev hA (biVal b) p args ds hG hE hX hn hds
        refine wpAny_bind (range_name hG hE hg hm hv ?_)
        refine callWith_val (by intro a; cases b <;> (intro x; cases x)) hp (wpAny_mono ha (fun a s₁ h₁ => ?_) fun _ _ x => x)
        obtain ⟨hkw, g1, r1⟩ := h₁
        rw [hkw]
        generalize hap : a.pos = vs at r1
        obtain ⟨y, rfl⟩ := List.length_eq_one_iff.mp h1
        cases r1 with
        | cons q r =>
          cases r
          exact wpAny_mono (op_builtin hA.handled q h) (fun v s' h' => ⟨g1.trans h'.1, h'.2⟩) fun _ _ x => x
      | none =>
        rw [hb] at h
        obtain ⟨a, hma, hobj, hcall⟩ := hΦ s.heap f ds d hG h
        obtain ⟨ha, hp⟩ := evalArgs_sound (E := E) hev hA (.ref a) p args ds hG hE hX hn hds
        refine wpAny_bind (fn_name hG hE hg hma ?_)
        obtain ⟨o, fd, ho, hfd⟩ := hobj s.heap hG
        refine Calls.callWith_function (o := o) (fd := fd) (wpAny_mono ha (fun x s₁ h₁ => ?_) fun _ _ x => x)
        obtain ⟨hkw, g1, r1⟩ := h₁
        refine ⟨⟨g1.ext _ _ ho, hfd⟩, ?_⟩
        rw [hkw]
        exact wpAny_mono (hcall A E s₁ X x.pos hA (hG.ext g1.ext) (hX.ext g1.ext) r1) (fun v s' h' => ⟨g1.trans h'.1, h'.2⟩) fun _ _ x => x
  | _ => exact no h
theorem units_of {A : Around} (hA : Room k A) : A.units + 200 < cLine := Nat.lt_of_le_of_lt (by lia) hA.units
theorem stepE_sound {Φ : Phi} {ev : Kd → Ro → Expr → Option D} {te : Kd → Ro → Expr → Option Bool} (hΦ : SoundPhi prog w tab mg mb k Φ) (hev : SoundEv prog w tab mg mb k ev) (hte : SoundTe prog w tab mg mb k te) :
    SoundEv prog w tab mg mb k (stepE Φ ev te) := by
  intro A E s X env ρ e d hA hG hE hX h
  cases e with
  | Constant c kk p =>
    cases c with
    | none => cases h; exact wpAny_Constant_none ⟨.refl _, .none⟩
    | bool b => cases h; exact wpAny_Constant_bool ⟨.refl _, .bool _⟩
    | int i => cases h; exact wpAny_Constant_int ⟨.tok _ _, .int _ _⟩
    | str x => cases h; exact wpAny_Constant_str ⟨.tok _ _, .str _ _⟩
    | _ => exact no h
  | Name x p =>
    obtain ⟨hx, h⟩ := of_ifn h
    exact var_name hE hx h fun v r => ⟨.refl _, r⟩
  | BinOp l op r p =>
    obtain ⟨a, ha, h⟩ := of_bind h
    obtain ⟨b, hb, h⟩ := of_bind h
    exact wpAny_BinOp (next_ev hev hA hG hE hX ha fun va s₁ g1 r1 hG1 hE1 hX1 => next_ev hev hA hG1 hE1 hX1 hb fun vb s₂ g2 r2 _ _ hX2 =>
      wpAny_mono (op_bin (r1.ext g2.ext) r2 hX2 h) (fun v s' h' => ⟨(g1.trans g2).trans h'.1, h'.2⟩) fun _ _ x => x)
  | Compare l ops rs p =>
    obtain ⟨c, h', rfl⟩ := of_map h
    clear h
    rcases ops with _ | ⟨op, _ | ⟨_, _⟩⟩
    · exact no h'
    · rcases rs with _ | ⟨r, _ | ⟨_, _⟩⟩
      · exact no h'
      · obtain ⟨hm, h'⟩ := of_ifn h'
        obtain ⟨a, ha, h'⟩ := of_bind h'
        obtain ⟨b, hb, h'⟩ := of_bind h'
        refine wpAny_Compare1 (next_ev hev hA hG hE hX ha fun va s₁ g1 r1 hG1 hE1 hX1 => next_ev hev hA hG1 hE1 hX1 hb fun vb s₂ g2 r2 _ _ hX2 => ?_) (Bool.not_eq_true _ |>.mp hm)
        refine wpAny_mono (op_cmp (units_of hA) (r1.ext g2.ext) r2 h') (fun v s' hv => ?_) fun _ _ x => x
        obtain ⟨rfl, rfl⟩ := hv
        exact ⟨g1.trans g2, .bool _⟩
      · exact no h'
    · cases rs <;> exact no h'
  | UnaryOp op x p =>
    cases op with
    | USub =>
      obtain ⟨y, hy, h⟩ := of_bind h
      cases y with
      | int i =>
        cases h
        exact wpAny_UnaryOp (next_ev hev hA hG hE hX hy fun va s₁ g1 r1 _ _ _ => wpAny_mono (op_neg r1) (fun v s' h' => ⟨g1.trans h'.1, h'.2⟩) fun _ _ x => x)
      | _ => exact no h
    | _ => exact no h
  | IfExp t b o p =>
    obtain ⟨c, hc, h⟩ := of_bind h
    refine wpAny_IfExp (wpAny_mono (hte A E s X env ρ t c hA hG hE hX hc) (fun c' s₁ h₁ => ?_) fun _ _ x => x)
    obtain ⟨g1, rfl⟩ := h₁
    cases c' with
    | true => exact next_ev hev hA (hG.ext g1.ext) (hE.ext g1.ext) (hX.ext g1.ext) h fun v s' g' r' _ _ _ => ⟨g1.trans g', r'⟩
    | false => exact next_ev hev hA (hG.ext g1.ext) (hE.ext g1.ext) (hX.ext g1.ext) h fun v s' g' r' _ _ _ => ⟨g1.trans g', r'⟩
  | List es p =>
    obtain ⟨hc, h⟩ := of_if h
    obtain ⟨ds, hd, rfl⟩ := of_map h
    refine wpAny_List (wpAny_mono (evs_sound hev hA p es ds s hG hE hX hc.1 hd) (fun vs s₁ h₁ => ?_) fun _ _ x => x)
    obtain ⟨g1, r1⟩ := h₁
    exact ⟨step_len hd r1 hc.2, g1.trans (.push _ _), .list (hX.ext g1.ext).fresh (Heap.get?_push_size _ rfl) (r1.ext (Ext.push _ _))⟩
  | Tuple es q p =>
    obtain ⟨hc, h⟩ := of_if h
    obtain ⟨ds, hd, rfl⟩ := of_map h
    refine wpAny_Tuple (wpAny_mono (evs_sound hev hA p es ds s hG hE hX hc.1 hd) (fun vs s₁ h₁ => ?_) fun _ _ x => x)
    obtain ⟨g1, r1⟩ := h₁
    exact ⟨step_len hd r1 hc.2.1, g1.trans (.push _ _), .tuple (hX.ext g1.ext).fresh (Heap.get?_push_size _ rfl) (r1.ext (Ext.push _ _))⟩
  | Subscript v sl p => exact subD_sound hev hA hG hE hX h
  | ListComp elt gens sc p => exact comp_sound hev hA hG hE hX h
  | Call f args kws p => exact callE_sound hΦ hev hA hG hE hX h
  | _ => exact no h
end
end Mine
end
section
open PySem PySem.W PyProof.Rows
namespace Mine

section
variable {prog : Program} {w : World} {tab : List FnRec} {mg mb : Str → Option Value} {k : Nat}

theorem tests_sound {te : Kd → Ro → Expr → Option Bool} (hte : SoundTe prog w tab mg mb k te) {A : Around} {E : Value → Shared → Prop} {X : Addr → Prop} {env : Env} {ρ : Ro} {op : BoolOp} (hA : Room k A) :
    ∀ (es : List Expr) (s : Shared) (b : Bool), Glo tab mg mb s.heap → EnvOk X env ρ s.heap → XIn X s.heap → testsD te env.kindOf ρ op es = some b →
    wpAny (model prog w) A (allTrue op es env) (fun b' s' => Grew s s' ∧ b' = b) E s
  | [], s, b, hG, hE, hX, h => by
    simp only [testsD, Option.some.injEq] at h
    subst h
    cases op
    · exact wpAny_allTrue_And_nil ⟨.refl _, rfl⟩
    · exact wpAny_allTrue_Or_nil ⟨.refl _, rfl⟩
  | e :: es, s, b, hG, hE, hX, h => by
    simp only [testsD] at h
    split at h
    · cases h
    · rename_i c hc
      have h1 := hte A E s X env ρ e c hA hG hE hX hc
      cases op with
      | And =>
        refine wpAny_allTrue_And_cons (wpAny_mono h1 (fun c' s₁ h₁ => ?_) fun _ _ x => x)
        obtain ⟨g1, rfl⟩ := h₁
        cases c' with
        | false =>
          simp only [Option.some.injEq] at h
          subst h
          exact ⟨g1, rfl⟩
        | true =>
          simp only [if_true] at h ⊢
          exact wpAny_mono (tests_sound hte hA es s₁ b (hG.ext g1.ext) (hE.ext g1.ext) (hX.ext g1.ext) h) (fun v s' h' => ⟨g1.trans h'.1, h'.2⟩) fun _ _ x => x
      | Or =>
        refine wpAny_allTrue_Or_cons (wpAny_mono h1 (fun c' s₁ h₁ => ?_) fun _ _ x => x)
        obtain ⟨g1, rfl⟩ := h₁
        cases c' with
        | true =>
          simp only [Option.some.injEq] at h
          subst h
          exact ⟨g1, rfl⟩
        | false =>
          exact wpAny_mono (tests_sound hte hA es s₁ b (hG.ext g1.ext) (hE.ext g1.ext) (hX.ext g1.ext) h) (fun v s' h' => ⟨g1.trans h'.1, h'.2⟩) fun _ _ x => x

theorem stepT_sound {ev : Kd → Ro → Expr → Option D} {te : Kd → Ro → Expr → Option Bool} (hev : SoundEv prog w tab mg mb k ev) (hte : SoundTe prog w tab mg mb k te) :
    SoundTe prog w tab mg mb k (stepT ev te) := by
  intro A E s X env ρ e b hA hG hE hX h
  cases e with
  | UnaryOp op x p =>
    cases op with
    | Not =>
      obtain ⟨c, hc, rfl⟩ := of_map h
      exact wpAny_isTrue_Not (wpAny_mono (hte A E s X env ρ x c hA hG hE hX hc) (fun c' s₁ h₁ => ⟨h₁.1, congrArg (!·) h₁.2⟩) fun _ _ x => x)
    | _ => exact no h
  | BoolOp op vs p => exact wpAny_isTrue_BoolOp (tests_sound hte hA vs s b hG hE hX h)
  | Compare l ops rs p =>
    rcases ops with _ | ⟨op, _ | ⟨op2, _ | ⟨_, _⟩⟩⟩
    · exact no h
    · rcases rs with _ | ⟨r, _ | ⟨_, _⟩⟩
      · exact no h
      · obtain ⟨hm, h⟩ := of_ifn h
        obtain ⟨a, ha, h⟩ := of_bind h
        obtain ⟨y, hy, h⟩ := of_bind h
        exact wpAny_isTrue_Compare1 (next_ev hev hA hG hE hX ha fun va s₁ g1 r1 hG1 hE1 hX1 => next_ev hev hA hG1 hE1 hX1 hy fun vb s₂ g2 r2 _ _ hX2 =>
          wpAny_mono (op_cmp (units_of hA) (r1.ext g2.ext) r2 h) (fun v s' h' => cbool h' ⟨g1.trans g2, rfl⟩) fun _ _ x => x) (Bool.not_eq_true _ |>.mp hm)
      · exact no h
    · rcases rs with _ | ⟨r, _ | ⟨r2, _ | ⟨_, _⟩⟩⟩
      · exact no h
      · exact no h
      · obtain ⟨hm, h⟩ := of_ifn h
        obtain ⟨a, ha, h⟩ := of_bind h
        obtain ⟨y, hy, h⟩ := of_bind h
        obtain ⟨c, hc, h⟩ := of_bind h
        refine isTrue_chain (rs := []) (next_ev hev hA hG hE hX ha fun va s₁ g1 r1 hG1 hE1 hX1 => test_link (next_ev hev hA hG1 hE1 hX1 hy fun vb s₂ g2 q2 hG2 hE2 hX2 => ?_)) (by simpa [lastMarks] using hm)
        refine wpAny_mono (op_cmp (units_of hA) (r1.ext g2.ext) q2 hc) (fun v s' h' => cbool h' ?_) fun _ _ x => x
        cases c with
        | true =>
          obtain ⟨z, hz, h⟩ := of_bind h
          exact test_last (next_ev hev hA hG2 hE2 hX2 hz fun vc s₃ g3 q3 _ _ _ => wpAny_mono (op_cmp (units_of hA) (q2.ext g3.ext) q3 h) (fun v s' h' => cbool h' ⟨(g1.trans g2).trans g3, rfl⟩) fun _ _ x => x)
        | false =>
          cases h
          exact ⟨g1.trans g2, rfl⟩
      · exact no h
    · rcases rs with _ | ⟨r, _ | ⟨r2, _⟩⟩ <;> exact no h
  | Name x p =>
    obtain ⟨c, hc, h⟩ := of_bind h
    refine wpAny_isTrue_value (next_ev hev hA hG hE hX hc fun v s₁ g1 r1 _ _ _ => ?_)
    cases r1 with
    | bool c => cases h; exact wpAny_truthy_bool ⟨g1, rfl⟩
    | _ => exact no h
  | Call f a kk p =>
    obtain ⟨c, hc, h⟩ := of_bind h
    refine wpAny_isTrue_value (next_ev hev hA hG hE hX hc fun v s₁ g1 r1 _ _ _ => ?_)
    cases r1 with
    | bool c => cases h; exact wpAny_truthy_bool ⟨g1, rfl⟩
    | _ => exact no h
  | _ => exact no h

theorem lv_sound {Φ : Phi} (hΦ : SoundPhi prog w tab mg mb k Φ) : ∀ n, SoundEv prog w tab mg mb k (evalE Φ n) ∧ SoundTe prog w tab mg mb k (testE Φ n)
  | 0 => ⟨fun A E s X env ρ e d _ _ _ _ h => by simp [evalE, lv] at h, fun A E s X env ρ e d _ _ _ _ h => by simp [testE, lv] at h⟩
  | n + 1 => ⟨stepE_sound hΦ (lv_sound hΦ n).1 (lv_sound hΦ n).2, stepT_sound (lv_sound hΦ n).1 (lv_sound hΦ n).2⟩
end
end Mine
end
section
open PySem PySem.W PyProof.Rows
namespace Mine

theorem look_set {x : Str} {d : D} : ∀ {l : Lo}, hasL l x = true → ∀ y, lookL (setL l x d) y = if y = x then some d else lookL l y
  | [], h, _ => by simp [hasL] at h
  | (n, o) :: r, h, y => by
    simp only [hasL] at h
    by_cases hx : x = n
    · subst hx
      simp only [setL, if_true, lookL]
      split <;> rfl
    · rw [if_neg hx] at h
      simp only [setL, if_neg hx, lookL]
      rw [look_set h y]
      by_cases hy : y = x
      · subst hy; simp [hx]
      · simp [hy]

theorem less_set {env : Lo} {own : Option Str} {x y : Str} {d d' : D} (hh : hasL env x = true) (hy : lessL (lookL (setL env x d)) own y = some d') : (y = x ∧ d' = d) ∨ (y ≠ x ∧ lessL (lookL env) own y = some d') := by
  have key : ∀ e : Option D, (e = lookL (setL env x d) y) → e = some d' → (y = x ∧ d' = d) ∨ (y ≠ x ∧ lookL env y = some d') := by
    intro e he h
    rw [look_set hh] at he
    by_cases hyx : y = x
    · rw [if_pos hyx] at he
      exact .inl ⟨hyx, (Option.some.inj (he.symm.trans h)).symm⟩
    · rw [if_neg hyx] at he
      exact .inr ⟨hyx, he.symm.trans h⟩
  cases own with
  | none => exact key _ rfl hy
  | some z =>
    by_cases hz : y = z
    · exact no ((if_pos hz).symm.trans hy)
    · exact (key _ rfl ((if_neg hz).symm.trans hy)).imp id fun q => ⟨q.1, (if_neg hz).trans q.2⟩
/-- what a statement leaves as it was: all objects but name spaces, cells and what is shut out -/
noncomputable def Mv (X : Addr → Prop) (s s' : Shared) : Prop :=
  (∀ b o, s.heap.get? b = some o → ¬ X b → NotFrame o → s'.heap.get? b = some o) ∧ (∀ b o, s.heap.get? b = some o → ∃ o', s'.heap.get? b = some o')
theorem Mv.refl (X : Addr → Prop) (s : Shared) : Mv X s s := ⟨fun _ _ e _ _ => e, fun _ o e => ⟨o, e⟩⟩
theorem Mv.grew {X : Addr → Prop} {s s' : Shared} (g : Grew s s') : Mv X s s' := ⟨fun b o e _ _ => g.ext b o e, fun b o e => ⟨o, g.ext b o e⟩⟩
theorem Mv.trans {X X₁ : Addr → Prop} {s s₁ s₂ : Shared} (a : Mv X s s₁) (hX : ∀ b, X₁ b → X b ∨ s.heap.get? b = none) (b : Mv X₁ s₁ s₂) : Mv X s s₂ := by
  refine ⟨fun q o e hx hn => b.1 q o (a.1 q o e hx hn) (fun h1 => ?_) hn, fun q o e => ?_⟩
  · rcases hX q h1 with h | h
    · exact hx h
    · rw [e] at h; cases h
  · obtain ⟨o', e'⟩ := a.2 q o e
    exact b.2 q o' e'
theorem Rd.mv {X : Addr → Prop} {s s' : Shared} (m : Mv X s s') {v d} (r : Rd X s.heap v d) : Rd X s'.heap v d :=
  r.move fun a o vs n hd hx e => ⟨hx, m.1 a o e hx (.ofSeq hd)⟩
theorem RdAll.mv {X : Addr → Prop} {s s' : Shared} (m : Mv X s s') {v d} (r : RdAll X s.heap v d) : RdAll X s'.heap v d :=
  r.move fun a o vs n hd hx e => ⟨hx, m.1 a o e hx (.ofSeq hd)⟩

structure FmAt (s₀ : Shared) (env : Env) (X₀ : Addr → Prop) (st : St) (s : Shared) (X : Addr → Prop) (m cm : Str → Option Value) : Prop where
  inC : InCallC s₀ env.locals m env.cells cm s
  kind : env.scope.kind = .function
  gl : env.globals = mainGlobals
  bi : env.builtins = builtinsNs
  cells : ∀ x, env.kindOf x = some .cell → (env.cells.lookup x).isSome = true
  x0 : XIn X₀ s₀.heap
  vars : ∀ x d, lessL (lookL st.env) st.own x = some d → ∃ v, Rd X s.heap v d ∧ ((env.kindOf x = some .local ∧ m x = some v) ∨ (env.kindOf x = some .cell ∧ cm x = some v))
  own : (st.own = none ∧ X = X₀) ∨ ∃ y l vs n ds, st.own = some y ∧ X = (fun a => X₀ a ∨ a = l) ∧ env.kindOf y = some .local ∧ m y = some (.ref l) ∧ ¬ X₀ l ∧ s₀.heap.get? l = none ∧
    s.heap.get? l = some { cls := .type "list", data := .seq vs n } ∧ RdAll X s.heap vs.toList ds ∧ lookL st.env y = some (.list ds)

/-- the frame stands as the state says -/
noncomputable def Fm (s₀ : Shared) (env : Env) (X₀ : Addr → Prop) (st : St) (s : Shared) (X : Addr → Prop) : Prop := ∃ m cm, FmAt s₀ env X₀ st s X m cm

section
variable {s₀ : Shared} {env : Env} {X₀ : Addr → Prop} {st : St} {s : Shared} {X : Addr → Prop} {m cm : Str → Option Value}

theorem FmAt.sub (F : FmAt s₀ env X₀ st s X m cm) : ∀ a, X₀ a → X a := by
  intro a ha
  rcases F.own with ⟨_, rfl⟩ | ⟨y, l, vs, n, ds, _, rfl, _⟩
  · exact ha
  · exact .inl ha
theorem FmAt.ext (F : FmAt s₀ env X₀ st s X m cm) : Ext s₀.heap s.heap := F.inC.toInCall.keep
theorem FmAt.xin (F : FmAt s₀ env X₀ st s X m cm) : XIn X s.heap := by
  rcases F.own with ⟨_, rfl⟩ | ⟨y, l, vs, n, ds, _, rfl, _, _, _, _, e, _⟩
  · exact F.x0.ext F.ext
  · rintro q (hq | rfl)
    · exact F.x0.ext F.ext q hq
    · exact ⟨_, e⟩
theorem FmAt.envOk (F : FmAt s₀ env X₀ st s X m cm) : EnvOk X env (lessL (lookL st.env) st.own) s.heap := by
  refine ⟨F.kind, F.gl, F.bi, F.cells, fun x d hx => ?_⟩
  obtain ⟨v, r, q⟩ := F.vars x d hx
  refine ⟨v, r, q.imp (fun ⟨a, b⟩ => ⟨a, m, F.inC.toInCall.ns, b⟩) fun ⟨a, b⟩ => ⟨a, ?_⟩⟩
  obtain ⟨c, hc⟩ := Option.isSome_iff_exists.mp (F.cells x a)
  exact ⟨c, hc, b ▸ F.inC.cell x c hc⟩
theorem FmAt.grew (F : FmAt s₀ env X₀ st s X m cm) {s' : Shared} (g : Grew s s') : FmAt s₀ env X₀ st s' X m cm := by
  obtain ⟨h', tk, rfl, e⟩ := g
  refine ⟨F.inC.kept e, F.kind, F.gl, F.bi, F.cells, F.x0, fun x d hx => ?_, ?_⟩
  · obtain ⟨v, r, q⟩ := F.vars x d hx
    exact ⟨v, r.ext e, q⟩
  · rcases F.own with q | ⟨y, l, vs, n, ds, h1, h2, h3, h4, h5, h6, h7, h8, h9⟩
    · exact .inl q
    · exact .inr ⟨y, l, vs, n, ds, h1, h2, h3, h4, h5, h6, e _ _ h7, h8.ext e, h9⟩
theorem FmAt.drop (F : FmAt s₀ env X₀ st s X m cm) : FmAt s₀ env X₀ { st with own := none } s X₀ m cm := by
  refine ⟨F.inC, F.kind, F.gl, F.bi, F.cells, F.x0, fun x d hx => ?_, .inl ⟨rfl, rfl⟩⟩
  rcases F.own with ⟨h1, rfl⟩ | ⟨y, l, vs, n, ds, h1, h2, h3, h4, h5, h6, h7, h8, h9⟩
  · exact F.vars x d (by rw [h1]; exact hx)
  · by_cases hxy : x = y
    · subst hxy
      have : d = .list ds := by
        have e : lookL st.env x = some d := hx
        rw [h9] at e
        exact (Option.some.inj e).symm
      subst this
      exact ⟨.ref l, .list h5 h7 (h8.less F.sub), .inl ⟨h3, h4⟩⟩
    · obtain ⟨v, r, q⟩ := F.vars x d (by rw [h1]; show (if x = y then none else lookL st.env x) = some d; rw [if_neg hxy]; exact hx)
      exact ⟨v, r.less F.sub, q⟩

theorem Fm.grew (F : Fm s₀ env X₀ st s X) {s' : Shared} (g : Grew s s') : Fm s₀ env X₀ st s' X := let ⟨m, cm, F⟩ := F; ⟨m, cm, F.grew g⟩
theorem Fm.envOk (F : Fm s₀ env X₀ st s X) : EnvOk X env (lessL (lookL st.env) st.own) s.heap := let ⟨_, _, F⟩ := F; F.envOk
theorem Fm.xin (F : Fm s₀ env X₀ st s X) : XIn X s.heap := let ⟨_, _, F⟩ := F; F.xin
theorem Fm.sub (F : Fm s₀ env X₀ st s X) : ∀ a, X₀ a → X a := let ⟨_, _, F⟩ := F; F.sub
theorem Fm.ext (F : Fm s₀ env X₀ st s X) : Ext s₀.heap s.heap := let ⟨_, _, F⟩ := F; F.ext
theorem Fm.drop (F : Fm s₀ env X₀ st s X) : Fm s₀ env X₀ { st with own := none } s X₀ := let ⟨m, cm, F⟩ := F; ⟨m, cm, F.drop⟩
theorem Fm.letGo (F : Fm s₀ env X₀ st s X) (e : Expr) : ∃ X', Fm s₀ env X₀ (letGo st e) s X' ∧ ∀ a, X' a → X a := by
  unfold Mine.letGo ownAfter
  cases h : st.own with
  | none =>
    refine ⟨X, ?_, fun _ q => q⟩
    have : ({ st with own := none } : St) = st := by cases st; simp_all
    simp only
    rw [this]; exact F
  | some y =>
    simp only
    by_cases hm : mentions y e = true
    · rw [if_pos hm]; exact ⟨X₀, F.drop, F.sub⟩
    · rw [if_neg hm]
      have : ({ st with own := some y } : St) = st := by cases st; simp_all
      rw [this]; exact ⟨X, F, fun _ q => q⟩

/-- the frame after a name of the frame's name space has got a value -/
theorem FmAt.stored (F : FmAt s₀ env X₀ st s X m cm) {x : Str} {d : D} {v : Value} {h' : Heap} {tk : Nat} (hk : env.kindOf x = some .local) (hh : hasL st.env x = true) (ho : some x ≠ st.own)
    (hn : h'.Ns env.locals (fun y => if y = x then some v else m y)) (he : ∀ b o, b ≠ env.locals → s.heap.get? b = some o → h'.get? b = some o) (hr : Rd X h' v d) :
    FmAt s₀ env X₀ { st with env := setL st.env x d } { s with heap := h', toks := tk } X (fun y => if y = x then some v else m y) cm ∧ Mv X s { s with heap := h', toks := tk } := by
  obtain ⟨oL, es, ep, hL, hLd, _⟩ := F.inC.toInCall.ns
  have hmv : Mv X s { s with heap := h', toks := tk } := by
    refine ⟨fun b o e _ hnf => he b o (fun hb => ?_) e, fun b o e => ?_⟩
    · subst hb; rw [hL] at e; cases e; exact hnf.1 _ _ hLd
    · by_cases hb : b = env.locals
      · subst hb; obtain ⟨o', _, _, h1, _⟩ := hn; exact ⟨o', h1⟩
      · exact ⟨o, he b o hb e⟩
  refine ⟨⟨⟨⟨?_, hn, fun b o e => ?_, F.inC.toInCall.fresh⟩, fun n c hc => ?_, F.inC.apart, F.inC.above⟩, F.kind, F.gl, F.bi, F.cells, F.x0, fun y d' hy => ?_, ?_⟩, hmv⟩
  · obtain ⟨h₁, t, rfl⟩ := F.inC.toInCall.same
    exact ⟨h', tk, rfl⟩
  · exact he b o (Nat.ne_of_lt (Nat.lt_of_lt_of_le (Heap.lt_size e) F.inC.toInCall.fresh)) (F.ext b o e)
  · obtain ⟨oc, h1, h2⟩ := F.inC.cell n c hc
    exact ⟨oc, he c oc (Nat.ne_of_gt (F.inC.above n c (mem_of_lookup hc))) h1, h2⟩
  · rcases less_set hh hy with ⟨rfl, rfl⟩ | ⟨hyx, e⟩
    · exact ⟨v, hr, .inl ⟨hk, if_pos rfl⟩⟩
    · obtain ⟨v', r', q⟩ := F.vars y d' e
      exact ⟨v', r'.mv hmv, q.imp (fun ⟨a, b⟩ => ⟨a, (if_neg hyx).trans b⟩) id⟩
  · rcases F.own with q | ⟨y, l, vs, n, ds, h1, h2, h3, h4, h5, h6, h7, h8, h9⟩
    · exact .inl q
    · have hyx : y ≠ x := fun h => ho (by rw [h1, h])
      have hlL : l ≠ env.locals := fun h => by subst h; rw [hL] at h7; cases h7; cases hLd
      exact .inr ⟨y, l, vs, n, ds, h1, h2, h3, by rw [if_neg hyx]; exact h4, h5, h6, he _ _ hlL h7, h8.mv hmv, by show lookL (setL st.env x d) y = _; rw [look_set hh, if_neg hyx]; exact h9⟩

/-- .. a cell .. -/
theorem FmAt.storedC (F : FmAt s₀ env X₀ st s X m cm) {x : Str} {c : Addr} {d : D} {v : Value} {h' : Heap} (hk : env.kindOf x = some .cell) (hh : hasL st.env x = true) (ho : some x ≠ st.own) (hc : env.cells.lookup x = some c)
    (hn : h'.IsCell c (some v)) (he : Heap.SameBut c s.heap h') (hr : Rd X s.heap v d) :
    FmAt s₀ env X₀ { st with env := setL st.env x d } { s with heap := h' } X m (fun y => if y = x then some v else cm y) ∧ Mv X s { s with heap := h' } := by
  obtain ⟨oc, hoc, hod⟩ := F.inC.cell x c hc
  have hLc := F.inC.above x c (mem_of_lookup hc)
  have hmv : Mv X s { s with heap := h' } := by
    refine ⟨fun b o e _ hnf => he.extBut b o (fun hb => ?_) e, fun b o e => ?_⟩
    · subst hb; rw [hoc] at e; cases e; exact hnf.2 _ hod
    · by_cases hb : b = c
      · subst hb; obtain ⟨o', h1, _⟩ := hn; exact ⟨o', h1⟩
      · exact ⟨o, he.extBut b o hb e⟩
  refine ⟨⟨⟨⟨?_, F.inC.toInCall.ns.sameBut he (Nat.ne_of_lt hLc), fun b o e => ?_, F.inC.toInCall.fresh⟩, fun n c' hc' => ?_, F.inC.apart, F.inC.above⟩, F.kind, F.gl, F.bi, F.cells, F.x0, fun y d' hy => ?_, ?_⟩, hmv⟩
  · obtain ⟨h₁, t, rfl⟩ := F.inC.toInCall.same
    exact ⟨h', t, rfl⟩
  · exact he.extBut b o (Nat.ne_of_lt (Nat.lt_trans (Nat.lt_of_lt_of_le (Heap.lt_size e) F.inC.toInCall.fresh) hLc)) (F.ext b o e)
  · by_cases hnx : n = x
    · subst hnx
      rw [hc] at hc'; cases hc'
      simpa using hn
    · rw [if_neg hnx]
      exact (F.inC.cell n c' hc').sameBut he fun e => hnx (name_of_addr F.inC.apart (mem_of_lookup hc') (e ▸ mem_of_lookup hc))
  · rcases less_set hh hy with ⟨rfl, rfl⟩ | ⟨hyx, e⟩
    · exact ⟨v, hr.mv hmv, .inr ⟨hk, if_pos rfl⟩⟩
    · obtain ⟨v', r', q⟩ := F.vars y d' e
      exact ⟨v', r'.mv hmv, q.imp id (fun ⟨a, b⟩ => ⟨a, (if_neg hyx).trans b⟩)⟩
  · rcases F.own with q | ⟨y, l, vs, n, ds, h1, h2, h3, h4, h5, h6, h7, h8, h9⟩
    · exact .inl q
    · have hyx : y ≠ x := fun h => ho (by rw [h1, h])
      have hlc : l ≠ c := fun h => by subst h; rw [hoc] at h7; cases h7; cases hod
      exact .inr ⟨y, l, vs, n, ds, h1, h2, h3, h4, h5, h6, he.extBut _ _ hlc h7, h8.mv hmv, by show lookL (setL st.env x d) y = _; rw [look_set hh, if_neg hyx]; exact h9⟩

theorem setS_some {kd : Kd} {st st' : St} {x : Str} {d : D} (h : setS kd st x d = some st') : hasL st.env x = true ∧ (kd x = some .local ∨ kd x = some .cell) ∧ some x ≠ st.own ∧ st' = { st with env := setL st.env x d } := by
  unfold setS at h
  split at h
  · rename_i hc
    simp only [Bool.and_eq_true, storable, Bool.or_eq_true, beq_iff_eq, bne_iff_ne, ne_eq] at hc
    exact ⟨hc.1.1, hc.1.2, hc.2, (Option.some.inj h).symm⟩
  · cases h

theorem Fm.store {M : Model} {A : Around} {E : Value → Shared → Prop} {Q : Unit → Shared → Prop} {st' : St} {x : Str} {d : D} {v : Value} (F : Fm s₀ env X₀ st s X) (h : setS env.kindOf st x d = some st') (hr : Rd X s.heap v d)
    (hQ : ∀ s', Fm s₀ env X₀ st' s' X → Mv X s s' → Q () s') : wpAny M A (storeName env x v) Q E s := by
  obtain ⟨m, cm, F⟩ := F
  obtain ⟨hh, hk, ho, rfl⟩ := setS_some h
  rcases hk with hk | hk
  · refine wpAny_storeName_local hk F.inC.toInCall.ns (fun h' hn hs => ?_) (by rw [F.kind]; rfl)
    obtain ⟨oL, es, ep, hL, hLd, _⟩ := F.inC.toInCall.ns
    have hr' : Rd X h' v d := hr.move fun a o vs n hd hx e => ⟨hx, hs.extBut a o (fun hb => by subst hb; rw [hL] at e; cases e; rw [hLd] at hd; cases hd) e⟩
    obtain ⟨F', hmv⟩ := F.stored (tk := s.toks + 1) hk hh ho hn (fun b o hb e => hs.extBut b o hb e) hr'
    exact hQ _ ⟨_, _, F'⟩ hmv
  · obtain ⟨c, hc⟩ := Option.isSome_iff_exists.mp (F.cells x hk)
    refine wpAny_storeName_cell F.kind hk hc (F.inC.cell x c hc) fun h' hn hs => ?_
    obtain ⟨F', hmv⟩ := F.storedC hk hh ho hc hn hs hr
    exact hQ _ ⟨_, _, F'⟩ hmv
end

/-- what a statement leaves -/
noncomputable def Post (s₀ : Shared) (env : Env) (X₀ : Addr → Prop) (s : Shared) (X : Addr → Prop) (r : Fl × St) (f : Flow) (s' : Shared) : Prop :=
  ∃ X', Fm s₀ env X₀ r.2 s' X' ∧ (∀ b, X' b → X b ∨ s.heap.get? b = none) ∧ Mv X s s' ∧
    match r.1 with
    | .next => f = .next
    | .ret d => ∃ v, f = .ret v ∧ Rd X₀ s'.heap v d

theorem Post.trans {s₀ : Shared} {env : Env} {X₀ : Addr → Prop} {s s₁ s₂ : Shared} {X X₁ : Addr → Prop} {r : Fl × St} {f : Flow} (hX : ∀ b, X₁ b → X b ∨ s.heap.get? b = none) (hm : Mv X s s₁) (p : Post s₀ env X₀ s₁ X₁ r f s₂) :
    Post s₀ env X₀ s X r f s₂ := by
  obtain ⟨X₂, F, h2, m2, q⟩ := p
  refine ⟨X₂, F, fun b hb => ?_, hm.trans hX m2, q⟩
  rcases h2 b hb with h | h
  · exact hX b h
  · cases e : s.heap.get? b with
    | none => exact .inr rfl
    | some o => obtain ⟨o', e'⟩ := hm.2 b o e; rw [h] at e'; cases e'

section
variable (prog : Program) (w : World) (tab : List FnRec) (mg mb : Str → Option Value) (k : Nat)
noncomputable def SoundEx (ex : Kd → St → List Stmt → Option (Fl × St)) : Prop :=
  ∀ (A : Around) (E : Value → Shared → Prop) (s₀ s : Shared) (X₀ X : Addr → Prop) (env : Env) (st : St) (body : List Stmt) (r : Fl × St), Room k A → Glo tab mg mb s₀.heap → Fm s₀ env X₀ st s X →
    ex env.kindOf st body = some r → wpAny (model prog w) A (execs body env) (Post s₀ env X₀ s X r) E s
end
end Mine
end
section
open PySem PySem.W PyProof.Rows
namespace Mine

theorem swaps_false {e : Expr} {x : Str} {px : Pos} {line : Nat} {env : Env} (h1 : ∀ a b c d, e ≠ .ListComp a b c d) (h2 : ∀ a b c d, e ≠ .SetComp a b c d) (h3 : ∀ a b c d f, e ≠ .DictComp a b c d f) :
    swapsWith e (some (.Name x px)) line env = pure false := by
  unfold swapsWith
  cases e <;> first | rfl | exact absurd rfl (h1 _ _ _ _) | exact absurd rfl (h2 _ _ _ _) | exact absurd rfl (h3 _ _ _ _ _)

theorem swaps_comp {elt : Expr} {gens : List Comprehension} {sc : Scope} {p : Pos} {x : Str} {px : Pos} {line : Nat} {env : Env} :
    ∃ b : Bool, swapsWith (.ListComp elt gens sc p) (some (.Name x px)) line env = pure b ∧ (b = true → env.kindOf x = some .local) := by
  refine ⟨env.blockKind == .function && env.kindOf x == some .local && px.line == p.line && !(sc.names.any fun (n, k) => n == x && (k == .local || k == .cell)), rfl, fun h => ?_⟩
  simp only [Bool.and_eq_true, beq_iff_eq] at h
  exact h.1.1.2

theorem evalE_setComp {Φ : Phi} {N : Nat} {kd : Kd} {ρ : Ro} {a b c d} : evalE Φ N kd ρ (.SetComp a b c d) = none := by
  cases N <;> rfl
theorem evalE_dictComp {Φ : Phi} {N : Nat} {kd : Kd} {ρ : Ro} {a b c d f} : evalE Φ N kd ρ (.DictComp a b c d f) = none := by
  cases N <;> rfl

section
variable {prog : Program} {w : World} {tab : List FnRec} {mg mb : Str → Option Value} {k : Nat} {Φ : Phi} {N : Nat} {A : Around} {E : Value → Shared → Prop} {s₀ s : Shared} {X₀ X : Addr → Prop} {env : Env} {st : St}

theorem val_sound (hΦ : SoundPhi prog w tab mg mb k Φ) (hA : Room k A) (hG : Glo tab mg mb s₀.heap) (F : Fm s₀ env X₀ st s X) {e : Expr} {d : D} (h : valE Φ N env.kindOf st e = some d) :
    wpAny (model prog w) A (eval e env) (Gives' X s d) E s :=
  (lv_sound hΦ N).1 A E s X env _ e d hA (hG.ext F.ext) F.envOk F.xin h
theorem cond_sound (hΦ : SoundPhi prog w tab mg mb k Φ) (hA : Room k A) (hG : Glo tab mg mb s₀.heap) (F : Fm s₀ env X₀ st s X) {e : Expr} {b : Bool} (h : condE Φ N env.kindOf st e = some b) :
    wpAny (model prog w) A (isTrue e env (eval e env)) (fun b' s' => Grew s s' ∧ b' = b) E s :=
  (lv_sound hΦ N).2 A E s X env _ e b hA (hG.ext F.ext) F.envOk F.xin h

/-- x = e -/
theorem assign_name_sound (hΦ : SoundPhi prog w tab mg mb k Φ) (hA : Room k A) (hG : Glo tab mg mb s₀.heap) (F : Fm s₀ env X₀ st s X) {x : Str} {px pos : Pos} {e : Expr} {d : D} {r : Fl × St}
    (hv : valE Φ N env.kindOf (letGo st e) e = some d)
    (h : (if some x = st.own then (setS env.kindOf { st with own := none } x d).map (fun t => (Fl.next, t)) else (setS env.kindOf (letGo st e) x d).map (fun t => (Fl.next, t))) = some r) :
    wpAny (model prog w) A (exec (.Assign [.Name x px] e pos) env) (Post s₀ env X₀ s X r) E s := by
  obtain ⟨X₁, F₁, h₁⟩ := F.letGo e
  -- the state that is stored into
  obtain ⟨st₂, X₂, st', F₂, hsub, hset, rfl⟩ : ∃ st₂ X₂ st', Fm s₀ env X₀ st₂ s X₂ ∧ (∀ a, X₂ a → X₁ a) ∧ setS env.kindOf st₂ x d = some st' ∧ r = (.next, st') := by
    by_cases ho : some x = st.own
    · rw [if_pos ho] at h
      obtain ⟨st', hs, rfl⟩ := of_map h
      exact ⟨_, X₀, st', F.drop, F₁.sub, hs, rfl⟩
    · rw [if_neg ho] at h
      obtain ⟨st', hs, rfl⟩ := of_map h
      exact ⟨_, X₁, st', F₁, fun _ q => q, hs, rfl⟩
  have plain : swapsWith e (some (.Name x px)) pos.line env = pure false → wpAny (model prog w) A (exec (.Assign [.Name x px] e pos) env) (Post s₀ env X₀ s X (.next, st')) E s := by
    intro hs
    refine wpAny_Assign_Name (wpAny_mono (val_sound hΦ hA hG F₁ hv) (fun v s₁ hv₁ => ?_) fun _ _ x => x) hs
    obtain ⟨g, rv⟩ := hv₁
    refine (F₂.grew g).store hset (rv.less hsub) fun s' F' m' => ⟨X₂, F', fun b hb => .inl (h₁ _ (hsub _ hb)), ?_, rfl⟩
    exact (Mv.grew (X := X₂) g |>.trans (fun b hb => .inl hb) m' |> fun q => ⟨fun b o e hx hn => q.1 b o e (fun hb => hx (h₁ _ (hsub _ hb))) hn, q.2⟩)
  by_cases hc : ∃ a b c d, e = .ListComp a b c d
  · obtain ⟨elt, gens, sc, p, rfl⟩ := hc
    obtain ⟨b, hb, hloc⟩ := swaps_comp (elt := elt) (gens := gens) (sc := sc) (p := p) (x := x) (px := px) (line := pos.line) (env := env)
    cases b with
    | false => exact plain hb
    | true =>
      have hkx := hloc rfl
      unfold valE at hv
      cases N with
      | zero => exact no hv
      | succ n =>
        have hEnv := F₁.envOk
        generalize hρ : lessL (lookL (letGo st (.ListComp elt gens sc p)).env) (letGo st (.ListComp elt gens sc p)).own = ρ at hv hEnv
        obtain ⟨y, yp, iter, rfl, hok, ds, hi, hds, rs, hm, hrs, rfl⟩ := compE_some (show compE (evalE Φ n) env.kindOf ρ elt gens sc = some d from hv)
        obtain ⟨cl, hcl, hcell, hk, hnames, hx, hset', hw⟩ := comp_pack (E := E) (lv_sound hΦ n).1 hA (hG.ext F₁.ext) hEnv F₁.xin hok hi hds.2 hrs hm
        obtain ⟨m, cm, F₂⟩ := F₂
        obtain ⟨hh, _, ho, rfl⟩ := setS_some hset
        refine wpAny_Assign_ListComp_free (fun _ => true) (CompF (evalE Φ n) env sc ρ y elt) hb hcl hcell hk hnames hx hkx (by rw [F₂.kind]; rfl) (wpAny_mono hw (fun xv s₁ hq₁ => wpAny_mono hq₁ (fun it s₂ hq₂ => ?_) fun _ _ x => x) fun _ _ x => x) hset'
        obtain ⟨I, fp, wr, n', P, St, rfl, W, hz, hst, hfp, hwr, g, hq, hfin⟩ := hq₂
        have hL : env.locals ∉ wr := fun hb => by
          obtain ⟨oL, _, _, hL, _⟩ := F₂.inC.toInCall.ns
          rw [hwr _ hb] at hL; cases hL
        refine ⟨I, fp, wr, n', P, St, m, rfl, W, hz, hst, fun b hb => let ⟨o, ho, _⟩ := hfp b hb; Heap.lt_size ho, hL, F₂.inC.toInCall.ns.keeps g.ext, hq, fun D h' tk ys vs hD hl hpl hlen hPj hF hns hkeep => ?_⟩
        have r := hfin vs ys.toList hlen hPj hF
        have hext : ∀ b o, b ≠ env.locals → s.heap.get? b = some o → h'.get? b = some o := fun b o hbL e => hkeep b o hbL (fun hb => by rw [hwr b hb] at e; cases e) (g.ext b o e)
        obtain ⟨nl, hpl⟩ := hpl
        have hD0 : ¬ X₂ D := fun hxD => (F₁.xin.ext g.ext).none hD (hsub D hxD)
        have rd : Rd X₂ h' (.ref D) (.list rs) := .list hD0 hpl (r.move fun a o vs n hd hx _ => absurd trivial hx)
        obtain ⟨F', mv⟩ := F₂.stored (tk := tk) hkx hh ho hns hext rd
        obtain ⟨h₂, tk₂, rfl, _⟩ := g
        exact ⟨X₂, ⟨_, _, F'⟩, fun b hb => .inl (h₁ _ (hsub _ hb)), ⟨fun b o e hx hn => mv.1 b o e (fun hb => hx (h₁ _ (hsub _ hb))) hn, mv.2⟩, rfl⟩
  · refine plain (swaps_false (fun a b c d h => hc ⟨a, b, c, d, h⟩) (fun a b c d h => ?_) (fun a b c d f h => ?_))
    · subst h; simp [valE, evalE_setComp] at hv
    · subst h; simp [valE, evalE_dictComp] at hv

/-- x = [..]: a list of the frame's own -/
theorem assign_own_sound (hΦ : SoundPhi prog w tab mg mb k Φ) (hA : Room k A) (hG : Glo tab mg mb s₀.heap) (F : Fm s₀ env X₀ st s X) {x : Str} {px p pos : Pos} {es : List Expr} {d : D} {st' : St}
    (hv : valE Φ N env.kindOf (letGo st (.List es p)) (.List es p) = some d) (hkx : env.kindOf x = some .local) (hset : setS env.kindOf { st with own := none } x d = some st') :
    wpAny (model prog w) A (exec (.Assign [.Name x px] (.List es p) pos) env) (Post s₀ env X₀ s X (.next, { st' with own := some x })) E s := by
  obtain ⟨X₁, F₁, h₁⟩ := F.letGo (.List es p)
  unfold valE at hv
  cases N with
  | zero => exact no hv
  | succ n =>
    · obtain ⟨hc, hv⟩ := of_if (show (if es.all noStar ∧ es.length ≤ 1000 then (evs (evalE Φ n) env.kindOf _ es).map .list else none) = some d from hv)
      obtain ⟨ds, hd, rfl⟩ := of_map hv
      obtain ⟨hh, _, _, rfl⟩ := setS_some hset
      refine wpAny_Assign_Name (wpAny_List (wpAny_mono (evs_sound (lv_sound hΦ n).1 hA p es ds s (hG.ext F₁.ext) F₁.envOk F₁.xin hc.1 hd) (fun vs s₁ hq => ?_) fun _ _ x => x)) rfl
      obtain ⟨g, rv⟩ := hq
      refine ⟨?_, ?_⟩
      · exact step_len hd rv hc.2
      have F₀ := (F.drop).grew g
      obtain ⟨m, cm, F₀⟩ := F₀
      have hlf : s₁.heap.get? s₁.heap.objs.size = none := fresh_none _
      obtain ⟨oL, esL, ep, hL, hLd, _⟩ := F₀.inC.toInCall.ns
      have hLl : env.locals ≠ s₁.heap.objs.size := fun h => by rw [h, hlf] at hL; cases hL
      have hL2 : (s₁.heap.push { cls := .type "list", data := .seq vs.toArray }).Ns env.locals m := F₀.inC.toInCall.ns.push _
      refine wpAny_storeName_local hkx hL2 (fun h' hn hs => ?_) (by rw [F₀.kind]; rfl)
      have he : ∀ b o, b ≠ env.locals → s₁.heap.get? b = some o → h'.get? b = some o := fun b o hb e => hs.extBut b o hb (Heap.get?_push_of_some _ e)
      have up : ∀ (Y : Addr → Prop), (∀ a, X₀ a → Y a) → ∀ a o vs' n, o.data = .seq vs' n → ¬ Y a → s₁.heap.get? a = some o → ¬ (X₀ a ∨ a = s₁.heap.objs.size) ∧ h'.get? a = some o := by
        intro Y hY a o vs' n' hd' hx e
        refine ⟨?_, he a o (fun hb => ?_) e⟩
        · rintro (hx' | rfl)
          · exact hx (hY a hx')
          · rw [hlf] at e; cases e
        · subst hb; rw [hL] at e; cases e; rw [hLd] at hd'; cases hd'
      have hX₀l : ¬ X₀ s₁.heap.objs.size := fun q => by
        obtain ⟨o, ho⟩ := F₀.x0.ext F₀.ext _ q
        rw [hlf] at ho; cases ho
      refine ⟨fun a => X₀ a ∨ a = s₁.heap.objs.size, ⟨fun y => if y = x then some (.ref s₁.heap.objs.size) else m y, cm, ?_⟩, ?_, ?_, rfl⟩
      · refine ⟨⟨⟨?_, hn, fun b o e => ?_, F₀.inC.toInCall.fresh⟩, fun n c hc => ?_, F₀.inC.apart, F₀.inC.above⟩, F₀.kind, F₀.gl, F₀.bi, F₀.cells, F₀.x0, fun y d' hy => ?_, .inr ⟨x, s₁.heap.objs.size, vs.toArray, 0, ds, rfl, rfl, hkx, by simp, hX₀l, ?_, ?_, ?_, ?_⟩⟩
        · obtain ⟨h₂, t, rfl⟩ := F₀.inC.toInCall.same
          exact ⟨h', _, rfl⟩
        · exact he b o (Nat.ne_of_lt (Nat.lt_of_lt_of_le (Heap.lt_size e) F₀.inC.toInCall.fresh)) (F₀.ext b o e)
        · obtain ⟨oc, h1, h2⟩ := F₀.inC.cell n c hc
          exact ⟨oc, he c oc (Nat.ne_of_gt (F₀.inC.above n c (mem_of_lookup hc))) h1, h2⟩
        · have hyx : y ≠ x := fun h => by subst h; simp [lessL] at hy
          have hy' : lookL st.env y = some d' := by
            have e : (if y = x then none else lookL (setL st.env x (.list ds)) y) = some d' := hy
            rw [if_neg hyx, look_set hh, if_neg hyx] at e; exact e
          obtain ⟨v', r', q⟩ := F₀.vars y d' hy'
          exact ⟨v', r'.move (up X₀ fun _ q => q), q.imp (fun ⟨a, b⟩ => ⟨a, by rw [if_neg hyx]; exact b⟩) id⟩
        · cases e : s₀.heap.get? s₁.heap.objs.size with
          | none => rfl
          | some o => have := F₀.ext _ _ e; rw [hlf] at this; cases this
        · exact hs.extBut _ _ hLl.symm (Heap.get?_push_size _ rfl)
        · exact rv.move (up X₁ F₁.sub)
        · show lookL (setL st.env x (.list ds)) x = _
          rw [look_set hh]; simp
      · rintro b (hb | rfl)
        · exact .inl (F.sub b hb)
        · refine .inr ?_
          cases e : s.heap.get? s₁.heap.objs.size with
          | none => rfl
          | some o => have := g.ext _ _ e; rw [hlf] at this; cases this
      · refine ⟨fun b o e hx hnf => he b o (fun hb => ?_) (g.ext b o e), fun b o e => ?_⟩
        · subst hb
          have := g.ext _ _ e
          rw [hL] at this; cases this
          exact hnf.1 _ _ hLd
        · by_cases hb : b = env.locals
          · subst hb; obtain ⟨o', _, _, h1, _⟩ := hn; exact ⟨o', h1⟩
          · exact ⟨o, he b o hb (g.ext b o e)⟩
end
end Mine
end
section
open PySem PySem.W PyProof.Rows
namespace Mine

theorem setL_comm {x y : Str} (h : x ≠ y) (a b : D) : ∀ l : Lo, setL (setL l x a) y b = setL (setL l y b) x a
  | [] => rfl
  | (n, o) :: r => by
    by_cases hx : x = n
    · subst hx
      simp [setL, h, Ne.symm h]
    · by_cases hy : y = n
      · subst hy; simp [setL, h, Ne.symm h]
      · simp [setL, hx, hy, setL_comm h a b r]
theorem hasL_set {x y : Str} {a : D} : ∀ l : Lo, hasL (setL l x a) y = hasL l y
  | [] => rfl
  | (n, o) :: r => by
    by_cases hx : x = n
    · subst hx; simp [setL, hasL]
    · simp [setL, hx, hasL, hasL_set r]

theorem setS_swap {kd : Kd} {st st₁ st₂ : St} {x y : Str} {a b : D} (hxy : x ≠ y) (h1 : setS kd st x a = some st₁) (h2 : setS kd st₁ y b = some st₂) :
    ∃ st', setS kd st y b = some st' ∧ setS kd st' x a = some st₂ := by
  have e1 := h1
  have e2 := h2
  obtain ⟨p1, p2, p3, rfl⟩ := setS_some h1
  obtain ⟨q1, q2, q3, rfl⟩ := setS_some h2
  have p1' : hasL (setL st.env y b) x = true := by rw [hasL_set]; exact p1
  have q1' : hasL st.env y = true := by rw [← hasL_set (x := x) (a := a)]; exact q1
  have s1 : storable kd x = true := by unfold storable; rcases p2 with h | h <;> simp [h]
  have s2 : storable kd y = true := by unfold storable; rcases q2 with h | h <;> simp [h]
  have o1 : (some x != st.own) = true := by simpa using p3
  have o2 : (some y != st.own) = true := by simpa using q3
  refine ⟨{ st with env := setL st.env y b }, ?_, ?_⟩
  · unfold setS; rw [q1', s2, o2]; rfl
  · unfold setS
    have : (hasL (setL st.env y b) x && storable kd x && (some x != st.own)) = true := by rw [p1', s1, o1]; rfl
    simp only [this, if_true]
    rw [setL_comm hxy]

theorem swapped_or {x y : Str} {px py tp : Pos} {kk : Nat} {value : Expr} {env : Env} (h : swapOk value = true) :
    swappedStores [.Tuple [.Name x px, .Name y py] kk tp] value env = pure none ∨ swappedStores [.Tuple [.Name x px, .Name y py] kk tp] value env = pure (some [x, y]) := by
  cases value with
  | Tuple vs k p =>
    have hs : vs.all (foldedForSure 8) = true ∨ vs.all (constantsAlone 8) = false := by
      simp only [swapOk, Bool.or_eq_true, Bool.not_eq_true'] at h
      exact h
    unfold swappedStores
    simp only [List.length_cons, List.length_nil]
    split
    · exact .inl rfl
    · split
      · exact .inl rfl
      · simp only [List.head?_cons, Option.map_some, Option.getD_some, List.filterMap_cons, List.filterMap_nil]
        by_cases h1 : (env.kindOf x == some .local && px.line == (Expr.Name x px).pos.line) = true <;>
          by_cases h2 : (env.kindOf y == some .local && py.line == (Expr.Name x px).pos.line) = true <;>
          simp only [h1, h2, Bool.false_eq_true, if_false, if_true]
        rotate_left
        · exact .inl rfl
        · exact .inl rfl
        · exact .inl rfl
        · split
          · exact .inl rfl
          · split
            · exact .inl rfl
            · rename_i hf
              split
              · rename_i hc
                rcases hs with hs | hs
                · exact absurd hs hf
                · rw [hs] at hc; cases hc
              · exact .inr rfl
  | _ => exact .inl rfl

section
variable {prog : Program} {w : World} {tab : List FnRec} {mg mb : Str → Option Value} {k : Nat} {Φ : Phi} {N : Nat} {A : Around} {E : Value → Shared → Prop} {s₀ s : Shared} {X₀ X : Addr → Prop} {env : Env} {st : St}

theorem two_stores {M : Model} {st₁ st₂ : St} {x y : Str} {a b : D} {va vb : Value} {t₁ t₂ : Value → Sem Unit} (F : Fm s₀ env X₀ st s X) (h1 : setS env.kindOf st x a = some st₁) (h2 : setS env.kindOf st₁ y b = some st₂)
    (ra : Rd X s.heap va a) (rb : Rd X s.heap vb b)
    (ht₁ : ∀ (s : Shared) (Q : Unit → Shared → Prop), wpAny M A (storeName env x va) Q E s → wpAny M A (t₁ va) Q E s) (ht₂ : ∀ (s : Shared) (Q : Unit → Shared → Prop), wpAny M A (storeName env y vb) Q E s → wpAny M A (t₂ vb) Q E s) :
    wpAny M A (assignInOrder [t₁, t₂] [va, vb]) (fun _ s' => Fm s₀ env X₀ st₂ s' X ∧ Mv X s s') E s := by
  show wpAny M A (do holding [vb] (t₁ va); do holding [] (t₂ vb); pure ()) _ E s
  refine wpAny_bind (wpAny_holding (ht₁ _ _ (F.store h1 ra fun s₁ F₁ m₁ => ?_)))
  refine wpAny_bind (wpAny_holding (ht₂ _ _ (F₁.store h2 (rb.mv m₁) fun s₂ F₂ m₂ => wpAny_pure ⟨F₂, m₁.trans (fun _ q => .inl q) m₂⟩)))

theorem pair_read {t : Addr} {a b : D} (r : Rd X s.heap (.ref t) (.tuple [a, b])) : ∃ va vb n, s.heap.get? t = some { cls := .type "tuple", data := .seq #[va, vb] n } ∧ Rd X s.heap va a ∧ Rd X s.heap vb b := by
  cases r with
  | tuple hx e r =>
    rename_i vs n
    obtain ⟨l⟩ := vs
    cases r with
    | cons ra r => cases r with
      | cons rb r => cases r; exact ⟨_, _, n, e, ra, rb⟩

theorem bindName2_some {kd : Kd} {x y : Str} {d : D} {st st' : St} (h : bindName2 kd x y d st = some st') : ∃ a b, d = .tuple [a, b] ∧ x ≠ y ∧ ∃ st₁, setS kd st x a = some st₁ ∧ setS kd st₁ y b = some st' := by
  cases d with
  | tuple l =>
    rcases l with _ | ⟨a, _ | ⟨b, _ | ⟨_, _⟩⟩⟩
    · exact no h
    · exact no h
    · obtain ⟨hxy, h⟩ := of_ifn h
      obtain ⟨st₁, h1, h⟩ := of_bind h
      exact ⟨a, b, rfl, hxy, st₁, h1, h⟩
    · exact no h
  | _ => exact no h
/-- x, y = e -/
theorem assign_pair_sound (hΦ : SoundPhi prog w tab mg mb k Φ) (hA : Room k A) (hG : Glo tab mg mb s₀.heap) (F : Fm s₀ env X₀ st s X) {x y : Str} {px py tp pos : Pos} {kk : Nat} {e : Expr} {d : D} {st' : St}
    (hv : valE Φ N env.kindOf (letGo st e) e = some d) (hs : swapOk e = true) (h : bindName2 env.kindOf x y d (letGo st e) = some st') :
    wpAny (model prog w) A (exec (.Assign [.Tuple [.Name x px, .Name y py] kk tp] e pos) env) (Post s₀ env X₀ s X (.next, st')) E s := by
  obtain ⟨X₁, F₁, h₁⟩ := F.letGo e
  have hval := val_sound (E := E) hΦ hA hG F₁ hv
  obtain ⟨a, b, rfl, hxy, st₁, hst₁, h⟩ := bindName2_some h
  have fin : ∀ s₁ s', Grew s s₁ → Fm s₀ env X₀ st' s' X₁ → Mv X₁ s₁ s' → Post s₀ env X₀ s X (.next, st') .next s' := by
    intro s₁ s' g F' m'
    refine ⟨X₁, F', fun b hb => .inl (h₁ b hb), ?_, rfl⟩
    have q := (Mv.grew (X := X₁) g).trans (fun _ q => .inl q) m'
    exact ⟨fun b o e hx hn => q.1 b o e (fun hb => hx (h₁ b hb)) hn, q.2⟩
  have hsw : swapsWithSole [.Tuple [.Name x px, .Name y py] kk tp] e pos.line env = pure false := by
    show swapsWith e (some (.Tuple [.Name x px, .Name y py] kk tp)) pos.line env = pure false
    unfold swapsWith
    cases e <;> rfl
  rcases swapped_or (x := x) (y := y) (px := px) (py := py) (tp := tp) (kk := kk) (env := env) hs with hw | hw
  · refine Assign_Tuple (wpAny_mono hval (fun v s₁ hq => ?_) fun _ _ x => x) hsw hw
    obtain ⟨g, rv⟩ := hq
    obtain ⟨t, rfl⟩ : ∃ t, v = .ref t := by cases rv; exact ⟨_, rfl⟩
    obtain ⟨va, vb, n, ht, ra, rb⟩ := pair_read rv
    refine wpAny_assign_Tuple hA.handled ⟨_, ht, rfl, _, rfl⟩ rfl rfl fun h' he => ?_
    have g2 : Grew s₁ { s₁ with heap := h' } := ⟨h', s₁.toks, rfl, fun b o e => he b o (Nat.ne_of_lt (Heap.lt_size e)) e⟩
    refine wpAny_mono (two_stores (t₁ := assign (.Name x px) env) (t₂ := assign (.Name y py) env) ((F₁.grew g).grew g2) hst₁ h (ra.ext g2.ext) (rb.ext g2.ext) (fun s Q h => PySem.wpAny_assign_Name h) (fun s Q h => PySem.wpAny_assign_Name h)) (fun _ s' hq => fin _ s' (g.trans g2) hq.1 hq.2) fun _ _ x => x
  · refine Assign_Tuple_swapped (names := [x, y]) (wpAny_mono hval (fun v s₁ hq => ?_) fun _ _ x => x) hsw hw
    obtain ⟨g, rv⟩ := hq
    obtain ⟨t, rfl⟩ : ∃ t, v = .ref t := by cases rv; exact ⟨_, rfl⟩
    obtain ⟨va, vb, n, ht, ra, rb⟩ := pair_read rv
    refine wpAny_unpackItems_tuple (items := #[va, vb]) hA.handled ⟨_, ht, rfl, _, rfl⟩ fun h' he => ?_
    have g2 : Grew s₁ { s₁ with heap := h' } := ⟨h', s₁.toks, rfl, fun b o e => he b o (Nat.ne_of_lt (Heap.lt_size e)) e⟩
    obtain ⟨stm, hm1, hm2⟩ := setS_swap hxy hst₁ h
    refine wpAny_mono (two_stores (t₁ := fun v => bindName env y v) (t₂ := fun v => bindName env x v) ((F₁.grew g).grew g2) hm1 hm2 (rb.ext g2.ext) (ra.ext g2.ext) (fun s Q h => wpAny_bindName h) (fun s Q h => wpAny_bindName h)) (fun _ s' hq => fin _ s' (g.trans g2) hq.1 hq.2) fun _ _ x => x

/-- x.append(e) -/
theorem append_sound (hΦ : SoundPhi prog w tab mg mb k Φ) (hA : Room k A) (hG : Glo tab mg mb s₀.heap) (F : Fm s₀ env X₀ st s X) {x : Str} {px ap p pos : Pos} {a : Expr} {d : D} {l : List D}
    (hline : (ap.endLine == p.line) = true) (hown : st.own = some x) (hn : noStar a = true) (hl : lookL st.env x = some (.list l)) (hv : valE Φ N env.kindOf st a = some d) (hz : l.length ≤ 1000000) (hx : x ≠ Str.ofString "__debug__") (hh : hasL st.env x = true) :
    wpAny (model prog w) A (exec (.Expr (.Call (.Attribute (.Name x px) (Str.ofString "append") ap) [a] [] p) pos) env) (Post s₀ env X₀ s X (.next, { st with env := setL st.env x (.list (l ++ [d])) })) E s := by
  have hval := val_sound (E := E) hΦ hA hG F hv
  obtain ⟨m, cm, F⟩ := F
  rcases F.own with ⟨h1, _⟩ | ⟨y, la, vs, n, ds, h1, h2, h3, h4, h5, h6, h7, h8, h9⟩
  · rw [hown] at h1; cases h1
  rw [hown] at h1
  obtain rfl := Option.some.inj h1
  rw [hl] at h9
  obtain rfl : l = ds := by simpa using h9
  have hlen := h8.length
  rw [Array.length_toList] at hlen
  have hnostar : starEach [a] env = [(false, eval a env)] := by cases a <;> first | rfl | simp [noStar] at hn
  refine wpAny_Expr (wpAny_Call_append rfl (by rw [hnostar]; rfl) hline (by rw [hnostar]; rfl) ?_) (by unfold interactive; rw [F.kind]; rfl) rfl
  refine wpAny_Name (wpAny_loadName_local F.kind h3 F.inC.toInCall.ns h4 ⟨la, vs, rfl, ⟨_, n, h7, rfl, rfl, rfl⟩, ?_⟩) (by simpa using hx)
  refine wpAny_mono hval (fun v s₁ hq => ?_) fun _ _ x => x
  obtain ⟨g, rv⟩ := hq
  refine wpAny_list_append_plain ⟨n, g.ext _ _ h7⟩ (fun h' hpl hsb => ?_) (by rw [hlen, sizeLine_eq]; lia)
  have F₁ := F.grew g
  have hXl : X la := by rw [h2]; exact .inr rfl
  have hseq : ∀ (a : Addr) (o : Obj), s₁.heap.get? a = some o → a = la → ∃ vs n, o.data = .seq vs n := fun a o e h => by
    subst h
    rw [g.ext _ _ h7] at e; cases e; exact ⟨_, _, rfl⟩
  obtain ⟨oL, es, ep, hL, hLd, hLr⟩ := id F₁.inC.toInCall.ns
  have hLl : env.locals ≠ la := fun h => by obtain ⟨_, _, q⟩ := hseq _ _ hL h; rw [q] at hLd; cases hLd
  have hmv : Mv X s₁ { s₁ with heap := h' } := by
    refine ⟨fun b o e hx _ => hsb.extBut b o (fun hb => hx (hb ▸ hXl)) e, fun b o e => ?_⟩
    by_cases hb : b = la
    · subst hb; obtain ⟨n', h⟩ := hpl; exact ⟨_, h⟩
    · exact ⟨o, hsb.extBut b o hb e⟩
  have hlook : ∀ z, lookL (setL st.env x (.list (l ++ [d]))) z = if z = x then some (.list (l ++ [d])) else lookL st.env z := fun z => look_set hh z
  refine ⟨X, ⟨m, cm, ⟨⟨?_, F₁.inC.toInCall.ns.extBut hsb.extBut hLl, fun b o e => hsb.extBut b o (fun hb => ?_) (F₁.ext b o e), F₁.inC.toInCall.fresh⟩, fun n c hc => ?_, F₁.inC.apart, F₁.inC.above⟩, F₁.kind, F₁.gl, F₁.bi, F₁.cells, F₁.x0, fun z d' hz' => ?_, ?_⟩, fun b hb => .inl hb, (Mv.grew g).trans (fun _ q => .inl q) hmv, rfl⟩
  · obtain ⟨h₂, t, rfl⟩ := F₁.inC.toInCall.same
    exact ⟨h', _, rfl⟩
  · subst hb; rw [h6] at e; cases e
  · obtain ⟨oc, e1, e2⟩ := F₁.inC.cell n c hc
    exact ⟨oc, hsb.extBut c oc (fun hb => by obtain ⟨_, _, q⟩ := hseq _ _ e1 hb; rw [q] at e2; cases e2) e1, e2⟩
  · have hz'' : lessL (lookL st.env) st.own z = some d' := by
      rw [hown] at hz' ⊢
      simp only [lessL] at hz' ⊢
      split at hz'
      · cases hz'
      · rename_i hzx
        rw [if_neg hzx]
        rw [hlook, if_neg hzx] at hz'; exact hz'
    obtain ⟨v', r', q⟩ := F₁.vars z d' hz''
    exact ⟨v', r'.mv hmv, q⟩
  · obtain ⟨n', hpl⟩ := hpl
    refine .inr ⟨x, la, vs.push v, n', l ++ [d], hown, h2, h3, h4, h5, h6, hpl, ?_, by rw [hlook]; simp⟩
    rw [Array.toList_push]
    exact ((h8.ext g.ext).mv hmv).append (.cons (rv.mv hmv) .nil)

/-- return e -/
theorem return_sound (hΦ : SoundPhi prog w tab mg mb k Φ) (hA : Room k A) (hG : Glo tab mg mb s₀.heap) (F : Fm s₀ env X₀ st s X) {e : Expr} {p : Pos} {d : D} (hv : valE Φ N env.kindOf (letGo st e) e = some d) :
    wpAny (model prog w) A (exec (.Return (some e) p) env) (Post s₀ env X₀ s X (.ret d, st)) E s := by
  obtain ⟨X₁, F₁, h₁⟩ := F.letGo e
  refine wpAny_Return_some (wpAny_mono (val_sound (E := E) hΦ hA hG F₁ hv) (fun v s₁ hq => ?_) fun _ _ x => x)
  exact ⟨X, F.grew hq.1, fun _ q => .inl q, Mv.grew hq.1, v, rfl, hq.2.less F₁.sub⟩

/-- if -/
theorem if_sound (hΦ : SoundPhi prog w tab mg mb k Φ) {ex : Kd → St → List Stmt → Option (Fl × St)} (hex : SoundEx prog w tab mg mb k ex) (hA : Room k A) (hG : Glo tab mg mb s₀.heap) (F : Fm s₀ env X₀ st s X)
    {t : Expr} {b o : List Stmt} {p : Pos} {r : Fl × St} {c : Bool} (hc : condE Φ N env.kindOf (letGo st t) t = some c) (h : (if c = true then ex env.kindOf (letGo st t) b else ex env.kindOf (letGo st t) o) = some r) :
    wpAny (model prog w) A (exec (.If t b o p) env) (Post s₀ env X₀ s X r) E s := by
  obtain ⟨X₁, F₁, h₁⟩ := F.letGo t
  refine wpAny_If (wpAny_mono (cond_sound (E := E) hΦ hA hG F₁ hc) (fun c' s₁ hq => ?_) fun _ _ x => x)
  obtain ⟨g, rfl⟩ := hq
  have up : ∀ f s', Post s₀ env X₀ s₁ X₁ r f s' → Post s₀ env X₀ s X r f s' := fun f s' q => q.trans (fun b hb => .inl (h₁ b hb)) (Mv.grew g)
  cases c' with
  | true =>
    simp only [if_true] at h ⊢
    exact wpAny_mono (hex A E s₀ s₁ X₀ X₁ env _ b r hA hG (F₁.grew g) h) up fun _ _ x => x
  | false =>
    simp only [Bool.false_eq_true, if_false] at h ⊢
    exact wpAny_mono (hex A E s₀ s₁ X₀ X₁ env _ o r hA hG (F₁.grew g) h) up fun _ _ x => x
end
end Mine
end
section
open PySem PySem.W PyProof.Rows
namespace Mine

section
variable {s₀ : Shared} {env : Env} {X₀ : Addr → Prop} {st : St} {s : Shared} {X : Addr → Prop} {m cm : Str → Option Value}

/-- an iterator's own objects have moved -/
theorem FmAt.moved (F : FmAt s₀ env X₀ st s X m cm) {wr : List Addr} {h' : Heap} {tk : Nat} (he : ∀ b o, b ∉ wr → s.heap.get? b = some o → h'.get? b = some o)
    (hw : ∀ b ∈ wr, ∃ o, s.heap.get? b = some o ∧ NotFrame o ∧ ∀ vs n, o.data ≠ .seq vs n) (hnew : ∀ b ∈ wr, s₀.heap.get? b = none) : FmAt s₀ env X₀ st { s with heap := h', toks := tk } X m cm := by
  have key : ∀ b o, s.heap.get? b = some o → (∃ vs n, o.data = .seq vs n) → h'.get? b = some o := fun b o e ⟨vs, n, hd⟩ => he b o (fun hb => by
    obtain ⟨o', e', _, hs⟩ := hw b hb
    rw [e] at e'; cases e'; exact hs _ _ hd) e
  have mvR : ∀ {v d}, Rd X s.heap v d → Rd X h' v d := fun r => r.move fun a o vs n hd hx e => ⟨hx, key a o e ⟨vs, n, hd⟩⟩
  refine ⟨⟨⟨?_, F.inC.toInCall.ns.at' fun o e => he _ o (fun hb => ?_) e, fun b o e => he b o (fun hb => by rw [hnew b hb] at e; cases e) (F.ext b o e), F.inC.toInCall.fresh⟩, fun n c hc => ?_, F.inC.apart, F.inC.above⟩, F.kind, F.gl, F.bi, F.cells, F.x0, fun z d hz => ?_, ?_⟩
  · obtain ⟨h₁, t, rfl⟩ := F.inC.toInCall.same
    exact ⟨h', tk, rfl⟩
  · obtain ⟨o', e', hn, _⟩ := hw _ hb
    obtain ⟨oL, es, ep, hL, hLd, _⟩ := F.inC.toInCall.ns
    rw [hL] at e'; cases e'; exact hn.1 _ _ hLd
  · obtain ⟨oc, e1, e2⟩ := F.inC.cell n c hc
    refine ⟨oc, he c oc (fun hb => ?_) e1, e2⟩
    obtain ⟨o', e', hn, _⟩ := hw _ hb
    rw [e1] at e'; cases e'; exact hn.2 _ e2
  · obtain ⟨v', r', q⟩ := F.vars z d hz
    exact ⟨v', mvR r', q⟩
  · rcases F.own with q | ⟨y, l, vs, n, ds, h1, h2, h3, h4, h5, h6, h7, h8, h9⟩
    · exact .inl q
    · exact .inr ⟨y, l, vs, n, ds, h1, h2, h3, h4, h5, h6, key _ _ h7 ⟨_, _, rfl⟩, h8.move fun a o vs n hd hx e => ⟨hx, key a o e ⟨vs, n, hd⟩⟩, h9⟩

/-- since a loop's start only name spaces, cells, what is shut out and the iterator have moved -/
noncomputable def LMv (X : Addr → Prop) (wr : List Addr) (s s' : Shared) : Prop :=
  (∀ b o, s.heap.get? b = some o → ¬ X b → NotFrame o → b ∉ wr → s'.heap.get? b = some o) ∧ (∀ b o, s.heap.get? b = some o → ∃ o', s'.heap.get? b = some o')

theorem LMv.then_mv {X X₁ : Addr → Prop} {wr : List Addr} {s s₁ s₂ : Shared} (a : LMv X wr s s₁) (hX : ∀ b, X₁ b → X b ∨ s.heap.get? b = none) (b : Mv X₁ s₁ s₂) : LMv X wr s s₂ := by
  refine ⟨fun q o e hx hn hw => b.1 q o (a.1 q o e hx hn hw) (fun h1 => ?_) hn, fun q o e => ?_⟩
  · rcases hX q h1 with h | h
    · exact hx h
    · rw [e] at h; cases h
  · obtain ⟨o', e'⟩ := a.2 q o e
    exact b.2 q o' e'
theorem LMv.out {X : Addr → Prop} {wr : List Addr} {s s₂ s' : Shared} (g : Grew s s₂) (hw : ∀ b ∈ wr, s.heap.get? b = none) (l : LMv X wr s₂ s') : Mv X s s' :=
  ⟨fun b o e hx hn => l.1 b o (g.ext b o e) hx hn (fun hb => by rw [hw b hb] at e; cases e), fun b o e => l.2 b o (g.ext b o e)⟩
theorem chainX {X X₁ X₂ : Addr → Prop} {s s₁ : Shared} (h1 : ∀ b, X₁ b → X b ∨ s.heap.get? b = none) (hl : ∀ b o, s.heap.get? b = some o → ∃ o', s₁.heap.get? b = some o') (h2 : ∀ b, X₂ b → X₁ b ∨ s₁.heap.get? b = none) :
    ∀ b, X₂ b → X b ∨ s.heap.get? b = none := by
  intro b hb
  rcases h2 b hb with h | h
  · exact h1 b h
  · cases e : s.heap.get? b with
    | none => exact .inr rfl
    | some o => obtain ⟨o', e'⟩ := hl b o e; rw [h] at e'; cases e'
end

section
variable {prog : Program} {w : World} {tab : List FnRec} {mg mb : Str → Option Value} {k : Nat} {Φ : Phi} {N : Nat} {A : Around} {E : Value → Shared → Prop} {s₀ s : Shared} {X₀ X : Addr → Prop} {env : Env} {st : St}

/-- what the loop keeps at each turn's start -/
structure LInv (s₀ : Shared) (env : Env) (X₀ X : Addr → Prop) (s₂ : Shared) (wr : List Addr) (n : Nat) (St' : Nat → Heap → Prop) (go : Nat → St → Option (Fl × St)) (r : Fl × St) (k' : Nat) (s' : Shared) (i : Nat) (sti : St) (Xi : Addr → Prop) : Prop where
  F : Fm s₀ env X₀ sti s' Xi
  xs : ∀ b, Xi b → X b ∨ s₂.heap.get? b = none
  mv : LMv X wr s₂ s'
  stt : St' i s'.heap
  le : i ≤ n
  at_ : k' = n + 1 - i
  go_ : go i sti = some r

theorem for_turn {ex : Kd → St → List Stmt → Option (Fl × St)} (hex : SoundEx prog w tab mg mb k ex) (hA : Room k A) (hG : Glo tab mg mb s₀.heap) {body : List Stmt} {s₂ s₁ : Shared} {fp wr : List Addr} {n i k' : Nat} {St' : Nat → Heap → Prop}
    {go : Nat → St → Option (Fl × St)} {r : Fl × St} {st₁ : St} {X₁ : Addr → Prop} {R : Result → Shared → Prop} (hframe : ∀ i h h', St' i h → (∀ b ∈ fp, ∀ o, h.get? b = some o → h'.get? b = some o) → St' i h')
    (hfr : ∀ i h, St' i h → (∀ b ∈ fp, ∃ o, h.get? b = some o ∧ NotFrame o) ∧ ∀ b ∈ wr, ∃ o, h.get? b = some o ∧ ∀ vs n, o.data ≠ .seq vs n) (hst0 : St' 0 s₂.heap) (hfX : ∀ b ∈ fp, ¬ X b)
    (F₁ : Fm s₀ env X₀ st₁ s₁ X₁) (hX₁ : ∀ b, X₁ b → X b ∨ s₂.heap.get? b = none) (hmv : LMv X wr s₂ s₁) (hst : St' (i + 1) s₁.heap) (hi : i < n) (hk : k' = n + 1 - i)
    (hgo : (match ex env.kindOf st₁ body with | some (.next, st) => go (i + 1) st | q => q) = some r)
    (hR : ∀ X' f s', Fm s₀ env X₀ r.2 s' X' → (∀ b, X' b → X b ∨ s₂.heap.get? b = none) → LMv X wr s₂ s' → (match r.1 with | .next => f = .next | .ret d => ∃ v, f = .ret v ∧ Rd X₀ s'.heap v d) → R (.ok f) s') :
    wpAny (model prog w) A (execs body env) (fun f s₃ => match f with
          | .next | .cont => ∃ m, m < k' ∧ ∃ i sti Xi, LInv s₀ env X₀ X s₂ wr n St' go r m s₃ i sti Xi
          | .brk => R (.ok .next) s₃
          | .ret v => R (.ok (.ret v)) s₃) E s₁ := by
  split at hgo
  · rename_i st₂ hb
    refine wpAny_mono (hex A E s₀ s₁ X₀ X₁ env st₁ body _ hA hG F₁ hb) (fun f s₃ hp => ?_) fun _ _ x => x
    obtain ⟨X', F', hX', m', hf⟩ := hp
    have hf : f = .next := hf
    subst hf
    refine ⟨n + 1 - (i + 1), by omega, i + 1, st₂, X', F', chainX hX₁ hmv.2 hX', hmv.then_mv hX₁ m', ?_, hi, rfl, hgo⟩
    refine hframe _ _ _ hst fun b hb' o e => m'.1 b o e (fun hx => ?_) ?_
    · obtain ⟨o2, h2, _⟩ := (hfr 0 _ hst0).1 b hb'
      rcases hX₁ b hx with h | h
      · exact hfX b hb' h
      · rw [h2] at h; cases h
    · obtain ⟨o2, h2, hn⟩ := (hfr _ _ hst).1 b hb'
      rw [e] at h2; cases h2; exact hn
  · rename_i q hq
    cases hb : ex env.kindOf st₁ body with
    | none => rw [hb] at hgo; cases hgo
    | some z =>
      obtain ⟨fl, st₂⟩ := z
      rw [hb] at hgo
      obtain rfl := Option.some.inj hgo
      cases fl with
      | next => exact absurd hb (hq st₂)
      | ret d =>
        refine wpAny_mono (hex A E s₀ s₁ X₀ X₁ env st₁ body _ hA hG F₁ hb) (fun f s₃ hp => ?_) fun _ _ x => x
        obtain ⟨X', F', hX', m', hf⟩ := hp
        have hf' : ∃ v, f = .ret v ∧ Rd X₀ s₃.heap v d := hf
        obtain ⟨v, rfl, rv⟩ := hf'
        exact hR X' (.ret v) s₃ F' (chainX hX₁ hmv.2 hX') (hmv.then_mv hX₁ m') ⟨v, rfl, rv⟩

theorem for_name_sound {ex : Kd → St → List Stmt → Option (Fl × St)} (hex : SoundEx prog w tab mg mb k ex) (hA : Room k A) (hG : Glo tab mg mb s₀.heap) {s₂ : Shared} (F : Fm s₀ env X₀ st s X) {x : Str} {px : Pos} {body : List Stmt} {ds : List D} {it : Value} {r : Fl × St}
    {R : Result → Shared → Prop} (hds : ds.all scal = true) (hI : Itr prog w X s ds it s₂) (h : forD (fun st => ex env.kindOf st body) (bindName1 env.kindOf x) ds st = some r) (hR : ∀ f s', Post s₀ env X₀ s X r f s' → R (.ok f) s') :
    codeAny (model prog w) A (.forLoop (.Name x px) it body [] env) R s₂ := by
  obtain ⟨I, fp, wr, P, St', rfl, W, hz, hst, hfr, hfX, hwr, g, hP⟩ := hI
  have hW := W A hA.handled
  have fin : ∀ X' f s', Fm s₀ env X₀ r.2 s' X' → (∀ b, X' b → X b ∨ s₂.heap.get? b = none) → LMv X wr s₂ s' → (match r.1 with | .next => f = .next | .ret d => ∃ v, f = .ret v ∧ Rd X₀ s'.heap v d) → R (.ok f) s' := by
    intro X' f s' F' hX' m' hf
    refine hR f s' ⟨X', F', fun b hb => ?_, m'.out g hwr, hf⟩
    rcases hX' b hb with h | h
    · exact .inl h
    · cases e : s.heap.get? b with
      | none => exact .inr rfl
      | some o => rw [g.ext b o e] at h; cases h
  refine codeAny_forLoop (fun k' s' => ∃ i sti Xi, LInv s₀ env X₀ X s₂ wr ds.length St' (fun i st => forD (fun st => ex env.kindOf st body) (bindName1 env.kindOf x) (ds.drop i) st) r k' s' i sti Xi) ?_ (ds.length + 1)
    ⟨0, st, X, F.grew g, fun _ q => .inl q, ⟨fun _ _ e _ _ _ => e, fun _ o e => ⟨o, e⟩⟩, hst, Nat.zero_le _, rfl, h⟩
  rintro k' s' ⟨i, sti, Xi, L⟩
  by_cases hi : i < ds.length
  · refine hW.item i s' _ _ hi L.stt fun v h' tk hPv hst' hk => ?_
    obtain ⟨d, hd, rd⟩ := hP i v hPv
    have hs : scal d = true := List.all_eq_true.mp hds d (List.mem_of_getElem? hd)
    have hdrop : ds.drop i = d :: ds.drop (i + 1) := by
      have h1 := (List.getElem?_eq_some_iff.mp hd).2
      rw [List.drop_eq_getElem_cons hi, h1]
    have hgo := L.go_
    simp only [hdrop, forD] at hgo
    split at hgo
    · cases hgo
    · rename_i st₁ hb
      obtain ⟨m, cm, Fi⟩ := L.F
      have hw2 : ∀ b ∈ wr, ∃ o, s'.heap.get? b = some o ∧ NotFrame o ∧ ∀ vs n, o.data ≠ .seq vs n := fun b hb => by
        obtain ⟨o, e, hs⟩ := (hfr i _ L.stt).2 b hb
        obtain ⟨o', e', hn⟩ := (hfr i _ L.stt).1 b (hW.sub b hb)
        rw [e] at e'; cases e'
        exact ⟨o, e, hn, hs⟩
      have Fm1 : Fm s₀ env X₀ sti { s' with heap := h', toks := tk } Xi := ⟨m, cm, Fi.moved hk hw2 fun b hb => by
        cases e : s₀.heap.get? b with
        | none => rfl
        | some o => have := F.ext b o e; rw [hwr b hb] at this; cases this⟩
      have mv1 : LMv X wr s₂ { s' with heap := h', toks := tk } := ⟨fun b o e hx hn hbw => hk b o hbw (L.mv.1 b o e hx hn hbw), fun b o e => by
        obtain ⟨o', e'⟩ := L.mv.2 b o e
        by_cases hbw : b ∈ wr
        · obtain ⟨o2, h2, _⟩ := (hfr _ _ hst').2 b hbw; exact ⟨o2, h2⟩
        · exact ⟨o', hk b o' hbw e'⟩⟩
      refine PySem.wpAny_assign_Name (Fm1.store hb (rd.anyHeap hs) fun s₁ F₁ m₁ => ?_)
      refine for_turn (i := i) hex hA hG hW.frame hfr hst hfX F₁ L.xs (mv1.then_mv L.xs m₁) ?_ hi L.at_ hgo fin
      refine hW.frame _ _ _ hst' fun b hb' o e => m₁.1 b o e (fun hx => ?_) ?_
      · obtain ⟨o2, h2, _⟩ := (hfr 0 _ hst).1 b hb'
        rcases L.xs b hx with h | h
        · exact hfX b hb' h
        · rw [h2] at h; cases h
      · obtain ⟨o2, h2, hn⟩ := (hfr _ _ hst').1 b hb'
        rw [e] at h2; cases h2; exact hn
  · have hin : i = ds.length := by have := L.le; omega
    subst hin
    refine hW.done s' _ _ L.stt fun h' tk hk => wpAny_execs_nil ?_
    have hgo := L.go_
    simp only [List.drop_length, forD, Option.some.injEq] at hgo
    obtain ⟨m, cm, Fi⟩ := L.F
    have hw2 : ∀ b ∈ wr, ∃ o, s'.heap.get? b = some o ∧ NotFrame o ∧ ∀ vs n, o.data ≠ .seq vs n := fun b hb => by
      obtain ⟨o, e, hs⟩ := (hfr _ _ L.stt).2 b hb
      obtain ⟨o', e', hn⟩ := (hfr _ _ L.stt).1 b (hW.sub b hb)
      rw [e] at e'; cases e'
      exact ⟨o, e, hn, hs⟩
    have Fm1 : Fm s₀ env X₀ sti { s' with heap := h', toks := tk } Xi := ⟨m, cm, Fi.moved hk hw2 fun b hb => by
      cases e : s₀.heap.get? b with
      | none => rfl
      | some o => have := F.ext b o e; rw [hwr b hb] at this; cases this⟩
    have hnw : ∀ b o, s.heap.get? b = some o → b ∉ wr := fun b o e hb => by rw [hwr b hb] at e; cases e
    subst hgo
    refine hR .next _ ⟨Xi, Fm1, fun b hb => ?_, ⟨fun b o e hx hn => hk b o (hnw b o e) (L.mv.1 b o (g.ext b o e) hx hn (hnw b o e)), fun b o e => ?_⟩, rfl⟩
    · rcases L.xs b hb with h | h
      · exact .inl h
      · cases e : s.heap.get? b with
        | none => exact .inr rfl
        | some o => rw [g.ext b o e] at h; cases h
    · obtain ⟨o', e'⟩ := L.mv.2 b o (g.ext b o e)
      exact ⟨o', hk b o' (hnw b o e) e'⟩
end
end Mine
end
section
open PySem PySem.W PyProof.Rows
namespace Mine

section
variable {prog : Program} {w : World} {tab : List FnRec} {mg mb : Str → Option Value} {k : Nat} {Φ : Phi} {N : Nat} {A : Around} {E : Value → Shared → Prop} {s₀ s : Shared} {X₀ X : Addr → Prop} {env : Env} {st : St}

theorem for_enum_sound {ex : Kd → St → List Stmt → Option (Fl × St)} (hex : SoundEx prog w tab mg mb k ex) (hA : Room k A) (hG : Glo tab mg mb s₀.heap) {s₂ : Shared} (F : Fm s₀ env X₀ st s X) {x y : Str} {px py tp : Pos} {kk : Nat} {body : List Stmt} {l : List D} {r : Fl × St}
    {R : Result → Shared → Prop} (hds : l.all scal = true) {e it la : Addr} {items : Array Value} {n : Nat} (hei : e ≠ it) (hle : la ≠ e) (hli : la ≠ it) (he : IsEnum s₂.heap e it 0 .none) (hit : s₂.heap.IsListIter it la 0)
    (hl : s₂.heap.IsList la items) (hr : RdAll X s₂.heap items.toList l) (hXl : ¬ X la) (hne : s.heap.get? e = none) (hni : s.heap.get? it = none) (g : Grew s s₂)
    (h : forD (fun st => ex env.kindOf st body) (bindName2 env.kindOf x y) (pairs 0 l) st = some r) (hR : ∀ f s', Post s₀ env X₀ s X r f s' → R (.ok f) s') :
    codeAny (model prog w) A (.forLoop (.Tuple [.Name x px, .Name y py] kk tp) (.ref e) body [] env) R s₂ := by
  have hlen := hr.length
  rw [Array.length_toList] at hlen
  have W := WalksT.enumerate (prog := prog) (w := w) (A := A) hA.handled e it la hei hle hli items
  have hfr : ∀ (i : Nat) (h : Heap), ((∃ old, IsEnum h e it i old) ∧ h.IsListIter it la i ∧ h.IsList la items) → (∀ b ∈ [e, it, la], ∃ o, h.get? b = some o ∧ NotFrame o) ∧ ∀ b ∈ [e, it], ∃ o, h.get? b = some o ∧ ∀ vs n, o.data ≠ .seq vs n := by
    rintro i h ⟨⟨old, h1⟩, ⟨o2, h2, _, h2d⟩, o3, h3, _, n3, h3d⟩
    refine ⟨fun b hb => ?_, fun b hb => ?_⟩
    · simp only [List.mem_cons, List.not_mem_nil, or_false] at hb
      rcases hb with rfl | rfl | rfl
      · exact ⟨_, h1, .fields⟩
      · exact ⟨o2, h2, .ofFields h2d⟩
      · exact ⟨o3, h3, .ofSeq h3d⟩
    · simp only [List.mem_cons, List.not_mem_nil, or_false] at hb
      rcases hb with rfl | rfl
      · exact ⟨_, h1, fun _ _ x => by cases x⟩
      · exact ⟨o2, h2, noSeq_fields h2d⟩
  have hst : (∃ old, IsEnum s₂.heap e it ((0 : Nat) : Int) old) ∧ s₂.heap.IsListIter it la 0 ∧ s₂.heap.IsList la items := ⟨⟨_, he⟩, hit, hl⟩
  have hwr : ∀ b ∈ [e, it], s.heap.get? b = none := by
    intro b hb
    simp only [List.mem_cons, List.not_mem_nil, or_false] at hb
    rcases hb with rfl | rfl
    · exact hne
    · exact hni
  have hXne : ∀ b ∈ [e, it], ¬ X b := fun b hb hx => by
    obtain ⟨o, ho⟩ := F.xin b hx
    rw [hwr b hb] at ho; cases ho
  have hfX : ∀ b ∈ [e, it, la], ¬ X b := by
    intro b hb
    simp only [List.mem_cons, List.not_mem_nil, or_false] at hb
    rcases hb with rfl | rfl | rfl
    · exact hXne _ (by simp)
    · exact hXne _ (by simp)
    · exact hXl
  have fin : ∀ X' f s', Fm s₀ env X₀ r.2 s' X' → (∀ b, X' b → X b ∨ s₂.heap.get? b = none) → LMv X [e, it] s₂ s' → (match r.1 with | .next => f = .next | .ret d => ∃ v, f = .ret v ∧ Rd X₀ s'.heap v d) → R (.ok f) s' := by
    intro X' f s' F' hX' m' hf
    refine hR f s' ⟨X', F', fun b hb => ?_, m'.out g hwr, hf⟩
    rcases hX' b hb with h | h
    · exact .inl h
    · cases e : s.heap.get? b with
      | none => exact .inr rfl
      | some o => rw [g.ext b o e] at h; cases h
  refine codeAny_forLoop_any (fun k' s' => ∃ i sti Xi, LInv s₀ env X₀ X s₂ [e, it] l.length (fun (i : Nat) (h : Heap) => (∃ old, IsEnum h e it i old) ∧ h.IsListIter it la i ∧ h.IsList la items) (fun i st => forD (fun st => ex env.kindOf st body) (bindName2 env.kindOf x y) (pairs i (l.drop i)) st) r k' s' i sti Xi) ?_ (l.length + 1)
    ⟨0, st, X, F.grew g, fun _ q => .inl q, ⟨fun _ _ e _ _ _ => e, fun _ o e => ⟨o, e⟩⟩, hst, Nat.zero_le _, rfl, h⟩
  rintro k' s' ⟨i, sti, Xi, L⟩
  obtain ⟨m, cm, Fi⟩ := L.F
  have hw2 : ∀ b ∈ [e, it], ∃ o, s'.heap.get? b = some o ∧ NotFrame o ∧ ∀ vs n, o.data ≠ .seq vs n := fun b hb => by
    obtain ⟨o, e, hs⟩ := (hfr i _ L.stt).2 b hb
    obtain ⟨o', e', hn⟩ := (hfr i _ L.stt).1 b (W.sub b hb)
    rw [e] at e'; cases e'
    exact ⟨o, e, hn, hs⟩
  have hs0 : ∀ b ∈ [e, it], s₀.heap.get? b = none := fun b hb => by
    cases e : s₀.heap.get? b with
    | none => rfl
    | some o => have := F.ext b o e; rw [hwr b hb] at this; cases this
  by_cases hi : i < l.length
  · refine W.item i s' _ _ (by omega) L.stt fun T vals h' tk hPt hTs hT hM hk => ?_
    refine W.go [.Name x px, .Name y py] kk tp i T _ _ _ hM fun h'' hst' hk' => ?_
    obtain ⟨t, xv, hxv, rfl⟩ := hPt
    obtain ⟨d, hd, rd⟩ := hr.getV (i := i) (v := xv) (by simpa using hxv)
    have hs : scal d = true := List.all_eq_true.mp hds d (List.mem_of_getElem? hd)
    have hdrop : l.drop i = d :: l.drop (i + 1) := by
      have h1 := (List.getElem?_eq_some_iff.mp hd).2
      rw [List.drop_eq_getElem_cons hi, h1]
    have hgo := L.go_
    simp only [hdrop, pairs, forD] at hgo
    split at hgo
    · cases hgo
    · rename_i st₁ hb
      obtain ⟨_, _, he2, hxy, stm, hst1, hb⟩ := bindName2_some hb
      cases he2
      have hTw := W.apart i T _ hM
      have hkk : ∀ b o, b ∉ [e, it] → s'.heap.get? b = some o → h''.get? b = some o := fun b o hb e => hk' b o hb (hk b o hb e)
      have Fm1 : Fm s₀ env X₀ sti { s' with heap := h'', toks := tk } Xi := ⟨m, cm, Fi.moved hkk hw2 hs0⟩
      have mv1 : LMv X [e, it] s₂ { s' with heap := h'', toks := tk } := ⟨fun b o e hx hn hbw => hkk b o hbw (L.mv.1 b o e hx hn hbw), fun b o eb => by
        obtain ⟨o', e'⟩ := L.mv.2 b o eb
        by_cases hbw : b ∈ [e, it]
        · obtain ⟨o2, h2, _⟩ := (hfr _ _ hst').2 b hbw; exact ⟨o2, h2⟩
        · exact ⟨o', hkk b o' hbw e'⟩⟩
      have hT'' : h''.IsTuple T #[.int i t, xv] := hT.at fun o q => hk' T o hTw q
      refine wpAny_assign_Tuple hA.handled hT'' rfl rfl fun h3 hx3 => ?_
      have g3 : Grew { s' with heap := h'', toks := tk } { s' with heap := h3, toks := tk } := ⟨h3, tk, rfl, fun b o e => hx3 b o (Nat.ne_of_lt (Heap.lt_size e)) e⟩
      refine wpAny_mono (two_stores (t₁ := assign (.Name x px) env) (t₂ := assign (.Name y py) env) (Fm1.grew g3) hst1 hb (.int _ _) (rd.anyHeap hs) (fun s Q h => PySem.wpAny_assign_Name h) (fun s Q h => PySem.wpAny_assign_Name h)) (fun _ s₁ hq => ?_) fun _ _ x => x
      obtain ⟨F₁, m₁⟩ := hq
      have m₁' : Mv Xi { s' with heap := h'', toks := tk } s₁ := (Mv.grew g3).trans (fun _ q => .inl q) m₁
      refine for_turn (fp := [e, it, la]) (i := i) hex hA hG W.frame hfr hst hfX F₁ L.xs (mv1.then_mv L.xs m₁') ?_ hi L.at_ hgo fin
      refine W.frame _ _ _ hst' fun b hb' o e' => m₁'.1 b o e' (fun hx => ?_) ?_
      · obtain ⟨o2, h2, _⟩ := (hfr 0 _ hst).1 b hb'
        rcases L.xs b hx with h | h
        · exact hfX b hb' h
        · rw [h2] at h; cases h
      · obtain ⟨o2, h2, hn⟩ := (hfr _ _ hst').1 b hb'
        rw [e'] at h2; cases h2; exact hn
  · have hin : i = l.length := by have := L.le; omega
    subst hin
    refine W.done s' _ _ (by rw [hlen]; exact L.stt) fun h' tk hk => wpAny_execs_nil ?_
    have hgo := L.go_
    simp only [List.drop_length, pairs, forD, Option.some.injEq] at hgo
    have Fm1 : Fm s₀ env X₀ sti { s' with heap := h', toks := tk } Xi := ⟨m, cm, Fi.moved hk hw2 hs0⟩
    have hnw : ∀ b o, s.heap.get? b = some o → b ∉ [e, it] := fun b o e hb => by rw [hwr b hb] at e; cases e
    subst hgo
    refine hR .next _ ⟨Xi, Fm1, fun b hb => ?_, ⟨fun b o e hx hn => hk b o (hnw b o e) (L.mv.1 b o (g.ext b o e) hx hn (hnw b o e)), fun b o e => ?_⟩, rfl⟩
    · rcases L.xs b hb with h | h
      · exact .inl h
      · cases e : s.heap.get? b with
        | none => exact .inr rfl
        | some o => rw [g.ext b o e] at h; cases h
    · obtain ⟨o', e'⟩ := L.mv.2 b o (g.ext b o e)
      exact ⟨o', hk b o' (hnw b o e) e'⟩

theorem while_sound (hΦ : SoundPhi prog w tab mg mb k Φ) {ex : Kd → St → List Stmt → Option (Fl × St)} (hex : SoundEx prog w tab mg mb k ex) (hA : Room k A) (hG : Glo tab mg mb s₀.heap) (F : Fm s₀ env X₀ st s X) {t : Expr} {body : List Stmt} {W : Nat} {r : Fl × St}
    {R : Result → Shared → Prop} (h : whileD (fun st => condE Φ N env.kindOf st t) (fun st => ex env.kindOf st body) W st = some r) (hR : ∀ f s', Post s₀ env X₀ s X r f s' → R (.ok f) s') :
    codeAny (model prog w) A (.whileLoop t body [] env) R s := by
  refine codeAny_whileLoop (fun k' s' => ∃ sti Xi, Fm s₀ env X₀ sti s' Xi ∧ (∀ b, Xi b → X b ∨ s.heap.get? b = none) ∧ Mv X s s' ∧ whileD (fun st => condE Φ N env.kindOf st t) (fun st => ex env.kindOf st body) k' sti = some r) ?_ W
    ⟨st, X, F, fun _ q => .inl q, Mv.refl _ _, h⟩
  rintro k' s' ⟨sti, Xi, Fi, hX, hm, hgo⟩
  cases k' with
  | zero => simp [whileD] at hgo
  | succ k' =>
    simp only [whileD] at hgo
    split at hgo
    · cases hgo
    · rename_i hc
      refine wpAny_mono (cond_sound hΦ hA hG Fi hc) (fun b s₁ hq => ?_) fun _ _ x => x
      obtain ⟨g, rfl⟩ := hq
      simp only [Bool.false_eq_true, if_false]
      refine wpAny_execs_nil (hR .next s₁ ?_)
      obtain rfl := Option.some.inj hgo
      exact ⟨Xi, Fi.grew g, hX, hm.trans hX (Mv.grew g), rfl⟩
    · rename_i hc
      refine wpAny_mono (cond_sound hΦ hA hG Fi hc) (fun b s₁ hq => ?_) fun _ _ x => x
      obtain ⟨g, rfl⟩ := hq
      simp only [if_true]
      have hm1 : Mv X s s₁ := hm.trans hX (Mv.grew g)
      split at hgo
      · rename_i st₂ hb
        refine wpAny_mono (hex A _ s₀ s₁ X₀ Xi env sti body _ hA hG (Fi.grew g) hb) (fun f s₃ hp => ?_) fun _ _ x => x
        obtain ⟨X', F', hX', m', hf⟩ := hp
        have hf : f = .next := hf
        subst hf
        exact ⟨k', Nat.lt_succ_self _, st₂, X', F', chainX hX hm1.2 hX', hm1.trans hX m', hgo⟩
      · rename_i q hq
        cases hb : ex env.kindOf sti body with
        | none => rw [hb] at hgo; cases hgo
        | some z =>
          obtain ⟨fl, st₂⟩ := z
          rw [hb] at hgo
          obtain rfl := Option.some.inj hgo
          cases fl with
          | next => exact absurd hb (hq st₂)
          | ret d =>
            refine wpAny_mono (hex A _ s₀ s₁ X₀ Xi env sti body _ hA hG (Fi.grew g) hb) (fun f s₃ hp => ?_) fun _ _ x => x
            obtain ⟨X', F', hX', m', hf⟩ := hp
            have hf' : ∃ v, f = .ret v ∧ Rd X₀ s₃.heap v d := hf
            obtain ⟨v, rfl, rv⟩ := hf'
            exact hR (.ret v) s₃ ⟨X', F', chainX hX hm1.2 hX', hm1.trans hX m', v, rfl, rv⟩
end
end Mine
end
section
open PySem PySem.W PyProof.Rows
namespace Mine

section
variable {prog : Program} {w : World} {tab : List FnRec} {mg mb : Str → Option Value} {k : Nat} {Φ : Phi} {N W : Nat}

theorem assign_sound (hΦ : SoundPhi prog w tab mg mb k Φ) {A : Around} {E : Value → Shared → Prop} {s₀ s : Shared} {X₀ X : Addr → Prop} {env : Env} {st : St} {ts : List Expr} {e : Expr} {pos : Pos} {r : Fl × St} (hA : Room k A) (hG : Glo tab mg mb s₀.heap) (F : Fm s₀ env X₀ st s X)
    (h : assignS Φ N env.kindOf st ts e = some r) : wpAny (model prog w) A (exec (.Assign ts e pos) env) (Post s₀ env X₀ s X r) E s := by
  rcases ts with _ | ⟨t, _ | ⟨_, _⟩⟩
  · exact no h
  · cases t with
    | Name x px =>
      obtain ⟨d, hd, h⟩ := of_bind h
      cases e with
      | List es p =>
        obtain ⟨hk, h⟩ := of_if (show (if env.kindOf x = some .local then (setS env.kindOf { st with own := none } x d).map fun st => (Fl.next, { st with own := some x }) else none) = some r from h)
        obtain ⟨st', hs, rfl⟩ := of_map h
        exact assign_own_sound hΦ hA hG F hd hk hs
      | _ => exact assign_name_sound hΦ hA hG F hd h
    | Tuple xs kk tp =>
      rcases xs with _ | ⟨a, _ | ⟨b, _ | ⟨_, _⟩⟩⟩
      · exact no h
      · exact no h
      · cases a with
        | Name x px => cases b with
          | Name y py =>
            obtain ⟨d, hd, h⟩ := of_bind h
            obtain ⟨hk, h⟩ := of_if h
            obtain ⟨st', hs, rfl⟩ := of_map h
            exact assign_pair_sound hΦ hA hG F hd hk.2.2 hs
          | _ => exact no h
        | _ => exact no h
      · exact no h
    | _ => exact no h
  · exact no h
theorem appendS_sound (hΦ : SoundPhi prog w tab mg mb k Φ) {A : Around} {E : Value → Shared → Prop} {s₀ s : Shared} {X₀ X : Addr → Prop} {env : Env} {st : St} {e : Expr} {pos : Pos} {r : Fl × St} (hA : Room k A) (hG : Glo tab mg mb s₀.heap) (F : Fm s₀ env X₀ st s X)
    (h : appendS Φ N env.kindOf st e = some r) : wpAny (model prog w) A (exec (.Expr e pos) env) (Post s₀ env X₀ s X r) E s := by
  cases e with
  | Call f args kws p => cases f with
    | Attribute o m ap => cases o with
      | Name x px =>
        rcases args with _ | ⟨a, _ | ⟨_, _⟩⟩
        · exact no h
        · cases kws with
          | cons _ _ => exact no h
          | nil =>
            obtain ⟨⟨hline, rfl, hown, hx, hh, hn⟩, h'⟩ := of_if h
            obtain ⟨l, hl, h'⟩ := of_bind h'
            obtain ⟨d, hd, h'⟩ := of_bind h'
            cases l with
            | list l =>
              obtain ⟨hz, h'⟩ := of_if h'
              cases h'
              exact append_sound hΦ hA hG F hline hown hn hl hd hz hx hh
            | _ => exact no h'
        · exact no h
      | _ => exact no h
    | _ => exact no h
  | _ => exact no h
theorem enumD_some {kd : Kd} {st : St} {e : Expr} {ds : List D} (h : enumD Φ N kd st e = some ds) : ∃ fp a cp l, e = .Call (.Name (Str.ofString "enumerate") fp) [a] [] cp ∧ globalName kd (Str.ofString "enumerate") = true ∧ noStar a = true ∧
    valE Φ N kd st a = some (.list l) ∧ l.all scal = true ∧ ds = pairs 0 l := by
  cases e with
  | Call f args kws cp => cases f with
    | Name f fp =>
      rcases args with _ | ⟨a, _ | ⟨_, _⟩⟩
      · exact no h
      · cases kws with
        | cons _ _ => exact no h
        | nil =>
          obtain ⟨⟨rfl, hg, hn⟩, h'⟩ := of_if h
          obtain ⟨d, hd, h'⟩ := of_bind h'
          cases d with
          | list l =>
            obtain ⟨hz, h'⟩ := of_if h'
            cases h'
            exact ⟨fp, a, cp, l, rfl, hg, hn, hd, hz.2, rfl⟩
          | _ => exact no h'
      · exact no h
    | _ => exact no h
  | _ => exact no h
theorem for_sound (hΦ : SoundPhi prog w tab mg mb k Φ) {ex : Kd → St → List Stmt → Option (Fl × St)} (hex : SoundEx prog w tab mg mb k ex)
    {A : Around} {E : Value → Shared → Prop} {s₀ s : Shared} {X₀ X : Addr → Prop} {env : Env} {st : St} {t it : Expr} {body : List Stmt} {p : Pos} {r : Fl × St} (hA : Room k A) (hG : Glo tab mg mb s₀.heap) (F : Fm s₀ env X₀ st s X)
    (h : forS Φ N ex env.kindOf st t it body = some r) : wpAny (model prog w) A (exec (.For t it body [] p) env) (Post s₀ env X₀ s X r) E s := by
  cases t with
  | Name x px =>
    obtain ⟨ds, hds, h⟩ := of_bind h
    obtain ⟨hs, h⟩ := of_if h
    obtain ⟨X₁, F₁, h₁⟩ := F.letGo it
    obtain ⟨hit, hset⟩ := iter_sound (E := E) (lv_sound hΦ N).1 hA (hG.ext F₁.ext) (F₁.envOk) F₁.xin hds
    refine wpAny_For (wpAny_mono hit (fun xv s₁ hq => wpAny_mono hq (fun iv s₂ hI => ?_) fun _ _ x => x) fun _ _ x => x) (notSet_fold hset)
    exact for_name_sound (R := fun r' s' => match r' with | .ok f => Post s₀ env X₀ s X r f s' | .error e => cameBackBy (model prog w) A env E e s') hex hA hG F₁ hs hI h
      (fun f s' q => q.trans (fun b hb => .inl (h₁ b hb)) (Mv.refl _ _))
  | Tuple xs kk tp =>
    rcases xs with _ | ⟨a, _ | ⟨b, _ | ⟨_, _⟩⟩⟩
    · exact no h
    · exact no h
    · cases a with
      | Name x px => cases b with
        | Name y py =>
          obtain ⟨ds, hds, h⟩ := of_bind h
          obtain ⟨_, h⟩ := of_if h
          obtain ⟨fp, a, cp, l, rfl, hg, hn, hl, hz, rfl⟩ := enumD_some hds
          have hE := F.envOk
          have hGs := hG.ext F.ext
          have hnn : ([a] : List Expr).all noStar = true := by rw [List.all_cons, hn]; rfl
          have hevs : evs (evalE Φ N) env.kindOf (lessL (lookL st.env) st.own) [a] = some [.list l] := by
            show (evalE Φ N env.kindOf (lessL (lookL st.env) st.own) a).bind _ = _
            rw [show evalE Φ N env.kindOf (lessL (lookL st.env) st.own) a = some (.list l) from hl]
            rfl
          obtain ⟨ha, hp⟩ := evalArgs_sound (E := E) (lv_sound hΦ N).1 hA (.type "enumerate") cp [a] [.list l] hGs hE F.xin hnn hevs
          refine wpAny_For ?_ (notSet_fold (fun _ _ _ q => nomatch q))
          show wpAny _ A (do callWith cp (← eval (.Name (Str.ofString "enumerate") fp) env) [] (backTo cp (starEach [a] env)) []) _ _ s
          refine wpAny_bind (range_name hGs hE hg hG.enum.1 hG.enum.2 ?_)
          refine callWith_val (fun _ x => by cases x) hp (wpAny_mono ha (fun av s₁ h₁ => ?_) fun _ _ x => x)
          obtain ⟨hkw, g1, r1⟩ := h₁
          rw [hkw]
          generalize av.pos = vs at r1
          cases r1 with
          | cons q rr =>
            cases rr
            cases q with
            | list hx e rr =>
              rename_i la items n
              refine call_enumerate_1 e fun h' he hit hsz hext => ?_
              have g2 : Grew s₁ { s₁ with heap := h' } := ⟨h', s₁.toks, rfl, hext⟩
              have hla := Heap.lt_size e
              have hnone : ∀ q, s₁.heap.objs.size ≤ q → s.heap.get? q = none := fun q hq => by
                cases e' : s.heap.get? q with
                | none => rfl
                | some o => exact absurd (Heap.lt_size (g1.ext _ _ e')) (Nat.not_lt.mpr hq)
              refine wpAny_pyIter_enum he ?_
              exact for_enum_sound (R := fun r' s' => match r' with | .ok f => Post s₀ env X₀ s X r f s' | .error e => cameBackBy (model prog w) A env E e s') hex hA hG F hz (Nat.succ_ne_self _) (Nat.ne_of_lt (Nat.lt_succ_of_lt hla)) (Nat.ne_of_lt hla) he hit
                ⟨_, hext _ _ e, rfl, _, rfl⟩ (rr.ext hext) (n := 0) hx (hnone _ (Nat.le_succ _)) (hnone _ (Nat.le_refl _)) (g1.trans g2) h (fun f s' q => q)
        | _ => exact no h
      | _ => exact no h
    · exact no h
  | _ => exact no h
theorem stepS_sound (hΦ : SoundPhi prog w tab mg mb k Φ) {ex : Kd → St → List Stmt → Option (Fl × St)} (hex : SoundEx prog w tab mg mb k ex)
    {A : Around} {E : Value → Shared → Prop} {s₀ s : Shared} {X₀ X : Addr → Prop} {env : Env} {st : St} {c : Stmt} {r : Fl × St} (hA : Room k A) (hG : Glo tab mg mb s₀.heap) (F : Fm s₀ env X₀ st s X)
    (h : stepS Φ N ex W env.kindOf st c = some r) : wpAny (model prog w) A (exec c env) (Post s₀ env X₀ s X r) E s := by
  cases c with
  | Assign ts e pos => exact assign_sound hΦ hA hG F h
  | Expr e pos => exact appendS_sound hΦ hA hG F h
  | Return e p =>
    cases e with
    | none => exact no h
    | some e =>
      obtain ⟨d, hd, rfl⟩ := of_map h
      exact return_sound hΦ hA hG F hd
  | If t b o p =>
    obtain ⟨c, hc, h⟩ := of_bind h
    exact if_sound hΦ hex hA hG F hc h
  | For t it body orelse p =>
    cases orelse with
    | nil => exact for_sound hΦ hex hA hG F h
    | cons _ _ => exact no h
  | While t body orelse p =>
    cases orelse with
    | nil => exact wpAny_While (while_sound (R := fun r' s' => match r' with | .ok f => Post s₀ env X₀ s X r f s' | .error e => cameBackBy (model prog w) A env E e s') hΦ hex hA hG F h (fun f s' q => q))
    | cons _ _ => exact no h
  | _ => exact no h

theorem execB_sound (hΦ : SoundPhi prog w tab mg mb k Φ) : ∀ n, SoundEx prog w tab mg mb k (execB Φ N W n)
  | 0 => fun A E s₀ s X₀ X env st body r _ _ _ h => by simp [execB] at h
  | n + 1 => fun A E s₀ s X₀ X env st body r hA hG F h => by
    cases body with
    | nil =>
      simp only [execB, Option.some.injEq] at h
      subst h
      exact wpAny_execs_nil ⟨X, F, fun _ q => .inl q, Mv.refl _ _, rfl⟩
    | cons c rest =>
      simp only [execB] at h
      split at h
      · rename_i st₁ hs
        refine wpAny_execs_cons (wpAny_mono (stepS_sound hΦ (execB_sound hΦ n) hA hG F hs) (fun f s₁ hp => ?_) fun _ _ x => x)
        obtain ⟨X', F', hX', m', hf⟩ := hp
        have hf : f = .next := hf
        subst hf
        exact wpAny_mono (execB_sound hΦ n A E s₀ s₁ X₀ X' env st₁ rest r hA hG F' h) (fun f s' q => q.trans hX' m') fun _ _ x => x
      · rename_i q hq
        cases hs : stepS Φ N (execB Φ N W n) W env.kindOf st c with
        | none => rw [hs] at h; cases h
        | some z =>
          obtain ⟨fl, st₁⟩ := z
          rw [hs] at h
          obtain rfl := Option.some.inj h
          cases fl with
          | next => exact absurd hs (hq st₁)
          | ret d =>
            refine wpAny_execs_cons (wpAny_mono (stepS_sound hΦ (execB_sound hΦ n) hA hG F hs) (fun f s₁ hp => ?_) fun _ _ x => x)
            have hp' := hp
            obtain ⟨X', F', hX', m', hf⟩ := hp
            have hf : ∃ v, f = .ret v ∧ Rd X₀ s₁.heap v d := hf
            obtain ⟨v, rfl, rv⟩ := hf
            exact hp'

theorem bindD_look {b : List (Str × D)} {x : Str} {d : D} : ∀ {names : List (Str × NameKind)}, lookL (bindD names b) x = some d → b.lookup x = some d
  | [], h => by simp [bindD, lookL] at h
  | (n, kk) :: r, h => by
    unfold bindD at h
    split at h
    · unfold lookL at h
      split at h
      · rename_i hx
        subst hx
        exact h
      · exact bindD_look h
    · exact bindD_look h

theorem zip_read {h : Heap} {X : Addr → Prop} : ∀ {ps : List Str} {vs : List Value} {ds : List D}, RdAll X h vs ds → ∀ {x d}, (ps.zip ds).lookup x = some d → ∃ v, (ps.zip vs).lookup x = some v ∧ Rd X h v d
  | [], _, _, _, x, d, h => by simp at h
  | _ :: _, _, _, .nil, x, d, h => by simp at h
  | p :: ps, _, _, .cons a r, x, d, h => by
    simp only [List.zip_cons_cons, List.lookup_cons] at h ⊢
    split at h
    · cases h; exact ⟨_, rfl, a⟩
    · exact zip_read r h

theorem bindL_get (kindOf : Str → Option NameKind) {x : Str} {v : Value} : ∀ (b : List (Str × Value)) (m : Str → Option Value), (b.map (·.1)).Nodup → b.lookup x = some v → kindOf x = some .local → bindL kindOf b m x = some v
  | [], _, _, h, _ => by simp at h
  | (n, u) :: r, m, hnd, h, hk => by
    simp only [List.map_cons, List.nodup_cons] at hnd
    unfold bindL
    rw [List.lookup_cons] at h
    split at h
    · rename_i hx
      cases h
      have hxn : x = n := by simpa using hx
      subst hxn
      rw [if_pos hk]
      have keep : ∀ (b : List (Str × Value)) (m : Str → Option Value), x ∉ b.map (·.1) → bindL kindOf b m x = m x := by
        intro b
        induction b with
        | nil => intro m _; rfl
        | cons p b ih =>
          intro m hn
          obtain ⟨n', u'⟩ := p
          simp only [List.map_cons, List.mem_cons, not_or] at hn
          unfold bindL
          rw [ih _ hn.2]
          split
          · exact if_neg hn.1
          · rfl
      rw [keep r _ hnd.1]
      simp
    · exact bindL_get kindOf r _ hnd.2 h hk
theorem bindC_get (kindOf : Str → Option NameKind) {x : Str} {v : Value} : ∀ (b : List (Str × Value)) (m : Str → Option Value), (b.map (·.1)).Nodup → b.lookup x = some v → kindOf x = some .cell → bindC kindOf b m x = some v
  | [], _, _, h, _ => by simp at h
  | (n, u) :: r, m, hnd, h, hk => by
    simp only [List.map_cons, List.nodup_cons] at hnd
    unfold bindC
    rw [List.lookup_cons] at h
    split at h
    · rename_i hx
      cases h
      have hxn : x = n := by simpa using hx
      subst hxn
      rw [if_neg (by rw [hk]; decide)]
      have keep : ∀ (b : List (Str × Value)) (m : Str → Option Value), x ∉ b.map (·.1) → bindC kindOf b m x = m x := by
        intro b
        induction b with
        | nil => intro m _; rfl
        | cons p b ih =>
          intro m hn
          obtain ⟨n', u'⟩ := p
          simp only [List.map_cons, List.mem_cons, not_or] at hn
          unfold bindC
          rw [ih _ hn.2]
          split
          · rfl
          · exact if_neg hn.1
      rw [keep r _ hnd.1]
      simp
    · exact bindC_get kindOf r _ hnd.2 h hk

theorem lookup_zip_mem {α : Type} {x : Str} {v : α} : ∀ {ps : List Str} {vs : List α}, (ps.zip vs).lookup x = some v → x ∈ ps
  | [], _, h => by simp at h
  | _ :: _, [], h => by simp at h
  | p :: ps, u :: vs, h => by
    simp only [List.zip_cons_cons, List.lookup_cons] at h
    split at h
    · rename_i hx
      have : x = p := by simpa using hx
      subst this; exact List.mem_cons_self
    · exact List.mem_cons_of_mem _ (lookup_zip_mem h)

theorem zip_keys {α : Type} : ∀ (ps : List Str) (vs : List α), ps.Nodup → ((ps.zip vs).map (·.1)).Nodup
  | [], _, _ => by simp
  | _ :: _, [], _ => by simp
  | p :: ps, u :: vs, h => by
    simp only [List.nodup_cons] at h
    simp only [List.zip_cons_cons, List.map_cons, List.nodup_cons]
    refine ⟨fun hm => h.1 ?_, zip_keys ps vs h.2⟩
    simp only [List.mem_map] at hm
    obtain ⟨⟨a, b⟩, hm, rfl⟩ := hm
    exact (List.of_mem_zip hm).1
end
end Mine
end
section
open PySem PySem.W PyProof.Rows
namespace Mine

section
variable {prog : Program} {w : World} {tab : List FnRec} {mg mb : Str → Option Value} {N W n : Nat}

/-- a call of a def of the text: what the interpreter answers, the machine answers -/
theorem callD_sound : ∀ k, SoundPhi prog w tab mg mb k (callD tab N W n k)
  | 0 => fun h₀ f ds d _ h => by simp [callD] at h
  | k + 1 => fun h₀ f ds d hG₀ h => by
    simp only [callD] at h
    split at h
    · cases h
    · rename_i r hr
      obtain ⟨a, o₀, fd₀, hma, ho₀, hd₀, hF₀⟩ := hG₀.fn f r hr
      have hobj : ∀ h', Glo tab mg mb h' → ∃ o fd, h'.get? a = some o ∧ o.data = .func fd ∧ FnIs r fd h' := by
        intro h' hG'
        obtain ⟨a', o, fd, hma', ho, hd, hF⟩ := hG'.fn f r hr
        rw [hma] at hma'
        cases hma'
        exact ⟨o, fd, ho, hd, hF⟩
      refine ⟨a, hma, fun h' hG' => let ⟨o, fd, x, y, _⟩ := hobj h' hG'; ⟨o, fd, x, y⟩, fun A E s X vs hA hG hX hvs => ?_⟩
      split at h
      · rename_i har
        obtain ⟨o, fd, ho, hd, hF⟩ := hobj s.heap hG
        have hlen := hvs.length
        refine wpAny_call (codeAny_call_function (by have := hA.depth; omega) ho hd (by rw [hF.scope]; exact hF.co) (by rw [hF.scope]; exact hF.gen) hF.body hF.code ?_)
        refine hF.binds prog w A.in1 _ s _ vs (Ext.refl _) (by omega) (by omega) fun dv hdv => ?_
        have hall : RdAll X s.heap (vs ++ dv) (fillD r.params r.dflts ds) := by
          unfold fillD
          rw [← hlen]
          exact hvs.append (hdv.less fun _ _ => trivial)
        have hnd := zip_keys r.params (vs ++ dv) hF.nodup
        have hsc := hF.scope
        rw [hF.closure, hF.globals, hF.builtins]
        refine wpAny_newFunctionEnv_cells (by rw [hsc]; exact hF.kind) (fun x hx => ?_) fun env he s₁ hI => ?_
        · obtain ⟨p, v⟩ := x
          have hp := (List.of_mem_zip hx).1
          rw [hsc]
          exact (hF.names p hp).imp id fun hc => ⟨hc, PySem.W.cellsFrom_some _ _ _ (.inl hc)⟩
        · have hkind : env.kindOf = fun x => r.scope.names.lookup x := by subst he; funext x; show fd.scope.names.lookup x = _; rw [hsc]
          have hks : env.scope.kind = .function := by subst he; show fd.scope.kind = _; rw [hsc]; exact hF.kind
          have Fm0 : Fm s env X ⟨bindD r.scope.names (r.params.zip (fillD r.params r.dflts ds)), none⟩ s₁ X := by
            refine ⟨_, _, hI, hks, by subst he; rfl, by subst he; rfl, fun x hx => ?_, hX, fun x d' hx => ?_, .inl ⟨rfl, rfl⟩⟩
            · rw [hkind] at hx
              subst he
              show ((cellsFrom (s.heap.objs.size + 1) fd.scope.names []).lookup x).isSome = true
              rw [hsc]
              exact PySem.W.cellsFrom_some _ _ _ (.inl hx)
            · have hb := bindD_look hx
              obtain ⟨v, hv, rv⟩ := zip_read hall hb
              have hxp := lookup_zip_mem hb
              refine ⟨v, rv.ext hI.toInCall.keep, ?_⟩
              rcases hF.names x hxp with hl | hc
              · have hk : env.kindOf x = some .local := by rw [hkind]; exact hl
                exact .inl ⟨hk, bindL_get _ _ _ hnd hv hk⟩
              · have hk : env.kindOf x = some .cell := by rw [hkind]; exact hc
                exact .inr ⟨hk, bindC_get _ _ _ hnd hv hk⟩
          refine ⟨hG.nolimit.keeps hI.toInCall.keep, codeAny_func ?_⟩
          have hex := execB_sound (prog := prog) (w := w) (tab := tab) (mg := mg) (mb := mb) (N := N) (W := W) (callD_sound k) n
          have out : ∀ (st' : St) (s' : Shared) X', Fm s env X st' s' X' → Grew s s' := fun st' s' X' F' => by
            obtain ⟨m, cm, F'⟩ := F'
            obtain ⟨h', tk, rfl⟩ := F'.inC.toInCall.same
            exact ⟨h', tk, rfl, F'.ext⟩
          split at h
          · rename_i d' st' hb
            obtain rfl := Option.some.inj h
            refine wpAny_mono (hex (A.deeper env) _ s s₁ X X env _ r.body _ (hA.deeper env) hG Fm0 (by rw [hkind]; exact hb)) (fun f' s' hp => ?_) fun _ _ x => x
            obtain ⟨X', F', hX', m', hf⟩ := hp
            have hf : ∃ v, f' = .ret v ∧ Rd X s'.heap v d' := hf
            obtain ⟨v, rfl, rv⟩ := hf
            exact ⟨out _ _ _ F', rv⟩
          · rename_i st' hb
            obtain rfl := Option.some.inj h
            refine wpAny_mono (hex (A.deeper env) _ s s₁ X X env _ r.body _ (hA.deeper env) hG Fm0 (by rw [hkind]; exact hb)) (fun f' s' hp => ?_) fun _ _ x => x
            obtain ⟨X', F', hX', m', hf⟩ := hp
            have hf : f' = .next := hf
            subst hf
            exact ⟨out _ _ _ F', .none⟩
          · cases h
      · cases h
end
end Mine
end
section
open PySem PySem.W PyProof.Rows
namespace Mine

theorem zip_lookup_filterMap : ∀ (ps : List Str) (vs : List Value), ps.Nodup → ps.length = vs.length → ∀ f : Str → Option Value, (∀ p v, (ps.zip vs).lookup p = some v → f p = some v) →
    ps.filterMap (fun n => (f n).map fun x => (n, x)) = ps.zip vs
  | [], _, _, _, _, _ => rfl
  | p :: ps, [], _, h, _, _ => by simp at h
  | p :: ps, v :: vs, hn, hl, f, hf => by
    have h1 := hf p v (by simp [List.lookup])
    simp only [List.nodup_cons] at hn
    simp only [List.filterMap_cons, h1, Option.map_some, List.zip_cons_cons, List.cons.injEq, true_and]
    refine zip_lookup_filterMap ps vs hn.2 (by simpa using hl) f fun q u hq => hf q u ?_
    have hqm : q ∈ ps := lookup_zip_mem hq
    have : (q == p) = false := by
      cases e : q == p with
      | false => rfl
      | true => exact absurd (eq_of_beq e ▸ hqm) hn.1
    simp [List.lookup, this, hq]

theorem zip_lookup_some : ∀ (ps : List Str) (vs : List Value), ps.length ≤ vs.length → ∀ p ∈ ps, ((ps.zip vs).lookup p).isSome = true
  | [], _, _, p, hp => by simp at hp
  | q :: ps, [], h, _, _ => by simp at h
  | q :: ps, v :: vs, h, p, hp => by
    simp only [List.zip_cons_cons, List.lookup]
    cases e : p == q with
    | true => rfl
    | false =>
      simp only [List.mem_cons] at hp
      rcases hp with rfl | hp
      · simp at e
      · exact zip_lookup_some ps vs (by simpa using h) p hp

theorem bindArgs_plain {fd : FuncData} {vals : List Value} (h1 : fd.params.posonlyargs = []) (h2 : fd.params.kwonlyargs = []) (h3 : fd.params.vararg = none) (h4 : fd.params.kwarg = none)
    (h5 : fd.defaults = .none) (hn : (fd.params.args.map (·.arg)).Nodup) (hl : vals.length = fd.params.args.length) :
    bindArgs fd ⟨vals, []⟩ = pure ((fd.params.args.map (·.arg)).zip vals) := by
  have e1 : seqItems? fd.defaults = pure none := by rw [h5]; rfl
  unfold bindArgs
  rw [e1]
  simp only [List.forIn_nil, pure_bind, h1, h2, h3, h4, List.map_nil, List.nil_append, List.append_nil]
  have hlen : (fd.params.args.map (·.arg)).length = vals.length := by simp [hl]
  simp only [Option.getD_none]
  rw [if_neg (by simp [hl])]
  have hd : (#[] : Array Value).toList = [] := rfl
  simp only [hd, List.drop_nil, List.length_nil, Nat.sub_zero, List.take_length]
  have hmiss : (List.filter (fun n => (List.lookup n ((fd.params.args.map (·.arg)).zip vals)).isNone) (fd.params.args.map (·.arg))) = [] := by
    rw [List.filter_eq_nil_iff]
    intro p hp
    have := zip_lookup_some _ vals (Nat.le_of_eq hlen) p hp
    cases hh : List.lookup p ((fd.params.args.map (·.arg)).zip vals) with
    | none => rw [hh] at this; cases this
    | some v => simp
  simp only [hmiss, List.zip_nil_right, List.forIn_nil, pure_bind, List.isEmpty_nil, Bool.not_true, Bool.false_eq_true, if_false]
  rw [zip_lookup_filterMap _ vals hn hlen _ (fun p v h => h)]
end Mine
end
section
open PySem PySem.Calls PySem.W PyProof.Rows
namespace Mine

noncomputable def okRec (a : Arguments) (sc : Scope) : Bool :=
  a.posonlyargs.isEmpty && a.kwonlyargs.isEmpty && a.vararg.isNone && a.kwarg.isNone && !sc.isCoroutine && !sc.isGenerator && decide (sc.kind = .function) && decide ((a.args.map (·.arg)).Nodup) &&
    (a.args.map (·.arg)).all fun p => decide (sc.names.lookup p = some .local) || decide (sc.names.lookup p = some .cell)

noncomputable def toRec (d : DefRec) : FnRec := ⟨d.name, d.params.args.map (·.arg), [], d.body, d.scope⟩

theorem fnIs_doc {h : Heap} (d : DefRec) (pm code doc : Value) (hc : h.CodeRec code d.name) (ok : okRec d.params d.scope = true) :
    FnIs (toRec d) (docDef d.name d.params d.body d.scope pm code doc) h := by
  unfold okRec at ok
  simp only [Bool.and_eq_true, List.isEmpty_iff, Option.isNone_iff_eq_none, Bool.not_eq_true', decide_eq_true_eq, List.all_eq_true, Bool.or_eq_true] at ok
  obtain ⟨⟨⟨⟨⟨⟨⟨⟨h1, h2⟩, h3⟩, h4⟩, h5⟩, h6⟩, h7⟩, h8⟩, h9⟩ := ok
  refine ⟨rfl, rfl, rfl, rfl, rfl, hc, h5, h6, h7, h8, h9, fun prog w A E s Q vals he hl hr hq => ?_⟩
  have hl' : vals.length = d.params.args.length := by
    simp only [toRec, List.length_map, List.length_nil, Nat.add_zero] at hl hr
    omega
  have hQ := hq [] (by simp [toRec]; exact .nil)
  rw [List.append_nil] at hQ
  rw [bindArgs_plain (fd := docDef d.name d.params d.body d.scope pm code doc) h1 h2 h3 h4 rfl h8 hl']
  exact wpAny_pure hQ

theorem fnIs_two {h : Heap} {name qual p q : Str} {params : Arguments} {body : List Stmt} {scope : Scope} {kV doc pm cdv ct : Value} {an : Option Addr} {T : Addr} {o : Obj} {n : Nat} {i : Int} {t : Tok}
    (hc : h.CodeRec cdv qual) (ok : okRec params scope = true) (ho : h.get? T = some o) (hs : o.data = .seq #[.int i t] n)
    (k : Option (Array Value) → Value → Sem (List (Str × Value))) (hp : params.args.map (·.arg) = [p, q])
    (h1 : ∀ v, bindArgs (PySem.W.fnOf name qual params body scope (.ref T) kV doc pm an cdv ct) ⟨[v], []⟩ = seqItems? (.ref T) >>= fun l => k l v) (h1' : ∀ v, k (some #[.int i t]) v = pure [(p, v), (q, .int i t)])
    (k2 : Option (Array Value) → Value → Value → Sem (List (Str × Value)))
    (h2 : ∀ v u, bindArgs (PySem.W.fnOf name qual params body scope (.ref T) kV doc pm an cdv ct) ⟨[v, u], []⟩ = seqItems? (.ref T) >>= fun l => k2 l v u) (h2' : ∀ v u, k2 (some #[.int i t]) v u = pure [(p, v), (q, u)]) :
    FnIs ⟨name, [p, q], [.int i], body, scope⟩ (PySem.W.fnOf name qual params body scope (.ref T) kV doc pm an cdv ct) h := by
  unfold okRec at ok
  simp only [Bool.and_eq_true, List.isEmpty_iff, Option.isNone_iff_eq_none, Bool.not_eq_true', decide_eq_true_eq, List.all_eq_true, Bool.or_eq_true] at ok
  obtain ⟨⟨⟨⟨⟨⟨⟨⟨g1, g2⟩, g3⟩, g4⟩, g5⟩, g6⟩, g7⟩, g8⟩, g9⟩ := ok
  rw [hp] at g8 g9
  refine ⟨rfl, rfl, rfl, rfl, rfl, hc, g5, g6, g7, g8, g9, fun prog w A E s Q vals he hl hr hq => ?_⟩
  match vals, hl, hr, hq with
  | [v], _, _, hq =>
    rw [h1 v]
    refine wpAny_bind (wpAny_seqItems (he _ _ ho) hs ?_)
    rw [h1' v]
    exact wpAny_pure (hq [.int i t] (.cons (.int i t) .nil))
  | [v, u], _, _, hq =>
    rw [h2 v u]
    refine wpAny_bind (wpAny_seqItems (he _ _ ho) hs ?_)
    rw [h2' v u]
    exact wpAny_pure (hq [] .nil)
  | [], _, hr, _ => simp at hr
  | _ :: _ :: _ :: _, hl, _, _ => simp at hl

theorem biOf_cases {f b} (h : biOf f = some b) : f = Str.ofString "len" ∨ f = Str.ofString "ord" ∨ f = Str.ofString "str" ∨ f = Str.ofString "sum" := by
  unfold biOf at h
  split at h
  · rename_i e; exact .inl (e)
  · split at h
    · rename_i e; exact .inr (.inl e)
    · split at h
      · rename_i e; exact .inr (.inr (.inl e))
      · split at h
        · rename_i e; exact .inr (.inr (.inr e))
        · cases h

/-- the six names of the builtins namespace that the text reads -/
noncomputable def biNames : List Str := [Str.ofString "len", Str.ofString "ord", Str.ofString "str", Str.ofString "sum", Str.ofString "range", Str.ofString "enumerate"]

theorem glo_of {p view : Program} {K : Frag} {loose mean mg mb h} {hx : Str} (T : Top view loose mean mg mb h) (X : K.In h)
    (ht : (fns p).filter (fun r => !(r.name == hx)) = (recsOf view).map toRec)
    (hok : (recsOf view).all (fun d => okRec d.params d.scope) = true)
    (hb : ∀ x ∈ biNames, nsIn K mainGlobals x = some none)
    (hh : ∀ r, (fns p).find? (fun r => r.name == hx) = some r → ∃ a o fd, mg hx = some (.ref a) ∧ h.get? a = some o ∧ o.data = .func fd ∧ FnIs r fd h) :
    Glo (fns p) mg mb h where
  g := T.g
  b := T.b
  nolimit := T.nolimit
  bi := fun f b hf => by
    have hbt : ∀ x v, x ∈ biNames → x ≠ "__name__" → bootBuiltins x = some v → mg x = none ∧ mb x = some v := fun x v hx hn hv =>
      ⟨mg_none_of X T.g (hb x hx), (T.builtins x hn).trans hv⟩
    rcases biOf_cases hf with rfl | rfl | rfl | rfl
    all_goals
      have e : b = _ := (Option.some.inj hf).symm
      subst e
      exact hbt _ _ (by decide +kernel) (by decide +kernel) (by first | rfl | decide +kernel)
  range := ⟨mg_none_of X T.g (hb _ (by decide +kernel)), (T.builtins _ (by decide +kernel)).trans (by first | rfl | decide +kernel)⟩
  enum := ⟨mg_none_of X T.g (hb _ (by decide +kernel)), (T.builtins _ (by decide +kernel)).trans (by first | rfl | decide +kernel)⟩
  fn := fun f r hf => by
    have hn : r.name = f := eq_of_beq (List.find?_some (p := fun r : FnRec => r.name == f) hf)
    by_cases e : f = hx
    · subst e; exact hh r hf
    · have hm := List.mem_of_find?_eq_some hf
      have : r ∈ (fns p).filter (fun r => !(r.name == hx)) := by
        rw [List.mem_filter]
        refine ⟨hm, ?_⟩
        rw [hn]
        simpa using e
      rw [ht] at this
      obtain ⟨d, hd, rfl⟩ := List.mem_map.mp this
      obtain ⟨a, o, pm, code, doc, h1, h2, h3, h4⟩ := T.fn d hd
      exact ⟨a, o, _, (by rw [← hn]; exact h1), h2, h3, fnIs_doc d pm code doc h4 (List.all_eq_true.mp hok d hd)⟩
end Mine
end
section
open PySem PySem.Calls PySem.W PyProof.Rows
namespace Mine

theorem wellAll_ints {P : Params} {h : Heap} {X : Addr → Prop} : ∀ (ns : List Int) (vs : List Value) (ds : List WData), ds = ns.map .int → WellAll P h vs ds → RdAll X h vs (ns.map .int)
  | [], vs, _, e, x => by
    subst e
    cases x
    exact .nil
  | n :: ns, vs, ds, e, x => by
    subst e
    cases x with
    | cons a r =>
      cases a with
      | int i t => exact .cons (.int _ _) (wellAll_ints ns _ _ rfl r)

theorem well_ints {P : Params} {h : Heap} {X : Addr → Prop} {v : Value} {ns : List Int} (hx : ∀ a, ¬ X a) (x : Well P h v (ofPy (.list (ns.map .int)))) : Rd X h v (.list (ns.map .int)) := by
  have hof : ∀ ns : List Int, ofPys (ns.map PyData.int) = ns.map WData.int := by
    intro ns
    induction ns with
    | nil => rfl
    | cons a r ih => simp only [List.map_cons, ofPys, ih]; rfl
  have e : ofPy (.list (ns.map .int)) = .list (ns.map .int) := by
    show WData.list _ = _
    rw [hof]
  rw [e] at x
  cases x with
  | list ho r => exact .list (hx _) ho (wellAll_ints ns _ _ rfl r)

theorem goodW_true {c : ClaimW} {cl mean args s₁ s'} {v : Value} (g : Grew s₁ s') (r : v = .bool true) (hg : s₁.gens = #[]) (hr : ∀ cls, c.raises args cls = false)
    (hp : c.post args (.bool true) args = true) : GoodWG c cl mean args s₁ (.ok (.ret v)) s' := by
  obtain ⟨h', tk, rfl, e⟩ := g
  subst r
  exact GoodW.toG ⟨.inl ⟨.bool true, .bool true, [], rfl, hr, .bool true, hp, fun _ => ⟨.nil, fun a ha => nomatch ha⟩⟩, fun b o hb => e b o hb, rfl, hg⟩

theorem finish {prog : Program} {w : World} {tab : List FnRec} {mg mb : Str → Option Value} {N W n k : Nat} {s₁ : Shared} {f : Str} {fa : Addr} {v : Value} {ns : List Int} {E : Value → Shared → Prop} {A : Around}
    {c : ClaimW} {cl mean args} (hA : Room k A)
    (hG : Glo tab mg mb s₁.heap) (hmg : mg f = some (.ref fa)) (hv : Rd (fun _ => False) s₁.heap v (.list (ns.map .int))) (hc : callD tab N W n k f [.list (ns.map .int)] = some (.bool true))
    (hg : s₁.gens = #[]) (hr : ∀ cls, c.raises args cls = false) (hp : c.post args (.bool true) args = true) :
    wpAny (model prog w) A (call (.ref fa) [v]) (fun v s' => GoodWG c cl mean args s₁ (.ok (.ret v)) s') E s₁ := by
  obtain ⟨a, ha, _, h⟩ := callD_sound (prog := prog) (w := w) k s₁.heap f _ _ hG hc
  rw [hmg] at ha
  cases ha
  refine wpAny_mono (h A E s₁ (fun _ => False) [v] hA hG (fun _ q => q.elim) (.cons hv .nil)) (fun v' s' hq => ?_) fun _ _ x => x
  obtain ⟨g, r⟩ := hq
  refine goodW_true g ?_ hg hr hp
  cases r
  rfl
end Mine
end
section
open PySem PySem.Calls PySem.W PyProof.Rows
namespace Mine
theorem post_true (l : OpenLaw) (args ds : List WData) : l.row.claim.post args (.bool true) ds = true := by
  simp only [RowW.claim, OpenLaw.row, WTm.holds]
  simp [WTm.value, WShape.has, WShape.arms]
  have h : same (.bool true) (.bool true) = true := by first | decide +kernel | rfl | simp [same]
  rw [h]
end Mine
end
section
open PySem PySem.Calls PySem.W PyProof.Rows
namespace Mine
/-- the program less the two names and the def with a default -/
noncomputable def view : Program := { PySem.Challenge.pw_pf0338_01 with main := { PySem.Challenge.pw_pf0338_01.main with body := ((PySem.Challenge.pw_pf0338_01.main.body.eraseIdx 14).eraseIdx 3).eraseIdx 0 } }
noncomputable def hxS : Str := Str.ofString "hex_text"
/-- the def with a default, as its statement stands in the text -/
noncomputable def hxFd : Stmt → FuncData
  | .FunctionDef _ args body _ _ _ scope _ _ _ => { name := hxS, qualname := hxS, params := args, body := .stmts body, scope := scope, globals := 3, closure := [], defaults := .ref 29, kwdefaults := .none, pyModule := .str (Str.ofString "siftwall.addresses") 187, code := .ref 35, builtins := builtinsNs }
  | _ => default
noncomputable def hxStmt : Stmt := (PySem.Challenge.pw_pf0338_01.main.body.getD 3 (.Pass ⟨0, 0, 0, 0⟩))
/-- what is read of the state behind the top -/
noncomputable abbrev Seen := Option (List (Option (Option Value)) × Option (Option Value)) × Option Data × Option Bool × Option Data
noncomputable def seenAt (s : Shared) : Seen :=
  ((s.heap.get? 3).map fun o => (biNames.map (nsIn [(3, o)] 3), nsIn [(3, o)] 3 hxS), (s.heap.get? 29).map (·.data), (s.heap.get? 35).map fun o => codeIn [(35, o)] (.ref 35) hxS, (s.heap.get? 36).map (·.data))
noncomputable def seenIs : Seen := (some (biNames.map fun _ => some none, some (some (.ref 36))), some (.seq #[.int 1 210]), some true, some (.func (hxFd hxStmt)))
structure Says (h : Heap) : Prop where
  glob : ∃ o, h.get? 3 = some o ∧ (∀ x ∈ biNames, nsIn [(3, o)] 3 x = some none) ∧ nsIn [(3, o)] 3 hxS = some (some (.ref 36))
  dflt : ∃ o n, h.get? 29 = some o ∧ o.data = .seq #[.int 1 210] n
  code : ∃ o, h.get? 35 = some o ∧ codeIn [(35, o)] (.ref 35) hxS = true
  fn : ∃ o, h.get? 36 = some o ∧ o.data = .func (hxFd hxStmt)
set_option maxRecDepth 100000 in
set_option maxHeartbeats 0 in
theorem left : LeftO PySem.Challenge.rw_pf0338_01.row.prog view [hxS] (fun s => xlAt view [] s && recOk (RowW.records PySem.Challenge.rw_pf0338_01.row.toRowW) s) seenAt (fun _ => seenIs) 1678 := fun w => by kernel_rfl
end Mine
namespace Mine
theorem says_of (s : Shared) (e : seenAt s = seenIs) : Says s.heap := by
  have e1 := congrArg (fun q => q.1) e
  have e2 := congrArg (fun q => q.2.1) e
  have e3 := congrArg (fun q => q.2.2.1) e
  have e4 := congrArg (fun q => q.2.2.2) e
  refine ⟨?_, ?_, ?_, ?_⟩
  · obtain ⟨o, ho, h⟩ := Option.map_eq_some_iff.mp e1
    have h1 : biNames.map (nsIn [(3, o)] 3) = biNames.map fun _ => some none := congrArg (fun q => q.1) h
    have h2 := congrArg (fun q => q.2) h
    exact ⟨o, ho, fun x hx => List.map_inj_left.mp h1 x hx, h2⟩
  · obtain ⟨o, ho, h⟩ := Option.map_eq_some_iff.mp e2
    exact ⟨o, _, ho, h⟩
  · obtain ⟨o, ho, h⟩ := Option.map_eq_some_iff.mp e3
    exact ⟨o, ho, h⟩
  · obtain ⟨o, ho, h⟩ := Option.map_eq_some_iff.mp e4
    exact ⟨o, ho, h⟩
theorem says_keeps (h h' : Heap) (x : Says h) (e : ∀ b o, h.get? b = some o → h'.get? b = some o) : Says h' where
  glob := let ⟨o, a, b, c⟩ := x.glob; ⟨o, e _ _ a, b, c⟩
  dflt := let ⟨o, n, a, b⟩ := x.dflt; ⟨o, n, e _ _ a, b⟩
  code := let ⟨o, a, b⟩ := x.code; ⟨o, e _ _ a, b⟩
  fn := let ⟨o, a, b⟩ := x.fn; ⟨o, e _ _ a, b⟩
theorem in_one {h : Heap} {a : Addr} {o : Obj} (e : h.get? a = some o) : Frag.In [(a, o)] h := fun b p hb => by
  simp only [List.lookup] at hb
  split at hb
  · rename_i q
    cases hb
    rw [eq_of_beq q]
    exact e
  · cases hb
theorem glo_says {mg mb h loose mean} (T : Top view loose mean mg mb h) (Y : Says h) : Glo (fns PySem.Challenge.pw_pf0338_01) mg mb h := by
  obtain ⟨o, ho, hb, hg⟩ := Y.glob
  refine glo_of (hx := hxS) T (in_one ho) ?_ ?_ hb ?_
  · rfl
  · decide +kernel
  · intro r hr
    obtain ⟨o1, n, h1, h2⟩ := Y.dflt
    obtain ⟨o2, h3, h4⟩ := Y.code
    obtain ⟨o3, h5, h6⟩ := Y.fn
    refine ⟨_, _, _, mg_of (in_one ho) T.g hg, h5, h6, ?_⟩
    have e : r = ⟨_, _, _, _, _⟩ := (Option.some.inj hr).symm
    subst e
    exact fnIs_two (codeRec_of (in_one h3) h4) (by decide +kernel) h1 h2 _ rfl (fun v => rfl) (fun v => rfl) _ (fun v u => rfl) (fun v u => rfl)
set_option maxRecDepth 100000
section said
open PySem.Challenge
theorem said1 : (sreFenced pw_pf0338_01.main && ((moduleNames pw_pf0338_01.main.body).isEmpty || lookedIntoSs (moduleNames pw_pf0338_01.main.body) pw_pf0338_01.main.body)) = true := by kernel_rfl
theorem said2 : namesResolve pw_pf0338_01 = true := by kernel_rfl
theorem said3 : pw_pf0338_01.boundNames.all (fun n => !worldNames.contains n) = true := by kernel_rfl
theorem said4 : noRoadLSs { strict := !(importedModules pw_pf0338_01.main.body).all cThrough.contains, foot := none, bare := (["vars", "dir", "locals"] : List Str).filter (readsOut pw_pf0338_01 pw_pf0338_01.main.body) } pw_pf0338_01.main.body = true := by kernel_rfl
theorem said5 : (namesMeet pw_pf0338_01 pw_pf0338_01.main.body fun _ n => attrL n) = true := by kernel_rfl
theorem saidOpen : looksOpen pw_pf0338_01 = true := look_both (look_both (look_both (look_both said1 said2) said3) said4) said5
theorem saidPart : rw_pf0338_01.row.partSaid = true := by
  unfold OpenRow.partSaid
  repeat' (with_reducible refine look_both ?_ ?_)
  · exact saidOpen
  all_goals kernel_rfl
theorem saidRow : rw_pf0338_01.row.wellSaid = true := by
  unfold OpenRow.wellSaid
  exact look_both (look_both saidPart (by kernel_rfl)) (by kernel_rfl)
theorem saidFoot : (rw_pf0338_01.footing.all footLine) = true := by kernel_rfl
theorem saidBlock : noClassBlock rw_pf0338_01.prog rw_pf0338_01.footing = true := by kernel_rfl
theorem saidRoad : noRoadLSs { strict := true, foot := some rw_pf0338_01.bound', writes := rw_pf0338_01.writes, may := rw_pf0338_01.may } rw_pf0338_01.footing = true := by kernel_rfl
theorem saidIts : rw_pf0338_01.namesIt = true := by kernel_rfl
theorem saidBound : rw_pf0338_01.bound'.all (fun n => !builtinNamed n || rw_pf0338_01.about == [n] || !rw_pf0338_01.reads n) = true := by kernel_rfl
theorem saidOwn : rw_pf0338_01.own.all (fun n => !builtinNamed n) = true := by kernel_rfl
theorem saidAbove : namesMeet rw_pf0338_01.prog rw_pf0338_01.above (fun _ n => !rw_pf0338_01.own.contains n) = true := by kernel_rfl
theorem saidLaw : rw_pf0338_01.wellSaid = true := by
  unfold OpenLaw.wellSaid
  repeat' (with_reducible refine look_both ?_ ?_)
  all_goals first | with_reducible exact saidRow | with_reducible exact saidFoot | with_reducible exact saidBlock | with_reducible exact saidRoad | with_reducible exact saidIts | with_reducible exact saidBound | with_reducible exact saidOwn | with_reducible exact saidAbove | kernel_rfl
end said
theorem viewOk : (chainsOk view && opensWell PySem.Challenge.rw_pf0338_01.row.prog && (frees PySem.Challenge.rw_pf0338_01.row.toRowW && PySem.Challenge.rw_pf0338_01.row.within.isEmpty)) = true := look_both (look_both (by decide +kernel) (by decide +kernel)) (by decide +kernel)
end Mine
end
open PySem.Calls
set_option maxRecDepth 100000 in
set_option maxHeartbeats 8000000 in
theorem PySem.Challenge.cw_pf0338_01_holds : PySem.Challenge.rw_pf0338_01.Holds := by
  refine holds_law Mine.saidLaw fun said => ?_
  refine holds_open (q := Mine.view) (loose := [Mine.hxS]) (Xt := fun s => xlAt Mine.view [] s && recOk (RowW.records PySem.Challenge.rw_pf0338_01.row.toRowW) s) (XP := XL Mine.view []) (Yf := Mine.seenAt) (Ya := fun _ => Mine.seenIs) (YP := fun _ h => Mine.Says h) (N := 1678)
    Mine.left (fun _ => Mine.says_of) (fun _ => Mine.says_keeps) (fun s e => xl_of s (Bool.and_eq_true_iff.mp e).1) XL.keeps (by rfl) (by rfl) (by rfl) (fun s e => recFacts_of (Bool.and_eq_true_iff.mp e).2) (by rfl) said Mine.viewOk ⟨rfl, rfl, rfl, rfl, rfl, by decide +kernel⟩ ?hw ?hc
  case hw => w_witness2
  case hc =>
    intro w s₀ s₁ mg mb G Y fa o pm cd doc dV kV ho hd hcd hD hmg hg args vals as hpre hlay hrd hwl hlo
    refine Ground.open G ?_
    intro T B D TE TW
    wrow_args hpre hlay hrd hwl hlo
    have hG := Mine.glo_says T Y
    rename_i ns _ _ _ _ _ _ _ _ _ _ _ _ w1 _ _ _ hc _
    exact Mine.finish (N := 12) (W := 200) (n := 40) (k := 10) ⟨rfl, by decide, by decide⟩ hG hmg (Mine.well_ints (fun _ q => q) w1) (Mine.G.law_spec 3 ns (by omega)) hg (fun _ => rfl) (Mine.post_true _ _ _)
