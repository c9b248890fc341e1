import PyProof.Rows.All
import Wide.All
import OpenK.AllK
import Wide.FinOn
import PySem.Challenge.RW_pb0003_01
set_option Elab.async false
set_option maxRecDepth 100000
set_option maxHeartbeats 8000000
set_option bootstrap.genMatcherCode false
set_option genSizeOf false
set_option genInjectivity false
namespace Mine
section
open PySem
/-- by-value data of a variable: plain data, a dict keyed by tuples of texts, a set of int keys (all True), range(n) -/
inductive SV where
  | d (x : PyData)
  | dt (kvs : List (List Str × PyData))
  | di (ks : List Int)
  | rng (n : Nat)

structure Ent where
  own : Bool
  v : SV

noncomputable abbrev M := List (Str × Ent)

inductive Out (α : Type) where
  | ok (a : α) (m : M)
  | exc (m : M)
  | stuck

noncomputable def Out.bind {α β : Type} (o : Out α) (f : α → M → Out β) : Out β := match o with
  | .ok a m => f a m
  | .exc m => .exc m
  | .stuck => .stuck

inductive R where
  | v (x : SV)
  | fresh (x : SV)
  | var (x : Str)

inductive Fl where
  | next | brk | cont
  | ret (v : SV)

noncomputable def upd : M → Str → Ent → M
  | [], x, e => [(x, e)]
  | (y, f) :: r, x, e => if x == y then (y, e) :: r else (y, f) :: upd r x e

noncomputable def R.get (m : M) : R → Option SV
  | .v x => some x
  | .fresh x => some x
  | .var y => (m.lookup y).map (·.v)

/-- the value leaves for another place: its object is changed no more -/
noncomputable def R.frz (m : M) : R → Out SV
  | .v x => .ok x m
  | .fresh x => .ok x m
  | .var y => match m.lookup y with
    | some e => .ok e.v (upd m y ⟨false, e.v⟩)
    | none => .stuck

structure Ctx where
  fs : Scope
  ps : List Str
  sc : Scope
  cv : Option (Str × SV)

structure FD where
  ps : List Str
  body : List Stmt
  scope : Scope

noncomputable def fdOf : Stmt → Option (Str × FD)
  | .FunctionDef name args body _ _ _ scope _ _ _ => some (name, ⟨args.args.map (·.arg), body, scope⟩)
  | _ => none
noncomputable def funs (f : Str) : Option FD := (PySem.Challenge.pw_pb0003_01.main.body.filterMap fdOf).lookup f

noncomputable def vR : R → Option SV
  | .v s => some s
  | _ => none
noncomputable def varR (o : Option Ent) (x : Str) : Option R := o.map fun e => if e.own then .var x else .v e.v
noncomputable def rdKind (cv : Option (Str × SV)) (fc : Bool) (o : Option Ent) (x : Str) : NameKind → Option R
  | .local => match cv with
    | none => varR o x
    | some p => if x == p.1 then some (.v p.2) else none
  | .cell => match cv with
    | none => varR o x
    | some _ => none
  | .free => match cv with
    | none => none
    | some _ => if fc then varR o x else none
  | _ => none
noncomputable def rdName (c : Ctx) (m : M) (x : Str) : Option R :=
  if x == "__debug__" || x == "__classdict__" then none else (c.sc.names.lookup x).bind (rdKind c.cv (c.fs.names.lookup x == some .cell) (m.lookup x) x)

noncomputable def constD : Const → Option PyData
  | .none => some .none
  | .bool b => some (.bool b)
  | .int i => some (.int i)
  | .str s => if PyData.strOk s && decide (s.length ≤ 1000) then some (.str s) else none
  | _ => none

noncomputable def lenMax : Nat := 2 ^ 20
noncomputable def okD {α : Type} (d : PyData) (m : M) (f : SV → α) : Out α := .ok (f (.d d)) m
noncomputable def mkL (xs : List PyData) (m : M) : Out R := if xs.length ≤ lenMax then .ok (.fresh (.d (.list xs))) m else .stuck

noncomputable def small (i : Int) : Bool := decide (i.natAbs ≤ 2 ^ 20)

/-! looks at a value -/
noncomputable def dV : Option SV → Option PyData
  | some (.d x) => some x
  | _ => none
noncomputable def intD : PyData → Option Int
  | .int i => some i
  | _ => none
noncomputable def strOf : PyData → Option Str
  | .str x => some x
  | _ => none
noncomputable def listD : PyData → Option (List PyData)
  | .list xs => some xs
  | _ => none
noncomputable def tupD : PyData → Option (List PyData)
  | .tuple xs => some xs
  | _ => none
noncomputable def tV : SV → Option (List (List Str × PyData))
  | .dt kvs => some kvs
  | _ => none
noncomputable def iV : SV → Option (List Int)
  | .di ks => some ks
  | _ => none
noncomputable abbrev intV (o : Option SV) : Option Int := (dV o).bind intD
noncomputable abbrev strV (o : Option SV) : Option Str := (dV o).bind strOf
noncomputable abbrev tupV (o : Option SV) : Option (List PyData) := (dV o).bind tupD
noncomputable abbrev listV (o : Option SV) : Option (List PyData) := (dV o).bind listD
noncomputable def with1 {α γ : Type} (a : Option α) (d : γ) (f : α → γ) : γ := match a with
  | some x => f x
  | none => d
noncomputable def with2 {α β γ : Type} (a : Option α) (b : Option β) (d : γ) (f : α → β → γ) : γ := with1 a d fun x => with1 b d fun y => f x y
noncomputable def one {α : Type} : List α → Option α
  | [x] => some x
  | _ => none
noncomputable def two {α : Type} : List α → Option (α × α)
  | [x, y] => some (x, y)
  | _ => none

noncomputable def binAdd (a b : Option SV) (m : M) : Out R := with2 (intV a) (intV b) (with2 (strV a) (strV b) (with2 (listV a) (listV b) .stuck fun xs ys => mkL (xs ++ ys) m)
  fun x y => if x.length + y.length ≤ lenMax then .ok (.v (.d (.str (x ++ y)))) m else .stuck) fun i j => .ok (.v (.d (.int (i + j)))) m
noncomputable def binSub (a b : Option SV) (m : M) : Out R := with2 (intV a) (intV b) .stuck fun i j => .ok (.v (.d (.int (i - j)))) m
noncomputable def binMul (a b : Option SV) (m : M) : Out R := with2 (intV a) (intV b) .stuck fun i j => if small i && small j then .ok (.v (.d (.int (i * j)))) m else .stuck
noncomputable def binDiv (a b : Option SV) (m : M) : Out R := with2 (intV a) (intV b) .stuck fun i j => if small i && small j && j != 0 then .ok (.v (.d (.int (i.fdiv j)))) m else .stuck
noncomputable def binMod (a b : Option SV) (m : M) : Out R := with2 (intV a) (intV b) .stuck fun i j => if j != 0 then .ok (.v (.d (.int (i.fmod j)))) m else .stuck
noncomputable def binop (op : Operator) (a b : Option SV) (m : M) : Out R := match op with
  | .Add => binAdd a b m
  | .Sub => binSub a b m
  | .Mult => binMul a b m
  | .FloorDiv => binDiv a b m
  | .Mod => binMod a b m
  | _ => .stuck

noncomputable def tupKey : PyData → Option (List Str)
  | .tuple xs => xs.mapM fun | .str s => some s | _ => none
  | _ => none
noncomputable def keyTup (k : List Str) : PyData := .tuple (k.map .str)

noncomputable def isIn (a b : SV) : Option Bool := match b with
  | .d y => with2 (dV (some a)) (listD y) none fun x ys => if x.depth ≤ 8 then some (ys.any fun y => PyData.eqv y x) else none
  | .di ks => (intV (some a)).map fun i => ks.contains i
  | .dt kvs => if (intV (some a)).isSome && kvs.isEmpty then some false else (dV (some a)).bind fun x => (tupKey x).map fun k => (kvs.lookup k).isSome
  | .rng _ => none

noncomputable def cmpEq (a b : Option SV) : Option Bool := with2 (dV a) (dV b) none fun x y => if min x.depth y.depth ≤ 8 then some (PyData.eqv x y) else none
noncomputable def cmpNe (a b : Option SV) : Option Bool := with2 (dV a) (dV b) none fun x y => if min x.depth y.depth ≤ 8 then some (!PyData.eqv x y) else none
noncomputable def cmpLt (a b : Option SV) : Option Bool := with2 (intV a) (intV b) none fun i j => some (decide (i < j))
noncomputable def cmpLe (a b : Option SV) : Option Bool := with2 (intV a) (intV b) none fun i j => some (decide (i ≤ j))
noncomputable def cmpGt (a b : Option SV) : Option Bool := with2 (intV a) (intV b) none fun i j => some (decide (i > j))
noncomputable def cmpIn (a b : Option SV) : Option Bool := with2 a b none isIn
noncomputable def cmpNi (a b : Option SV) : Option Bool := with2 a b none fun x y => (isIn x y).map (!·)
noncomputable def noneD : PyData → Option Unit
  | .none => some ()
  | _ => none
noncomputable abbrev noneV (o : Option SV) : Option Unit := (dV o).bind noneD
noncomputable def cmpIs (a b : Option SV) : Option Bool := with1 (noneV b) none fun _ => with1 (noneV a) ((listV a).map fun _ => false) fun _ => some true
noncomputable def cmp (op : CmpOp) (a b : Option SV) : Option Bool := match op with
  | .Eq => cmpEq a b
  | .NotEq => cmpNe a b
  | .Lt => cmpLt a b
  | .LtE => cmpLe a b
  | .Gt => cmpGt a b
  | .In => cmpIn a b
  | .NotIn => cmpNi a b
  | .Is => cmpIs a b
  | _ => none

noncomputable def seqOf : SV → Option (List PyData)
  | .d (.list xs) => some xs
  | .d (.tuple xs) => some xs
  | _ => none

/-- the place of an index, where it lies in the sequence -/
noncomputable def place (n : Nat) (i : Int) : Option Nat := if 0 ≤ i then (if i < n then some i.toNat else none) else if 0 ≤ i + n then some (i + n).toNat else none

noncomputable def item (a b : Option SV) : Option PyData := with1 (a.bind tV) ((a.bind seqOf).bind fun xs => (intV b).bind fun i => (place xs.length i).bind fun j => xs[j]?)
  fun kvs => (dV b).bind fun k => (tupKey k).bind fun k => kvs.lookup k

/-- a bound of a slice: none, or an int that is no less than 0 -/
noncomputable def bnd (n dflt : Nat) (o : Option PyData) : Option Nat := with1 o (some dflt) fun d => (intD d).bind fun i => if 0 ≤ i && i < 2 ^ 60 then some (min i.toNat n) else none
noncomputable def sliceL (xs : List PyData) (lo hi : Option PyData) : Option (List PyData) :=
  (bnd xs.length 0 lo).bind fun a => (bnd xs.length xs.length hi).map fun b => (xs.drop a).take (b - a)

noncomputable def lenOf : SV → Option Nat
  | .d (.list xs) => some xs.length
  | .d (.tuple xs) => some xs.length
  | .dt kvs => some kvs.length
  | .di ks => some ks.length
  | _ => none

noncomputable def itemsOf : SV → Option (List SV)
  | .d (.list xs) => some (xs.map .d)
  | .d (.tuple xs) => some (xs.map .d)
  | .rng n => some ((List.range n).map fun (i : Nat) => SV.d (.int (Int.ofNat i)))
  | .dt kvs => some (kvs.map fun p => .d (keyTup p.1))
  | _ => none

noncomputable def putK {K : Type} [BEq K] : List (K × PyData) → K → PyData → List (K × PyData)
  | [], k, v => [(k, v)]
  | (k', v') :: r, k, v => if k == k' then (k', v) :: r else (k', v') :: putK r k v

noncomputable def boolD : PyData → Option Bool
  | .bool b => some b
  | _ => none
noncomputable def put (s : SV) (k v : PyData) : Option SV := with1 (iV s) (with1 (tV s) none fun kvs => if kvs.isEmpty && (intD k).isSome && boolD v == some true then (intD k).map fun i => .di [i]
      else if kvs.length < lenMax then (tupKey k).map fun k => .dt (putK kvs k v) else none)
    fun ks => if boolD v == some true && decide (ks.length < lenMax) then (intD k).map fun i => .di (if ks.contains i then ks else ks ++ [i]) else none

noncomputable def truthD (d : PyData) : Option Bool := with1 (noneD d) (boolD d) fun _ => some false
noncomputable def truth (o : Option SV) : Option Bool := (dV o).bind truthD

noncomputable def asD : SV → M → Out PyData
  | .d x, m => .ok x m
  | _, _ => .stuck
noncomputable def joinD (sep : Str) (xs : List PyData) : Option Str := (xs.mapM strOf).bind fun ys =>
  if sep.length ≤ 1000 ∧ ys.length ≤ 64 ∧ ys.all (fun y => decide (y.length ≤ 1000)) then some (Str.join sep ys) else none

noncomputable def known (f : Str) : Bool := f == "len" || f == "range" || f == "str" || f == "sorted" || f == "list"
noncomputable def bRange (a : Option SV) (m : M) : Out R := with1 (intV a) .stuck fun i => if 0 ≤ i ∧ i < 2 ^ 20 then .ok (.v (.rng i.toNat)) m else .stuck
noncomputable def bStr (a : Option SV) (m : M) : Out R := with1 (intV a) .stuck fun i => if i.natAbs ≤ 1000 then .ok (.v (.d (.str (Str.ofString (toString i))))) m else .stuck
noncomputable def bSorted (a : Option SV) (m : M) : Out R := with1 (a.bind iV) (with1 (a.bind tV) .stuck fun kvs => if kvs.isEmpty then mkL [] m else .stuck) fun ks => if ks.length < 64 then mkL ((ks.mergeSort (· ≤ ·)).map .int) m else .stuck
noncomputable def bList (a : Option SV) (m : M) : Out R := with1 (a.bind tV) .stuck fun kvs => mkL (kvs.map fun p => keyTup p.1) m
noncomputable def builtin1 (f : Str) (a : Option SV) (m : M) : Out R :=
  if f == "len" then with1 (a.bind lenOf) .stuck fun n => .ok (.v (.d (.int n))) m
  else if f == "range" then bRange a m
  else if f == "str" then bStr a m
  else if f == "sorted" then bSorted a m
  else if f == "list" then bList a m
  else .stuck

noncomputable def idxOf (xs : List PyData) (x : PyData) : Option Nat := xs.findIdx? fun y => PyData.eqv y x

noncomputable def varN : Option R → Option Str
  | some (.var y) => some y
  | _ => none
theorem varN_eq {o : Option R} {y : Str} (h : varN o = some y) : o = some (.var y) := by
  cases o with
  | none => cases h
  | some r => cases r <;> cases h; rfl
/-- a variable's own value, its own list -/
noncomputable def ownV (m : M) (y : Str) : Option SV := (m.lookup y).bind fun e => if e.own then some e.v else none
noncomputable def ownL (m : M) (y : Str) : Option (List PyData) := listV (ownV m y)
/-- a method that is known for the receiver -/
noncomputable def recv (nm : Str) (r : R) (m : M) : Bool := match r with
  | .v s => (strV (some s)).isSome && nm == "join"
  | .var y => (ownL m y).isSome && (nm == "append" || nm == "insert" || nm == "extend" || nm == "pop" || nm == "index")
  | .fresh _ => false

/-- a call of a method: the receiver as evaluated, the arguments' data -/
noncomputable def mJoin (sep : Str) (args : List PyData) (m : M) : Out R := with1 ((one args).bind listD) .stuck fun xs => with1 (joinD sep xs) .stuck fun s => .ok (.v (.d (.str s))) m
noncomputable abbrev putL (m : M) (y : Str) (xs : List PyData) : M := upd m y ⟨true, .d (.list xs)⟩
noncomputable def mAppend (y : Str) (xs : List PyData) (args : List PyData) (m : M) : Out R := with1 (one args) .stuck fun x => if xs.length < lenMax then .ok (.v (.d .none)) (putL m y (xs ++ [x])) else .stuck
noncomputable def mInsert (y : Str) (xs : List PyData) (args : List PyData) (m : M) : Out R := with1 (two args) .stuck fun p => with1 (intD p.1) .stuck fun i =>
  if xs.length < lenMax ∧ 0 ≤ i ∧ i ≤ xs.length then .ok (.v (.d .none)) (putL m y (xs.take i.toNat ++ p.2 :: xs.drop i.toNat)) else .stuck
noncomputable def mExtend (y : Str) (xs : List PyData) (args : List PyData) (m : M) : Out R := with1 ((one args).bind listD) .stuck fun ys => if xs.length + ys.length ≤ lenMax then .ok (.v (.d .none)) (putL m y (xs ++ ys)) else .stuck
noncomputable def mPop (y : Str) (xs : List PyData) (args : List PyData) (m : M) : Out R := if args.isEmpty then with1 xs.getLast? .stuck fun x => .ok (.v (.d x)) (putL m y xs.dropLast) else .stuck
noncomputable def mIndex (xs : List PyData) (args : List PyData) (m : M) : Out R := with1 ((one args).bind intD) .stuck fun i => with1 (idxOf xs (.int i)) .stuck fun j => .ok (.v (.d (.int j))) m
noncomputable def methL (nm : Str) (y : Str) (xs : List PyData) (args : List PyData) (m : M) : Out R :=
  if nm == "append" then mAppend y xs args m else if nm == "insert" then mInsert y xs args m else if nm == "extend" then mExtend y xs args m
  else if nm == "pop" then mPop y xs args m else if nm == "index" then mIndex xs args m else .stuck
noncomputable def meth (nm : Str) (r : R) (args : List PyData) (m : M) : Out R := match r with
  | .v s => with1 (strV (some s)) .stuck fun sep => mJoin sep args m
  | .var y => with1 (ownL m y) .stuck fun xs => methL nm y xs args m
  | .fresh _ => .stuck

noncomputable def plainBase : Expr → Bool
  | .Name .. => true
  | .Constant .. => true
  | _ => false

noncomputable def forLoop (step : SV → M → Out Fl) : List SV → M → Out Fl
  | [], m => .ok .next m
  | x :: xs, m => match step x m with
    | .ok .next m => forLoop step xs m
    | .ok .cont m => forLoop step xs m
    | .ok .brk m => .ok .next m
    | .ok (.ret v) m => .ok (.ret v) m
    | .exc m => .exc m
    | .stuck => .stuck

noncomputable def whileLoop (test : M → Out Bool) (body : M → Out Fl) : Nat → M → Out Fl
  | 0, _ => .stuck
  | k + 1, m => (test m).bind fun b m => match b with
    | false => .ok .next m
    | true => match body m with
      | .ok .next m => whileLoop test body k m
      | .ok .cont m => whileLoop test body k m
      | .ok .brk m => .ok .next m
      | .ok (.ret v) m => .ok (.ret v) m
      | .exc m => .exc m
      | .stuck => .stuck

noncomputable def compLoop {α : Type} (step : SV → M → Out (Option α)) : List SV → List α → M → Out (List α)
  | [], acc, m => .ok acc m
  | x :: xs, acc, m => (step x m).bind fun r m => match r with
    | some y => if acc.length < lenMax then compLoop step xs (acc ++ [y]) m else .stuck
    | none => compLoop step xs acc m

noncomputable def whileMax : Nat := 1000

/-- the arguments' entries, and what comes back -/
noncomputable def bind1 (m : M) : R → Option Ent
  | .v x => some ⟨false, x⟩
  | .fresh _ => none
  | .var y => (m.lookup y).bind fun e => if e.own then some e else none
noncomputable def bindP : List Str → List R → M → Option M
  | [], rs, _ => match rs with
    | [] => some []
    | _ :: _ => none
  | p :: ps, rs, m => match rs with
    | [] => none
    | r :: rs => (bind1 m r).bind fun e => (bindP ps rs m).map ((p, e) :: ·)
noncomputable def back : List Str → List R → M → M → Option M
  | p :: ps, .var y :: rs, m', m => match m'.lookup p with
    | some e => back ps rs m' (upd m y e)
    | none => none
  | _ :: ps, .v _ :: rs, m', m => back ps rs m' m
  | [], [], _, m => some m
  | _, _, _, _ => none
noncomputable def unback {α : Type} (o : Option M) (f : M → Out α) : Out α := match o with
  | some m => f m
  | none => .stuck
noncomputable def isStar : Expr → Bool
  | .Starred .. => true
  | _ => false
noncomputable def noStar (es : List Expr) : Bool := es.all fun e => !isStar e
noncomputable def varsOf : List R → List Str
  | .var y :: rs => y :: varsOf rs
  | _ :: rs => varsOf rs
  | [] => []

noncomputable def nameOf : Expr → Option Str
  | .Name x _ => some x
  | _ => none
noncomputable def namesOf (es : List Expr) : Option (List Str) := es.mapM nameOf
noncomputable def bindAll : List Str → List PyData → M → Option M
  | [], [], m => some m
  | x :: xs, d :: ds, m => bindAll xs ds (upd m x ⟨false, .d d⟩)
  | _, _, _ => none
/-- may be bound by a statement: a local or a cell of the function, no parameter -/
noncomputable def bindable (c : Ctx) (x : Str) : Bool := c.cv.isNone && !c.ps.contains x && (c.fs.names.lookup x == some .local || c.fs.names.lookup x == some .cell)
noncomputable def bindTo (c : Ctx) (t : Expr) (v : SV) (m : M) : Out Unit := match t with
  | .Name x _ => if bindable c x then .ok () (upd m x ⟨false, v⟩) else .stuck
  | .Tuple es _ _ => with2 (namesOf es) (tupV (some v)) .stuck fun xs ds => if xs.all (bindable c) then with1 (bindAll xs ds m) .stuck fun m => .ok () m else .stuck
  | _ => .stuck
/-- store what an expression gave under a name -/
noncomputable def storeR (x : Str) (r : R) (m : M) : Out Unit := match r with
  | .v v => .ok () (upd m x ⟨false, v⟩)
  | .fresh v => .ok () (upd m x ⟨true, v⟩)
  | .var y => match m.lookup y with
    | some e => .ok () (upd (upd m y ⟨false, e.v⟩) x ⟨false, e.v⟩)
    | none => .stuck
noncomputable def storeF (x : Str) (r : R) (m : M) : Out Unit := match r with
  | .var _ => .stuck
  | r => storeR x r m

noncomputable def isCF (c : Ctx) : Expr → Bool
  | .Name x _ => x == "CheckFault" && c.sc.names.lookup x == some .globalImplicit && c.cv.isNone
  | _ => false
noncomputable def compOk (c : Ctx) (g : Comprehension) (sc : Scope) (x : Str) : Bool :=
  g.is_async == 0 && sc.kind == .function && sc.names.all (fun p => p.2 != .cell) && sc.names.lookup x == some .local && x != ".0" &&
  sc.names.all (fun p => p.2 != .free || (c.fs.names.lookup p.1 == some .cell && (c.cv.isNone || c.sc.names.lookup p.1 == some .free))) && sc.names.all (fun p => p.2 != .local || p.1 == x || p.1 == ".0") &&
  sc.names.all (fun p => sc.names.lookup p.1 == some p.2)
noncomputable def addK (ks : List Int) (i : Int) : List Int := if ks.contains i then ks else ks ++ [i]
noncomputable def isDC : Expr → Bool
  | .DictComp .. => true
  | _ => false
noncomputable def twoNames (l : List Expr) : Option (Str × Str) := with1 (two l) none fun p => with1 (nameOf p.1) none fun x => (nameOf p.2).map fun y => (x, y)
noncomputable def tupleOf : Expr → Option (List Expr)
  | .Tuple es _ _ => some es
  | _ => none
noncomputable def isSlice : Expr → Bool
  | .Slice .. => true
  | _ => false
noncomputable def retOf : Stmt → Option Expr
  | .Return e _ => e
  | _ => none
noncomputable def isNoneC : Expr → Bool
  | .Constant k _ _ => match k with
    | .none => true
    | _ => false
  | _ => false
noncomputable def retNone (l : List Stmt) : Bool := with1 (one l) false fun s => with1 (retOf s) false isNoneC

mutual
noncomputable def ev : Nat → Ctx → Expr → M → Out R
  | 0, _, _, _ => .stuck
  | n + 1, c, e, m => match e with
    | .Constant k _ _ => match constD k with
      | some d => .ok (.v (.d d)) m
      | none => .stuck
    | .Name x _ => match rdName c m x with
      | some r => .ok r m
      | none => .stuck
    | .BinOp l op r _ => (ev n c l m).bind fun a m => (ev n c r m).bind fun b m => binop op (a.get m) (b.get m) m
    | .UnaryOp .USub x _ => (ev n c x m).bind fun a m => with1 (intV (a.get m)) .stuck fun i => .ok (.v (.d (.int (-i)))) m
    | .BoolOp .And [x, y] _ => (ev n c x m).bind fun a m => match truth (a.get m) with
      | some false => .ok a m
      | some true => ev n c y m
      | none => .stuck
    | .Compare l [op] [r] _ => (ev n c l m).bind fun a m => (ev n c r m).bind fun b m => match cmp op (a.get m) (b.get m) with
      | some q => .ok (.v (.d (.bool q))) m
      | none => .stuck
    | .IfExp t x y _ => (evB n c t m).bind fun q m => if q then ev n c x m else ev n c y m
    | .Subscript a (.Slice lo hi none _) _ => (ev n c a m).bind fun r m => (evO n c lo m).bind fun lo m => (evO n c hi m).bind fun hi m => with1 (listV (r.get m)) .stuck fun xs => with1 (sliceL xs lo hi) .stuck fun ys => mkL ys m
    | .Subscript a i _ => (ev n c a m).bind fun r m => (ev n c i m).bind fun k m => match item (r.get m) (k.get m) with
      | some d => .ok (.v (.d d)) m
      | none => .stuck
    | .Tuple es _ _ => (evs n c es m).bind fun ds m => if ds.length ≤ 1000 then .ok (.v (.d (.tuple ds))) m else .stuck
    | .List es _ => (evs n c es m).bind fun ds m => if ds.length ≤ 1000 then .ok (.fresh (.d (.list ds))) m else .stuck
    | .Dict [] [] _ => .ok (.fresh (.dt [])) m
    | .Dict [some k] [v] _ => (evD n c k m).bind fun k m => (evD n c v m).bind fun v m => match tupKey k with
      | some k => .ok (.fresh (.dt [(k, v)])) m
      | none => .stuck
    | .ListComp elt [g] sc _ => match g.target with
      | .Name x _ => if compOk c g sc x then
          (ev n c g.iter m).bind fun r m => (r.frz m).bind fun s m => match s with
            | .dt _ => .stuck
            | s => match itemsOf s with
              | some items => (compLoop (fun s m =>
                  (evBs n { c with sc := sc, cv := some (x, s) } g.ifs m).bind fun b m => match b with
                    | true => (evD n { c with sc := sc, cv := some (x, s) } elt m).bind fun d m => .ok (some d) m
                    | false => .ok none m) items [] m).bind fun ds m => .ok (.fresh (.d (.list ds))) m
              | none => .stuck
        else .stuck
      | _ => .stuck
    | .DictComp k (.Constant (.bool true) _ _) [g] sc _ => match g.target, k with
      | .Name x _, .Name y _ => if compOk c g sc x && x == y && g.ifs.isEmpty && x != "__debug__" then
          (ev n c g.iter m).bind fun r m => (r.frz m).bind fun s m => match s with
            | .d (.list xs) => match xs.mapM (fun | .int i => some i | _ => none) with
              | some is => if xs.length ≤ lenMax then .ok (.fresh (.di (is.foldl addK []))) m else .stuck
              | none => .stuck
            | _ => .stuck
        else .stuck
      | _, _ => .stuck
    | .Call (.Name f _) args [] _ => if c.sc.names.lookup f == some .globalImplicit && f != "__debug__" && noStar args then (match funs f with
        | some fd => (evRs n c args m).bind fun rs m => if (varsOf rs).Nodup then (match bindP fd.ps rs m with
          | some m₀ => (match exs n ⟨fd.scope, fd.ps, fd.scope, none⟩ fd.body m₀ with
            | .ok (.ret v) m₁ => unback (back fd.ps rs m₁ m) fun m => .ok (.v v) m
            | .ok _ _ => .stuck
            | .exc m₁ => unback (back fd.ps rs m₁ m) fun m => .exc m
            | .stuck => .stuck)
          | none => .stuck) else .stuck
        | none => match args with
          | [a] => if known f then (ev n c a m).bind fun r m => builtin1 f (r.get m) m else .stuck
          | _ => .stuck) else .stuck
    | .Call (.Attribute o nm apos) args [] pos => if noStar args && plainBase o && apos.endLine == pos.line && decide (args.length < 29) then (ev n c o m).bind fun r m => (if recv nm r m then (evs n c args m).bind fun ds m => meth nm r ds m else .stuck) else .stuck
    | _ => .stuck
/-- for data: frozen -/
noncomputable def evD : Nat → Ctx → Expr → M → Out PyData
  | 0, _, _, _ => .stuck
  | n + 1, c, e, m => (ev n c e m).bind fun r m => (r.frz m).bind asD
noncomputable def evO : Nat → Ctx → Option Expr → M → Out (Option PyData)
  | 0, _, _, _ => .stuck
  | _ + 1, _, none, m => .ok none m
  | n + 1, c, some e, m => (evD n c e m).bind fun d m => .ok (some d) m
noncomputable def evs : Nat → Ctx → List Expr → M → Out (List PyData)
  | 0, _, _, _ => .stuck
  | _ + 1, _, [], m => .ok [] m
  | n + 1, c, e :: es, m => (evD n c e m).bind fun d m => (evs n c es m).bind fun ds m => .ok (d :: ds) m
noncomputable def evRs : Nat → Ctx → List Expr → M → Out (List R)
  | 0, _, _, _ => .stuck
  | _ + 1, _, [], m => .ok [] m
  | n + 1, c, e :: es, m => (ev n c e m).bind fun r m => (evRs n c es m).bind fun rs m => .ok (r :: rs) m
noncomputable def evB : Nat → Ctx → Expr → M → Out Bool
  | 0, _, _, _ => .stuck
  | n + 1, c, e, m => match e with
    | .BoolOp op vs _ => evBo n c op vs m
    | .UnaryOp .. => .stuck
    | .IfExp .. => .stuck
    | e => (ev n c e m).bind fun a m => match truth (a.get m) with
      | some b => .ok b m
      | none => .stuck
noncomputable def evBo : Nat → Ctx → BoolOp → List Expr → M → Out Bool
  | 0, _, _, _, _ => .stuck
  | _ + 1, _, op, [], m => .ok (op == .And) m
  | n + 1, c, op, e :: es, m => (evB n c e m).bind fun b m => match op, b with
    | .And, false => .ok false m
    | .Or, true => .ok true m
    | _, _ => evBo n c op es m
noncomputable def evBs : Nat → Ctx → List Expr → M → Out Bool
  | 0, _, _, _ => .stuck
  | _ + 1, _, [], m => .ok true m
  | n + 1, c, [e], m => evB n c e m
  | _, _, _, _ => .stuck
noncomputable def ex : Nat → Ctx → Stmt → M → Out Fl
  | 0, _, _, _ => .stuck
  | n + 1, c, st, m => match st with
    | .Expr e _ => match e with
      | .Call .. => (ev n c e m).bind fun r m => with1 (noneV (vR r)) .stuck fun _ => .ok .next m
      | _ => .stuck
    | .Break _ => .ok .brk m
    | .Continue _ => .ok .cont m
    | .Return (some e) _ => (ev n c e m).bind fun r m => (r.frz m).bind fun s m => .ok (.ret s) m
    | .Assign [t] e _ => match t with
      | .Name x _ => if bindable c x && !isDC e then (ev n c e m).bind fun r m => (storeR x r m).bind fun _ m => .ok .next m else .stuck
      | .Tuple ts k p => (match tupleOf e with
        | some es => (match twoNames ts, es with
          | some (x, y), [e₁, e₂] => if bindable c x && bindable c y && x != y && !(constantsAlone 8 e₁ && constantsAlone 8 e₂) && noStar [e₁, e₂] then
              (evRs n c [e₁, e₂] m).bind fun rs m => match rs with
                | [r₁, r₂] => (storeF x r₁ m).bind fun _ m => (storeF y r₂ m).bind fun _ m => .ok .next m
                | _ => .stuck
            else .stuck
          | _, _ => .stuck)
        | none => (ev n c e m).bind fun r m => (r.frz m).bind fun s m => (bindTo c (.Tuple ts k p) s m).bind fun _ m => .ok .next m)
      | .Subscript (.Name y _) i _ => if isSlice i then .stuck else (evD n c e m).bind fun v m => with1 (varN (rdName c m y)) .stuck fun y => (evD n c i m).bind fun k m => with1 (ownV m y) .stuck fun s => with1 (put s k v) .stuck fun s => .ok .next (upd m y ⟨true, s⟩)
      | _ => .stuck
    | .AugAssign (.Name x _) .Add e _ => if bindable c x then (with1 (varN (rdName c m x)) .stuck fun x => (ev n c e m).bind fun r m => with2 (ownL m x) (listV (r.get m)) .stuck fun xs ys => if xs.length + ys.length ≤ lenMax then .ok .next (putL m x (xs ++ ys)) else .stuck) else .stuck
    | .AugAssign (.Subscript (.Name y _) (.Constant (.int i) _ _) _) .Add (.Constant (.int k) _ _) _ => with1 (varN (rdName c m y)) .stuck fun y => with1 (ownL m y) .stuck fun xs => with1 (if 0 ≤ i then place xs.length i else none) .stuck fun j => with1 ((xs[j]?).bind intD) .stuck fun a => .ok .next (putL m y (xs.set j (.int (a + k))))
    | .If t b o _ => (evB n c t m).bind fun q m => if q then exs n c b m else exs n c o m
    | .For t i b [] _ => (ev n c i m).bind fun r m => (r.frz m).bind fun s m => match itemsOf s with
      | some items => forLoop (fun s m => (bindTo c t s m).bind fun _ m => exs n c b m) items m
      | none => .stuck
    | .While t b [] _ => whileLoop (evB n c t) (exs n c b) whileMax m
    | .Raise (some (.Call f [a, b] [] _)) none _ => if isCF c f && noStar [a, b] then (evs n c [a, b] m).bind fun ds m => with1 (two ds) .stuck fun p => with1 (intD p.1) .stuck fun _ => with1 (strOf p.2) .stuck fun _ => .exc m else .stuck
    | .Try b [.ExceptHandler (some t) none hb _] [] [] _ => if isCF c t && retNone hb then (match exs n c b m with
        | .ok fl m => .ok fl m
        | .exc m => .ok (.ret (.d .none)) m
        | .stuck => .stuck) else .stuck
    | _ => .stuck
noncomputable def exs : Nat → Ctx → List Stmt → M → Out Fl
  | 0, _, _, _ => .stuck
  | _ + 1, _, [], m => .ok .next m
  | n + 1, c, s :: r, m => (ex n c s m).bind fun f m => match f with
    | .next => exs n c r m
    | f => .ok f m
end

theorem bnd_int {n d : Nat} {i : Int} : bnd n d (some (.int i)) = if (decide (0 ≤ i) && decide (i < 2 ^ 60)) = true then some (min i.toNat n) else none := rfl
theorem bnd_none {n d : Nat} : bnd n d none = some d := rfl

/-! what a look tells -/
theorem dV_eq {o : Option SV} {d : PyData} (h : dV o = some d) : o = some (.d d) := by
  cases o with
  | none => cases h
  | some s => cases s <;> cases h <;> rfl
theorem intD_eq {d : PyData} {i : Int} (h : intD d = some i) : d = .int i := by cases d <;> cases h <;> rfl
theorem strOf_eq {d : PyData} {i : Str} (h : strOf d = some i) : d = .str i := by cases d <;> cases h <;> rfl
theorem listD_eq {d : PyData} {i : List PyData} (h : listD d = some i) : d = .list i := by cases d <;> cases h <;> rfl
theorem tupD_eq {d : PyData} {i : List PyData} (h : tupD d = some i) : d = .tuple i := by cases d <;> cases h <;> rfl
theorem none_some {α : Type} {x : α} {C : Prop} (h : none = some x) : C := nomatch h
theorem ff_tt {C : Prop} (h : false = true) : C := nomatch h
theorem noStar_head {e : Expr} {es : List Expr} (h : noStar (e :: es) = true) (x : Expr) (p : Pos) (q : e = .Starred x p) : False := by
  subst q; exact ff_tt h
theorem noneD_eq {d : PyData} {u : Unit} (h : noneD d = some u) : d = .none := by cases d <;> cases h <;> rfl
theorem boolD_eq {d : PyData} {b : Bool} (h : boolD d = some b) : d = .bool b := by cases d <;> cases h <;> rfl
theorem tV_eq {s : SV} {i : List (List Str × PyData)} (h : tV s = some i) : s = .dt i := by cases s <;> cases h <;> rfl
theorem iV_eq {s : SV} {i : List Int} (h : iV s = some i) : s = .di i := by cases s <;> cases h <;> rfl
theorem via {α : Type} {o : Option SV} {f : PyData → Option α} {i : α} (h : (dV o).bind f = some i) {c : α → PyData} (hc : ∀ {d i}, f d = some i → d = c i) : o = some (.d (c i)) := by
  obtain ⟨d, h1, h2⟩ := Option.bind_eq_some_iff.mp h
  rw [dV_eq h1, hc h2]
theorem intV_eq {o : Option SV} {i : Int} (h : intV o = some i) : o = some (.d (.int i)) := via (c := .int) h intD_eq
theorem strV_eq {o : Option SV} {i : Str} (h : strV o = some i) : o = some (.d (.str i)) := via (c := .str) h strOf_eq
theorem listV_eq {o : Option SV} {i : List PyData} (h : listV o = some i) : o = some (.d (.list i)) := via (c := .list) h listD_eq
theorem tupV_eq {o : Option SV} {i : List PyData} (h : tupV o = some i) : o = some (.d (.tuple i)) := via (c := .tuple) h tupD_eq
theorem vR_eq {r : R} {s : SV} (h : vR r = some s) : r = .v s := by cases r <;> cases h; rfl
theorem noneV_eq {o : Option SV} {u : Unit} (h : noneV o = some u) : o = some (.d .none) := via (c := fun _ => .none) h noneD_eq
theorem some_via {α β : Type} {o : Option β} {f : β → Option α} {i : α} (h : o.bind f = some i) {c : α → β} (hc : ∀ {d i}, f d = some i → d = c i) : o = some (c i) := by
  obtain ⟨d, h1, h2⟩ := Option.bind_eq_some_iff.mp h
  rw [h1, hc h2]
theorem one_eq {α : Type} {l : List α} {x : α} (h : one l = some x) : l = [x] := by
  cases l with
  | nil => cases h
  | cons a r => cases r <;> cases h; rfl
theorem two_eq {α : Type} {l : List α} {p : α × α} (h : two l = some p) : l = [p.1, p.2] := by
  cases l with
  | nil => cases h
  | cons a r =>
    cases r with
    | nil => cases h
    | cons b r => cases r <;> cases h; rfl
theorem one_via {α : Type} {l : List PyData} {f : PyData → Option α} {i : α} (h : (one l).bind f = some i) {c : α → PyData} (hc : ∀ {d i}, f d = some i → d = c i) : l = [c i] := by
  obtain ⟨d, h1, h2⟩ := Option.bind_eq_some_iff.mp h
  rw [one_eq h1, hc h2]
theorem ownV_eq {m : M} {y : Str} {s : SV} (h : ownV m y = some s) : m.lookup y = some ⟨true, s⟩ := by
  obtain ⟨⟨o, v⟩, h1, h2⟩ := Option.bind_eq_some_iff.mp h
  cases o with
  | true => cases h2; exact h1
  | false => cases h2
theorem ownL_eq {m : M} {y : Str} {xs : List PyData} (h : ownL m y = some xs) : m.lookup y = some ⟨true, .d (.list xs)⟩ := by
  obtain ⟨d, h1, h2⟩ := Option.bind_eq_some_iff.mp h
  rw [ownV_eq (dV_eq h1), listD_eq h2]
theorem ownV_of {m : M} {y : Str} {s : SV} (h : m.lookup y = some ⟨true, s⟩) : ownV m y = some s := by unfold ownV; rw [h]; rfl
theorem ownL_of {m : M} {y : Str} {xs : List PyData} (h : m.lookup y = some ⟨true, .d (.list xs)⟩) : ownL m y = some xs := by unfold ownL; rw [ownV_of h]; rfl
theorem with1_inv {α β : Type} {a : Option α} {d : Option β} {f : α → Option β} {r : Option β} (h : with1 a d f = r) : (∃ x, a = some x ∧ f x = r) ∨ (a = none ∧ d = r) := by
  cases a with
  | none => exact .inr ⟨rfl, h⟩
  | some x => exact .inl ⟨x, rfl, h⟩
theorem with2_inv {α β γ : Type} {a : Option α} {b : Option β} {f : α → β → Option γ} {r : γ} (h : with2 a b none f = some r) : ∃ x y, a = some x ∧ b = some y ∧ f x y = some r := by
  cases a with
  | none => cases h
  | some x =>
    cases b with
    | none => cases h
    | some y => exact ⟨x, y, rfl, rfl, h⟩
theorem if_inv {c : Prop} [Decidable c] {α : Type} {o : Option α} {r : α} (h : (if c then o else none) = some r) : c ∧ o = some r := by
  by_cases hc : c
  · rw [if_pos hc] at h; exact ⟨hc, h⟩
  · rw [if_neg hc] at h; cases h
theorem b1_len {m : M} {a : Option SV} : builtin1 "len" a m = with1 (a.bind lenOf) .stuck fun n => .ok (.v (.d (.int n))) m := by unfold builtin1; rw [if_pos (by decide)]
theorem b1_range {m : M} {a : Option SV} : builtin1 "range" a m = bRange a m := by unfold builtin1; rw [if_neg (by decide), if_pos (by decide)]
theorem b1_str {m : M} {a : Option SV} : builtin1 "str" a m = bStr a m := by unfold builtin1; rw [if_neg (by decide), if_neg (by decide), if_pos (by decide)]
theorem b1_sorted {m : M} {a : Option SV} : builtin1 "sorted" a m = bSorted a m := by unfold builtin1; rw [if_neg (by decide), if_neg (by decide), if_neg (by decide), if_pos (by decide)]
theorem b1_list {m : M} {a : Option SV} : builtin1 "list" a m = bList a m := by unfold builtin1; rw [if_neg (by decide), if_neg (by decide), if_neg (by decide), if_neg (by decide), if_pos (by decide)]
theorem mL_1 {m : M} {y : Str} {xs ds : List PyData} : methL "append" y xs ds m = mAppend y xs ds m := by unfold methL; rw [if_pos (by decide)]
theorem mL_2 {m : M} {y : Str} {xs ds : List PyData} : methL "insert" y xs ds m = mInsert y xs ds m := by unfold methL; rw [if_neg (by decide), if_pos (by decide)]
theorem mL_3 {m : M} {y : Str} {xs ds : List PyData} : methL "extend" y xs ds m = mExtend y xs ds m := by unfold methL; rw [if_neg (by decide), if_neg (by decide), if_pos (by decide)]
theorem mL_4 {m : M} {y : Str} {xs ds : List PyData} : methL "pop" y xs ds m = mPop y xs ds m := by unfold methL; rw [if_neg (by decide), if_neg (by decide), if_neg (by decide), if_pos (by decide)]
theorem mL_5 {m : M} {y : Str} {xs ds : List PyData} : methL "index" y xs ds m = mIndex xs ds m := by unfold methL; rw [if_neg (by decide), if_neg (by decide), if_neg (by decide), if_neg (by decide), if_pos (by decide)]

noncomputable def runLaw (script : List Int) : Option Bool :=
  match funs "law" with
  | some fd => match exs 100 ⟨fd.scope, fd.ps, fd.scope, none⟩ fd.body [("script", ⟨false, .d (.list (script.map .int))⟩)] with
    | .ok (.ret (.d (.bool b))) _ => some b
    | _ => none
  | none => none
end
section
open PySem PySem.W PyProof.Rows PySem.Calls
noncomputable abbrev AP := Addr → Prop
noncomputable abbrev P : Program := PySem.Challenge.pw_pb0003_01

mutual
/-- data that is changed no more: no object of it lies in O -/
inductive Fz (O : AP) (h : Heap) : Value → PyData → Prop
  | none : Fz O h .none .none
  | bool (b) : Fz O h (.bool b) (.bool b)
  | int (i t) : Fz O h (.int i t) (.int i)
  | str {x} (t) : PyData.strOk x = true → x.length ≤ lenMax → Fz O h (.str x t) (.str x)
  | list {a vs xs} : ¬ O a → h.IsList a vs → xs.length ≤ lenMax → FzAll O h vs.toList xs → Fz O h (.ref a) (.list xs)
  | tuple {a vs xs} : ¬ O a → h.IsTuple a vs → xs.length ≤ lenMax → FzAll O h vs.toList xs → Fz O h (.ref a) (.tuple xs)
inductive FzAll (O : AP) (h : Heap) : List Value → List PyData → Prop
  | nil : FzAll O h [] []
  | cons {v d vs ds} : Fz O h v d → FzAll O h vs ds → FzAll O h (v :: vs) (d :: ds)
end

/-- what lies outside O stays outside and stays -/
noncomputable def Stay (O : AP) (h : Heap) (O' : AP) (h' : Heap) : Prop := ∀ a o, ¬ O a → h.get? a = some o → ¬ O' a ∧ h'.get? a = some o

theorem Stay.refl {O h} : Stay O h O h := fun _ _ a b => ⟨a, b⟩
theorem Stay.trans {O h O' h' O'' h''} (x : Stay O h O' h') (y : Stay O' h' O'' h'') : Stay O h O'' h'' := fun a o p q => let ⟨r, t⟩ := x a o p q; y a o r t

theorem isList_stay {O O' : AP} {h h' : Heap} (hs : Stay O h O' h') {a vs} (ha : ¬ O a) (x : h.IsList a vs) : ¬ O' a ∧ h'.IsList a vs :=
  let ⟨o, e, r⟩ := x; ⟨(hs a o ha e).1, o, (hs a o ha e).2, r⟩
theorem isTuple_stay {O O' : AP} {h h' : Heap} (hs : Stay O h O' h') {a vs} (ha : ¬ O a) (x : h.IsTuple a vs) : ¬ O' a ∧ h'.IsTuple a vs :=
  let ⟨o, e, r⟩ := x; ⟨(hs a o ha e).1, o, (hs a o ha e).2, r⟩

theorem fz_rec {O : AP} {h : Heap} {P : Value → PyData → Prop} {Q : List Value → List PyData → Prop} (none : P .none .none) (bool : ∀ b, P (.bool b) (.bool b)) (int : ∀ i t, P (.int i t) (.int i)) (str : ∀ {x} (t), PyData.strOk x = true → x.length ≤ lenMax → P (.str x t) (.str x))
    (list : ∀ {a vs xs}, ¬ O a → h.IsList a vs → xs.length ≤ lenMax → Q vs.toList xs → P (.ref a) (.list xs)) (tuple : ∀ {a vs xs}, ¬ O a → h.IsTuple a vs → xs.length ≤ lenMax → Q vs.toList xs → P (.ref a) (.tuple xs))
    (nil : Q [] []) (cons : ∀ {v d vs ds}, P v d → Q vs ds → Q (v :: vs) (d :: ds)) : (∀ {v d}, Fz O h v d → P v d) ∧ (∀ {vs ds}, FzAll O h vs ds → Q vs ds) :=
  ⟨fun x => Fz.rec (motive_1 := fun v d _ => P v d) (motive_2 := fun vs ds _ => Q vs ds) none bool int str (fun a b c _ ih => list a b c ih) (fun a b c _ ih => tuple a b c ih) nil (fun _ _ i1 i2 => cons i1 i2) x,
   fun x => FzAll.rec (motive_1 := fun v d _ => P v d) (motive_2 := fun vs ds _ => Q vs ds) none bool int str (fun a b c _ ih => list a b c ih) (fun a b c _ ih => tuple a b c ih) nil (fun _ _ i1 i2 => cons i1 i2) x⟩
@[elab_as_elim] theorem FzAll.ind {O : AP} {h : Heap} {motive : List Value → List PyData → Prop} {vs ds} (x : FzAll O h vs ds) (nil : motive [] []) (cons : ∀ {v d vs ds}, Fz O h v d → FzAll O h vs ds → motive vs ds → motive (v :: vs) (d :: ds)) : motive vs ds :=
  FzAll.rec (motive_1 := fun _ _ _ => True) (motive_2 := fun vs ds _ => motive vs ds) trivial (fun _ => trivial) (fun _ _ => trivial) (fun _ _ _ => trivial) (fun _ _ _ _ _ => trivial) (fun _ _ _ _ _ => trivial) nil (fun a r _ ih => cons a r ih) x

theorem fz_stay {O O' : AP} {h h' : Heap} (hs : Stay O h O' h') : (∀ {v d}, Fz O h v d → Fz O' h' v d) ∧ (∀ {vs ds}, FzAll O h vs ds → FzAll O' h' vs ds) :=
  fz_rec .none .bool .int .str (fun ha hl hn r => .list (isList_stay hs ha hl).1 (isList_stay hs ha hl).2 hn r) (fun ha hl hn r => .tuple (isTuple_stay hs ha hl).1 (isTuple_stay hs ha hl).2 hn r) .nil .cons
theorem Fz.stay {O O' : AP} {h h' : Heap} (hs : Stay O h O' h') {v d} (x : Fz O h v d) : Fz O' h' v d := (fz_stay hs).1 x
theorem FzAll.stay {O O' : AP} {h h' : Heap} (hs : Stay O h O' h') {vs ds} (x : FzAll O h vs ds) : FzAll O' h' vs ds := (fz_stay hs).2 x

section
variable {O : AP} {h : Heap}
theorem FzAll.length {vs ds} (x : FzAll O h vs ds) : vs.length = ds.length := x.ind rfl fun _ _ ih => congrArg Nat.succ ih
theorem FzAll.append {vs ds ws es} (x : FzAll O h vs ds) (y : FzAll O h ws es) : FzAll O h (vs ++ ws) (ds ++ es) := x.ind (motive := fun vs ds => FzAll O h (vs ++ ws) (ds ++ es)) y fun a _ ih => .cons a ih
theorem FzAll.take {vs ds} (n : Nat) (x : FzAll O h vs ds) : FzAll O h (vs.take n) (ds.take n) :=
  x.ind (motive := fun vs ds => ∀ n : Nat, FzAll O h (vs.take n) (ds.take n)) (fun n => by cases n <;> exact .nil) (fun a _ ih n => by cases n; exact .nil; exact .cons a (ih _)) n
theorem FzAll.drop {vs ds} (n : Nat) (x : FzAll O h vs ds) : FzAll O h (vs.drop n) (ds.drop n) :=
  x.ind (motive := fun vs ds => ∀ n : Nat, FzAll O h (vs.drop n) (ds.drop n)) (fun n => by cases n <;> exact .nil) (fun a r ih n => by cases n; exact .cons a r; exact ih _) n
theorem FzAll.get {vs ds} {i : Nat} {d : PyData} (x : FzAll O h vs ds) : ds[i]? = some d → ∃ v, vs[i]? = some v ∧ Fz O h v d :=
  x.ind (motive := fun vs ds => ∀ i : Nat, ds[i]? = some d → ∃ v, vs[i]? = some v ∧ Fz O h v d) (fun i e => by rw [List.getElem?_nil] at e; cases e) (fun a _ ih i e => by
    cases i with
    | zero => cases e; exact ⟨_, rfl, a⟩
    | succ i => exact ih i e) i
theorem FzAll.get' {vs ds} {i : Nat} {v : Value} (x : FzAll O h vs ds) : vs[i]? = some v → ∃ d, ds[i]? = some d ∧ Fz O h v d :=
  x.ind (motive := fun vs ds => ∀ i : Nat, vs[i]? = some v → ∃ d, ds[i]? = some d ∧ Fz O h v d) (fun i e => by rw [List.getElem?_nil] at e; cases e) (fun a _ ih i e => by
    cases i with
    | zero => cases e; exact ⟨_, rfl, a⟩
    | succ i => exact ih i e) i
theorem FzAll.one {v d} (x : Fz O h v d) : FzAll O h [v] [d] := .cons x .nil
theorem FzAll.set {vs ds} {i : Nat} {v d} (x : FzAll O h vs ds) (y : Fz O h v d) : FzAll O h (vs.set i v) (ds.set i d) :=
  x.ind (motive := fun vs ds => ∀ i : Nat, FzAll O h (vs.set i v) (ds.set i d)) (fun _ => .nil) (fun a r ih i => by cases i; exact .cons y r; exact .cons a (ih _)) i
end

theorem fz_reads {O : AP} {h : Heap} : (∀ {v d}, Fz O h v d → (∃ as, Reads h v d as) ∧ d.canLay0 = true) ∧ (∀ {vs ds}, FzAll O h vs ds → (∃ as, ReadsAll h vs ds as) ∧ PyData.canLayAll0 ds = true) :=
  fz_rec (P := fun v d => (∃ as, Reads h v d as) ∧ d.canLay0 = true) (Q := fun vs ds => (∃ as, ReadsAll h vs ds as) ∧ PyData.canLayAll0 ds = true) ⟨⟨_, .none⟩, rfl⟩ (fun b => ⟨⟨_, .bool b⟩, rfl⟩) (fun i t => ⟨⟨_, .int i t⟩, rfl⟩) (fun t a _ => ⟨⟨_, .str _ t⟩, by simpa [PyData.canLay0] using a⟩)
    (fun _ ⟨o, e, c, n, dd⟩ _ ⟨⟨as, q⟩, k⟩ => ⟨⟨_, .list e c dd q⟩, by simpa [PyData.canLay0] using k⟩) (fun _ ⟨o, e, c, n, dd⟩ _ ⟨⟨as, q⟩, k⟩ => ⟨⟨_, .tuple e c dd q⟩, by simpa [PyData.canLay0] using k⟩)
    ⟨⟨_, .nil⟩, rfl⟩ (fun ⟨⟨_, q⟩, k⟩ ⟨⟨_, q'⟩, k'⟩ => ⟨⟨_, .cons q q'⟩, by simp [PyData.canLayAll0, k, k']⟩)
theorem Fz.reads {O : AP} {h : Heap} {v d} (x : Fz O h v d) : (∃ as, Reads h v d as) ∧ d.canLay0 = true := fz_reads.1 x
theorem FzAll.reads {O : AP} {h : Heap} {vs ds} (x : FzAll O h vs ds) : (∃ as, ReadsAll h vs ds as) ∧ PyData.canLayAll0 ds = true := fz_reads.2 x

section
variable (w : World)

noncomputable def strsOk (k : List Str) : Prop := ∀ s ∈ k, PyData.strOk s = true ∧ s.length ≤ lenMax

/-- a dict keyed by tuples of texts -/
inductive DictT (O : AP) (h : Heap) (a : Addr) (kvs : List (List Str × PyData)) : Prop
  | mk (h1 : a ≠ sysModules) (h2 : kvs.length ≤ lenMax) (xs : List (List Str × Addr × Value)) (h3 : h.DictOfH (tupleKind (strKind P w)) a xs) (h4 : xs.map (·.1) = kvs.map (·.1))
    (h5 : ∀ x ∈ xs, ¬ O x.2.1 ∧ strsOk x.1 ∧ x.1.length ≤ lenMax) (h6 : FzAll O h (xs.map (·.2.2)) (kvs.map (·.2))) : DictT O h a kvs

/-- a dict of int keys -/
inductive DictI (h : Heap) (a : Addr) (ks : List Int) : Prop
  | mk (h1 : a ≠ sysModules) (h2 : ks.length ≤ lenMax) (kvs : List (Int × Value)) (h3 : h.DictOf (intKind P w) a kvs) (h4 : kvs.map (·.1) = ks) : DictI h a ks

/-- a list that may be changed -/
inductive OVL (O : AP) (h : Heap) (a : Addr) (xs : List PyData) : Prop
  | mk (vs : Array Value) (h1 : h.PlainList a vs) (h2 : xs.length ≤ lenMax) (h3 : FzAll O h vs.toList xs) : OVL O h a xs

/-- an object that may be changed -/
noncomputable def OV (O : AP) (h : Heap) (a : Addr) : SV → Prop
  | .d (.list xs) => OVL O h a xs
  | .dt kvs => DictT w O h a kvs
  | .di ks => DictI w h a ks
  | _ => False

inductive FVT (O : AP) (h : Heap) (v : Value) (kvs : List (List Str × PyData)) : Prop
  | mk (a : Addr) (e : v = .ref a) (h1 : ¬ O a) (h2 : DictT w O h a kvs) : FVT O h v kvs
inductive FVI (O : AP) (h : Heap) (v : Value) (ks : List Int) : Prop
  | mk (a : Addr) (e : v = .ref a) (h1 : ¬ O a) (h2 : DictI w h a ks) : FVI O h v ks
inductive FVR (O : AP) (h : Heap) (v : Value) (n : Nat) : Prop
  | mk (h1 : n < 2 ^ 20) (a : Addr) (t u x : Tok) (e : v = .ref a) (h2 : ¬ O a) (h3 : IsRange h a 0 n 1 t u x) : FVR O h v n
/-- a value that is changed no more -/
noncomputable def FV (O : AP) (h : Heap) (v : Value) : SV → Prop
  | .d x => Fz O h v x
  | .dt kvs => FVT w O h v kvs
  | .di ks => FVI w O h v ks
  | .rng n => FVR O h v n

/-- a value's content, by whomever it is held -/
noncomputable def CV (O : AP) (h : Heap) (v : Value) (x : SV) : Prop := FV w O h v x ∨ ∃ a, v = .ref a ∧ OV w O h a x
end

section
variable {w : World} {O O' : AP} {h h' : Heap}

theorem Fz.notO {a : Addr} {d : PyData} (x : Fz O h (.ref a) d) : ¬ O a := by cases x <;> assumption
theorem FV.notO {a : Addr} {s : SV} (x : FV w O h (.ref a) s) : ¬ O a := by
  cases s with
  | d d => exact Fz.notO x
  | dt kvs => obtain ⟨b, e, n, _⟩ := x; cases e; exact n
  | di ks => obtain ⟨b, e, n, _⟩ := x; cases e; exact n
  | rng n => obtain ⟨_, b, _, _, _, e, q, _⟩ := x; cases e; exact q

theorem DictI.at {a : Addr} {ks : List Int} (x : DictI w h a ks) (e : h'.get? a = h.get? a) : DictI w h' a ks := by
  obtain ⟨h1, h2, kvs, ⟨o, es, ep, ho, r⟩, h3⟩ := x
  exact ⟨h1, h2, kvs, ⟨o, es, ep, e.trans ho, r⟩, h3⟩

theorem isTupleKey_stay (hs : Stay O h O' h') {k : List Str} {a : Addr} (ha : ¬ O a) (x : IsTupleKey (strKind P w) h k a) : ¬ O' a ∧ IsTupleKey (strKind P w) h' k a := by
  obtain ⟨o, items, n, ho, r⟩ := x
  exact ⟨(hs a o ha ho).1, o, items, n, (hs a o ha ho).2, r⟩

theorem DictT.at {a : Addr} {kvs} (hs : Stay O h O' h') (x : DictT w O h a kvs) (e : h'.get? a = h.get? a) : DictT w O' h' a kvs := by
  obtain ⟨h1, h2, xs, ⟨o, es, ep, ho, hx, hd, he, hk, hn⟩, h3, h4, h5⟩ := x
  exact ⟨h1, h2, xs, ⟨o, es, ep, e.trans ho, hx, hd, he, fun x hx => (isTupleKey_stay hs (h4 x hx).1 (hk x hx)).2, hn⟩, h3,
    fun x hx => ⟨(isTupleKey_stay hs (h4 x hx).1 (hk x hx)).1, (h4 x hx).2⟩, FzAll.stay hs h5⟩

theorem OV.at {a : Addr} {s : SV} (hs : Stay O h O' h') (x : OV w O h a s) (e : h'.get? a = h.get? a) : OV w O' h' a s := by
  cases s with
  | d d =>
    cases d with
    | list xs => obtain ⟨vs, ⟨n, q⟩, hn, r⟩ := x; exact ⟨vs, ⟨n, e.trans q⟩, hn, FzAll.stay hs r⟩
    | _ => exact x
  | dt kvs => exact DictT.at hs x e
  | di ks => exact DictI.at x e
  | rng n => exact x

theorem OV.there {a : Addr} {s : SV} (x : OV w O h a s) : ∃ o, h.get? a = some o := by
  cases s with
  | d d =>
    cases d with
    | list xs => obtain ⟨vs, ⟨n, q⟩, _⟩ := x; exact ⟨_, q⟩
    | _ => exact x.elim
  | dt kvs => obtain ⟨_, _, xs, ⟨o, es, ep, ho, _⟩, _⟩ := x; exact ⟨_, ho⟩
  | di ks => obtain ⟨_, _, xs, ⟨o, es, ep, ho, _⟩, _⟩ := x; exact ⟨_, ho⟩
  | rng n => exact x.elim

theorem FV.stay {v : Value} {s : SV} (hs : Stay O h O' h') (x : FV w O h v s) : FV w O' h' v s := by
  cases s with
  | d d => exact Fz.stay hs x
  | dt kvs =>
    obtain ⟨a, rfl, n, q⟩ := x
    obtain ⟨o, ho⟩ := OV.there (s := .dt kvs) q
    exact ⟨a, rfl, (hs a o n ho).1, DictT.at hs q ((hs a o n ho).2.trans ho.symm)⟩
  | di ks =>
    obtain ⟨a, rfl, n, q⟩ := x
    obtain ⟨o, ho⟩ := OV.there (O := O) (s := .di ks) q
    exact ⟨a, rfl, (hs a o n ho).1, DictI.at q ((hs a o n ho).2.trans ho.symm)⟩
  | rng n => obtain ⟨b, a, t, u, x, rfl, q, r⟩ := x; exact ⟨b, a, t, u, x, rfl, (hs _ _ q r).1, (hs _ _ q r).2⟩

/-- what was held is let be: it lies outside O now -/
theorem OV.freeze {a : Addr} {s : SV} (x : OV w O h a s) (ha : O a) (hsub : ∀ b, O' b → O b) (hn : ¬ O' a) : FV w O' h (.ref a) s := by
  have hs : Stay O h O' h := fun b o hb e => ⟨fun q => hb (hsub b q), e⟩
  have y := OV.at hs x rfl
  cases s with
  | d d =>
    cases d with
    | list xs => obtain ⟨vs, q, hn', r⟩ := y; exact .list hn q.isList hn' r
    | _ => exact y.elim
  | dt kvs => exact ⟨a, rfl, hn, y⟩
  | di ks => exact ⟨a, rfl, hn, y⟩
  | rng n => exact y.elim
end
end
section
open PySem PySem.W PyProof.Rows PySem.Calls
/-- an address that h knows nothing of -/
noncomputable def New (h : Heap) (a : Addr) : Prop := h.get? a = none
noncomputable def Live (h : Heap) (a : Addr) : Prop := ∃ o, h.get? a = some o
theorem New.not {h a} (x : New h a) : ¬ Live h a := fun ⟨o, e⟩ => by unfold New at x; rw [x] at e; cases e
theorem New.no {h a o} (x : New h a) (e : h.get? a = some o) : False := x.not ⟨o, e⟩
theorem live_or (h a) : Live h a ∨ New h a := by
  unfold Live New
  cases h.get? a with
  | none => exact .inr rfl
  | some o => exact .inl ⟨o, rfl⟩
theorem New.size {h : Heap} {a : Addr} (x : h.objs.size ≤ a) : New h a := by
  rcases live_or h a with ⟨o, e⟩ | q
  · exact absurd (Heap.lt_size e) (Nat.not_lt.mpr x)
  · exact q

structure Kept (X S : AP) (h h' : Heap) : Prop where
  keep : ∀ b o, h.get? b = some o → ¬ X b → ∃ sl, h'.get? b = some { o with slots := sl } ∧ (¬ S b → sl = o.slots)

theorem Kept.exact {X S h h'} (k : Kept X S h h') {b o} (e : h.get? b = some o) (hx : ¬ X b) (hs : ¬ S b) : h'.get? b = some o := by
  obtain ⟨sl, e', q⟩ := k.keep b o e hx
  rw [q hs] at e'
  exact e'

/-- what an activation may rely on of its blocks: the function's own (env₀), the block at hand (env) -/
structure EnvOk (c : Ctx) (env₀ env : Env) : Prop where
  s0 : env₀.scope = c.fs
  k0 : env₀.scope.kind = .function
  g0 : env₀.globals = mainGlobals
  b0 : env₀.builtins = builtinsNs
  f0 : env₀.frame = some env₀.locals
  kind : env.scope.kind = .function
  g1 : env.globals = mainGlobals
  b1 : env.builtins = builtinsNs
  f1 : env.frame = some env₀.locals
  fn : c.cv = none → env = env₀ ∧ c.sc = c.fs
  loc : ∀ y, c.sc.names.lookup y = some .local → env.kindOf y = some .local
  free : ∀ y, c.cv.isSome = true → c.sc.names.lookup y = some .free → c.fs.names.lookup y = some .cell →
    (env.kindOf y = some .cell ∨ env.kindOf y = some .free) ∧ env.cells.lookup y = env₀.cells.lookup y
  gl : ∀ y, c.sc.names.lookup y = some .globalImplicit → env.kindOf y = some .globalImplicit
  ci : ∀ y z a, env₀.cells.lookup y = some a → env₀.cells.lookup z = some a → y = z
  cL : ∀ y a, env₀.cells.lookup y = some a → a ≠ env₀.locals

structure St where
  O : AP
  X : AP
  ρ : Str → Option Value

structure Cfg where
  w : World
  B : Heap
  fr : List Env
  c : Ctx
  env₀ : Env
  env : Env
  pv : Str → Option Value

noncomputable def SF (fr : List Env) : AP := fun a => a ∈ fr.filterMap (·.frame)

structure OwnAt (K : Cfg) (g : St) (h : Heap) (a : Addr) (sv : SV) : Prop where
  x : g.X a
  s : ¬ SF K.fr a
  l : a ≠ K.env₀.locals
  c : ∀ z b, K.env₀.cells.lookup z = some b → b ≠ a
  v : OV K.w g.O h a sv

inductive CellAt (env₀ : Env) (ρ : Str → Option Value) (h : Heap) (y : Str) : Prop
  | mk (a : Addr) (h1 : env₀.cells.lookup y = some a) (o : Obj) (h2 : h.get? a = some o) (h3 : o.data = .cell (ρ y)) : CellAt env₀ ρ h y
inductive NsAt (env₀ : Env) (ρ : Str → Option Value) (h : Heap) : Prop
  | mk (nm : Str → Option Value) (h1 : h.Ns env₀.locals nm) (h2 : ∀ y, env₀.kindOf y = some .local → nm y = ρ y) : NsAt env₀ ρ h
inductive OwnBy (K : Cfg) (g : St) (h : Heap) (v : Value) (sv : SV) : Prop
  | mk (a : Addr) (e : v = .ref a) (w : OwnAt K g h a sv) : OwnBy K g h v sv
inductive VarAt (K : Cfg) (g : St) (h : Heap) (y : Str) (e : Ent) : Prop
  | mk (v : Value) (h1 : g.ρ y = some v) (h2 : e.own = false → FV K.w g.O h v e.v) (h3 : e.own = true → OwnBy K g h v e.v) : VarAt K g h y e
inductive CompAt (K : Cfg) (g : St) (h : Heap) (x : Str) (sv : SV) : Prop
  | mk (h1 : g.O K.env.locals) (h2 : ¬ g.X K.env.locals) (h3 : ¬ SF K.fr K.env.locals) (nm : Str → Option Value) (v : Value) (h4 : h.Ns K.env.locals nm) (h5 : nm x = some v) (h6 : FV K.w g.O h v sv) : CompAt K g h x sv
structure Rel (K : Cfg) (g : St) (m : M) (h : Heap) : Prop where
  base : ∀ b o, K.B.get? b = some o → h.get? b = some o
  ob : ∀ a, g.O a → K.B.get? a = none
  olt : ∀ a, g.O a → Live h a
  xo : ∀ a, g.X a → g.O a
  so : ∀ a, SF K.fr a → g.O a
  sx : ∀ a, SF K.fr a → a = K.env₀.locals ∨ ¬ g.X a
  xL : g.X K.env₀.locals
  xC : ∀ y a, K.env₀.cells.lookup y = some a → g.X a
  cc : ∀ y, K.env₀.kindOf y = some .cell → CellAt K.env₀ g.ρ h y
  ns : NsAt K.env₀ g.ρ h
  vk : ∀ y e, m.lookup y = some e → K.env₀.kindOf y = some .local ∨ K.env₀.kindOf y = some .cell
  vv : ∀ y e, m.lookup y = some e → VarAt K g h y e
  inj : ∀ y z e f a, m.lookup y = some e → m.lookup z = some f → e.own = true → f.own = true → g.ρ y = some (.ref a) → g.ρ z = some (.ref a) → y = z
  comp : ∀ x sv, K.c.cv = some (x, sv) → CompAt K g h x sv
  ff : h.FunFrames K.B K.fr
  pp : ∀ y, K.c.ps.contains y = true → g.ρ y = K.pv y

structure Step (S : AP) (z : St × Heap) (g : St) (h : Heap) : Prop where
  zlt : ∀ a, z.1.O a → Live z.2 a
  zxo : ∀ a, z.1.X a → z.1.O a
  kept : Kept z.1.X S z.2 h
  onew : ∀ a, g.O a → z.1.O a ∨ New z.2 a
  xnew : ∀ a, g.X a → z.1.X a ∨ New z.2 a
  okeep : ∀ a, z.1.O a → ¬ z.1.X a → g.O a

theorem Kept.refl {X S h} : Kept X S h h := ⟨fun _ o e _ => ⟨o.slots, e, fun _ => rfl⟩⟩
theorem Kept.of_but {X S : AP} {h h' : Heap} (k : ∀ b o, ¬ X b → h.get? b = some o → h'.get? b = some o) : Kept X S h h' :=
  ⟨fun b o e hb => ⟨o.slots, k b o hb e, fun _ => rfl⟩⟩
theorem Rel.step {K g m h} (r : Rel K g m h) : Step (SF K.fr) (g, h) g h := ⟨r.olt, r.xo, .refl, fun _ a => .inl a, fun _ a => .inl a, fun _ a _ => a⟩

/-- may have been made since -/
noncomputable def Mk (z : St × Heap) (a : Addr) : Prop := z.1.X a ∨ New z.2 a

/-- what is new in the middle -/
theorem Step.mid {S z g h} (x : Step S z g h) {a : Addr} (n : New h a) : Mk z a := by
  rcases live_or z.2 a with ⟨o, e⟩ | q
  · by_cases hx : z.1.X a
    · exact .inl hx
    · obtain ⟨sl, e1, _⟩ := x.kept.keep a o e hx
      exact (n.no e1).elim
  · exact .inr q

/-- two steps; the second may also write what is new since the first's start -/
theorem Step.trans {S z g h g' h' Y} (x : Step S z g h) (y : Step S ({ g with X := Y }, h) g' h') (hY : ∀ a, Y a → g.X a ∨ New z.2 a) : Step S z g' h' := by
  have hy : ∀ a, Y a → z.1.X a ∨ New z.2 a := fun a p => (hY a p).elim (x.xnew a) .inr
  refine ⟨x.zlt, x.zxo, ⟨fun b o e hb => ?_⟩, fun a p => ?_, fun a p => ?_, fun a p q => ?_⟩
  · obtain ⟨sl, e1, q1⟩ := x.kept.keep b o e hb
    have hYb : ¬ Y b := fun p => (hy b p).elim hb fun r => r.no e
    obtain ⟨sl', e2, q2⟩ := y.kept.keep b _ e1 hYb
    exact ⟨sl', e2, fun hs => (q2 hs).trans (q1 hs)⟩
  · rcases y.onew a p with q | q
    · exact x.onew a q
    · exact (x.mid q).imp (x.zxo a) id
  · rcases y.xnew a p with q | q
    · exact hy a q
    · exact x.mid q
  · have r := x.zlt a p
    exact y.okeep a (x.okeep a p q) fun t => (hy a t).elim q fun u => u.not r

theorem Step.mkd {S z g h} (x : Step S z g h) {a : Addr} (n : Mk (g, h) a) : Mk z a := n.elim (x.xnew a) fun q => x.mid q

theorem Step.trans' {S z g h g' h'} (x : Step S z g h) (y : Step S (g, h) g' h') : Step S z g' h' := x.trans (Y := g.X) y fun _ a => .inl a

noncomputable def Same (s s' : Shared) : Prop := ∃ h tk, s' = { s with heap := h, toks := tk }
theorem Same.refl {s} : Same s s := ⟨s.heap, s.toks, rfl⟩
theorem Same.trans {s s' s''} (x : Same s s') (y : Same s' s'') : Same s s'' := by
  obtain ⟨h, t, rfl⟩ := x
  obtain ⟨h', t', rfl⟩ := y
  exact ⟨h', t', rfl⟩
theorem Same.mk {s : Shared} {h tk} : Same s { s with heap := h, toks := tk } := ⟨h, tk, rfl⟩

/-- an exception of the project's own class on its way; CF: the class -/
noncomputable def Thrown (CF : Addr) (S : AP) (z : St × Heap) (g : St) (e : Value) (h : Heap) : Prop :=
  ∃ a o vs tb, e = .ref a ∧ Mk z a ∧ g.O a ∧ ¬ g.X a ∧ ¬ S a ∧ h.get? a = some o ∧ o.cls = .ref CF ∧ o.data = .fields vs ∧ vs[1]? = some tb ∧
    (tb = .none ∨ ∃ T oT ts f, tb = .ref T ∧ Mk z T ∧ T ≠ a ∧ g.O T ∧ ¬ g.X T ∧ ¬ S T ∧ h.get? T = some oT ∧ oT.data = .fields ts ∧ ts[3]? = some f)

section
variable (CF : Addr) (K : Cfg) (A : Around)
noncomputable abbrev MK : Model := model P K.w

/-- what is known where a step has gone well -/
noncomputable abbrev SOk {α β : Type} (z : St × Heap) (s : Shared) (b : β) (m' : M) (Q : β → M → St → α → Shared → Prop) : α → Shared → Prop :=
  fun a s' => ∃ g, Same s s' ∧ Rel K g m' s'.heap ∧ Step (SF K.fr) z g s'.heap ∧ Q b m' g a s'
/-- what is known where a step has raised -/
noncomputable abbrev SErr (z : St × Heap) (s : Shared) (m' : M) : Value → Shared → Prop :=
  fun e s' => ∃ g, Same s s' ∧ Rel K g m' s'.heap ∧ Step (SF K.fr) z g s'.heap ∧ Thrown CF (SF K.fr) z g e s'.heap
noncomputable def Sim {α β : Type} (z : St × Heap) (t : Sem α) (o : Out β) (Q : β → M → St → α → Shared → Prop) (s : Shared) : Prop :=
  match o with
  | .stuck => True
  | .ok b m' => wpAny (MK K) A t (SOk K z s b m' Q) (fun _ _ => False) s
  | .exc m' => wpAny (MK K) A t (fun _ _ => False) (SErr CF K z s m') s
end

section
variable {CF : Addr} {K : Cfg} {A : Around} {z : St × Heap} {α α' β β' : Type} {s : Shared}

theorem Sim.stuck {t : Sem α} {Q : β → M → St → α → Shared → Prop} : Sim CF K A z t .stuck Q s := trivial

theorem Sim.with1 {γ : Type} {a : Option γ} {d : Out β} {f : γ → Out β} {t : Sem α} {Q : β → M → St → α → Shared → Prop} (h : ∀ x, a = some x → Sim CF K A z t (f x) Q s) (hd : Sim CF K A z t d Q s) : Sim CF K A z t (with1 a d f) Q s := by
  cases a with
  | none => exact hd
  | some x => exact h x rfl
theorem Sim.with2 {γ δ : Type} {a : Option γ} {b : Option δ} {d : Out β} {f : γ → δ → Out β} {t : Sem α} {Q : β → M → St → α → Shared → Prop} (h : ∀ x y, a = some x → b = some y → Sim CF K A z t (f x y) Q s) (hd : Sim CF K A z t d Q s) : Sim CF K A z t (with2 a b d f) Q s :=
  Sim.with1 (fun x hx => Sim.with1 (fun y hy => h x y hx hy) hd) hd
theorem Sim.ifs {c : Prop} [Decidable c] {o : Out β} {t : Sem α} {Q : β → M → St → α → Shared → Prop} (h : c → Sim CF K A z t o Q s) : Sim CF K A z t (if c then o else .stuck) Q s := by
  by_cases hc : c
  · rw [if_pos hc]; exact h hc
  · rw [if_neg hc]; trivial

theorem Sim.bind {t : Sem α} {k : α → Sem α'} {o : Out β} {f : β → M → Out β'} {Q : β → M → St → α → Shared → Prop} {Q' : β' → M → St → α' → Shared → Prop}
    (h : Sim CF K A z t o Q s)
    (hk : ∀ b m' g a s', o = .ok b m' → Same s s' → Rel K g m' s'.heap → Step (SF K.fr) z g s'.heap → Q b m' g a s' → Sim CF K A z (k a) (f b m') Q' s') :
    Sim CF K A z (t >>= k) (o.bind f) Q' s := by
  cases o with
  | stuck => trivial
  | exc m' => exact wpAny_bind (wpAny_mono h (fun _ _ x => x.elim) fun _ _ x => x)
  | ok b m' =>
    show Sim CF K A z (t >>= k) (f b m') Q' s
    have hk' := fun g a s' => hk b m' g a s' rfl
    revert hk'
    cases f b m' with
    | stuck => intro _; trivial
    | exc m'' => exact fun hk' => wpAny_bind (wpAny_mono h (fun a s' ⟨g, e1, e2, e3, e4⟩ => wpAny_mono (hk' g a s' e1 e2 e3 e4) (fun _ _ x => x) fun _ _ ⟨g', x1, x⟩ => ⟨g', e1.trans x1, x⟩) fun _ _ x => x.elim)
    | ok b'' m'' => exact fun hk' => wpAny_bind (wpAny_mono h (fun a s' ⟨g, e1, e2, e3, e4⟩ => wpAny_mono (hk' g a s' e1 e2 e3 e4) (fun _ _ ⟨g', x1, x⟩ => ⟨g', e1.trans x1, x⟩) fun _ _ x => x.elim) fun _ _ x => x.elim)

theorem Sim.conv {t t' : Sem α} {o : Out β} {Q : β → M → St → α → Shared → Prop} (h : ∀ Q E, wpAny (MK K) A t Q E s → wpAny (MK K) A t' Q E s) (x : Sim CF K A z t o Q s) : Sim CF K A z t' o Q s := by
  cases o with
  | stuck => trivial
  | exc m' => exact h _ _ x
  | ok b m' => exact h _ _ x

theorem Sim.mono {t : Sem α} {o : Out β} {Q Q' : β → M → St → α → Shared → Prop} (x : Sim CF K A z t o Q s)
    (h : ∀ b m' g a s', Same s s' → Rel K g m' s'.heap → Step (SF K.fr) z g s'.heap → Q b m' g a s' → Q' b m' g a s') : Sim CF K A z t o Q' s := by
  cases o with
  | stuck => trivial
  | exc m' => exact x
  | ok b m' => exact wpAny_mono x (fun a s' ⟨g, e1, e2, e3, e4⟩ => ⟨g, e1, e2, e3, h _ _ _ _ _ e1 e2 e3 e4⟩) fun _ _ x => x

/-- a step of the machine that does not raise -/
theorem Sim.ok {t : Sem α} {b : β} {m' : M} {Q : β → M → St → α → Shared → Prop}
    (h : ∀ E, wpAny (MK K) A t (fun a s' => ∃ g, Same s s' ∧ Rel K g m' s'.heap ∧ Step (SF K.fr) z g s'.heap ∧ Q b m' g a s') E s) : Sim CF K A z t (.ok b m') Q s := h _

theorem Sim.pure {a : α} {b : β} {m' : M} {g : St} {Q : β → M → St → α → Shared → Prop} (r : Rel K g m' s.heap) (st : Step (SF K.fr) z g s.heap) (q : Q b m' g a s) :
    Sim CF K A z (pure a) (.ok b m') Q s := Sim.ok fun _ => wpAny_pure ⟨g, .refl, r, st, q⟩

/-- a step of the machine ahead: it does not raise and turns nothing but tokens and new objects -/
theorem Sim.ahead {t : Sem α} {k : α → Sem α'} {o : Out β} {Q : β → M → St → α' → Shared → Prop} {I : α → Shared → Prop}
    (h : ∀ E, wpAny (MK K) A t (fun a s' => Same s s' ∧ I a s') E s)
    (hk : ∀ a s', Same s s' → I a s' → Sim CF K A z (k a) o Q s') : Sim CF K A z (t >>= k) o Q s := by
  cases o with
  | stuck => trivial
  | exc m' => exact wpAny_bind (wpAny_mono (h _) (fun a s' ⟨e1, e2⟩ => wpAny_mono (hk a s' e1 e2) (fun _ _ x => x) fun _ _ ⟨g', x1, x⟩ => ⟨g', e1.trans x1, x⟩) fun _ _ x => x)
  | ok b m' => exact wpAny_bind (wpAny_mono (h _) (fun a s' ⟨e1, e2⟩ => wpAny_mono (hk a s' e1 e2) (fun _ _ ⟨g', x1, x⟩ => ⟨g', e1.trans x1, x⟩) fun _ _ x => x) fun _ _ x => x)

theorem Sim.standAt {p : Pos} {k : Unit → Sem α} {o : Out β} {Q : β → M → St → α → Shared → Prop} (h : Sim CF K A z (k ()) o Q s) : Sim CF K A z (standAt p >>= k) o Q s :=
  h.conv fun _ _ x => wpAny_bind (wpAny_standAt x)
theorem Sim.holding {vs : List Value} {t : Sem α} {o : Out β} {Q : β → M → St → α → Shared → Prop} (h : Sim CF K A z t o Q s) : Sim CF K A z (holding vs t) o Q s :=
  h.conv fun _ _ x => wpAny_holding x
end
end
section
open PySem PySem.W PyProof.Rows PySem.Calls
theorem lookup_upd (m : M) (x : Str) (e : Ent) (y : Str) : (upd m x e).lookup y = if y = x then some e else m.lookup y := by
  induction m with
  | nil =>
    by_cases h : y = x
    · simp [upd, h]
    · have : (y == x) = false := by simpa using h
      simp [upd, List.lookup_cons, h, this]
  | cons p r ih =>
    obtain ⟨k, f⟩ := p
    by_cases hx : x = k
    · subst hx
      by_cases h : y = x
      · subst h; simp [upd]
      · have : (y == x) = false := by simpa using h
        simp [upd, List.lookup_cons, h, this]
    · have hxk : (x == k) = false := by simpa using hx
      simp only [upd, hxk, Bool.false_eq_true, if_false, List.lookup_cons]
      by_cases h : y = k
      · subst h
        have : ¬ y = x := fun q => hx q.symm
        simp [this]
      · have : (y == k) = false := by simpa using h
        simp only [this, ih]

theorem ff_keep {B h h' : Heap} : ∀ {l : List Env}, h.FunFrames B l → (∀ b o, SF l b → h.get? b = some o → ∃ o', h'.get? b = some o' ∧ o'.data = o.data) → h'.FunFrames B l
  | [], _, _ => trivial
  | e :: r, ⟨hk, ⟨L, o, hf, hn, ho, hd⟩, hr⟩, k => by
    obtain ⟨o', h1, h2⟩ := k L o (by simp [SF, hf]) ho
    exact ⟨hk, ⟨L, o', hf, hn, h1, by rw [h2]; exact hd⟩, ff_keep hr fun b o hb e => k b o (by
      simp only [SF, List.filterMap_cons, hf] at hb ⊢
      exact List.mem_cons_of_mem _ hb) e⟩

section
variable {K : Cfg} {g : St} {m : M} {h h' : Heap}

theorem Rel.sfo (r : Rel K g m h) {a} (ha : ¬ g.O a) : ¬ SF K.fr a := fun q => ha (r.so a q)
theorem Rel.xno (r : Rel K g m h) {a} (ha : ¬ g.O a) : ¬ g.X a := fun q => ha (r.xo a q)

theorem Ns_at {h h' : Heap} {a : Addr} {nm} (n : h.Ns a nm) (e : ∀ o, h.get? a = some o → ∃ o', h'.get? a = some o' ∧ o'.data = o.data) : h'.Ns a nm := by
  obtain ⟨o, es, ep, ho, hd, r⟩ := n
  obtain ⟨o', h1, h2⟩ := e o ho
  exact ⟨o', es, ep, h1, h2.trans hd, r⟩

/-- new objects, and changes of J alone: of what lies in O, outside X, and is no block's -/
theorem Rel.but (r : Rel K g m h) (J : AP) (O' : AP) (jl : ∀ b, J b → O' b → Live h' b) (hk : ∀ b o, ¬ J b → h.get? b = some o → h'.get? b = some o)
    (jo : ∀ b, J b → g.O b) (jx : ∀ b, J b → ¬ g.X b) (js : ∀ b, J b → ¬ SF K.fr b) (jc : K.c.cv.isSome = true → ¬ J K.env.locals)
    (o1 : ∀ a, g.O a → ¬ J a → O' a) (o2 : ∀ a, O' a → g.O a ∨ (New h a ∧ Live h' a)) : Rel K { g with O := O' } m h' := by
  have stay : Stay g.O h O' h' := fun a o ha e => ⟨fun q => (o2 a q).elim ha fun t => t.1.no e, hk a o (fun q => ha (jo a q)) e⟩
  have keepX : ∀ a, g.X a → ∀ o, h.get? a = some o → h'.get? a = some o := fun a hx o e => hk a o (fun q => jx a q hx) e
  refine ⟨fun b o e => hk b o (fun q => by rw [r.ob b (jo b q)] at e; cases e) (r.base b o e), fun a q => ?_, fun a q => ?_, fun a q => o1 a (r.xo a q) fun t => jx a t q, fun a q => o1 a (r.so a q) fun t => js a t q, r.sx, r.xL, r.xC, fun y hy => ?_, ?_, r.vk, fun y e he => ?_, r.inj, fun x sv hx => ?_, ?_, r.pp⟩
  · rcases o2 a q with t | t
    · exact r.ob a t
    · cases hb : K.B.get? a with
      | none => rfl
      | some o => exact (t.1.no (r.base a o hb)).elim
  · rcases o2 a q with t | t
    · by_cases q' : J a
      · exact jl a q' q
      · obtain ⟨o, e⟩ := r.olt a t
        exact ⟨o, hk a o q' e⟩
    · exact t.2
  · obtain ⟨a, h1, o, h2, h3⟩ := r.cc y hy
    exact ⟨a, h1, o, keepX a (r.xC y a h1) o h2, h3⟩
  · obtain ⟨nm, h1, h2⟩ := r.ns
    exact ⟨nm, Ns_at h1 fun o e => ⟨o, keepX _ r.xL o e, rfl⟩, h2⟩
  · obtain ⟨v, h1, h2, h3⟩ := r.vv y e he
    refine ⟨v, h1, fun q => (h2 q).stay stay, fun q => ?_⟩
    obtain ⟨a, h4, h5⟩ := h3 q
    obtain ⟨o, ho⟩ := h5.v.there
    exact ⟨a, h4, h5.x, h5.s, h5.l, h5.c, h5.v.at stay ((keepX a h5.x o ho).trans ho.symm)⟩
  · obtain ⟨h1, h2, h3, nm, v, h4, h5, h6⟩ := r.comp x sv hx
    exact ⟨o1 _ h1 (jc (by rw [hx]; rfl)), h2, h3, nm, v, Ns_at h4 fun o e => ⟨o, hk _ o (jc (by rw [hx]; rfl)) e, rfl⟩, h5, h6.stay stay⟩
  · exact ff_keep r.ff fun b o hb e => ⟨o, hk b o (fun q => js b q hb) e, rfl⟩

theorem Step.but {S z} (st : Step S z g h) (J O' : AP) (hk : ∀ b o, ¬ J b → h.get? b = some o → h'.get? b = some o)
    (jz : ∀ b, J b → z.1.X b ∨ New z.2 b) (o1 : ∀ a, g.O a → ¬ J a → O' a) (o2 : ∀ a, O' a → g.O a ∨ New h a) : Step S z { g with O := O' } h' := by
  refine ⟨st.zlt, st.zxo, ⟨fun b o e hb => ?_⟩, fun a q => ?_, st.xnew, fun a p q => o1 a (st.okeep a p q) fun t => (jz a t).elim q fun u => u.not (st.zlt a p)⟩
  · obtain ⟨sl, e1, q1⟩ := st.kept.keep b o e hb
    exact ⟨sl, hk b _ (fun q => (jz b q).elim hb fun t => t.no e) e1, q1⟩
  · rcases o2 a q with t | t
    · exact st.onew a t
    · exact (st.mid t).imp (st.zxo a) id

/-- new objects alone -/
theorem Rel.grow (r : Rel K g m h) (O' : AP) (hk : ∀ b o, h.get? b = some o → h'.get? b = some o)
    (o1 : ∀ a, g.O a → O' a) (o2 : ∀ a, O' a → g.O a ∨ (New h a ∧ Live h' a)) : Rel K { g with O := O' } m h' :=
  r.but (fun _ => False) O' (fun _ q => q.elim) (fun b o _ e => hk b o e) (fun _ q => q.elim) (fun _ q => q.elim) (fun _ q => q.elim) (fun _ q => q) (fun a q _ => o1 a q) o2
theorem Step.grow {S z} (st : Step S z g h) (O' : AP) (hk : ∀ b o, h.get? b = some o → h'.get? b = some o)
    (o1 : ∀ a, g.O a → O' a) (o2 : ∀ a, O' a → g.O a ∨ New h a) : Step S z { g with O := O' } h' :=
  st.but (fun _ => False) O' (fun b o _ e => hk b o e) (fun _ q => q.elim) (fun a q _ => o1 a q) o2

theorem Rel.keeps (r : Rel K g m h) (hk : ∀ b o, h.get? b = some o → h'.get? b = some o) : Rel K g m h' :=
  r.grow g.O hk (fun _ q => q) (fun _ q => .inl q)
theorem Step.keeps {S z} (st : Step S z g h) (hk : ∀ b o, h.get? b = some o → h'.get? b = some o) : Step S z g h' :=
  st.grow g.O hk (fun _ q => q) (fun _ q => .inl q)
theorem Rel.push (r : Rel K g m h) (o : Obj) : Rel K g m (h.push o) := r.keeps fun b o' e => Heap.get?_push_of_some o e
theorem Step.push {S z} (st : Step S z g h) (o : Obj) : Step S z g (h.push o) := st.keeps fun b o' e => Heap.get?_push_of_some o e

theorem stay_sub {O O' : AP} {h : Heap} (hsub : ∀ b, O' b → O b) : Stay O h O' h := fun b _ hb e => ⟨fun q => hb (hsub b q), e⟩

/-- a variable's object is let be -/
theorem Rel.freeze (r : Rel K g m h) {y : Str} {e : Ent} (hy : m.lookup y = some e) (ho : e.own = true) :
    ∃ a, g.ρ y = some (.ref a) ∧ g.X a ∧ FV K.w (fun b => g.O b ∧ b ≠ a) h (.ref a) e.v ∧ Rel K { g with O := fun b => g.O b ∧ b ≠ a, X := fun b => g.X b ∧ b ≠ a } (upd m y ⟨false, e.v⟩) h := by
  obtain ⟨v, h1, _, h3⟩ := r.vv y e hy
  obtain ⟨a, rfl, w⟩ := h3 ho
  have sub : ∀ b, (g.O b ∧ b ≠ a) → g.O b := fun _ q => q.1
  have fz := w.v.freeze (O' := fun b => g.O b ∧ b ≠ a) (r.xo a w.x) sub (fun q => q.2 rfl)
  have stay : Stay g.O h (fun b => g.O b ∧ b ≠ a) h := stay_sub sub
  refine ⟨a, h1, w.x, fz, r.base, fun b q => r.ob b q.1, fun b q => r.olt b q.1, fun b q => ⟨r.xo b q.1, q.2⟩, fun b q => ⟨r.so b q, fun e => w.s (e ▸ q)⟩, fun b q => (r.sx b q).imp id fun t u => t u.1,
    ⟨r.xL, fun q => w.l q.symm⟩, fun z b q => ⟨r.xC z b q, w.c z b q⟩, r.cc, r.ns, fun z f hz => ?_, fun z f hz => ?_, fun z u f k b hz hu fo ko => ?_, fun x sv hx => ?_, r.ff, r.pp⟩
  · rw [lookup_upd] at hz
    by_cases q : z = y
    · subst q; exact r.vk z e hy
    · rw [if_neg q] at hz; exact r.vk z f hz
  · rw [lookup_upd] at hz
    by_cases q : z = y
    · subst q; rw [if_pos rfl] at hz; cases hz
      exact ⟨_, h1, fun _ => fz, fun t => by cases t⟩
    · rw [if_neg q] at hz
      obtain ⟨v, k1, k2, k3⟩ := r.vv z f hz
      refine ⟨v, k1, fun t => (k2 t).stay stay, fun t => ?_⟩
      obtain ⟨b, k4, k5⟩ := k3 t
      refine ⟨b, k4, ⟨k5.x, fun e1 => ?_⟩, k5.s, k5.l, k5.c, k5.v.at stay rfl⟩
      subst e1 k4
      exact q (r.inj z y f e b hz hy t ho k1 h1)
  · rw [lookup_upd] at hz hu
    by_cases q : z = y
    · subst q; rw [if_pos rfl] at hz; cases hz; cases fo
    · by_cases q' : u = y
      · subst q'; rw [if_pos rfl] at hu; cases hu; cases ko
      · rw [if_neg q] at hz; rw [if_neg q'] at hu
        exact r.inj z u f k b hz hu fo ko
  · obtain ⟨k1, k2, k3, nm, v, k4, k5, k6⟩ := r.comp x sv hx
    exact ⟨⟨k1, fun e1 => k2 (e1 ▸ w.x)⟩, fun t => k2 t.1, k3, nm, v, k4, k5, k6.stay stay⟩

theorem Step.less {S z} (st : Step S z g h) {a : Addr} (ha : g.X a) : Step S z { g with O := fun b => g.O b ∧ b ≠ a, X := fun b => g.X b ∧ b ≠ a } h :=
  ⟨st.zlt, st.zxo, st.kept, fun b q => st.onew b q.1, fun b q => st.xnew b q.1, fun b p q => ⟨st.okeep b p q, fun e => by
    subst e
    rcases st.xnew b ha with t | t
    · exact q t
    · exact t.not (st.zlt b p)⟩⟩

/-- a variable's object is changed -/
theorem Rel.mut (r : Rel K g m h) {y : Str} {e : Ent} {a : Addr} {sv : SV} (hy : m.lookup y = some e) (ho : e.own = true) (ha : g.ρ y = some (.ref a))
    (hs : Heap.SameBut a h h') (hv : OV K.w g.O h' a sv) : Rel K g (upd m y ⟨true, sv⟩) h' := by
  obtain ⟨v, h1, _, h3⟩ := r.vv y e hy
  obtain ⟨a', rfl, w⟩ := h3 ho
  rw [ha] at h1; cases h1
  have keep : ∀ b, b ≠ a → h'.get? b = h.get? b := hs.2
  have stay : Stay g.O h g.O h' := fun b o hb e1 => ⟨hb, (keep b fun q => hb (q ▸ r.xo a w.x)).trans e1⟩
  refine ⟨fun b o e1 => (keep b fun q => by subst q; rw [r.ob b (r.xo b w.x)] at e1; cases e1).trans (r.base b o e1), r.ob, fun b q => ?_, r.xo, r.so, r.sx, r.xL, r.xC, fun z hz => ?_, ?_, fun z f hz => ?_, fun z f hz => ?_, fun z u f k b hz hu fo ko => ?_, fun x sv' hx => ?_, ?_, r.pp⟩
  · by_cases hb : b = a
    · subst hb; exact hv.there
    · obtain ⟨o, e1⟩ := r.olt b q
      exact ⟨o, (keep b hb).trans e1⟩
  · obtain ⟨c, k1, o, k2, k3⟩ := r.cc z hz
    exact ⟨c, k1, o, (keep c (w.c z c k1)).trans k2, k3⟩
  · obtain ⟨nm, k1, k2⟩ := r.ns
    exact ⟨nm, Ns_at k1 fun o e1 => ⟨o, (keep _ (Ne.symm w.l)).trans e1, rfl⟩, k2⟩
  · rw [lookup_upd] at hz
    by_cases q : z = y
    · subst q; exact r.vk z e hy
    · rw [if_neg q] at hz; exact r.vk z f hz
  · rw [lookup_upd] at hz
    by_cases q : z = y
    · subst q; rw [if_pos rfl] at hz; cases hz
      exact ⟨.ref a, ha, (fun t => by cases t), fun _ => ⟨a, rfl, w.x, w.s, w.l, w.c, hv⟩⟩
    · rw [if_neg q] at hz
      obtain ⟨v, k1, k2, k3⟩ := r.vv z f hz
      refine ⟨v, k1, fun t => (k2 t).stay stay, fun t => ?_⟩
      obtain ⟨b, k4, k5⟩ := k3 t
      subst k4
      have : b ≠ a := fun e1 => q (r.inj z y f e b hz hy t ho k1 (e1 ▸ ha))
      exact ⟨b, rfl, k5.x, k5.s, k5.l, k5.c, k5.v.at stay (keep b this)⟩
  · rw [lookup_upd] at hz hu
    by_cases q : z = y
    · by_cases q' : u = y
      · exact fun _ _ => q.trans q'.symm
      · rw [if_neg q'] at hu
        subst q
        exact fun e1 e2 => r.inj z u e k b hy hu ho ko e1 e2
    · rw [if_neg q] at hz
      by_cases q' : u = y
      · subst q'
        exact fun e1 e2 => r.inj z u f e b hz hy fo ho e1 e2
      · rw [if_neg q'] at hu
        exact r.inj z u f k b hz hu fo ko
  · obtain ⟨k1, k2, k3, nm, v, k4, k5, k6⟩ := r.comp x sv' hx
    exact ⟨k1, k2, k3, nm, v, Ns_at k4 fun o e1 => ⟨o, (keep _ fun e2 => k2 (by rw [e2]; exact w.x)).trans e1, rfl⟩, k5, k6.stay stay⟩
  · exact ff_keep r.ff fun b o hb e1 => ⟨o, (keep b fun e2 => w.s (e2 ▸ hb)).trans e1, rfl⟩

theorem Step.mut {S z} (st : Step S z g h) {a : Addr} (ha : g.X a) (hs : Heap.SameBut a h h') : Step S z g h' :=
  st.but (fun b => b = a) g.O (fun b o hb e => (hs.2 b hb).trans e) (fun b q => q ▸ st.xnew a ha) (fun _ q _ => q) (fun _ q => .inl q)
end
end
section
open PySem PySem.W PyProof.Rows PySem.Calls
theorem ff_keep2 {B h h' : Heap} : ∀ {l : List Env}, h.FunFrames B l → (∀ b o, SF l b → h.get? b = some o → (∀ vs, o.data ≠ .fields vs) → ∃ o', h'.get? b = some o' ∧ ∀ vs, o'.data ≠ .fields vs) → h'.FunFrames B l
  | [], _, _ => trivial
  | e :: r, ⟨hk, ⟨L, o, hf, hn, ho, hd⟩, hr⟩, k => by
    obtain ⟨o', h1, h2⟩ := k L o (by simp [SF, hf]) ho hd
    exact ⟨hk, ⟨L, o', hf, hn, h1, h2⟩, ff_keep2 hr fun b o hb e => k b o (by
      simp only [SF, List.filterMap_cons, hf] at hb ⊢
      exact List.mem_cons_of_mem _ hb) e⟩

/-- where a name of the function stands, and that v is laid there -/
noncomputable def Laid (K : Cfg) (x : Str) (v : Value) (h h' : Heap) : Prop :=
  (K.env₀.kindOf x = some .local ∧ Heap.SameBut K.env₀.locals h h' ∧ ∀ nm, h.Ns K.env₀.locals nm → h'.Ns K.env₀.locals (fun y => if y = x then some v else nm y)) ∨
  (K.env₀.kindOf x = some .cell ∧ ∃ c o, K.env₀.cells.lookup x = some c ∧ Heap.SameBut c h h' ∧ h'.get? c = some o ∧ o.data = .cell (some v))

/-- a value on its way to a name -/
noncomputable def Held (K : Cfg) (g : St) (v : Value) (e : Ent) (h : Heap) (X' : AP) : Prop :=
  (e.own = false ∧ X' = g.X ∧ FV K.w g.O h v e.v) ∨
  (e.own = true ∧ ∃ a, v = .ref a ∧ g.O a ∧ ¬ g.X a ∧ ¬ SF K.fr a ∧ OV K.w g.O h a e.v ∧ X' = fun b => g.X b ∨ b = a)

section
variable {K : Cfg} {g : St} {m : M} {h h' : Heap}

noncomputable def putρ (ρ : Str → Option Value) (x : Str) (v : Value) : Str → Option Value := fun y => if y = x then some v else ρ y
/-- the one place that is written -/
inductive StoreAt (K : Cfg) (g : St) (x : Str) (v : Value) (h h' : Heap) : Prop
  | mk (p : Addr) (pl : Live h' p) (pX : g.X p) (pS : ∀ a sv, OwnAt K g h a sv → a ≠ p) (hs : Heap.SameBut p h h') (hk : K.env₀.kindOf x = some .local ∨ K.env₀.kindOf x = some .cell)
    (cells : ∀ y, K.env₀.kindOf y = some .cell → CellAt K.env₀ (putρ g.ρ x v) h' y) (ns : NsAt K.env₀ (putρ g.ρ x v) h') : StoreAt K g x v h h'
theorem laid_at (H : EnvOk K.c K.env₀ K.env) (r : Rel K g m h) {x : Str} {v : Value} (hl : Laid K x v h h') : StoreAt K g x v h h' := by
  rcases hl with ⟨hkind, hs, hn⟩ | ⟨hkind, c, o, hc, hs, ho, hd⟩
  · refine ⟨K.env₀.locals, (let ⟨nm, h1, _⟩ := r.ns; let ⟨o, _, _, ho, _⟩ := hn nm h1; ⟨o, ho⟩), r.xL, fun a sv w => w.l, hs, .inl hkind, fun y hy => ?_, ?_⟩
    · obtain ⟨a, h1, o, h2, h3⟩ := r.cc y hy
      refine ⟨a, h1, o, (hs.2 a (H.cL y a h1)).trans h2, ?_⟩
      have : y ≠ x := fun q => by subst q; rw [hkind] at hy; cases hy
      rw [putρ, if_neg this]; exact h3
    · obtain ⟨nm, h1, h2⟩ := r.ns
      exact ⟨_, hn nm h1, fun y hy => by rw [putρ]; by_cases q : y = x <;> simp [q, h2 y hy]⟩
  · refine ⟨c, ⟨o, ho⟩, r.xC x c hc, fun a sv w q => w.c x c hc q.symm, hs, .inr hkind, fun y hy => ?_, ?_⟩
    · by_cases q : y = x
      · subst q; exact ⟨c, hc, o, ho, by rw [putρ, if_pos rfl]; exact hd⟩
      · obtain ⟨a, h1, o', h2, h3⟩ := r.cc y hy
        refine ⟨a, h1, o', (hs.2 a fun t => q (H.ci y x c (t ▸ h1) hc)).trans h2, ?_⟩
        rw [putρ, if_neg q]; exact h3
    · obtain ⟨nm, h1, h2⟩ := r.ns
      refine ⟨nm, h1.sameBut hs (Ne.symm (H.cL x c hc)), fun y hy => ?_⟩
      have : y ≠ x := fun q => by subst q; rw [hkind] at hy; cases hy
      rw [putρ, if_neg this]; exact h2 y hy

theorem Rel.store (H : EnvOk K.c K.env₀ K.env) (r : Rel K g m h) {x : Str} {v : Value} {e : Ent} {X' : AP} (hps : K.c.ps.contains x = false) (hcv : K.c.cv = none) (hl : Laid K x v h h') (hh : Held K g v e h X') :
    Rel K { g with ρ := fun y => if y = x then some v else g.ρ y, X := X' } (upd m x e) h' := by
  obtain ⟨p, hpl, hpX, hpS, hs, hk, hcells, hns⟩ := laid_at H r hl
  have hpO := r.xo p hpX
  have stay : Stay g.O h g.O h' := fun b o hb e1 => ⟨hb, (hs.2 b fun q => hb (q ▸ hpO)).trans e1⟩
  have hX1 : ∀ b, g.X b → X' b := fun b q => by
    rcases hh with ⟨_, rfl, _⟩ | ⟨_, a, _, _, _, _, _, rfl⟩
    · exact q
    · exact .inl q
  have hown : ∀ a sv, OwnAt K g h a sv → OwnAt K { g with ρ := fun y => if y = x then some v else g.ρ y, X := X' } h' a sv := fun a sv w =>
    ⟨hX1 a w.x, w.s, w.l, w.c, w.v.at stay (hs.2 a (hpS a sv w))⟩
  -- the new entry
  have hnew : (e.own = false → FV K.w g.O h' v e.v) ∧ (e.own = true → OwnBy K { g with ρ := fun y => if y = x then some v else g.ρ y, X := X' } h' v e.v) := by
    rcases hh with ⟨h1, rfl, h3⟩ | ⟨h1, a, rfl, h3, h4, h5, h6, rfl⟩
    · exact ⟨fun _ => h3.stay stay, (fun q => by rw [h1] at q; cases q)⟩
    · refine ⟨(fun q => by rw [h1] at q; cases q), fun _ => ⟨a, rfl, .inr rfl, h5, fun q => h4 (q ▸ r.xL), fun z b hz q => h4 (q ▸ r.xC z b hz), ?_⟩⟩
      exact h6.at stay (hs.2 a fun q => h4 (q ▸ hpX))
  refine ⟨fun b o e1 => (hs.2 b (fun q => by subst q; rw [r.ob b hpO] at e1; cases e1)).trans (r.base b o e1), r.ob, fun b q => ?_, fun b q => ?_, r.so, fun b q => ?_, hX1 _ r.xL, fun y a q => hX1 _ (r.xC y a q), hcells, hns, fun z f hz => ?_, fun z f hz => ?_, fun z u f k b hz hu fo ko => ?_, (fun x sv' hx => by rw [hcv] at hx; cases hx), ?_, fun y hy => by
    have : y ≠ x := fun q => by rw [q, hps] at hy; cases hy
    simp only [this, if_false]; exact r.pp y hy⟩
  · by_cases hb : b = p
    · subst hb; exact hpl
    · obtain ⟨o, e1⟩ := r.olt b q
      exact ⟨o, (hs.2 b hb).trans e1⟩
  · rcases hh with ⟨_, rfl, _⟩ | ⟨_, a, _, h3, _, _, _, rfl⟩
    · exact r.xo b q
    · rcases q with q | q
      · exact r.xo b q
      · subst q; exact h3
  · rcases r.sx b q with t | t
    · exact .inl t
    · refine .inr fun u => ?_
      rcases hh with ⟨_, rfl, _⟩ | ⟨_, a, _, h3, _, h5, _, rfl⟩
      · exact t u
      · rcases u with u | u
        · exact t u
        · subst u; exact h5 q
  · rw [lookup_upd] at hz
    by_cases q : z = x
    · subst q; exact hk
    · rw [if_neg q] at hz; exact r.vk z f hz
  · rw [lookup_upd] at hz
    by_cases q : z = x
    · subst q; rw [if_pos rfl] at hz; cases hz
      exact ⟨v, if_pos rfl, hnew.1, hnew.2⟩
    · rw [if_neg q] at hz
      obtain ⟨u, k1, k2, k3⟩ := r.vv z f hz
      refine ⟨u, by simp [q, k1], fun t => (k2 t).stay stay, fun t => ?_⟩
      obtain ⟨b, k4, k5⟩ := k3 t
      exact ⟨b, k4, hown b _ k5⟩
  · rw [lookup_upd] at hz hu
    -- an owned entry that stood before is never the new object
    have old : ∀ y d b, y ≠ x → m.lookup y = some d → d.own = true → g.ρ y = some (.ref b) → v = .ref b → e.own = true → False := fun y d b _ hy hd hb hv he => by
      rcases hh with ⟨h1, _⟩ | ⟨_, a, h2, _, h4, _⟩
      · rw [h1] at he; cases he
      · rw [h2] at hv; cases hv
        obtain ⟨u, k1, _, k3⟩ := r.vv y d hy
        obtain ⟨b', k4, k5⟩ := k3 hd
        rw [hb] at k1; cases k1; cases k4
        exact h4 k5.x
    by_cases q : z = x
    · by_cases q' : u = x
      · exact fun _ _ => q.trans q'.symm
      · rw [if_pos q] at hz; cases hz
        rw [if_neg q'] at hu
        intro e1 e2
        simp only [q, if_true] at e1
        simp only [q', if_false] at e2
        exact (old u k b q' hu ko e2 (Option.some.inj e1) fo).elim
    · rw [if_neg q] at hz
      by_cases q' : u = x
      · rw [if_pos q'] at hu; cases hu
        intro e1 e2
        simp only [q, if_false] at e1
        simp only [q', if_true] at e2
        exact (old z f b q hz fo e1 (Option.some.inj e2) ko).elim
      · rw [if_neg q'] at hu
        intro e1 e2
        simp only [q, if_false] at e1
        simp only [q', if_false] at e2
        exact r.inj z u f k b hz hu fo ko e1 e2
  · refine ff_keep2 r.ff fun b o hb e1 hd => ?_
    by_cases q : b = p
    · subst q
      -- the frame itself: it is a namespace still
      have hL : b = K.env₀.locals := (r.sx b hb).resolve_right fun t => t hpX
      subst hL
      obtain ⟨nm, ⟨o', es, ep, ho', hd', _⟩, _⟩ := hns
      exact ⟨o', ho', fun vs t => by rw [hd'] at t; cases t⟩
    · exact ⟨o, (hs.2 b q).trans e1, hd⟩

theorem Laid.place (H : EnvOk K.c K.env₀ K.env) (r : Rel K g m h) {x : Str} {v : Value} (hl : Laid K x v h h') : ∃ p, g.X p ∧ Heap.SameBut p h h' := by
  rcases hl with ⟨_, hs, _⟩ | ⟨_, c, o, hc, hs, _⟩
  · exact ⟨_, r.xL, hs⟩
  · exact ⟨c, r.xC x c hc, hs⟩

theorem Step.store {S z} (H : EnvOk K.c K.env₀ K.env) (r : Rel K g m h) (st : Step S z g h) {x : Str} {v : Value} {e : Ent} {X' : AP} (hl : Laid K x v h h') (hh : Held K g v e h X')
    (hz : e.own = true → ∀ a, v = .ref a → Mk z a) : Step S z { g with ρ := fun y => if y = x then some v else g.ρ y, X := X' } h' := by
  obtain ⟨p, hp, hs⟩ := hl.place H r
  have st' := st.mut hp hs
  refine ⟨st'.zlt, st'.zxo, st'.kept, st'.onew, fun b q => ?_, st'.okeep⟩
  rcases hh with ⟨_, rfl, _⟩ | ⟨h1, a, h2, _, _, _, _, rfl⟩
  · exact st'.xnew b q
  · rcases q with q | q
    · exact st'.xnew b q
    · subst q; exact hz h1 b h2
end

section
variable {CF : Addr} {K : Cfg} {A : Around} {z : St × Heap} {g : St} {m : M} {s : Shared}

/-- the store of a name, at the machine -/
theorem storeName_at (H : EnvOk K.c K.env₀ K.env) (r : Rel K g m s.heap) {x : Str} {v : Value} (hcv : K.c.cv = none) (hx : K.env₀.kindOf x = some .local ∨ K.env₀.kindOf x = some .cell)
    {E : Value → Shared → Prop} {Q : Unit → Shared → Prop} (h : ∀ h' tk, Laid K x v s.heap h' → Q () { s with heap := h', toks := tk }) :
    wpAny (MK K) A (storeName K.env x v) Q E s := by
  have he : K.env = K.env₀ := (H.fn hcv).1
  rw [he]
  rcases hx with hx | hx
  · obtain ⟨nm, hn, _⟩ := r.ns
    have hp : (K.env₀.scope.kind == .class || (K.env₀.scope.kind == .module && K.env₀.locals != K.env₀.globals)) = false := by rw [H.k0]; rfl
    refine wpAny_storeName_local hx hn (fun h' hn' hs => h h' _ (.inl ⟨hx, hs, fun nm' n' => ?_⟩)) hp
    obtain ⟨o, es, ep, ho, hd, hk, hf⟩ := hn
    obtain ⟨o2, es2, ep2, ho2, hd2, hk2, hf2⟩ := n'
    rw [ho] at ho2; cases ho2; rw [hd] at hd2; cases hd2
    have : nm = nm' := funext fun y => (hf y).symm.trans (hf2 y)
    exact this ▸ hn'
  · obtain ⟨c, hc, o, ho, hd⟩ := r.cc x hx
    unfold storeName
    have h1 : (if (K.env₀.kindOf x == some NameKind.globalImplicit && K.env₀.blockKind != ScopeKind.function) = true then none else K.env₀.kindOf x) = some .cell := by rw [hx]; rfl
    rw [h1]
    dsimp only
    have h2 : (K.env₀.scope.kind == .class && K.env₀.kindOf x == some .cell) = false := by rw [H.k0]; rfl
    rw [h2]
    simp only [Bool.false_eq_true, if_false, cellOf, hc]
    refine wpAny_bind (wpAny_pure ?_)
    unfold cellSet
    refine wpAny_bind (wpAny_load ho ?_)
    rw [hd]
    dsimp only
    refine wpAny_update ho (h _ _ (.inr ⟨hx, c, { o with data := .cell (some v) }, hc, Heap.SameBut.update .., Heap.get?_update_self _ ho rfl, rfl⟩))

theorem wpAny_assign_name {env : Env} {x : Str} {p : Pos} {v : Value} {E : Value → Shared → Prop} {Q : Unit → Shared → Prop} (h : wpAny (MK K) A (storeName env x v) Q E s) :
    wpAny (MK K) A (assign (.Name x p) env v) Q E s := by
  show wpAny _ A (do standAt p; bindName env x v) Q E s
  exact wpAny_bind (wpAny_standAt (wpAny_bindName h))
end
end
section
open PySem PySem.W PyProof.Rows PySem.Calls
theorem Step.stay {K : Cfg} {g g' : St} {m : M} {h h' : Heap} (r : Rel K g m h) (st : Step (SF K.fr) (g, h) g' h') : Stay g.O h g'.O h' := fun a o ha e =>
  ⟨fun q => (st.onew a q).elim ha fun t => t.no e, st.kept.exact e (r.xno ha) (r.sfo ha)⟩

theorem Rel.congr {K : Cfg} {g : St} {m m' : M} {h : Heap} (r : Rel K g m h) (e : ∀ y, m'.lookup y = m.lookup y) : Rel K g m' h :=
  ⟨r.base, r.ob, r.olt, r.xo, r.so, r.sx, r.xL, r.xC, r.cc, r.ns, fun y f hy => r.vk y f (e y ▸ hy), fun y f hy => r.vv y f (e y ▸ hy), fun y z f k a hy hz => r.inj y z f k a (e y ▸ hy) (e z ▸ hz), r.comp, r.ff, r.pp⟩

theorem Rel.lessO {K : Cfg} {g : St} {m : M} {h : Heap} (r : Rel K g m h) {a : Addr} (hx : ¬ g.X a) (hs : ¬ SF K.fr a) (hc : a ≠ K.env.locals) : Rel K { g with O := fun b => g.O b ∧ b ≠ a } m h := by
  have stay : Stay g.O h (fun b => g.O b ∧ b ≠ a) h := stay_sub fun _ q => q.1
  refine ⟨r.base, fun b q => r.ob b q.1, fun b q => r.olt b q.1, fun b q => ⟨r.xo b q, fun e => hx (e ▸ q)⟩, fun b q => ⟨r.so b q, fun e => hs (e ▸ q)⟩, r.sx, r.xL, r.xC, r.cc, r.ns, r.vk, fun y e he => ?_, r.inj, fun x sv h => ?_, r.ff, r.pp⟩
  · obtain ⟨v, k1, k2, k3⟩ := r.vv y e he
    refine ⟨v, k1, fun t => (k2 t).stay stay, fun t => ?_⟩
    obtain ⟨b, k4, k5⟩ := k3 t
    exact ⟨b, k4, k5.x, k5.s, k5.l, k5.c, k5.v.at stay rfl⟩
  · obtain ⟨k1, k2, k3, nm, v, k4, k5, k6⟩ := r.comp x sv h
    exact ⟨⟨k1, fun e => hc e.symm⟩, k2, k3, nm, v, k4, k5, k6.stay stay⟩
theorem Step.lessO {S z g h} (st : Step S z g h) {a : Addr} (ha : Mk z a) : Step S z { g with O := fun b => g.O b ∧ b ≠ a } h :=
  ⟨st.zlt, st.zxo, st.kept, fun b q => st.onew b q.1, st.xnew, fun b p q => ⟨st.okeep b p q, fun e => (e ▸ ha : Mk z b).elim q fun t => t.not (st.zlt b p)⟩⟩

/-- what an expression gave, and the value that stands for it -/
noncomputable def RR (K : Cfg) (z : St × Heap) (r : R) (g : St) (v : Value) (h : Heap) : Prop := match r with
  | .v x => FV K.w g.O h v x
  | .fresh x => ∃ a, v = .ref a ∧ Mk z a ∧ g.O a ∧ ¬ g.X a ∧ ¬ SF K.fr a ∧ a ≠ K.env.locals ∧ OV K.w g.O h a x
  | .var y => g.ρ y = some v

section
variable {K : Cfg} {z : St × Heap} {g g' : St} {m m' : M} {h h' : Heap} {r : R} {v : Value}

theorem RR.persist (x : RR K z r g v h) (Hr : Rel K g m h) (st : Step (SF K.fr) (g, h) g' h') (hρ : g'.ρ = g.ρ) : RR K z r g' v h' := by
  have stay := Step.stay Hr st
  cases r with
  | v s => exact FV.stay stay x
  | fresh s =>
    obtain ⟨a, rfl, h1, h2, h3, h4, h6, h5⟩ := x
    obtain ⟨o, ho⟩ := h5.there
    refine ⟨a, rfl, h1, st.okeep a h2 h3, fun q => (st.xnew a q).elim h3 fun t => t.not (Hr.olt a h2), h4, h6, h5.at stay ?_⟩
    rw [ho]; exact st.kept.exact ho h3 h4
  | var y => exact (congrFun hρ y).trans x

theorem RR.get (x : RR K z r g v h) (Hr : Rel K g m h) {s : SV} (e : r.get m = some s) : CV K.w g.O h v s := by
  cases r with
  | v s' => cases e; exact .inl x
  | fresh s' => cases e; obtain ⟨a, rfl, _, _, _, _, _, h5⟩ := x; exact .inr ⟨a, rfl, h5⟩
  | var y =>
    simp only [Mine.R.get, Option.map_eq_some_iff] at e
    obtain ⟨en, h1, rfl⟩ := e
    obtain ⟨v', k1, k2, k3⟩ := Hr.vv y en h1
    have hx : g.ρ y = some v := x
    rw [hx] at k1; cases k1
    cases ho : en.own with
    | false => exact .inl (k2 ho)
    | true => obtain ⟨a, rfl, w⟩ := k3 ho; exact .inr ⟨a, rfl, w.v⟩

/-- the value leaves for another place -/
theorem RR.frz (x : RR K z r g v h) (Hr : Rel K g m h) {s : SV} (e : r.frz m = .ok s m') :
    ∃ g', Rel K g' m' h ∧ g'.ρ = g.ρ ∧ FV K.w g'.O h v s ∧ (Step (SF K.fr) z g h → Step (SF K.fr) z g' h) := by
  cases r with
  | v s' => cases e; exact ⟨g, Hr, rfl, x, id⟩
  | fresh s' =>
    cases e
    obtain ⟨a, rfl, h1, h2, h3, h4, h6, h5⟩ := x
    exact ⟨_, Hr.lessO h3 h4 h6, rfl, h5.freeze h2 (fun _ q => q.1) (fun q => q.2 rfl), fun st => st.lessO h1⟩
  | var y =>
    simp only [Mine.R.frz] at e
    cases hl : m.lookup y with
    | none => rw [hl] at e; cases e
    | some en =>
      rw [hl] at e
      cases e
      cases ho : en.own with
      | true =>
        obtain ⟨a, k1, k2, k3, k4⟩ := Hr.freeze hl ho
        have hx : g.ρ y = some v := x
        rw [hx] at k1; cases k1
        exact ⟨_, k4, rfl, k3, fun q => q.less k2⟩
      | false =>
        obtain ⟨v', k1, k2, _⟩ := Hr.vv y en hl
        have hx : g.ρ y = some v := x
        rw [hx] at k1; cases k1
        refine ⟨g, Hr.congr fun u => ?_, rfl, k2 ho, id⟩
        rw [lookup_upd]
        by_cases q : u = y
        · subst q
          obtain ⟨o, sv⟩ := en
          simp only at ho
          subst ho
          simp [hl]
        · simp [q]
end
end
section
open PySem PySem.W PyProof.Rows PySem.Calls
theorem wpAny_operate {M : Model} {A : Around} {E : Value → Shared → Prop} {s : Shared} {vs : List Value} {t : Sem Value} {Q : Value → Shared → Prop} (h : wpAny M A t Q E s) : wpAny M A (operate vs t) Q E s :=
  fun Γ p hΓ => by rw [Sem.wp_operate]; exact h Γ p hΓ

/-- what the base heap says of the text's own names -/
inductive FnAt (B : Heap) (mg : Str → Option Value) (f : Str) (fd : FD) : Prop
  | mk (a : Addr) (o : Obj) (pm code doc : Value) (params : Arguments) (h1 : mg f = some (.ref a)) (h2 : B.get? a = some o) (h3 : o.data = .func (docDef f params fd.body fd.scope pm code doc)) (h4 : B.CodeRec code f)
    (h5 : ∀ vs, vs.length = fd.ps.length → bindArgs (docDef f params fd.body fd.scope pm code doc) ⟨vs, []⟩ = pure (fd.ps.zip vs)) : FnAt B mg f fd
inductive GFn (B : Heap) (CF : Addr) : Prop
  | mk (mg mb : Str → Option Value) (h1 : B.Ns mainGlobals mg) (h2 : B.Ns builtinsNs mb) (h3 : ∀ f fd, funs f = some fd → FnAt B mg f fd)
    (h4 : ∀ f, funs f = none → f ∈ (["len", "range", "str", "sorted", "list"] : List Str) → mg f = none ∧ mb f = bootBuiltins f) (h5 : mg "CheckFault" = some (.ref CF)) : GFn B CF
inductive ExOb (B : Heap) (CF : Addr) : Prop
  | mk (nm q N bs bm hd sn sub ab col dd k0 k1 k2 k3 k5 newId : _) (h1 : B.get? CF = some (excClassObj nm q CF N bs bm hd sn sub ab col dd k0 k1 k2 k3 k5 newId)) (h2 : bm.contains (.type "BaseException") = true) : ExOb B CF
structure GB (w : World) (B : Heap) (CF : Addr) : Prop where
  lim : B.NoLimit
  fn : GFn B CF
  ex : ExOb B CF
  raise : ∀ (A : Around) (s : Shared) (E Q : Value → Shared → Prop) (x : Int) (t : Tok) (y : Str) (u : Tok), A.depth + 10 < 1000 → A.units + 100 < cLine → A.handled = none → (∀ b o, B.get? b = some o → s.heap.get? b = some o) →
    (∀ e h' tk dd a0 sl, s.heap.get? e = none → (∀ b o, s.heap.get? b = some o → h'.get? b = some o) → h'.get? e = some { cls := .ref CF, dict := dd, data := .fields #[a0, .none, .none, .none, .bool false, .none], slots := sl } → Q (.ref e) { s with heap := h', toks := tk }) →
    wpAny (model P w) A (call (.ref CF) [.int x t, .str y u] []) Q E s

structure Go (CF : Addr) (K : Cfg) (A : Around) (n : Nat) : Prop where
  H : EnvOk K.c K.env₀ K.env
  hh : A.handled = none
  dep : A.depth + n + 20 < 1000
  un : A.units + 10 * n + 200 < cLine
  af : A.frames = some K.fr
  fr : ∃ outer, K.fr = K.env₀ :: outer
  gb : GB K.w K.B CF

theorem Go.le {CF K A n k} (G : Go CF K A n) (h : k ≤ n) : Go CF K A k :=
  ⟨G.H, G.hh, by have := G.dep; lia, by have := G.un; lia, G.af, G.fr, G.gb⟩

/-- what an expression's walk says -/
noncomputable abbrev QE (K : Cfg) (z : St × Heap) (ρ : Str → Option Value) : R → M → St → Value → Shared → Prop := fun r _ g v s => g.ρ = ρ ∧ RR K z r g v s.heap
noncomputable abbrev QD (ρ : Str → Option Value) : PyData → M → St → Value → Shared → Prop := fun d _ g v s => g.ρ = ρ ∧ Fz g.O s.heap v d

section
variable {CF : Addr} {K : Cfg} {A : Around} {z : St × Heap} {α α' β β' : Type} {s : Shared}

/-- steps of the evaluator alone -/
theorem Sim.post {t : Sem α} {o : Out β} {f : β → M → Out β'} {Q : β → M → St → α → Shared → Prop} {Q' : β' → M → St → α → Shared → Prop} (h : Sim CF K A z t o Q s)
    (hf : ∀ b m' g a s', Same s s' → Rel K g m' s'.heap → Step (SF K.fr) z g s'.heap → Q b m' g a s' →
      match f b m' with | .ok b' m'' => ∃ g', Rel K g' m'' s'.heap ∧ Step (SF K.fr) z g' s'.heap ∧ Q' b' m'' g' a s' | .exc _ => False | .stuck => True) :
    Sim CF K A z t (o.bind f) Q' s := by
  cases o with
  | stuck => trivial
  | exc m' => exact h
  | ok b m' =>
    show Sim CF K A z t (f b m') Q' s
    have hf' := fun g a s' => hf b m' g a s'
    revert hf'
    cases f b m' with
    | stuck => intro _; trivial
    | exc m'' => exact fun hf' => wpAny_mono h (fun a s' ⟨g, e1, e2, e3, e4⟩ => (hf' g a s' e1 e2 e3 e4).elim) fun _ _ x => x.elim
    | ok b'' m'' => exact fun hf' => wpAny_mono h (fun a s' ⟨g, e1, e2, e3, e4⟩ => let ⟨g', x⟩ := hf' g a s' e1 e2 e3 e4; ⟨g', e1, x⟩) fun _ _ x => x

variable {g : St} {m : M}

theorem frzD_ok {r : R} {v : Value} {m' : M} {d : PyData} (Rl : Rel K g m s.heap) (st : Step (SF K.fr) z g s.heap) (rr : RR K z r g v s.heap) (e : (r.frz m).bind asD = .ok d m') :
    ∃ g', Rel K g' m' s.heap ∧ Step (SF K.fr) z g' s.heap ∧ g'.ρ = g.ρ ∧ Fz g'.O s.heap v d := by
  cases h : r.frz m with
  | stuck => rw [h] at e; cases e
  | exc m1 => rw [h] at e; cases e
  | ok sv m1 =>
    rw [h] at e
    obtain ⟨g', k1, k2, k3, k4⟩ := rr.frz Rl h
    cases sv with
    | d x => cases e; exact ⟨g', k1, k4 st, k2, k3⟩
    | dt _ => cases e
    | di _ => cases e
    | rng _ => cases e

/-- an expression for its data -/
theorem Sim.frzD {ρ : Str → Option Value} {t : Sem Value} {o : Out R} (h : Sim CF K A z t o (QE K z ρ) s) : Sim CF K A z t (o.bind fun r m => (r.frz m).bind asD) (QD ρ) s := by
  refine h.post fun r m' g v s' _ Rl st ⟨hρ, rr⟩ => ?_
  cases e : (r.frz m').bind asD with
  | stuck => trivial
  | exc m1 =>
    exfalso
    cases r with
    | v x => cases x <;> simp [R.frz, Out.bind, asD] at e
    | fresh x => cases x <;> simp [R.frz, Out.bind, asD] at e
    | var y =>
      simp only [R.frz] at e
      cases hl : m'.lookup y with
      | none => rw [hl] at e; cases e
      | some en => rw [hl] at e; obtain ⟨o, x⟩ := en; cases x <;> simp [Out.bind, asD] at e
  | ok d m1 => obtain ⟨g', a, b, c, d⟩ := frzD_ok Rl st rr e; exact ⟨g', a, b, c.trans hρ, d⟩

theorem Sim.frz {ρ : Str → Option Value} {t : Sem Value} {o : Out R} (h : Sim CF K A z t o (QE K z ρ) s) : Sim CF K A z t (o.bind fun r m => r.frz m) (fun sv _ g v s => g.ρ = ρ ∧ FV K.w g.O s.heap v sv) s := by
  refine h.post fun r m' g v s' _ Rl st ⟨hρ, rr⟩ => ?_
  cases e : r.frz m' with
  | stuck => trivial
  | exc m1 =>
    exfalso
    cases r with
    | v x => cases e
    | fresh x => cases e
    | var y =>
      simp only [R.frz] at e
      cases hl : m'.lookup y with
      | none => rw [hl] at e; cases e
      | some en => rw [hl] at e; cases e
  | ok sv m1 => obtain ⟨g', a, b, c, d⟩ := rr.frz Rl e; exact ⟨g', a, d st, b.trans hρ, c⟩

theorem sim_const {c : Const} {k : Nat} {p : Pos} (Rl : Rel K g m s.heap) (st : Step (SF K.fr) z g s.heap) :
    Sim CF K A z (eval (.Constant c k p) K.env) (match constD c with | some d => .ok (.v (.d d)) m | none => .stuck) (QE K z g.ρ) s := by
  cases c with
  | none => exact Sim.pure Rl st ⟨rfl, Fz.none⟩
  | bool b => exact Sim.pure Rl st ⟨rfl, Fz.bool b⟩
  | int i => exact Sim.ok fun E => wpAny_Constant_int ⟨g, ⟨s.heap, s.toks + 1, rfl⟩, Rl, st, rfl, Fz.int i _⟩
  | str x =>
    show Sim CF K A z _ (match (if PyData.strOk x && decide (x.length ≤ 1000) then some (PyData.str x) else none) with | some d => .ok (.v (.d d)) m | none => .stuck) (QE K z g.ρ) s
    by_cases hx : (PyData.strOk x && decide (x.length ≤ 1000)) = true
    · rw [if_pos hx]
      simp only [Bool.and_eq_true, decide_eq_true_eq] at hx
      refine Sim.ok fun E => Constant_str ⟨g, ⟨s.heap, s.toks + 1, rfl⟩, Rl, st, rfl, Fz.str _ hx.1 (Nat.le_trans hx.2 (by decide))⟩
    · rw [if_neg hx]; trivial
  | float _ => trivial
  | complex _ _ => trivial
  | bytes _ => trivial
  | ellipsis => trivial

theorem loadName_at {env : Env} {x : Str} {v : Value} {M : Model} {E : Value → Shared → Prop} {Q : Value → Shared → Prop} (hk : env.scope.kind = .function)
    (hx : (env.kindOf x = some .local ∧ ∃ nm, s.heap.Ns env.locals nm ∧ nm x = some v) ∨
      ((env.kindOf x = some .cell ∨ env.kindOf x = some .free) ∧ x ≠ "__classdict__" ∧ ∃ c o, env.cells.lookup x = some c ∧ s.heap.get? c = some o ∧ o.data = .cell (some v)))
    (h : Q v s) : wpAny M A (loadName env x) Q E s := by
  rcases hx with ⟨h1, nm, h2, h3⟩ | ⟨h1, hcd, c, o, h2, h3, h4⟩
  · exact wpAny_loadName_local hk h1 h2 h3 h
  · rcases h1 with h1 | h1
    · exact wpAny_loadName_cell hk h1 h2 ⟨o, h3, h4⟩ h
    · exact wpAny_loadName_free hk h1 h2 ⟨o, h3, h4⟩ h (beq_false_of_ne hcd)
end
end
section
open PySem PySem.W PyProof.Rows PySem.Calls
section
variable {CF : Addr} {K : Cfg} {A : Around} {z : St × Heap} {s : Shared} {g : St} {m : M}

/-- a name of a block: where it stands -/
theorem name_at (H : EnvOk K.c K.env₀ K.env) (Rl : Rel K g m s.heap) {x : Str} {r : R} (e : rdName K.c m x = some r) :
    (x == ("__debug__" : Str)) = false ∧ ∃ v, RR K z r g v s.heap ∧ ∀ {M : Model} {A : Around} {E : Value → Shared → Prop} {Q : Value → Shared → Prop} (s' : Shared), s'.heap = s.heap → Q v s' → wpAny M A (loadName K.env x) Q E s' := by
  unfold rdName at e
  by_cases hdbg : (x == "__debug__" || x == "__classdict__") = true
  · rw [if_pos hdbg] at e; cases e
  · rw [if_neg hdbg] at e
    simp only [Bool.or_eq_true, not_or, Bool.not_eq_true] at hdbg
    refine ⟨hdbg.1, ?_⟩
    have hcd : x ≠ "__classdict__" := by simpa using hdbg.2
    -- a variable of the function
    have fnv : ∀ en, m.lookup x = some en → r = (if en.own then R.var x else R.v en.v) →
        ((K.env.kindOf x = some .local ∧ K.env.locals = K.env₀.locals ∧ K.env₀.kindOf x = some .local) ∨ ((K.env.kindOf x = some .cell ∨ K.env.kindOf x = some .free) ∧ K.env.cells.lookup x = K.env₀.cells.lookup x ∧ K.env₀.kindOf x = some .cell)) →
        ∃ v, RR K z r g v s.heap ∧ ∀ {M : Model} {A : Around} {E : Value → Shared → Prop} {Q : Value → Shared → Prop} (s' : Shared), s'.heap = s.heap → Q v s' → wpAny M A (loadName K.env x) Q E s' := by
      intro en hl hr hp
      obtain ⟨v, k1, k2, k3⟩ := Rl.vv x en hl
      refine ⟨v, ?_, fun s' hs hq => loadName_at H.kind ?_ hq⟩
      · subst hr
        cases ho : en.own with
        | true => exact k1
        | false => exact k2 ho
      · rw [hs]
        rcases hp with ⟨h1, h2, h3⟩ | ⟨h1, h2, h3⟩
        · obtain ⟨nm, n1, n2⟩ := Rl.ns
          exact .inl ⟨h1, nm, h2 ▸ n1, (n2 x h3).trans k1⟩
        · obtain ⟨c, c1, o, c2, c3⟩ := Rl.cc x h3
          exact .inr ⟨h1, hcd, c, o, h2.trans c1, c2, k1 ▸ c3⟩
    have kfs : ∀ {kd}, K.c.fs.names.lookup x = some kd → K.env₀.kindOf x = some kd := fun h => by unfold Env.kindOf; rw [H.s0]; exact h
    cases hsc : K.c.sc.names.lookup x with
    | none => rw [hsc] at e; cases e
    | some kd =>
      cases hcv : K.c.cv with
      | none =>
        obtain ⟨henv, hscfs⟩ := H.fn hcv
        rw [hsc, hcv] at e
        have hk0 : K.env₀.kindOf x = some kd := kfs (hscfs ▸ hsc)
        cases kd with
        | «local» =>
          obtain ⟨en, h1, h2⟩ := Option.map_eq_some_iff.mp e
          exact fnv en h1 h2.symm (.inl ⟨henv ▸ hk0, by rw [henv], hk0⟩)
        | cell =>
          obtain ⟨en, h1, h2⟩ := Option.map_eq_some_iff.mp e
          exact fnv en h1 h2.symm (.inr ⟨.inl (henv ▸ hk0), by rw [henv], hk0⟩)
        | free => cases e
        | globalExplicit => cases e
        | globalImplicit => cases e
      | some p =>
        obtain ⟨y, sv⟩ := p
        rw [hsc, hcv] at e
        cases kd with
        | «local» =>
          by_cases hxy : (x == y) = true
          · cases ((if_pos hxy).symm.trans e : some (R.v sv) = some r)
            have : x = y := by simpa using hxy
            subst this
            obtain ⟨_, _, _, nm, v, n1, n2, n3⟩ := Rl.comp x sv hcv
            exact ⟨v, n3, fun s' hs hq => loadName_at H.kind (.inl ⟨H.loc x hsc, nm, hs ▸ n1, n2⟩) hq⟩
          · exact none_some ((if_neg hxy).symm.trans e)
        | cell => cases e
        | free =>
          by_cases hf : (K.c.fs.names.lookup x == some .cell) = true
          · replace e : varR (m.lookup x) x = some r := (if_pos hf).symm.trans e
            have hf' : K.c.fs.names.lookup x = some .cell := by simpa using hf
            obtain ⟨en, h1, h2⟩ := Option.map_eq_some_iff.mp e
            obtain ⟨q1, q2⟩ := H.free x (by rw [hcv]; rfl) hsc hf'
            exact fnv en h1 h2.symm (.inr ⟨q1, q2, kfs hf'⟩)
          · exact none_some ((if_neg hf).symm.trans e)
        | globalExplicit => cases e
        | globalImplicit => cases e

theorem sim_name (H : EnvOk K.c K.env₀ K.env) (Rl : Rel K g m s.heap) (st : Step (SF K.fr) z g s.heap) {x : Str} {p : Pos} :
    Sim CF K A z (eval (.Name x p) K.env) (match rdName K.c m x with | some r => .ok r m | none => .stuck) (QE K z g.ρ) s := by
  cases e : rdName K.c m x with
  | none => trivial
  | some r =>
    obtain ⟨hd, v, rr, h⟩ := name_at (z := z) H Rl e
    exact Sim.ok fun E => wpAny_Name (h s rfl ⟨g, .refl, Rl, st, rfl, rr⟩) hd

/-- a result that is a plain value -/
theorem sim_val {t : Sem Value} {x : PyData} (Rl : Rel K g m s.heap) (st : Step (SF K.fr) z g s.heap)
    (h : ∀ E (Q : Value → Shared → Prop), (∀ v s', Same s s' → s'.heap = s.heap → Fz g.O s.heap v x → Q v s') → wpAny (MK K) A t Q E s) : Sim CF K A z t (.ok (.v (.d x)) m) (QE K z g.ρ) s :=
  Sim.ok fun E => h E _ fun v s' e1 e2 e3 => ⟨g, e1, e2 ▸ Rl, e2 ▸ st, rfl, by rw [e2]; exact e3⟩

theorem RR.weak {z z' : St × Heap} {r : R} {g : St} {v : Value} {h : Heap} (x : RR K z' r g v h) (hz : ∀ a, Mk z' a → Mk z a) : RR K z r g v h := by
  cases r with
  | v s => exact x
  | fresh s => obtain ⟨a, e, h1, h2⟩ := x; exact ⟨a, e, hz a h1, h2⟩
  | var y => exact x

theorem Thrown.weak {z z' : St × Heap} {S : AP} {g : St} {v : Value} {h : Heap} (x : Thrown CF S z' g v h) (hz : ∀ a, Mk z' a → Mk z a) : Thrown CF S z g v h := by
  obtain ⟨a, o, vs, tb, e, h1, h2, h3, h4, h5, h6, h7, h8, h9⟩ := x
  refine ⟨a, o, vs, tb, e, hz a h1, h2, h3, h4, h5, h6, h7, h8, h9.imp id ?_⟩
  rintro ⟨T, oT, ts, f, q1, q2, q3⟩
  exact ⟨T, oT, ts, f, q1, hz T q2, q3⟩

/-- from its own start to an earlier one -/
theorem Sim.rebase {α β : Type} {t : Sem α} {o : Out β} {Q : β → M → St → α → Shared → Prop} (st : Step (SF K.fr) z g s.heap) (h : Sim CF K A (g, s.heap) t o Q s) :
    Sim CF K A z t o (fun b m' g' a s' => Q b m' g' a s' ∧ Step (SF K.fr) (g, s.heap) g' s'.heap) s := by
  cases o with
  | stuck => trivial
  | exc m' => exact wpAny_mono h (fun _ _ x => x) fun e s' ⟨g', e1, e2, e3, e4⟩ => ⟨g', e1, e2, st.trans' e3, e4.weak fun _ => st.mkd⟩
  | ok b m' => exact wpAny_mono h (fun a s' ⟨g', e1, e2, e3, e4⟩ => ⟨g', e1, e2, st.trans' e3, e4, e3⟩) fun _ _ x => x

/-- an expression, from an earlier start -/
theorem Sim.exprAt {t : Sem Value} {o : Out R} {ρ : Str → Option Value} (st : Step (SF K.fr) z g s.heap) (hρ : g.ρ = ρ) (h : Sim CF K A (g, s.heap) t o (QE K (g, s.heap) g.ρ) s) :
    Sim CF K A z t o (fun r m' g' v s' => QE K z ρ r m' g' v s' ∧ Step (SF K.fr) (g, s.heap) g' s'.heap) s :=
  (h.rebase st).mono fun r m' g' v s' _ _ _ ⟨⟨a, b⟩, c⟩ => ⟨⟨a.trans hρ, b.weak fun _ => st.mkd⟩, c⟩

/-- two operands, one behind the other -/
theorem Sim.two {α β : Type} {t₁ : Sem Value} {t₂ : Value → Sem Value} {o₁ : Out R} {o₂ : M → Out R} {k : Value → Value → Sem α} {f : R → R → M → Out β} {Q : β → M → St → α → Shared → Prop} (Rl : Rel K g m s.heap)
    (h₁ : Sim CF K A (g, s.heap) t₁ o₁ (QE K (g, s.heap) g.ρ) s)
    (h₂ : ∀ va g' m' s', Rel K g' m' s'.heap → Sim CF K A (g', s'.heap) (t₂ va) (o₂ m') (QE K (g', s'.heap) g'.ρ) s')
    (hk : ∀ g' m' s' a b va vb, g'.ρ = g.ρ → Rel K g' m' s'.heap → Step (SF K.fr) (g, s.heap) g' s'.heap → RR K (g, s.heap) a g' va s'.heap → RR K (g, s.heap) b g' vb s'.heap → Sim CF K A (g, s.heap) (k va vb) (f a b m') Q s') :
    Sim CF K A (g, s.heap) (t₁ >>= fun a => t₂ a >>= fun b => k a b) (o₁.bind fun a m => (o₂ m).bind fun b m => f a b m) Q s := by
  refine h₁.bind fun a m₁ g₁ va s₁ _ _ Rl₁ st₁ ⟨hρ₁, rr₁⟩ => ?_
  refine (Sim.exprAt st₁ hρ₁ (h₂ va g₁ m₁ s₁ Rl₁)).bind fun b m₂ g₂ vb s₂ _ _ Rl₂ st₂ ⟨⟨hρ₂, rr₂⟩, st₁₂⟩ => ?_
  exact hk g₂ m₂ s₂ a b va vb hρ₂ Rl₂ st₂ (rr₁.persist Rl₁ st₁₂ (hρ₂.trans hρ₁.symm)) rr₂
end
end
section
open PySem PySem.W PyProof.Rows PySem.Calls
section
variable {CF : Addr} {K : Cfg} {A : Around} {z : St × Heap} {s : Shared} {g : St} {m : M}

theorem Rel.locals_lt (H : EnvOk K.c K.env₀ K.env) {h : Heap} (Rl : Rel K g m h) : g.O K.env.locals := by
  cases hc : K.c.cv with
  | none => rw [(H.fn hc).1]; exact Rl.xo _ Rl.xL
  | some p => obtain ⟨x, sv⟩ := p; exact (Rl.comp x sv hc).1

theorem Rel.fresh (H : EnvOk K.c K.env₀ K.env) {h : Heap} (Rl : Rel K g m h) {a : Addr} (ha : New h a) : ¬ g.O a ∧ ¬ g.X a ∧ ¬ SF K.fr a ∧ a ≠ K.env.locals := by
  have h0 : ¬ g.O a := fun q => ha.not (Rl.olt a q)
  exact ⟨h0, fun q => h0 (Rl.xo a q), fun q => h0 (Rl.so a q), fun q => h0 (q ▸ Rl.locals_lt H)⟩

theorem lenMax_lt : lenMax < sizeLine := by rw [sizeLine_eq]; decide

/-- a new object that is held alone -/
theorem Sim.newObj {t : Sem Value} {o : Obj} {sv : SV} (H : EnvOk K.c K.env₀ K.env) (Rl : Rel K g m s.heap) (st : Step (SF K.fr) z g s.heap)
    (hv : ∀ O' : AP, Stay g.O s.heap O' (s.heap.push o) → OV K.w O' (s.heap.push o) s.heap.objs.size sv)
    (h : ∀ E (Q : Value → Shared → Prop), (∀ tk, Q (.ref s.heap.objs.size) { s with heap := s.heap.push o, toks := tk }) → wpAny (MK K) A t Q E s) (hlive : Live (s.heap.push o) s.heap.objs.size := by exact ⟨_, Heap.get?_push_size _ rfl⟩) :
    Sim CF K A z t (.ok (.fresh sv) m) (QE K z g.ρ) s := by
  refine Sim.ok fun E => h E _ fun tk => ?_
  obtain ⟨f1, f2, f3, f4⟩ := Rl.fresh H (New.size (Nat.le_refl _))
  have hk : ∀ b o', s.heap.get? b = some o' → (s.heap.push o).get? b = some o' := fun b o' e => Heap.get?_push_of_some o e
  have o1 : ∀ a, g.O a → (g.O a ∨ a = s.heap.objs.size) := fun _ q => .inl q
  have o2 : ∀ a, (g.O a ∨ a = s.heap.objs.size) → g.O a ∨ (New s.heap a ∧ Live (s.heap.push o) a) := fun a q => q.imp id fun e => by subst e; exact ⟨New.size (Nat.le_refl _), hlive⟩
  have stay : Stay g.O s.heap (fun a => g.O a ∨ a = s.heap.objs.size) (s.heap.push o) := fun a o' ha e => ⟨fun q => q.elim ha fun e' => absurd (Heap.lt_size e) (e' ▸ Nat.lt_irrefl _), hk a o' e⟩
  refine ⟨{ g with O := fun a => g.O a ∨ a = s.heap.objs.size }, ⟨_, tk, rfl⟩, Rl.grow _ hk o1 o2, st.grow _ hk o1 (fun a q => (o2 a q).imp id (·.1)), rfl, s.heap.objs.size, rfl, st.mid (New.size (Nat.le_refl _)), .inr rfl, f2, f3, f4, hv _ stay⟩

theorem Sim.newList {t : Sem Value} {vs : List Value} {ds : List PyData} (H : EnvOk K.c K.env₀ K.env) (Rl : Rel K g m s.heap) (st : Step (SF K.fr) z g s.heap) (fz : FzAll g.O s.heap vs ds) (hlen : ds.length ≤ lenMax)
    (h : ∀ E (Q : Value → Shared → Prop), (∀ tk, Q (.ref s.heap.objs.size) { s with heap := s.heap.push { cls := .type "list", data := .seq vs.toArray }, toks := tk }) → wpAny (MK K) A t Q E s) :
    Sim CF K A z t (.ok (.fresh (.d (.list ds))) m) (QE K z g.ρ) s :=
  Sim.newObj H Rl st (fun O' stay => ⟨vs.toArray, ⟨0, Heap.get?_push_size _ rfl⟩, hlen, by simpa using fz.stay stay⟩) h

theorem CV.list {O : AP} {h : Heap} {v : Value} {xs : List PyData} {w : World} (x : CV w O h v (.d (.list xs))) : ∃ a vs, v = .ref a ∧ h.IsList a vs ∧ xs.length ≤ lenMax ∧ FzAll O h vs.toList xs := by
  rcases x with x | ⟨a, rfl, vs, h1, h2, h3⟩
  · cases x with
    | list h1 h2 h3 h4 => exact ⟨_, _, rfl, h2, h3, h4⟩
  · exact ⟨a, vs, rfl, h1.isList, h2, h3⟩
theorem CV.tuple {O : AP} {h : Heap} {v : Value} {xs : List PyData} {w : World} (x : CV w O h v (.d (.tuple xs))) : ∃ a vs, v = .ref a ∧ h.IsTuple a vs ∧ xs.length ≤ lenMax ∧ FzAll O h vs.toList xs ∧ ¬ O a := by
  rcases x with x | ⟨a, rfl, h1⟩
  · cases x with
    | tuple h1 h2 h3 h4 => exact ⟨_, _, rfl, h2, h3, h4, h1⟩
  · exact h1.elim
theorem CV.int {O : AP} {h : Heap} {v : Value} {i : Int} {w : World} (x : CV w O h v (.d (.int i))) : ∃ t, v = .int i t := by
  rcases x with x | ⟨a, rfl, h1⟩
  · cases x with
    | int _ t => exact ⟨t, rfl⟩
  · exact h1.elim
theorem CV.str {O : AP} {h : Heap} {v : Value} {i : Str} {w : World} (x : CV w O h v (.d (.str i))) : ∃ t, v = .str i t ∧ PyData.strOk i = true ∧ i.length ≤ lenMax := by
  rcases x with x | ⟨a, rfl, h1⟩
  · cases x with
    | str t a b => exact ⟨t, rfl, a, b⟩
  · exact h1.elim
theorem CV.bool {O : AP} {h : Heap} {v : Value} {i : Bool} {w : World} (x : CV w O h v (.d (.bool i))) : v = .bool i := by
  rcases x with x | ⟨a, rfl, h1⟩
  · cases x with
    | bool _ => rfl
  · exact h1.elim
theorem CV.none {O : AP} {h : Heap} {v : Value} {w : World} (x : CV w O h v (.d .none)) : v = .none := by
  rcases x with x | ⟨a, rfl, h1⟩
  · cases x with
    | none => rfl
  · exact h1.elim
/-- plain data, for the library's reads -/
theorem CV.reads {O : AP} {h : Heap} {v : Value} {d : PyData} {w : World} (x : CV w O h v (.d d)) : (∃ as, Reads h v d as) ∧ d.canLay0 = true := by
  rcases x with x | ⟨a, rfl, h1⟩
  · exact Fz.reads x
  · cases d with
    | list xs =>
      obtain ⟨vs, h1, h2, h3⟩ := h1
      obtain ⟨⟨as, q⟩, k⟩ := FzAll.reads h3
      obtain ⟨o, e, c, n, dd⟩ := h1.isList
      exact ⟨⟨_, .list e c dd q⟩, by simpa [PyData.canLay0] using k⟩
    | _ => exact h1.elim

theorem strOk_append {x y : Str} (hx : PyData.strOk x = true) (hy : PyData.strOk y = true) : PyData.strOk (x ++ y) = true := by
  show (x.cps ++ y.cps).all (· < 0x110000) = true
  rw [Array.all_append]
  exact Bool.and_eq_true_iff.mpr ⟨hx, hy⟩
theorem str_len_append (x y : Str) : (x ++ y).length = x.length + y.length := by
  show (x.cps ++ y.cps).size = _
  rw [Array.size_append]; rfl

theorem str_empty {x : Str} (h : (x.length == 0) = true) : x = Str.empty := by
  obtain ⟨cps⟩ := x
  have : cps.size = 0 := by simpa [Str.length] using h
  have : cps = #[] := Array.size_eq_zero_iff.mp this
  subst this; rfl
theorem small_le {i : Int} (h : small i = true) : i.natAbs ≤ 2 ^ 20 := by simpa [small] using h

theorem sim_binAdd (H : EnvOk K.c K.env₀ K.env) (Rl : Rel K g m s.heap) (st : Step (SF K.fr) z g s.heap) {ra rb : R} {va vb : Value} (xa : RR K z ra g va s.heap) (xb : RR K z rb g vb s.heap) :
    Sim CF K A z (binaryOp .Add va vb) (binAdd (ra.get m) (rb.get m) m) (QE K z g.ρ) s := by
  refine Sim.with2 (fun i j ha hb => ?_) (Sim.with2 (fun x y ha hb => Sim.ifs fun hs => ?_) (Sim.with2 (fun xs ys ha hb => Sim.ifs fun hs => ?_) trivial))
  · obtain ⟨t, rfl⟩ := (xa.get Rl (intV_eq ha)).int
    obtain ⟨u, rfl⟩ := (xb.get Rl (intV_eq hb)).int
    exact sim_val Rl st fun E Q h => P.add_int (h _ _ ⟨_, _, rfl⟩ rfl (.int _ _))
  · obtain ⟨t, rfl, x1, x2⟩ := (xa.get Rl (strV_eq ha)).str
    obtain ⟨u, rfl, y1, y2⟩ := (xb.get Rl (strV_eq hb)).str
    have all : ∀ t, Fz g.O s.heap (.str (x ++ y) t) (.str (x ++ y)) := fun t => .str t (strOk_append x1 y1) (by rw [str_len_append]; exact hs)
    refine sim_val Rl st fun E Q h => P.add_str ?_
    split
    · rename_i h0
      have : x = Str.empty := str_empty h0
      subst this
      rw [Str.empty_append] at all h
      exact h _ _ .refl rfl (all u)
    · split
      · rename_i h0
        have : y = Str.empty := str_empty h0
        subst this
        rw [Str.append_empty] at all h
        exact h _ _ .refl rfl (all t)
      · exact ⟨by rw [str_len_append]; exact Nat.le_trans hs (Nat.le_of_lt lenMax_lt), h _ _ ⟨_, _, rfl⟩ rfl (all _)⟩
  · obtain ⟨a, vs, rfl, l1, l2, l3⟩ := (xa.get Rl (listV_eq ha)).list
    obtain ⟨b, ws, rfl, k1, k2, k3⟩ := (xb.get Rl (listV_eq hb)).list
    refine Sim.newList (vs := vs.toList ++ ws.toList) H Rl st (l3.append k3) hs fun E Q h => ?_
    have e : (vs.toList ++ ws.toList).toArray = vs ++ ws := by simp
    rw [e] at h
    have hz : vs.size + ws.size ≤ sizeLine := by
      rw [← Array.length_toList, ← Array.length_toList, l3.length, k3.length, ← List.length_append]
      exact Nat.le_trans hs (Nat.le_of_lt lenMax_lt)
    obtain ⟨⟨cls, dd, data, sl⟩, ho, hc, n, hd⟩ := id l1
    obtain ⟨⟨cls2, dd2, data2, sl2⟩, ho2, hc2, n2, hd2⟩ := id k1
    cases hc; cases hd; cases hc2; cases hd2
    exact concat_meets ⟨_, ho, rfl⟩ ⟨_, ho2, rfl⟩ noFill_list_add seq_list_add PySem.F.slot_list_add PySem.F.entry_list_add (PySem.F.args_list_add_2 _ _) (list_addW a b vs ws n n2 dd dd2 sl sl2 hz) ⟨ho, ho2, h _⟩

theorem sim_int2 (Rl : Rel K g m s.heap) {t : Sem Value} {ra rb : R} {va vb : Value} (xa : RR K z ra g va s.heap) (xb : RR K z rb g vb s.heap) {f : Int → Int → Out R} {Q : R → M → St → Value → Shared → Prop}
    (h : ∀ i j ti tj, va = .int i ti → vb = .int j tj → Sim CF K A z t (f i j) Q s) : Sim CF K A z t (with2 (intV (ra.get m)) (intV (rb.get m)) .stuck f) Q s :=
  Sim.with2 (fun i j ha hb => let ⟨_, e1⟩ := (xa.get Rl (intV_eq ha)).int; let ⟨_, e2⟩ := (xb.get Rl (intV_eq hb)).int; h i j _ _ e1 e2) trivial

theorem sim_binop (H : EnvOk K.c K.env₀ K.env) (Rl : Rel K g m s.heap) (st : Step (SF K.fr) z g s.heap) {op : Operator} {ra rb : R} {va vb : Value} (xa : RR K z ra g va s.heap) (xb : RR K z rb g vb s.heap) :
    Sim CF K A z (operate [va, vb] (binaryOp op va vb)) (binop op (ra.get m) (rb.get m) m) (QE K z g.ρ) s := by
  refine Sim.conv (t := binaryOp op va vb) (fun _ _ => wpAny_operate) ?_
  cases op with
  | Add => exact sim_binAdd H Rl st xa xb
  | Sub =>
    refine sim_int2 Rl xa xb fun i j t u e1 e2 => ?_
    subst e1 e2
    exact sim_val Rl st fun E Q h => P.sub_int (h _ _ ⟨_, _, rfl⟩ rfl (.int _ _))
  | Mult =>
    refine sim_int2 Rl xa xb fun i j t u e1 e2 => Sim.ifs fun hs => ?_
    subst e1 e2
    have h1 := small_le (Bool.and_eq_true_iff.mp hs).1
    have h2 := small_le (Bool.and_eq_true_iff.mp hs).2
    exact sim_val Rl st fun E Q h => PyProof.Rows.mul_int (h _ _ ⟨_, _, rfl⟩ rfl (.int _ _)) (by mul_fits)
  | FloorDiv =>
    refine sim_int2 Rl xa xb fun i j t u e1 e2 => Sim.ifs fun hs => ?_
    subst e1 e2
    simp only [Bool.and_eq_true, bne_iff_ne, ne_eq] at hs
    have h1 := small_le hs.1.1
    have h2 := small_le hs.1.2
    exact sim_val Rl st fun E Q h => PyProof.Rows.floordiv_int hs.2 (h _ _ ⟨_, _, rfl⟩ rfl (.int _ _)) (.inl (PyProof.noPylong_small (by lia)))
  | Mod =>
    refine sim_int2 Rl xa xb fun i j t u e1 e2 => Sim.ifs fun hs => ?_
    subst e1 e2
    exact sim_val Rl st fun E Q h => PyProof.Rows.mod_int' (bne_iff_ne.mp hs) (h _ _ ⟨_, _, rfl⟩ rfl (.int _ _))
  | _ => exact trivial
end
end
section
open PySem PySem.W PyProof.Rows PySem.Calls
theorem notIn_of_in {M : Model} {A : Around} {E : Value → Shared → Prop} {s : Shared} {a b : Value} {Q : Value → Shared → Prop}
    (h : wpAny M A (compareOp .In a b) (fun v s' => ∃ r, v = .bool r ∧ Q (.bool !r) s') E s) : wpAny M A (compareOp .NotIn a b) Q E s := fun Γ p hΓ => by
  have h' := h Γ p hΓ
  rw [show compareOp .In a b = (contains b a >>= fun r => pure (Value.bool r)) from rfl, Sem.wp_bind'] at h'
  rw [show compareOp .NotIn a b = (contains b a >>= fun r => pure (Value.bool !r)) from rfl, Sem.wp_bind']
  refine Sem.wp_mono _ _ _ (fun r p' s' hr => ?_) (fun _ _ _ x => x) _ _ h'
  obtain ⟨r', e, q⟩ := hr
  cases e
  exact q

theorem is_none_ref {M : Model} {A : Around} {E : Value → Shared → Prop} {s : Shared} {a : Addr} {Q : Value → Shared → Prop} (h : Q (.bool false) s) : wpAny M A (compareOp .Is (.ref a) .none) Q E s :=
  wpAny_is_other (by rfl) (by intro e; cases e) h

section
variable {w : World} {O : AP} {h : Heap}

theorem mapM_cons_inv {α β : Type} {f : α → Option β} {a : α} {l : List α} {k : List β} (e : (a :: l).mapM f = some k) : ∃ x r, f a = some x ∧ l.mapM f = some r ∧ k = x :: r := by
  rw [List.mapM_cons] at e
  obtain ⟨x, h1, e⟩ := Option.bind_eq_some_iff.mp e
  obtain ⟨r, h2, e⟩ := Option.bind_eq_some_iff.mp e
  cases e
  exact ⟨x, r, h1, h2, rfl⟩
theorem FzAll.keyItems {vs ds} {k : List Str} (x : FzAll O h vs ds) : ds.mapM (fun | PyData.str s => some s | _ => none) = some k → ItemsAre (strKind P w) k vs ∧ strsOk k ∧ k.length = ds.length :=
  x.ind (motive := fun vs ds => ∀ k, ds.mapM (fun | PyData.str s => some s | _ => none) = some k → ItemsAre (strKind P w) k vs ∧ strsOk k ∧ k.length = ds.length) (fun k e => by cases (show some ([] : List Str) = some k from e); exact ⟨.nil, fun _ hs => (nomatch hs), rfl⟩) (fun a _ ih k e => by
    obtain ⟨s, r, h1, h2, rfl⟩ := mapM_cons_inv e
    obtain ⟨q1, q2, q3⟩ := ih r h2
    cases a with
    | str t o1 o2 =>
      cases h1
      refine ⟨.cons (by simp [PySem.strKind, Value.isStrOf]) q1, fun s hs => ?_, congrArg Nat.succ q3⟩
      rcases List.mem_cons.mp hs with rfl | hs
      · exact ⟨o1, o2⟩
      · exact q2 s hs
    | _ => cases h1) k

/-- a tuple of texts is a key -/
theorem Fz.key {v : Value} {d : PyData} {k : List Str} (x : Fz O h v d) (e : tupKey d = some k) : ∃ a, v = .ref a ∧ ¬ O a ∧ IsTupleKey (strKind P w) h k a ∧ strsOk k ∧ k.length ≤ lenMax := by
  cases x with
  | tuple h1 h2 h3 h4 =>
    obtain ⟨o, ho, hc, n, hd⟩ := h2
    obtain ⟨q1, q2, q3⟩ := FzAll.keyItems (w := w) h4 e
    exact ⟨_, rfl, h1, ⟨o, _, n, ho, hc, hd, q1⟩, q2, by lia⟩
  | _ => cases e

theorem lookup_none_of {K V : Type} [BEq K] [LawfulBEq K] {kvs : List (K × V)} {k : K} : kvs.lookup k = none ↔ k ∉ kvs.map (·.1) := by
  induction kvs with
  | nil => simp
  | cons p r ih =>
    obtain ⟨a, b⟩ := p
    rw [List.lookup_cons]
    by_cases e : k = a
    · subst e; simp
    · have : (k == a) = false := by simpa using e
      rw [this]; simp [ih, e]

theorem atKey_isSome {K V : Type} [BEq K] [LawfulBEq K] [DecidableEq K] {xs : List (K × Addr × Value)} {kvs : List (K × V)} (e : xs.map (·.1) = kvs.map (·.1)) (k : K) : (atKey xs k).isSome = (kvs.lookup k).isSome := by
  have h1 : (atKey xs k).isSome = true ↔ k ∈ xs.map (·.1) := by
    unfold atKey
    rw [Option.isSome_map, List.find?_isSome]
    constructor
    · rintro ⟨x, hx, hk⟩; exact List.mem_map.mpr ⟨x, hx, by simpa using hk⟩
    · intro hm; obtain ⟨x, hx, rfl⟩ := List.mem_map.mp hm; exact ⟨x, hx, by simp⟩
  have h2 : (kvs.lookup k).isSome = true ↔ k ∈ kvs.map (·.1) := by
    constructor
    · intro q; refine Classical.byContradiction fun n => ?_
      rw [lookup_none_of.mpr n] at q; cases q
    · intro q
      cases hl : kvs.lookup k with
      | none => exact absurd q (lookup_none_of.mp hl)
      | some _ => rfl
  rw [e] at h1
  rw [Bool.eq_iff_iff, h1, h2]

theorem DictT.nil_int {a : Addr} (x : DictT w O h a []) : DictI w h a [] := by
  obtain ⟨h1, h2, xs, ⟨o, es, ep, ho, hx, hd, he, hk, hn⟩, h3, _⟩ := x
  have : xs = [] := by simpa using h3
  subst this
  have hes : es = #[] := by simpa using he
  subst hes
  exact ⟨h1, Nat.zero_le _, [], ⟨o, #[], ep, ho, hx, hd, fun _ q => by simp at q, .nil, List.nodup_nil⟩, rfl⟩

theorem CV.dt {v : Value} {kvs} (x : CV w O h v (.dt kvs)) : ∃ a, v = .ref a ∧ DictT w O h a kvs := by
  rcases x with ⟨a, e, _, q⟩ | ⟨a, e, q⟩
  · exact ⟨a, e, q⟩
  · exact ⟨a, e, q⟩
theorem CV.di {v : Value} {kvs} (x : CV w O h v (.di kvs)) : ∃ a, v = .ref a ∧ DictI w h a kvs := by
  rcases x with ⟨a, e, _, q⟩ | ⟨a, e, q⟩
  · exact ⟨a, e, q⟩
  · exact ⟨a, e, q⟩

theorem valueAt_isSome {K : Type} [DecidableEq K] {kvs : List (K × Value)} (k : K) : (valueAt kvs k).isSome = decide (k ∈ kvs.map (·.1)) := by
  unfold valueAt
  rw [Option.isSome_map, Bool.eq_iff_iff, List.find?_isSome, decide_eq_true_eq]
  constructor
  · rintro ⟨x, hx, hk⟩; exact List.mem_map.mpr ⟨x, hx, by simpa using hk⟩
  · intro hm; obtain ⟨x, hx, rfl⟩ := List.mem_map.mp hm; exact ⟨x, hx, by simp⟩
end

section
variable {CF : Addr} {K : Cfg} {A : Around} {z : St × Heap} {s : Shared} {g : St} {m : M}

theorem in_di {a : Addr} {ks : List Int} {i : Int} {t : Tok} {E : Value → Shared → Prop} {Q : Value → Shared → Prop} (x : DictI K.w s.heap a ks) (h : ∀ tk, Q (.bool (ks.contains i)) { s with toks := tk }) :
    wpAny (MK K) A (compareOp .In (.int i t) (.ref a)) Q E s := by
  obtain ⟨h1, _, kvs, h2, rfl⟩ := x
  refine wpAny_in_of (knd := intKind P K.w) (k := i) (by simp [intKind, Value.isInt]) (by simpa using h1) h2.mapOf ?_
  rw [valueAt_isSome]
  have := h (s.toks + 1)
  rwa [List.contains_eq_mem] at this

theorem sim_in {n : Nat} (G : Go CF K A n) (Rl : Rel K g m s.heap) {a b : SV} {va vb : Value} (xa : CV K.w g.O s.heap va a) (fa : ∀ d, a = .d d → (∃ l, d = .tuple l) → Fz g.O s.heap va d) (xb : CV K.w g.O s.heap vb b) {q : Bool} (e : isIn a b = some q)
    {E : Value → Shared → Prop} {Q : Value → Shared → Prop} (h : ∀ tk, Q (.bool q) { s with toks := tk }) : wpAny (MK K) A (compareOp .In va vb) Q E s := by
  have hun := G.un
  cases b with
  | d y =>
    obtain ⟨x, ys, ha, hy, e⟩ := with2_inv e
    cases dV_eq ha
    cases listD_eq hy
    obtain ⟨hd, e⟩ := if_inv e
    cases e
    obtain ⟨⟨as, rb⟩, kb⟩ := xb.reads
    obtain ⟨⟨bs, ra⟩, ka⟩ := xa.reads
    exact SeqAt.in_list_reads rb ra (by simpa [PyData.canLay0] using kb) ka (by clear xa xb fa rb ra kb ka h Rl G; have := Nat.min_le_right (PyData.depthAll ys) x.depth; lia) (h s.toks)
  | di ks =>
    obtain ⟨i, hi, rfl⟩ := Option.map_eq_some_iff.mp e
    cases intV_eq hi
    obtain ⟨t, rfl⟩ := xa.int
    obtain ⟨a, rfl, y⟩ := xb.di
    exact in_di y h
  | dt kvs =>
    have e' : (if (intV (some a)).isSome && kvs.isEmpty then some false else (dV (some a)).bind fun x => (tupKey x).map fun k => (kvs.lookup k).isSome) = some q := e
    by_cases hc : ((intV (some a)).isSome && kvs.isEmpty) = true
    · rw [if_pos hc] at e'
      cases e'
      obtain ⟨h1, h2⟩ := Bool.and_eq_true_iff.mp hc
      obtain ⟨i, hi⟩ := Option.isSome_iff_exists.mp h1
      cases intV_eq hi
      cases List.isEmpty_iff.mp h2
      obtain ⟨t, rfl⟩ := xa.int
      obtain ⟨a, rfl, y⟩ := xb.dt
      exact in_di y.nil_int h
    · rw [if_neg hc] at e'
      obtain ⟨x, hx, e'⟩ := Option.bind_eq_some_iff.mp e'
      cases dV_eq hx
      obtain ⟨k, hk, rfl⟩ := Option.map_eq_some_iff.mp e'
      have hx : ∃ l, x = .tuple l := by
        cases x <;> first | exact ⟨_, rfl⟩ | cases hk
      obtain ⟨a, rfl, _, key, _⟩ := (fa x rfl hx).key (w := K.w) hk
      obtain ⟨d, rfl, h1, h2, xs, h3, h4, _⟩ := xb.dt
      refine wpAny_in_heap (knd := tupleKind (strKind P K.w)) (tupleKind_room_in1 (by lia)) key (by simpa using h1) h3 ?_
      rw [atKey_isSome h4]
      exact h _
  | rng _ => cases e

/-- a datum of tuples is never held alone -/
theorem RR.tup {r : R} {v : Value} {d : PyData} (x : RR K z r g v s.heap) (Rl : Rel K g m s.heap) (e : r.get m = some (.d d)) (h : ∃ l, d = .tuple l) : Fz g.O s.heap v d := by
  obtain ⟨l, rfl⟩ := h
  rcases x.get Rl e with q | ⟨a, _, q⟩
  · exact q
  · exact q.elim

theorem sim_cmp {n : Nat} (G : Go CF K A n) (Rl : Rel K g m s.heap) {op : CmpOp} {ra rb : R} {va vb : Value} (xa : RR K z ra g va s.heap) (xb : RR K z rb g vb s.heap)
    {q : Bool} (e : cmp op (ra.get m) (rb.get m) = some q) {E : Value → Shared → Prop} {Q : Value → Shared → Prop} (h : ∀ tk, Q (.bool q) { s with toks := tk }) :
    wpAny (MK K) A (operate [va, vb] (compareOp op va vb)) Q E s := by
  have hun := G.un
  refine wpAny_operate ?_
  cases op with
  | Eq =>
    obtain ⟨x, y, ha, hb, e⟩ := with2_inv e
    obtain ⟨hd, e⟩ := if_inv e
    cases e
    obtain ⟨⟨as, r1⟩, k1⟩ := (xa.get Rl (dV_eq ha)).reads
    obtain ⟨⟨bs, r2⟩, k2⟩ := (xb.get Rl (dV_eq hb)).reads
    exact SeqAt.compareEq_reads r1 r2 k1 k2 (by lia) (h s.toks)
  | NotEq =>
    obtain ⟨x, y, ha, hb, e⟩ := with2_inv e
    obtain ⟨hd, e⟩ := if_inv e
    cases e
    obtain ⟨⟨as, r1⟩, k1⟩ := (xa.get Rl (dV_eq ha)).reads
    obtain ⟨⟨bs, r2⟩, k2⟩ := (xb.get Rl (dV_eq hb)).reads
    exact SeqAt.compareNe_reads r1 r2 k1 k2 (by lia) (h s.toks)
  | Lt =>
    obtain ⟨i, j, ha, hb, e⟩ := with2_inv e
    cases e
    obtain ⟨t, rfl⟩ := (xa.get Rl (intV_eq ha)).int
    obtain ⟨u, rfl⟩ := (xb.get Rl (intV_eq hb)).int
    exact P.lt_int (h s.toks)
  | LtE =>
    obtain ⟨i, j, ha, hb, e⟩ := with2_inv e
    cases e
    obtain ⟨t, rfl⟩ := (xa.get Rl (intV_eq ha)).int
    obtain ⟨u, rfl⟩ := (xb.get Rl (intV_eq hb)).int
    exact P.le_int (h s.toks)
  | Gt =>
    obtain ⟨i, j, ha, hb, e⟩ := with2_inv e
    cases e
    obtain ⟨t, rfl⟩ := (xa.get Rl (intV_eq ha)).int
    obtain ⟨u, rfl⟩ := (xb.get Rl (intV_eq hb)).int
    exact P.gt_int (h s.toks)
  | In =>
    obtain ⟨x, y, ha, hb, e⟩ := with2_inv e
    exact sim_in G Rl (xa.get Rl ha) (fun d hd ht => xa.tup Rl (by rw [ha, hd]) ht) (xb.get Rl hb) e h
  | NotIn =>
    obtain ⟨x, y, ha, hb, e⟩ := with2_inv e
    obtain ⟨q', hq, rfl⟩ := Option.map_eq_some_iff.mp e
    exact notIn_of_in (sim_in G Rl (xa.get Rl ha) (fun d hd ht => xa.tup Rl (by rw [ha, hd]) ht) (xb.get Rl hb) hq fun tk => ⟨q', rfl, h tk⟩)
  | Is =>
    rcases with1_inv e with ⟨_, hb, e⟩ | ⟨_, e⟩
    · obtain rfl := (xb.get Rl (noneV_eq hb)).none
      rcases with1_inv e with ⟨_, ha, e⟩ | ⟨_, e⟩
      · cases e
        obtain rfl := (xa.get Rl (noneV_eq ha)).none
        exact wpAny_is_self (by rfl) (h s.toks)
      · obtain ⟨xs, ha, rfl⟩ := Option.map_eq_some_iff.mp e
        obtain ⟨a, vs, rfl, _⟩ := (xa.get Rl (listV_eq ha)).list
        exact is_none_ref (h s.toks)
    · cases e
  | _ => cases e
end
end
section
open PySem PySem.W PyProof.Rows PySem.Calls
section
variable (CF : Addr)
noncomputable def SE (n : Nat) : Prop := ∀ K A g m e s, Go CF K A n → Rel K g m s.heap → Sim CF K A (g, s.heap) (eval e K.env) (ev n K.c e m) (QE K (g, s.heap) g.ρ) s
noncomputable def SD (n : Nat) : Prop := ∀ K A g m e s, Go CF K A n → Rel K g m s.heap → Sim CF K A (g, s.heap) (eval e K.env) (evD n K.c e m) (QD g.ρ) s
noncomputable def QO (ρ : Str → Option Value) : Option PyData → M → St → Value → Shared → Prop := fun o _ g v s => g.ρ = ρ ∧ (match o with | none => v = .none | some d => Fz g.O s.heap v d)
noncomputable def SO (n : Nat) : Prop := ∀ K A g m e s, Go CF K A n → Rel K g m s.heap → Sim CF K A (g, s.heap) (valueOrNone (evalOpt e K.env)) (evO n K.c e m) (QO g.ρ) s
noncomputable def SL (n : Nat) : Prop := ∀ K A g m es pos s, Go CF K A n → Rel K g m s.heap → Sim CF K A (g, s.heap) (spliced (backTo pos (starEach es K.env))) (evs n K.c es m) (fun ds _ g' vs s' => g'.ρ = g.ρ ∧ FzAll g'.O s'.heap vs ds) s
inductive RRs (K : Cfg) (z : St × Heap) (g : St) (h : Heap) : List R → List Value → Prop
  | nil : RRs K z g h [] []
  | cons {r v rs vs} : RR K z r g v h → RRs K z g h rs vs → RRs K z g h (r :: rs) (v :: vs)
/-- the new objects among them -/
noncomputable def freshA : List R → List Value → List Value
  | .fresh _ :: rs, v :: vs => v :: freshA rs vs
  | _ :: rs, _ :: vs => freshA rs vs
  | _, _ => []
theorem RRs.fresh {K : Cfg} {z : St × Heap} {g : St} {h : Heap} {rs vs} (x : RRs K z g h rs vs) : ∀ {a}, .ref a ∈ freshA rs vs → Mk z a := by
  induction x with
  | nil => intro _ q; cases q
  | @cons r v rs vs x _ ih =>
    intro a q
    cases r with
    | fresh sv =>
      rcases List.mem_cons.mp q with e | q
      · obtain ⟨b, e', h1, _⟩ := x
        rw [e'] at e; cases e; exact h1
      · exact ih q
    | v sv => exact ih q
    | var y => exact ih q
noncomputable def SR (n : Nat) : Prop := ∀ K A g m es pos s, Go CF K A n → Rel K g m s.heap → Sim CF K A (g, s.heap) (spliced (backTo pos (starEach es K.env))) (evRs n K.c es m) (fun rs _ g' vs s' => g'.ρ = g.ρ ∧ RRs K (g, s.heap) g' s'.heap rs vs ∧ (freshA rs vs).Nodup) s
noncomputable def SB (n : Nat) : Prop := ∀ K A g m e s, Go CF K A n → Rel K g m s.heap → Sim CF K A (g, s.heap) (isTrue e K.env (eval e K.env)) (evB n K.c e m) (fun b _ g' v _ => g'.ρ = g.ρ ∧ v = b) s
noncomputable def SBo (n : Nat) : Prop := ∀ K A g m op es s, Go CF K A n → Rel K g m s.heap → Sim CF K A (g, s.heap) (allTrue op es K.env) (evBo n K.c op es m) (fun b _ g' v _ => g'.ρ = g.ρ ∧ v = b) s
end

section
variable {CF : Addr} {K : Cfg} {A : Around} {z : St × Heap} {s : Shared} {g : St} {m : M}

theorem Sim.at0 (Rl : Rel K g m s.heap) : Step (SF K.fr) (g, s.heap) g s.heap := Rl.step

theorem FzAll.step {g' : St} {m : M} {h h' : Heap} (Rl : Rel K g m h) (st : Step (SF K.fr) (g, h) g' h') {vs ds} (x : FzAll g.O h vs ds) : FzAll g'.O h' vs ds := x.stay (Step.stay Rl st)
theorem Fz.step {g' : St} {m : M} {h h' : Heap} (Rl : Rel K g m h) (st : Step (SF K.fr) (g, h) g' h') {vs ds} (x : Fz g.O h vs ds) : Fz g'.O h' vs ds := x.stay (Step.stay Rl st)
theorem RRs.step {g' : St} {m : M} {h h' : Heap} (Rl : Rel K g m h) (st : Step (SF K.fr) (g, h) g' h') (hρ : g'.ρ = g.ρ) {rs vs} (x : RRs K z g h rs vs) : RRs K z g' h' rs vs := by
  induction x with
  | nil => exact .nil
  | cons a _ ih => exact .cons (a.persist Rl st hρ) ih
theorem RRs.weak {z z' : St × Heap} {g : St} {h : Heap} (hz : ∀ a, Mk z' a → Mk z a) {rs vs} (x : RRs K z' g h rs vs) : RRs K z g h rs vs := by
  induction x with
  | nil => exact .nil
  | cons a _ ih => exact .cons (a.weak hz) ih

theorem SD_succ {n : Nat} (h : SE CF n) : SD CF (n + 1) := fun K A g m e s G Rl => (h K A g m e s (G.le (by lia)) Rl).frzD

theorem SO_succ {n : Nat} (h : SD CF n) : SO CF (n + 1) := fun K A g m e s G Rl => by
  cases e with
  | none => exact Sim.pure Rl Rl.step ⟨rfl, rfl⟩
  | some e =>
    refine (h K A g m e s (G.le (by lia)) Rl).post fun d m' g' v s' _ Rl' st' ⟨a, b⟩ => ⟨g', Rl', st', a, b⟩

theorem starEach_plain {e : Expr} (h : ∀ x p, e ≠ .Starred x p) (es : List Expr) (env : Env) : starEach (e :: es) env = (false, eval e env) :: starEach es env := by
  cases e <;> first | rfl | exact absurd rfl (h _ _)

theorem ev_starred (n : Nat) (c : Ctx) (x : Expr) (p : Pos) (m : M) : ev n c (.Starred x p) m = .stuck := by
  cases n <;> rfl

theorem SL_succ {n : Nat} (hd : SD CF n) (hl : SL CF n) : SL CF (n + 1) := fun K A g m es pos s G Rl => by
  cases es with
  | nil => exact Sim.pure Rl Rl.step ⟨rfl, .nil⟩
  | cons e es =>
    by_cases hs : ∃ x p, e = .Starred x p
    · obtain ⟨x, p, rfl⟩ := hs
      have : evD n K.c (.Starred x p) m = .stuck := by
        cases n with
        | zero => rfl
        | succ n => show (ev n K.c (.Starred x p) m).bind _ = _; rw [ev_starred]; rfl
      show Sim CF K A (g, s.heap) _ ((evD n K.c (.Starred x p) m).bind _) _ s
      rw [this]; trivial
    · rw [starEach_plain (fun x p q => hs ⟨x, p, q⟩)]
      show Sim CF K A (g, s.heap) (eval e K.env >>= fun v => _) ((evD n K.c e m).bind fun d m => (evs n K.c es m).bind fun ds m => .ok (d :: ds) m) _ s
      refine (hd K A g m e s (G.le (by lia)) Rl).bind fun d m₁ g₁ v s₁ _ _ Rl₁ st₁ ⟨hρ₁, fz₁⟩ => ?_
      show Sim CF K A (g, s.heap) (pure [v] >>= fun here => holding here (spliced (backTo pos (starEach es K.env))) >>= fun rest => pure (here ++ rest)) _ _ s₁
      refine Sim.conv (t := spliced (backTo pos (starEach es K.env)) >>= fun rest => pure (v :: rest)) (fun Q E h Γ p hΓ => ?_) ?_
      · have h' := h Γ p hΓ
        rw [Sem.wp_bind'] at h'
        show Sem.wp _ Γ (holding [v] (spliced (backTo pos (starEach es K.env))) >>= fun rest => pure ([v] ++ rest)) _ _ p s₁
        rw [Sem.wp_bind', Sem.wp_holding]
        exact h'
      · have base := (hl K A g₁ m₁ es pos s₁ (G.le (by lia)) Rl₁).rebase st₁
        refine base.bind fun ds m₂ g₂ vs s₂ _ _ Rl₂ st₂ ⟨⟨hρ₂, fz₂⟩, st₁₂⟩ => ?_
        exact Sim.pure Rl₂ st₂ ⟨hρ₂.trans hρ₁, .cons (fz₁.step Rl₁ st₁₂) fz₂⟩

theorem SR_succ {n : Nat} (he : SE CF n) (hl : SR CF n) : SR CF (n + 1) := fun K A g m es pos s G Rl => by
  cases es with
  | nil => exact Sim.pure Rl Rl.step ⟨rfl, .nil, List.nodup_nil⟩
  | cons e es =>
    by_cases hs : ∃ x p, e = .Starred x p
    · obtain ⟨x, p, rfl⟩ := hs
      show Sim CF K A (g, s.heap) _ ((ev n K.c (.Starred x p) m).bind _) _ s
      rw [ev_starred]; trivial
    · rw [starEach_plain (fun x p q => hs ⟨x, p, q⟩)]
      show Sim CF K A (g, s.heap) (eval e K.env >>= fun v => _) ((ev n K.c e m).bind fun d m => (evRs n K.c es m).bind fun ds m => .ok (d :: ds) m) _ s
      refine (he K A g m e s (G.le (by lia)) Rl).bind fun d m₁ g₁ v s₁ _ _ Rl₁ st₁ ⟨hρ₁, rr₁⟩ => ?_
      show Sim CF K A (g, s.heap) (pure [v] >>= fun here => holding here (spliced (backTo pos (starEach es K.env))) >>= fun rest => pure (here ++ rest)) _ _ s₁
      refine Sim.conv (t := spliced (backTo pos (starEach es K.env)) >>= fun rest => pure (v :: rest)) (fun Q E h Γ p hΓ => ?_) ?_
      · have h' := h Γ p hΓ
        rw [Sem.wp_bind'] at h'
        show Sem.wp _ Γ (holding [v] (spliced (backTo pos (starEach es K.env))) >>= fun rest => pure ([v] ++ rest)) _ _ p s₁
        rw [Sem.wp_bind', Sem.wp_holding]
        exact h'
      · have base := (hl K A g₁ m₁ es pos s₁ (G.le (by lia)) Rl₁).rebase st₁
        refine base.bind fun ds m₂ g₂ vs s₂ _ _ Rl₂ st₂ ⟨⟨hρ₂, rr₂, nd⟩, st₁₂⟩ => ?_
        refine Sim.pure Rl₂ st₂ ⟨hρ₂.trans hρ₁, .cons (rr₁.persist Rl₁ st₁₂ hρ₂) (rr₂.weak fun _ => st₁.mkd), ?_⟩
        cases d with
        | fresh sv =>
          refine List.nodup_cons.mpr ⟨fun q => ?_, nd⟩
          obtain ⟨a, rfl, _, h2, h3, _⟩ := rr₁
          rcases rr₂.fresh q with t | t
          · exact h3 t
          · exact t.not (Rl₁.olt a h2)
        | v sv => exact nd
        | var y => exact nd
end
end
section
open PySem PySem.W PyProof.Rows PySem.Calls
section
variable {CF : Addr} {K : Cfg} {A : Around} {z : St × Heap} {s : Shared} {g : St} {m : M} {n : Nat}

theorem se_BinOp (he : SE CF n) (G : Go CF K A n) (Rl : Rel K g m s.heap) (l : Expr) (op : Operator) (r : Expr) (p : Pos) :
    Sim CF K A (g, s.heap) (eval (.BinOp l op r p) K.env) ((ev n K.c l m).bind fun a m => (ev n K.c r m).bind fun b m => binop op (a.get m) (b.get m) m) (QE K (g, s.heap) g.ρ) s := by
  rw [eval_BinOp]
  refine Sim.two (t₂ := fun a => holding [a] (eval r K.env)) Rl (he K A g m l s G Rl) (fun va g' m' s' Rl' => (he K A g' m' r s' G Rl').holding) fun g' m' s' a b va vb hρ Rl' st' ra rb => ?_
  rw [← hρ]
  exact Sim.standAt (sim_binop G.H Rl' st' ra rb)

theorem ev_set (n : Nat) (c : Ctx) (es : List Expr) (k : Nat) (p : Pos) (m : M) : ev n c (.Set es k p) m = .stuck := by
  cases n <;> rfl

/-- a comparison's answer -/
theorem simCmpAns {α : Type} {t : Value → Value → Sem α} {β : Type} {f : Bool → M → Out β} {Q : β → M → St → α → Shared → Prop} (he : SE CF n) (G : Go CF K A n) (Rl : Rel K g m s.heap) (l : Expr) (op : CmpOp) (r : Expr) (p : Pos)
    (hk : ∀ q g' m' s' va vb, g'.ρ = g.ρ → Rel K g' m' s'.heap → Step (SF K.fr) (g, s.heap) g' s'.heap →
      (∀ E (Q' : Value → Shared → Prop), (∀ tk, Q' (.bool q) { s' with toks := tk }) → wpAny (MK K) A (operate [va, vb] (compareOp op va vb)) Q' E s') → Sim CF K A (g, s.heap) (t va vb) (f q m') Q s') :
    Sim CF K A (g, s.heap) (eval l K.env >>= fun a => holding [a] (markedBehindIn op r (eval r K.env)) >>= fun b => standAt p >>= fun _ => t a b)
      ((ev n K.c l m).bind fun a m => (ev n K.c r m).bind fun b m => match cmp op (a.get m) (b.get m) with | some q => f q m | none => .stuck) Q s := by
  by_cases hm : behindInMarks op r = true
  · have : ∃ es k p, r = .Set es k p := by
      cases r <;> first | exact ⟨_, _, _, rfl⟩ | cases hm
    obtain ⟨es, k, p', rfl⟩ := this
    refine (he K A g m l s G Rl).bind fun a m₁ g₁ va s₁ _ _ Rl₁ st₁ _ => ?_
    rw [ev_set]; trivial
  · rw [markedBehindIn_of_false (by simpa using hm)]
    refine Sim.two (t₂ := fun a => holding [a] (eval r K.env)) Rl (he K A g m l s G Rl) (fun va g' m' s' Rl' => (he K A g' m' r s' G Rl').holding) fun g' m' s' a b va vb hρ Rl' st' ra rb => ?_
    cases e : cmp op (a.get m') (b.get m') with
    | none => trivial
    | some q => exact Sim.standAt (hk q g' m' s' va vb hρ Rl' st' fun E Q' h => sim_cmp G Rl' ra rb e h)

theorem se_Compare (he : SE CF n) (G : Go CF K A n) (Rl : Rel K g m s.heap) (l : Expr) (op : CmpOp) (r : Expr) (p : Pos) :
    Sim CF K A (g, s.heap) (eval (.Compare l [op] [r] p) K.env) ((ev n K.c l m).bind fun a m => (ev n K.c r m).bind fun b m => match cmp op (a.get m) (b.get m) with
      | some q => .ok (.v (.d (.bool q))) m
      | none => .stuck) (QE K (g, s.heap) g.ρ) s := by
  rw [eval_Compare1]
  refine simCmpAns (t := fun a b => operate [a, b] (compareOp op a b)) (f := fun q m => .ok (R.v (.d (.bool q))) m) he G Rl l op r p fun q g' m' s' va vb hρ Rl' st' h => ?_
  exact Sim.ok fun E => h E _ fun tk => ⟨g', ⟨_, tk, rfl⟩, Rl', st', hρ, .bool q⟩

theorem se_USub (he : SE CF n) (G : Go CF K A n) (Rl : Rel K g m s.heap) (x : Expr) (p : Pos) :
    Sim CF K A (g, s.heap) (eval (.UnaryOp .USub x p) K.env) ((ev n K.c x m).bind fun a m => with1 (intV (a.get m)) .stuck fun i => .ok (.v (.d (.int (-i)))) m) (QE K (g, s.heap) g.ρ) s := by
  show Sim CF K A (g, s.heap) (eval x K.env >>= fun v => standAt p >>= fun _ => holding [v] (unaryOp .USub v)) _ _ s
  refine (he K A g m x s G Rl).bind fun a m₁ g₁ va s₁ _ _ Rl₁ st₁ ⟨hρ, ra⟩ => ?_
  refine Sim.standAt (Sim.holding (Sim.with1 (fun i ha => ?_) trivial))
  obtain ⟨t, rfl⟩ := (ra.get Rl₁ (intV_eq ha)).int
  rw [← hρ]
  exact sim_val Rl₁ st₁ fun E Q h => P.neg_int (h _ _ ⟨_, _, rfl⟩ rfl (.int _ _))

theorem truthy_at {v : Value} {r : R} {b : Bool} (ra : RR K z r g v s.heap) (Rl : Rel K g m s.heap) (e : truth (r.get m) = some b) {E : Value → Shared → Prop} {Q : Bool → Shared → Prop} (h : Q b s) :
    wpAny (MK K) A (truthy v) Q E s := by
  obtain ⟨d, ha, e⟩ := Option.bind_eq_some_iff.mp e
  rcases with1_inv e with ⟨_, hn, e⟩ | ⟨_, e⟩
  · cases e
    cases noneD_eq hn
    obtain rfl := (ra.get Rl (dV_eq ha)).none
    exact fun _ _ _ => h
  · cases boolD_eq e
    obtain rfl := (ra.get Rl (dV_eq ha)).bool
    exact wpAny_truthy_bool h

theorem se_And (he : SE CF n) (G : Go CF K A n) (Rl : Rel K g m s.heap) (x y : Expr) (p : Pos) :
    Sim CF K A (g, s.heap) (eval (.BoolOp .And [x, y] p) K.env) ((ev n K.c x m).bind fun a m => match truth (a.get m) with
      | some false => .ok a m
      | some true => ev n K.c y m
      | none => .stuck) (QE K (g, s.heap) g.ρ) s := by
  show Sim CF K A (g, s.heap) (eval x K.env >>= fun v => standAt p >>= fun _ => holding [v] (truthy v) >>= fun t => (match BoolOp.And, t with
    | .And, false | .Or, true => pure v
    | _, _ => boolOp p .And [eval y K.env])) _ _ s
  refine (he K A g m x s G Rl).bind fun a m₁ g₁ va s₁ _ _ Rl₁ st₁ ⟨hρ, ra⟩ => ?_
  refine Sim.standAt ?_
  cases e : truth (a.get m₁) with
  | none => trivial
  | some b =>
    refine Sim.ahead (I := fun t s' => t = b ∧ s' = s₁) (fun E => wpAny_holding (truthy_at ra Rl₁ e ⟨.refl, rfl, rfl⟩)) fun t s' _ ⟨h1, h2⟩ => ?_
    subst h1 h2
    cases t with
    | false => exact Sim.pure Rl₁ st₁ ⟨hρ, ra⟩
    | true => exact (Sim.exprAt st₁ hρ (he K A g₁ m₁ y s' G Rl₁)).mono fun _ _ _ _ _ _ _ _ q => q.1

theorem se_IfExp (he : SE CF n) (hb : SB CF n) (G : Go CF K A n) (Rl : Rel K g m s.heap) (t x y : Expr) (p : Pos) :
    Sim CF K A (g, s.heap) (eval (.IfExp t x y p) K.env) ((evB n K.c t m).bind fun q m => if q then ev n K.c x m else ev n K.c y m) (QE K (g, s.heap) g.ρ) s := by
  show Sim CF K A (g, s.heap) (isTrue t K.env (eval t K.env) >>= fun b => if b then eval x K.env else eval y K.env) _ _ s
  refine (hb K A g m t s G Rl).bind fun q m₁ g₁ b s₁ _ _ Rl₁ st₁ ⟨hρ, e⟩ => ?_
  subst e
  cases b with
  | true => exact (Sim.exprAt st₁ hρ (he K A g₁ m₁ x s₁ G Rl₁)).mono fun _ _ _ _ _ _ _ _ q => q.1
  | false => exact (Sim.exprAt st₁ hρ (he K A g₁ m₁ y s₁ G Rl₁)).mono fun _ _ _ _ _ _ _ _ q => q.1

theorem se_Tuple (hl : SL CF n) (G : Go CF K A n) (Rl : Rel K g m s.heap) (es : List Expr) (k : Nat) (p : Pos) :
    Sim CF K A (g, s.heap) (eval (.Tuple es k p) K.env) ((evs n K.c es m).bind fun ds m => if ds.length ≤ 1000 then .ok (.v (.d (.tuple ds))) m else .stuck) (QE K (g, s.heap) g.ρ) s := by
  show Sim CF K A (g, s.heap) (standAt p >>= fun _ => spliced (backTo p (starEach es K.env)) >>= fun vs => newTuple vs) _ _ s
  refine Sim.standAt ((hl K A g m es p s G Rl).bind fun ds m₁ g₁ vs s₁ _ _ Rl₁ st₁ ⟨hρ, fz⟩ => ?_)
  split
  · rename_i hlen
    have hl := fz.length
    have hz : sizeOk (.seq vs.toArray) := by
      show vs.toArray.size ≤ sizeLine
      rw [List.size_toArray, sizeLine_eq]; lia
    refine Sim.ok fun E => wpAny_newObj_type ?_ hz
    obtain ⟨f1, f2, f3, f4⟩ := Rl₁.fresh G.H (New.size (Nat.le_refl _))
    have stay : Stay g₁.O s₁.heap g₁.O (s₁.heap.push { cls := .type "tuple", data := .seq vs.toArray }) := fun a o ha e => ⟨ha, Heap.get?_push_of_some _ e⟩
    refine ⟨g₁, ⟨_, _, rfl⟩, Rl₁.push _, st₁.push _, hρ, .tuple (vs := vs.toArray) f1 ⟨_, Heap.get?_push_size _ rfl, rfl, 0, rfl⟩ (Nat.le_trans hlen (by decide)) ?_⟩
    simpa using fz.stay stay
  · trivial

theorem se_List (hl : SL CF n) (G : Go CF K A n) (Rl : Rel K g m s.heap) (es : List Expr) (p : Pos) :
    Sim CF K A (g, s.heap) (eval (.List es p) K.env) ((evs n K.c es m).bind fun ds m => if ds.length ≤ 1000 then .ok (.fresh (.d (.list ds))) m else .stuck) (QE K (g, s.heap) g.ρ) s := by
  show Sim CF K A (g, s.heap) (standAt p >>= fun _ => spliced (backTo p (starEach es K.env)) >>= fun vs => newList vs) _ _ s
  refine Sim.standAt ((hl K A g m es p s G Rl).bind fun ds m₁ g₁ vs s₁ _ _ Rl₁ st₁ ⟨hρ, fz⟩ => ?_)
  split
  · rename_i hlen
    have hl := fz.length
    have hz : sizeOk (.seq vs.toArray) := by
      show vs.toArray.size ≤ sizeLine
      rw [List.size_toArray, sizeLine_eq]; lia
    rw [← hρ]
    exact Sim.newList G.H Rl₁ st₁ fz (Nat.le_trans hlen (by decide)) fun E Q h => wpAny_newObj_type (h s₁.toks) hz
  · trivial
end
end
section
open PySem PySem.W PyProof.Rows PySem.Calls
section
variable {w : World} {O : AP} {h : Heap}
theorem atKey_value {K : Type} [BEq K] [LawfulBEq K] [DecidableEq K] {xs : List (K × Addr × Value)} : ∀ {kvs : List (K × PyData)} {k : K} {d : PyData}, xs.map (·.1) = kvs.map (·.1) → FzAll O h (xs.map (·.2.2)) (kvs.map (·.2)) → kvs.lookup k = some d →
    ∃ p, atKey xs k = some p ∧ Fz O h p.2 d := by
  induction xs with
  | nil => intro kvs k d e _ l; cases kvs with
    | nil => cases l
    | cons _ _ => cases e
  | cons x xs ih =>
    intro kvs k d e f l
    cases kvs with
    | nil => cases e
    | cons y kvs =>
      obtain ⟨e1, e2⟩ := List.cons.inj e
      cases f with
      | cons f1 f2 =>
        obtain ⟨a, b⟩ := y
        cases q : k == a with
        | true =>
          rw [List.lookup_cons, q] at l
          cases l
          have e1 : x.1 = a := e1
          have q : k = a := eq_of_beq q
          exact ⟨x.2, by simp [atKey, e1, q], f1⟩
        | false =>
          rw [List.lookup_cons, q] at l
          obtain ⟨p, p1, p2⟩ := ih e2 f2 l
          have e1 : x.1 = a := e1
          have hne : ¬ x.1 = k := fun t => beq_eq_false_iff_ne.mp q (t.symm.trans e1)
          exact ⟨p, by simpa [atKey, List.find?_cons, hne] using p1, p2⟩
end

section
variable {CF : Addr} {K : Cfg} {A : Around} {z : St × Heap} {s : Shared} {g : St} {m : M} {n : Nat}

theorem sub_plain {i : Expr} (hi : ∀ a b c p, i ≠ .Slice a b c p) (o k : Value) : subscripted i false o k = operate [o, k] (getItem o k) := by
  cases i <;> first | rfl | exact absurd rfl (hi _ _ _ _)

theorem place_nonneg {n : Nat} {i : Int} {j : Nat} (e : place n i = some j) : (0 ≤ i ∧ i < n ∧ j = i.toNat) ∨ (i < 0 ∧ -(n : Int) ≤ i ∧ j = (i + n).toNat) := by
  unfold place at e
  split at e
  · split at e
    · cases e; exact .inl ⟨by assumption, by assumption, rfl⟩
    · cases e
  · split at e
    · cases e; exact .inr ⟨by lia, by lia, rfl⟩
    · cases e

theorem seqOf_eq {sv : SV} {xs : List PyData} (h : seqOf sv = some xs) : sv = .d (.list xs) ∨ sv = .d (.tuple xs) := by
  cases sv with
  | d d => cases d <;> cases h <;> first | exact .inl rfl | exact .inr rfl
  | _ => cases h
theorem getItem_at (G : Go CF K A n) (Rl : Rel K g m s.heap) {ra rb : R} {va vb : Value} (xa : RR K z ra g va s.heap) (xb : RR K z rb g vb s.heap) {d : PyData} (e : item (ra.get m) (rb.get m) = some d)
    {E : Value → Shared → Prop} {Q : Value → Shared → Prop} (h : ∀ v tk, Fz g.O s.heap v d → Q v { s with toks := tk }) :
    ∃ T id, s.TypeIs va T ∧ typeLookup (.type T) "__getitem__" = pure (some (.builtin id)) ∧ wpAny (MK K) A (getItem va vb) Q E s := by
  have hun := G.un
  rcases with1_inv e with ⟨kvs, ha, e⟩ | ⟨_, e⟩
  · have ha := some_via (c := .dt) ha tV_eq
    obtain ⟨k, hb, e⟩ := Option.bind_eq_some_iff.mp e
    obtain ⟨key, hk, hl⟩ := Option.bind_eq_some_iff.mp e
    have hx : ∃ l, k = .tuple l := by
      cases k <;> first | exact ⟨_, rfl⟩ | cases hk
    obtain ⟨a, rfl, _, kk, _⟩ := (xb.tup Rl (dV_eq hb) hx).key (w := K.w) hk
    obtain ⟨dd, rfl, h1, h2, xs, h3, h4, h5, h6⟩ := (xa.get Rl ha).dt
    obtain ⟨p, p1, p2⟩ := atKey_value h4 h6 hl
    exact ⟨"dict", _, h3.typeIs, slot_dict_getitem.lookup, wpAny_getItem_heap (knd := tupleKind (PySem.strKind P K.w)) (tupleKind_room_in1 (by lia)) kk h3 p1 (h _ _ p2)⟩
  · obtain ⟨xs, hs, e⟩ := Option.bind_eq_some_iff.mp e
    obtain ⟨i, hb, e⟩ := Option.bind_eq_some_iff.mp e
    obtain ⟨j, hj, hx⟩ := Option.bind_eq_some_iff.mp e
    obtain ⟨t, rfl⟩ := (xb.get Rl (intV_eq hb)).int
    obtain ⟨sv, ha, hs⟩ := Option.bind_eq_some_iff.mp hs
    have hlm := lenMax_lt
    have hsl := sizeLine_eq
    rcases seqOf_eq hs with rfl | rfl
    · obtain ⟨a, vs, rfl, l1, l2, l3⟩ := (xa.get Rl ha).list
      obtain ⟨v, v1, v2⟩ := l3.get hx
      have hsz := l3.length
      rw [Array.length_toList] at hsz
      have hv : vs[j]? = some v := by rw [← Array.getElem?_toList]; exact v1
      refine ⟨"list", _, l1.typeIs, slot_list_getitem.lookup, ?_⟩
      clear hun e hx hs ha xa xb v1 hb
      rcases place_nonneg hj with ⟨q1, q2, q3⟩ | ⟨q1, q2, q3⟩
      · exact wpAny_getItem_list l1 q1 (by lia) (q3 ▸ hv) (h _ s.toks v2)
      · exact wpAny_getItem_list_neg l1 q1 (by lia) (by lia) (by rw [hsz, ← q3]; exact hv) (h _ s.toks v2)
    · obtain ⟨a, vs, rfl, l1, l2, l3, _⟩ := (xa.get Rl ha).tuple
      obtain ⟨v, v1, v2⟩ := l3.get hx
      have hsz := l3.length
      rw [Array.length_toList] at hsz
      have hv : vs[j]? = some v := by rw [← Array.getElem?_toList]; exact v1
      refine ⟨"tuple", _, l1.typeIs, slot_tuple_getitem.lookup, ?_⟩
      clear hun e hx hs ha xa xb v1 hb
      refine getItem_tuple (j := j) l1 (by rcases place_nonneg hj with q | q <;> lia) (by rcases place_nonneg hj with q | q <;> lia) ?_ hv (h _ s.toks v2)
      rcases place_nonneg hj with ⟨q1, q2, q3⟩ | ⟨q1, q2, q3⟩
      · rw [q3]; exact seqIndex_of q1 (by lia)
      · rw [q3, ← hsz]; exact seqIndex_neg q1 (by lia)

theorem ev_slice (n : Nat) (c : Ctx) (a b d : Option Expr) (p : Pos) (m : M) : ev n c (.Slice a b d p) m = .stuck := by
  cases n <;> rfl

theorem se_Index (he : SE CF n) (G : Go CF K A n) (Rl : Rel K g m s.heap) (a i : Expr) (p : Pos) :
    Sim CF K A (g, s.heap) (eval (.Subscript a i p) K.env) ((ev n K.c a m).bind fun r m => (ev n K.c i m).bind fun k m => match item (r.get m) (k.get m) with
      | some d => .ok (.v (.d d)) m
      | none => .stuck) (QE K (g, s.heap) g.ρ) s := by
  show Sim CF K A (g, s.heap) (eval a K.env >>= fun o => holding [o] (eval i K.env) >>= fun k => standAt p >>= fun _ => subscriptTail a i o k) _ _ s
  by_cases hi : ∃ a b c p, i = .Slice a b c p
  · obtain ⟨b, c, d, q, rfl⟩ := hi
    refine (he K A g m a s G Rl).bind fun a m₁ g₁ va s₁ _ _ Rl₁ st₁ _ => ?_
    rw [ev_slice]; trivial
  · refine Sim.two (t₂ := fun o => holding [o] (eval i K.env)) Rl (he K A g m a s G Rl) (fun va g' m' s' Rl' => (he K A g' m' i s' G Rl').holding) fun g' m' s' ra rb va vb hρ Rl' st' xa xb => ?_
    cases e : item (ra.get m') (rb.get m') with
    | none => trivial
    | some d =>
      refine Sim.standAt (Sim.ok fun E => ?_)
      obtain ⟨T, id, h1, h2, h3⟩ := getItem_at (E := E) (Q := fun v s'' => ∃ g'', Same s' s'' ∧ Rel K g'' m' s''.heap ∧ Step (SF K.fr) (g, s.heap) g'' s''.heap ∧ QE K (g, s.heap) g.ρ (.v (.d d)) m' g'' v s'') G Rl' xa xb e fun v tk f => ⟨g', ⟨_, tk, rfl⟩, Rl', st', hρ, f⟩
      exact PyProof.Rows.tail_any h1 h2 h3 (sub_plain (fun a b c q t => hi ⟨a, b, c, q, t⟩) va vb)
end
end
section
open PySem PySem.W PyProof.Rows PySem.Calls
theorem Out.bind_assoc {α β γ : Type} (o : Out α) (f : α → M → Out β) (k : β → M → Out γ) : (o.bind f).bind k = o.bind fun a m => (f a m).bind k := by cases o <;> rfl

noncomputable def PartIs : Option PyData → Value → Prop
  | none, v => v = .none
  | some (.int i), v => ∃ t, v = .int i t
  | some _, _ => True

noncomputable def intOf : Option PyData → Option Int
  | some (.int i) => some i
  | _ => none
/-- what a bound is in the end -/
noncomputable def bdOf (o : Option Int) (d n : Nat) (k : Nat) : Prop := match o with
  | none => k = d
  | some i => 0 ≤ i ∧ k = min i.toNat n

theorem bnd_part {n d : Nat} {o : Option PyData} {k : Nat} {v : Value} (e : bnd n d o = some k) (h : PartIs o v) : IsPart v (intOf o) ∧ bdOf (intOf o) d n k := by
  rcases with1_inv e with ⟨x, rfl, e⟩ | ⟨rfl, e⟩
  · obtain ⟨i, hi, e⟩ := Option.bind_eq_some_iff.mp e
    cases intD_eq hi
    obtain ⟨hc, e⟩ := if_inv e
    cases e
    obtain ⟨t, rfl⟩ := h
    exact ⟨.int _ t, of_decide_eq_true (Bool.and_eq_true_iff.mp hc).1, rfl⟩
  · cases e; cases h; exact ⟨.none, rfl⟩

section
variable {CF : Addr} {K : Cfg} {A : Around} {z : St × Heap} {s : Shared} {g : St} {m : M} {n : Nat}

theorem se_SliceObj (ho : SO CF n) (G : Go CF K A n) (Rl : Rel K g m s.heap) (lo hi : Option Expr) (q : Pos) :
    Sim CF K A (g, s.heap) (eval (.Slice lo hi none q) K.env) ((evO n K.c lo m).bind fun lo m => (evO n K.c hi m).bind fun hi m => .ok (lo, hi) m)
      (fun p _ g' v s' => g'.ρ = g.ρ ∧ ∃ sl vl vu, v = .ref sl ∧ s'.heap.IsSliceOf sl vl vu .none ∧ PartIs p.1 vl ∧ PartIs p.2 vu) s := by
  show Sim CF K A (g, s.heap) (valueOrNone (evalOpt lo K.env) >>= fun l => holding [l] (valueOrNone (evalOpt hi K.env)) >>= fun u => holding [l, u] (pure Value.none) >>= fun st => newFields "slice" [l, u, st]) _ _ s
  have part : ∀ {o : Option PyData} {O : AP} {h : Heap} {v : Value}, (match o with | none => v = .none | some d => Fz O h v d) → PartIs o v := by
    intro o O h v x
    cases o with
    | none => exact x
    | some d =>
      cases d with
      | int i => cases x; exact ⟨_, rfl⟩
      | _ => trivial
  refine (ho K A g m lo s G Rl).bind fun a m₁ g₁ l s₁ _ _ Rl₁ st₁ ⟨hρ₁, p₁⟩ => ?_
  refine ((ho K A g₁ m₁ hi s₁ G Rl₁).rebase st₁).holding.bind fun b m₂ g₂ u s₂ _ _ Rl₂ st₂ ⟨⟨hρ₂, p₂⟩, _⟩ => ?_
  refine Sim.ahead (I := fun v s' => v = .none ∧ s' = s₂) (fun E => wpAny_holding (wpAny_pure ⟨.refl, rfl, rfl⟩)) fun v s' _ ⟨e1, e2⟩ => ?_
  subst e1 e2
  refine Sim.ok fun E => wpAny_newObj_type ?_ (by show (3 : Nat) ≤ _; rw [sizeLine_eq]; decide)
  exact ⟨g₂, ⟨_, _, rfl⟩, Rl₂.push _, st₂.push _, hρ₂.trans hρ₁, _, l, u, rfl, Heap.IsSliceOf.new _ _ _ _, part p₁, part p₂⟩

noncomputable def clip1 (v : Option Int) (d n : Nat) : Int := match v with
  | none => d
  | some i => max 0 (min (if i < 0 then i + n else i) n)
theorem clip1_of {v : Option Int} {d n k : Nat} (h : bdOf v d n k) : clip1 v d n = k := by
  cases v with
  | none => exact congrArg _ (h : k = d).symm
  | some i =>
    obtain ⟨h0, rfl⟩ := h
    show max 0 (min (if i < 0 then i + n else i) (n : Int)) = _
    obtain ⟨j, rfl⟩ := Int.eq_ofNat_of_zero_le h0
    rw [if_neg (Int.not_lt.mpr h0), Int.toNat_natCast]
    rcases Nat.le_total j n with q | q
    · rw [Nat.min_eq_left q, Int.min_eq_left (Int.ofNat_le.mpr q)]; exact Int.max_eq_right h0
    · rw [Nat.min_eq_right q, Int.min_eq_right (Int.ofNat_le.mpr q)]; exact Int.max_eq_right (Int.natCast_nonneg n)
theorem bounds_eq (lo hi : Option Int) (n : Nat) : sliceBounds lo hi none n = (clip1 lo 0 n, clip1 hi n n, 1) := by cases lo <;> cases hi <;> rfl

theorem slice_pick {xs : List PyData} {lo hi : Option PyData} {vs : Array Value} {vl vu : Value} {O : AP} {h : Heap} {ys : List PyData} (fz : FzAll O h vs.toList xs) (e : sliceL xs lo hi = some ys) (hl : PartIs lo vl) (hu : PartIs hi vu) :
    IsPart vl (intOf lo) ∧ IsPart vu (intOf hi) ∧ FzAll O h (slicePick vs (intOf lo) (intOf hi) none).toList ys := by
  obtain ⟨a, ha, e⟩ := Option.bind_eq_some_iff.mp e
  obtain ⟨b, hb, rfl⟩ := Option.map_eq_some_iff.mp e
  obtain ⟨p1, q1⟩ := bnd_part ha hl
  obtain ⟨p2, q2⟩ := bnd_part hb hu
  have hsz : vs.size = xs.length := by have := fz.length; rwa [Array.length_toList] at this
  have hbd : sliceBounds (intOf lo) (intOf hi) none vs.size = ((a : Int), (b : Int), 1) := by
    rw [bounds_eq, hsz, clip1_of q1, clip1_of q2]
  refine ⟨p1, p2, ?_⟩
  rw [kmk_pick_nat vs hbd]
  simpa using (fz.drop a).take (b - a)

theorem se_Slice (he : SE CF n) (ho : SO CF n) (G : Go CF K A n) (Rl : Rel K g m s.heap) (a : Expr) (lo hi : Option Expr) (q p : Pos) :
    Sim CF K A (g, s.heap) (eval (.Subscript a (.Slice lo hi none q) p) K.env) ((ev n K.c a m).bind fun r m => (evO n K.c lo m).bind fun lo m => (evO n K.c hi m).bind fun hi m => with1 (listV (r.get m)) .stuck fun xs => with1 (sliceL xs lo hi) .stuck fun ys => mkL ys m) (QE K (g, s.heap) g.ρ) s := by
  show Sim CF K A (g, s.heap) (eval a K.env >>= fun o => holding [o] (eval (.Slice lo hi none q) K.env) >>= fun k => standAt p >>= fun _ => subscriptTail a (.Slice lo hi none q) o k) _ _ s
  refine (he K A g m a s G Rl).bind fun r m₁ g₁ va s₁ _ _ Rl₁ st₁ ⟨hρ₁, ra⟩ => ?_
  have second := ((se_SliceObj ho G Rl₁ lo hi q).rebase st₁)
  have := Sim.bind (k := fun k => standAt p >>= fun _ => subscriptTail a (.Slice lo hi none q) va k) (f := fun (p : Option PyData × Option PyData) m => with1 (listV (r.get m)) .stuck fun xs => with1 (sliceL xs p.1 p.2) .stuck fun ys => mkL ys m) (Q' := QE K (g, s.heap) g.ρ) (second.holding (vs := [va])) ?_
  · rw [Out.bind_assoc] at this
    simp only [Out.bind_assoc] at this
    exact this
  · rintro ⟨l, u⟩ m₂ g₂ k s₂ _ _ Rl₂ st₂ ⟨⟨hρ₂, sl, vl, vu, rfl, isl, pl, pu⟩, st₁₂⟩
    have ra₂ := ra.persist Rl₁ st₁₂ hρ₂
    refine Sim.with1 (fun xs hx => Sim.with1 (fun ys hy => ?_) trivial) trivial
    obtain ⟨b, vs, rfl, l1, l2, l3⟩ := (ra₂.get Rl₂ (listV_eq hx)).list
    obtain ⟨i1, i2, i3⟩ := slice_pick l3 hy pl pu
    refine Sim.standAt (Sim.ifs fun hlen => ?_)
    rw [← hρ₁, ← hρ₂]
    refine Sim.newList G.H Rl₂ st₂ i3 hlen fun E Q h => ?_
    have hsz : vs.size ≤ sizeLine := by
      have := l3.length; rw [Array.length_toList] at this
      have := lenMax_lt; lia
    refine PyProof.Rows.tail_any (ops := [.ref sl, .ref b]) l1.typeIs slot_list_getitem.lookup (wpAny_getItem_list_slice l1 isl i1 i2 .none (by simp) ?_ hsz) rfl
    exact h s₂.toks
end
end
section
open PySem PySem.W PyProof.Rows PySem.Calls
noncomputable def putX {K : Type} [BEq K] : List (K × Addr × Value) → K → Addr → Value → List (K × Addr × Value)
  | [], k, a, v => [(k, a, v)]
  | x :: r, k, a, v => if k == x.1 then (x.1, x.2.1, v) :: r else x :: putX r k a v
theorem putX_t {K : Type} [BEq K] {k : K} {a : Addr} {v : Value} {x : K × Addr × Value} {r : List (K × Addr × Value)} (h : (k == x.1) = true) : putX (x :: r) k a v = (x.1, x.2.1, v) :: r := if_pos h
theorem putX_f {K : Type} [BEq K] {k : K} {a : Addr} {v : Value} {x : K × Addr × Value} {r : List (K × Addr × Value)} (h : ¬ (k == x.1) = true) : putX (x :: r) k a v = x :: putX r k a v := if_neg h
theorem putK_t {K : Type} [BEq K] {k : K} {d : PyData} {x : K × PyData} {r : List (K × PyData)} (h : (k == x.1) = true) : putK (x :: r) k d = (x.1, d) :: r := if_pos h
theorem putK_f {K : Type} [BEq K] {k : K} {d : PyData} {x : K × PyData} {r : List (K × PyData)} (h : ¬ (k == x.1) = true) : putK (x :: r) k d = x :: putK r k d := if_neg h

theorem storedH_putX {K : Type} [BEq K] [LawfulBEq K] [DecidableEq K] (k : K) (a : Addr) (v : Value) (xs : List (K × Addr × Value)) : (xs.map (·.1)).Nodup → storedH xs k a v = putX xs k a v := by
  induction xs with
  | nil => intro _; simp [storedH, atKey, putX]
  | cons x r ih =>
    intro hn
    obtain ⟨k', a', v'⟩ := x
    rw [List.map_cons, List.nodup_cons] at hn
    by_cases e : k = k'
    · subst e
      have h1 : atKey ((k, a', v') :: r) k = some (a', v') := by simp [atKey]
      rw [storedH_old h1, List.map_cons, map_putAt_of_not_mem r k v hn.1, putX_t (beq_self_eq_true k)]
      simp [putAt]
    · have e' : ¬ k' = k := fun t => e t.symm
      have h1 : atKey ((k', a', v') :: r) k = atKey r k := by simp [atKey, List.find?_cons, e']
      rw [putX_f (fun t => e (eq_of_beq t)), ← ih hn.2]
      unfold storedH
      rw [h1]
      cases atKey r k with
      | none => rfl
      | some p => exact congrArg (· :: _) (by simp [putAt, e'] : putAt k v (k', a', v') = (k', a', v'))

section
variable {w : World} {O : AP} {h h' : Heap}
theorem putX_all {K : Type} [BEq K] {k : K} {a : Addr} {v : Value} {T : K → Addr → Prop} (ha : T k a) {xs : List (K × Addr × Value)} : (∀ x ∈ xs, T x.1 x.2.1) → ∀ x ∈ putX xs k a v, T x.1 x.2.1 := by
  induction xs with
  | nil => exact fun _ => List.forall_mem_singleton.mpr ha
  | cons x xs ih =>
    intro t
    have t' := List.forall_mem_cons.mp t
    by_cases e : (k == x.1) = true
    · rw [putX_t e]; exact List.forall_mem_cons.mpr ⟨t'.1, t'.2⟩
    · rw [putX_f e]; exact List.forall_mem_cons.mpr ⟨t'.1, ih t'.2⟩
theorem FzAll.inv {v d vs ds} (x : FzAll O h (v :: vs) (d :: ds)) : Fz O h v d ∧ FzAll O h vs ds := by
  cases x with
  | cons a b => exact ⟨a, b⟩
theorem putX_putK {K : Type} [BEq K] {k : K} {a : Addr} {v : Value} {d : PyData} {xs : List (K × Addr × Value)} (f : Fz O h v d) : ∀ {kvs : List (K × PyData)}, xs.map (·.1) = kvs.map (·.1) → FzAll O h (xs.map (·.2.2)) (kvs.map (·.2)) →
    (putX xs k a v).map (·.1) = (putK kvs k d).map (·.1) ∧ FzAll O h ((putX xs k a v).map (·.2.2)) ((putK kvs k d).map (·.2)) := by
  induction xs with
  | nil => intro kvs e _; cases kvs with
    | nil => exact ⟨rfl, .one f⟩
    | cons _ _ => exact nomatch e
  | cons x xs ih =>
    intro kvs e fz
    cases kvs with
    | nil => exact nomatch e
    | cons y kvs =>
      have e1 : x.1 = y.1 ∧ xs.map (·.1) = kvs.map (·.1) := List.cons.inj e
      have f1 := FzAll.inv (fz : FzAll O h (x.2.2 :: xs.map (·.2.2)) (y.2 :: kvs.map (·.2)))
      by_cases t : (k == x.1) = true
      · rw [putX_t t, putK_t (e1.1 ▸ t)]
        exact ⟨e, .cons f f1.2⟩
      · rw [putX_f t, putK_f (e1.1 ▸ t)]
        exact ⟨List.cons_eq_cons.mpr ⟨e1.1, (ih e1.2 f1.2).1⟩, .cons f1.1 (ih e1.2 f1.2).2⟩

theorem putK_length {K : Type} [BEq K] (k : K) (d : PyData) : ∀ kvs : List (K × PyData), (putK kvs k d).length ≤ kvs.length + 1
  | [] => by simp [putK]
  | (k', d') :: r => by
    have ih := putK_length k d r
    simp only [putK]
    split <;> simp only [List.length_cons] <;> lia

/-- a tuple-keyed dict after a store -/
theorem DictT.put2 {d a : Addr} {kvs : List (List Str × PyData)} {k : List Str} {v : Value} {pd : PyData} {xs : List (List Str × Addr × Value)} (h1 : d ≠ sysModules) (h3 : h.DictOfH (tupleKind (PySem.strKind P w)) d xs) (h4 : xs.map (·.1) = kvs.map (·.1))
    (h5 : ∀ x ∈ xs, ¬ O x.2.1 ∧ strsOk x.1 ∧ x.1.length ≤ lenMax) (h6 : FzAll O h (xs.map (·.2.2)) (kvs.map (·.2))) (hd : O d) (hs : Heap.SameBut d h h')
    (hm : h'.DictOfH (tupleKind (PySem.strKind P w)) d (storedH xs k a v)) (ha : ¬ O a) (hk : strsOk k) (hkl : k.length ≤ lenMax) (fz : Fz O h v pd) (hlen : kvs.length < lenMax) :
    DictT w O h' d (putK kvs k pd) := by
  have stay : Stay O h O h' := fun b o hb e => ⟨hb, (hs.2 b fun q => hb (q ▸ hd)).trans e⟩
  have hn : (xs.map (·.1)).Nodup := by
    obtain ⟨_, _, _, _, _, _, _, _, hn⟩ := h3
    exact hn
  rw [storedH_putX k a v xs hn] at hm
  have p := putX_putK (k := k) (a := a) fz h4 h6
  exact ⟨h1, Nat.le_trans (putK_length k pd kvs) hlen, putX xs k a v, hm, p.1, putX_all (T := fun k a => ¬ O a ∧ strsOk k ∧ k.length ≤ lenMax) ⟨ha, hk, hkl⟩ h5, p.2.stay stay⟩

theorem DictT.new (h : Heap) : h.objs.size ≠ sysModules → DictT w O (h.push { cls := .type "dict", data := .dict #[] }) h.objs.size [] := fun hne =>
  ⟨hne, Nat.zero_le _, [], Heap.DictOfH.new h, rfl, fun _ hx => (nomatch hx), .nil⟩
end

section
variable {CF : Addr} {K : Cfg} {A : Around} {z : St × Heap} {s : Shared} {g : St} {m : M} {n : Nat}

theorem Rel.notMods (Rl : Rel K g m s.heap) (G : Go CF K A n) : ∀ {a}, s.heap.objs.size ≤ a → a ≠ sysModules := fun {a} ha q => by
  obtain ⟨mg, mb, h1, _⟩ := G.gb.fn
  have h2 := (h1.keeps Rl.base).lt
  have h3 : sysModules < mainGlobals := by decide
  subst q
  exact absurd (Nat.lt_trans h3 h2) (Nat.not_lt.mpr ha)

theorem se_Dict0 (G : Go CF K A n) (Rl : Rel K g m s.heap) (p : Pos) : Sim CF K A (g, s.heap) (eval (.Dict [] [] p) K.env) (.ok (.fresh (.dt [])) m) (QE K (g, s.heap) g.ρ) s := by
  have e : eval (.Dict [] [] p) K.env = (standAt p >>= fun _ => newDict) := by rw [arm_eval_Dict]; rfl
  rw [e]
  refine Sim.standAt (Sim.newObj G.H Rl Rl.step (fun O' _ => DictT.new s.heap (Rl.notMods G (Nat.le_refl _))) fun E Q h => ?_)
  exact wpAny_newObj_type (h s.toks) (by show (0 : Nat) ≤ _; lia)

theorem conv_stand {t : Sem Value} {p : Pos} {β : Type} {o : Out β} {Q : β → M → St → Value → Shared → Prop} (h : Sim CF K A z t o Q s) : Sim CF K A z (t >>= fun x => standAt p >>= fun _ => pure x) o Q s :=
  h.conv fun _ _ x => wpAny_bind (wpAny_mono x (fun _ _ q => wpAny_bind (wpAny_standAt (wpAny_pure q))) fun _ _ q => q)

/-- a new object of ours, put by -/
noncomputable def gNew (g : St) (h : Heap) : St := { g with O := fun a => g.O a ∨ a = h.objs.size }
theorem Rel.new {h : Heap} (Rl : Rel K g m h) (o : Obj) (hf : o.isFreed = false := by rfl) : Rel K (gNew g h) m (h.push o) :=
  Rl.grow _ (fun b o' e => Heap.get?_push_of_some o e) (fun _ q => .inl q) fun a q => q.imp id fun e => by subst e; exact ⟨New.size (Nat.le_refl _), _, Heap.get?_push_size _ hf⟩
theorem Step.new {h : Heap} {S : AP} (st : Step S z g h) (o : Obj) : Step S z (gNew g h) (h.push o) :=
  st.grow _ (fun b o' e => Heap.get?_push_of_some o e) (fun _ q => .inl q) fun a q => q.imp id fun e => by subst e; exact New.size (Nat.le_refl _)

theorem evalPairs_one (k v : Sem Value) : evalPairs [(k, v)] = (k >>= fun kv => holding [kv] v >>= fun vv => holding [kv, vv] (pure []) >>= fun r => pure ((kv, vv) :: r)) := rfl
theorem subDict_one (k v : Sem Value) : subDict [(k, v)] = (alloc { cls := .type "dict", data := .dict #[] } >>= fun d => holding [.ref d] (evalPairs [(k, v)] >>= fun vs => holding (vs.flatMap fun (k, v) => [k, v]) (forIn vs PUnit.unit (fun (x : Value × Value) (_ : PUnit) => (do dictSet d x.1 x.2; pure (ForInStep.yield PUnit.unit) : Sem (ForInStep PUnit))) >>= fun _ => pure ())) >>= fun _ => pure d) := by
  unfold subDict
  simp only [List.length_cons, List.length_nil, Nat.reduceAdd, Nat.reduceLeDiff, if_true]

theorem se_Dict1 (hd : SD CF n) (G : Go CF K A n) (Rl : Rel K g m s.heap) (k v : Expr) (p : Pos) :
    Sim CF K A (g, s.heap) (eval (.Dict [some k] [v] p) K.env) ((evD n K.c k m).bind fun k m => (evD n K.c v m).bind fun v m => match tupKey k with
      | some k => .ok (.fresh (.dt [(k, v)])) m
      | none => .stuck) (QE K (g, s.heap) g.ρ) s := by
  have hun := G.un
  rw [arm_eval_Dict]
  rw [show (evalEachOpt [some k] K.env).zip ((evalEach [v] K.env).map fun v => do let x ← v; standAt p; pure x) = [(eval k K.env, (do let x ← eval v K.env; standAt p; pure x : Sem Value))].map fun p => (some p.1, p.2) from rfl,
    dictDisplay_pairs _ (by simp) (by simp)]
  refine Sim.standAt ?_
  rw [subDict_one, evalPairs_one]
  simp only [bind_assoc, pure_bind]
  refine Sim.ahead (I := fun a s' => a = s.heap.objs.size ∧ s' = { s with heap := s.heap.push { cls := .type "dict", data := .dict #[] } }) (fun E => wpAny_alloc ⟨⟨_, _, rfl⟩, rfl, rfl⟩) fun d s' _ ⟨e1, e2⟩ => ?_
  subst e1 e2
  obtain ⟨f1, f2, f3, f4⟩ := Rl.fresh G.H (New.size (Nat.le_refl _))
  have Rl' := Rl.new { cls := .type "dict", data := .dict #[] }
  have st' : Step (SF K.fr) (g, s.heap) (gNew g s.heap) (s.heap.push { cls := .type "dict", data := .dict #[] }) := Rl.step.new _
  have hT : DictT K.w (gNew g s.heap).O (s.heap.push { cls := .type "dict", data := .dict #[] }) s.heap.objs.size [] := DictT.new s.heap (Rl.notMods G (Nat.le_refl _))
  have ho : (gNew g s.heap).O s.heap.objs.size := .inr rfl
  -- what is held meanwhile
  have inner : Sim CF K A (g, s.heap) (holding [.ref s.heap.objs.size] (eval k K.env >>= fun kv => holding [kv] (eval v K.env >>= fun x => standAt p >>= fun _ => pure x) >>= fun vv => holding [kv, vv] (pure []) >>= fun r =>
        holding (((kv, vv) :: r).flatMap fun (k, v) => [k, v]) (forIn ((kv, vv) :: r) PUnit.unit (fun (x : Value × Value) (_ : PUnit) => (do dictSet s.heap.objs.size x.1 x.2; pure (ForInStep.yield PUnit.unit) : Sem (ForInStep PUnit))) >>= fun _ => pure ())))
        ((evD n K.c k m).bind fun k m => (evD n K.c v m).bind fun v m => match tupKey k with | some k => .ok (k, v) m | none => .stuck)
        (fun q _ g' _ s' => g'.ρ = g.ρ ∧ g'.O s.heap.objs.size ∧ ¬ g'.X s.heap.objs.size ∧ DictT K.w g'.O s'.heap s.heap.objs.size [q]) { s with heap := s.heap.push { cls := .type "dict", data := .dict #[] } } := by
    refine Sim.holding ?_
    refine ((hd K A _ m k { s with heap := s.heap.push { cls := .type "dict", data := .dict #[] } } G Rl').rebase st').bind fun kd m₁ g₁ kv s₁ _ _ Rl₁ st₁ ⟨⟨hρ₁, fz₁⟩, q₁⟩ => ?_
    refine (((conv_stand (hd K A g₁ m₁ v s₁ G Rl₁)).holding (vs := [kv])).rebase st₁).bind fun vd m₂ g₂ vv s₂ _ _ Rl₂ st₂ ⟨⟨hρ₂, fz₂⟩, q₂⟩ => ?_
    have q := q₁.trans' q₂
    have o₂ : g₂.O s.heap.objs.size := q.okeep _ ho f2
    have x₂ : ¬ g₂.X s.heap.objs.size := fun t => (q.xnew _ t).elim f2 fun u => u.no (Heap.get?_push_size s.heap (o := { cls := .type "dict", data := .dict #[] }) rfl)
    have hT₂ : DictT K.w g₂.O s₂.heap s.heap.objs.size [] := by
      have e := Heap.get?_push_size s.heap (o := { cls := .type "dict", data := .dict #[] }) rfl
      exact hT.at (Step.stay Rl' q) ((q.kept.exact e f2 f3).trans e.symm)
    have fk := fz₁.step Rl₁ q₂
    cases e : tupKey kd with
    | none => trivial
    | some key =>
      obtain ⟨a, rfl, ha, hk, hk1, hk2⟩ := fk.key (w := K.w) e
      refine Sim.ok fun E => wpAny_bind (wpAny_holding (wpAny_pure (wpAny_holding ?_)))
      rw [List.forIn_cons]
      obtain ⟨t1, _, xs, h3, h4, h5, h6⟩ := hT₂
      have e5 : xs.length ≤ sizeLine := by
        have e6 : xs = [] := by simpa using h4
        rw [e6]; exact Nat.zero_le _
      refine wpAny_bind (wpAny_bind (wpAny_bind (wpAny_dictSet_heap (hsz := e5) (knd := tupleKind (PySem.strKind P K.w)) (by show A.units < cLine; lia) hk h3 (fun h' hm hs => wpAny_pure ?_))))
      dsimp only
      rw [List.forIn_nil]
      refine wpAny_pure (wpAny_pure ⟨g₂, ⟨_, _, rfl⟩, ?_, ?_, (hρ₂.trans hρ₁).trans rfl, o₂, x₂, ?_⟩)
      · have hSd : ¬ SF K.fr s.heap.objs.size := f3
        refine Rl₂.but (fun b => b = s.heap.objs.size) g₂.O (fun b t _ => by subst t; obtain ⟨o, _, _, ho, _⟩ := hm; exact ⟨o, ho⟩) (fun b o hb e => (hs.2 b hb).trans e) (fun b t => t ▸ o₂) (fun b t => t ▸ x₂) (fun b t => t ▸ f3) (fun _ t => f4 t.symm) (fun _ t _ => t) fun _ t => .inl t
      · exact st₂.but (fun b => b = s.heap.objs.size) g₂.O (fun b o hb e => (hs.2 b hb).trans e) (fun b t => .inr (New.size (Nat.le_of_eq t.symm))) (fun _ t _ => t) fun _ t => .inl t
      · exact DictT.put2 (kvs := []) t1 h3 h4 h5 h6 o₂ hs hm ha hk1 hk2 fz₂ (by decide)
  have fin := Sim.bind (k := fun _ => pure (Value.ref s.heap.objs.size)) (f := fun (q : List Str × PyData) m => Out.ok (R.fresh (.dt [q])) m) (Q' := QE K (g, s.heap) g.ρ) inner
    (fun q m₃ g₃ _ s₃ _ _ Rl₃ st₃ ⟨h1, h2, h3, h4⟩ => Sim.pure Rl₃ st₃ ⟨h1, s.heap.objs.size, rfl, .inr (New.size (Nat.le_refl _)), h2, h3, f3, f4, h4⟩)
  simp only [Out.bind_assoc] at fin
  have e : ((evD n K.c k m).bind fun a m => (evD n K.c v m).bind fun b m => (match tupKey a with | some k => Out.ok (k, b) m | none => Out.stuck).bind fun q m => Out.ok (R.fresh (.dt [q])) m) =
      (evD n K.c k m).bind fun k m => (evD n K.c v m).bind fun v m => match tupKey k with | some k => .ok (.fresh (.dt [(k, v)])) m | none => .stuck := by
    congr 1; funext a m; congr 1; funext b m; cases tupKey a <;> rfl
  rw [e] at fin
  exact fin
end
end
section
open PySem PySem.W PyProof.Rows PySem.Calls
section
variable {CF : Addr} {K : Cfg} {A : Around} {z : St × Heap} {s : Shared} {g : St} {m : M} {n : Nat}

theorem SB_plain (he : SE CF n) (G : Go CF K A n) (Rl : Rel K g m s.heap) (e : Expr) :
    Sim CF K A (g, s.heap) (eval e K.env >>= fun v => standAt e.pos >>= fun _ => holding [v] (truthy v)) ((ev n K.c e m).bind fun a m => match truth (a.get m) with
      | some b => .ok b m
      | none => .stuck) (fun b _ g' v _ => g'.ρ = g.ρ ∧ v = b) s := by
  refine (he K A g m e s G Rl).bind fun a m₁ g₁ va s₁ _ _ Rl₁ st₁ ⟨hρ, ra⟩ => ?_
  cases e : truth (a.get m₁) with
  | none => trivial
  | some b => exact Sim.standAt (Sim.holding (Sim.ok fun E => truthy_at ra Rl₁ e ⟨g₁, .refl, Rl₁, st₁, hρ, rfl⟩))

theorem SB_succ (he : SE CF n) (he' : ∀ k, n = k + 1 → SE CF k) (hb : SBo CF n) : SB CF (n + 1) := fun K A g m e s G Rl => by
  have G' := G.le (k := n) (by lia)
  cases e with
  | BoolOp op vs p => exact hb K A g m op vs s G' Rl
  | UnaryOp op x p => exact Sim.stuck
  | IfExp a b c p => exact Sim.stuck
  | Compare l ops rs p =>
    show Sim CF K A (g, s.heap) _ ((ev n K.c (.Compare l ops rs p) m).bind _) _ s
    match ops, rs with
    | [op], [r] =>
      rw [isTrue_Compare1]
      cases n with
      | zero => exact Sim.stuck
      | succ k =>
        have hk := he' k rfl
        show Sim CF K A (g, s.heap) _ (((ev k K.c l m).bind fun a m => (ev k K.c r m).bind fun b m => match cmp op (a.get m) (b.get m) with
          | some q => Out.ok (R.v (.d (.bool q))) m
          | none => .stuck).bind fun a m => match truth (a.get m) with | some b => .ok b m | none => .stuck) _ s
        have main := simCmpAns (t := fun a b => operate [a, b] (compareOp op a b) >>= fun c => holding [c] (truthy c)) (f := fun q m => Out.ok q m) (Q := fun (b : Bool) _ g' (v : Bool) _ => g'.ρ = g.ρ ∧ v = b) hk (G'.le (k := k) (by lia)) Rl l op r p
          fun q g' m' s' va vb hρ Rl' st' h => by
            refine Sim.ok fun E => wpAny_bind (h E _ fun tk => wpAny_holding (wpAny_truthy_bool ⟨g', ⟨_, tk, rfl⟩, Rl', st', hρ, rfl⟩))
        refine Eq.mp ?_ main
        congr 1
        simp only [Out.bind_assoc]
        congr 1; funext a m; congr 1; funext b m
        cases cmp op (a.get m) (b.get m) <;> rfl
    | [], _ => cases n <;> exact Sim.stuck
    | [_], [] => cases n <;> exact Sim.stuck
    | [_], _ :: _ :: _ => cases n <;> exact Sim.stuck
    | _ :: _ :: _, _ => cases n <;> exact Sim.stuck
  | _ => exact SB_plain he G' Rl _

theorem SBo_succ (hb : SB CF n) (ho : SBo CF n) : SBo CF (n + 1) := fun K A g m op es s G Rl => by
  have G' := G.le (k := n) (by lia)
  cases es with
  | nil => exact Sim.pure Rl Rl.step ⟨rfl, rfl⟩
  | cons e es =>
    show Sim CF K A (g, s.heap) (isTrue e K.env (eval e K.env) >>= fun b => (match op, b with
      | .And, false => pure false
      | .Or, true => pure true
      | _, _ => allTrue op es K.env)) _ _ s
    refine (hb K A g m e s G' Rl).bind fun b m₁ g₁ v s₁ _ _ Rl₁ st₁ ⟨hρ, hv⟩ => ?_
    subst hv
    have next : Sim CF K A (g, s.heap) (allTrue op es K.env) (evBo n K.c op es m₁) (fun b _ g' v _ => g'.ρ = g.ρ ∧ v = b) s₁ :=
      ((ho K A g₁ m₁ op es s₁ G' Rl₁).rebase st₁).mono fun _ _ _ _ _ _ _ _ ⟨⟨a, b⟩, _⟩ => ⟨a.trans hρ, b⟩
    cases op <;> cases v
    · exact Sim.pure Rl₁ st₁ ⟨hρ, rfl⟩
    · exact next
    · exact next
    · exact Sim.pure Rl₁ st₁ ⟨hρ, rfl⟩
end
end
section
open PySem PySem.W PyProof.Rows PySem.Calls
section
variable {CF : Addr} {K : Cfg} {A : Around} {z : St × Heap} {s : Shared} {g : St} {m : M} {n : Nat} {h h' : Heap}

/-- the frames' own slots alone change -/
theorem Rel.slots (r : Rel K g m h) (hs : Heap.SlotsOnly (K.fr.filterMap (·.frame)) h h') : Rel K g m h' := by
  have out : ∀ b, ¬ SF K.fr b → h'.get? b = h.get? b := fun b hb => hs.2.1 b hb
  have dat : ∀ b o, h.get? b = some o → ∃ o', h'.get? b = some o' ∧ o'.data = o.data := fun b o e => let ⟨sl, e'⟩ := hs.2.2 b o e; ⟨_, e', rfl⟩
  have stay : Stay g.O h g.O h' := fun a o ha e => ⟨ha, (out a (r.sfo ha)).trans e⟩
  refine ⟨fun b o e => (out b fun q => by rw [r.ob b (r.so b q)] at e; cases e).trans (r.base b o e), r.ob, fun a q => (let ⟨o, e⟩ := r.olt a q; let ⟨_, e'⟩ := hs.2.2 a o e; ⟨_, e'⟩), r.xo, r.so, r.sx, r.xL, r.xC, fun y hy => ?_, ?_, r.vk, fun y e he => ?_, r.inj, fun x sv hx => ?_, ?_, r.pp⟩
  · obtain ⟨a, h1, o, h2, h3⟩ := r.cc y hy
    obtain ⟨o', h4, h5⟩ := dat a o h2
    exact ⟨a, h1, o', h4, h5.trans h3⟩
  · obtain ⟨nm, h1, h2⟩ := r.ns
    exact ⟨nm, Ns_at h1 fun o e => dat _ o e, h2⟩
  · obtain ⟨v, h1, h2, h3⟩ := r.vv y e he
    refine ⟨v, h1, fun q => (h2 q).stay stay, fun q => ?_⟩
    obtain ⟨a, h4, h5⟩ := h3 q
    exact ⟨a, h4, h5.x, h5.s, h5.l, h5.c, h5.v.at stay (out a h5.s)⟩
  · obtain ⟨h1, h2, h3, nm, v, h4, h5, h6⟩ := r.comp x sv hx
    exact ⟨h1, h2, h3, nm, v, Ns_at h4 fun o e => dat _ o e, h5, h6.stay stay⟩
  · exact ff_keep r.ff fun b o hb e => dat b o e

theorem Step.slots {S : AP} (st : Step S z g h) {l : List Addr} (hl : ∀ b, b ∈ l → S b) (hs : Heap.SlotsOnly l h h') : Step S z g h' := by
  refine ⟨st.zlt, st.zxo, ⟨fun b o e hb => ?_⟩, st.onew, st.xnew, st.okeep⟩
  obtain ⟨sl, e1, q1⟩ := st.kept.keep b o e hb
  obtain ⟨sl', e2⟩ := hs.2.2 b _ e1
  refine ⟨sl', e2, fun hS => ?_⟩
  have e3 := hs.2.1 b fun q => hS (hl b q)
  rw [e2, e1] at e3
  injection e3 with e3
  injection e3 with _ _ _ e4
  rw [e4]; exact q1 hS

/-- objects of J alone change: of what is new, put by, and no block's -/
structure Junk (K : Cfg) (z : St × Heap) (g : St) (a : Addr) : Prop where
  n : Mk z a
  o : g.O a
  x : ¬ g.X a
  s : ¬ SF K.fr a

theorem Rel.junk (r : Rel K g m h) {a : Addr} {o : Obj} (j : Junk K z g a) (ho : h.get? a = some o) (hf : ∃ vs, o.data = .fields vs) (hs : Heap.SameBut a h h') (hl : Live h' a) : Rel K g m h' :=
  r.but (fun b => b = a) g.O (fun b q _ => q ▸ hl) (fun b o hb e => (hs.2 b hb).trans e) (fun b q => q ▸ j.o) (fun b q => q ▸ j.x) (fun b q => q ▸ j.s) (fun hc q => by
    obtain ⟨⟨x, sv⟩, hx⟩ := Option.isSome_iff_exists.mp hc
    obtain ⟨_, _, _, nm, v, ⟨o', es, ep, ho', hd', _⟩, _⟩ := r.comp x sv hx
    rw [q, ho] at ho'; cases ho'
    obtain ⟨vs, e⟩ := hf
    rw [e] at hd'; cases hd') (fun _ q _ => q) fun _ q => .inl q
theorem Step.junk {S : AP} (st : Step S z g h) {a : Addr} (ha : Mk z a) (hs : Heap.SameBut a h h') : Step S z g h' :=
  st.but (fun b => b = a) g.O (fun b o hb e => (hs.2 b hb).trans e) (fun b q => q ▸ ha) (fun _ q _ => q) fun _ q => .inl q

/-- the same, with the traceback there -/
noncomputable def Traced (CF : Addr) (K : Cfg) (z : St × Heap) (g : St) (e : Value) (h : Heap) : Prop :=
  ∃ a o vs T oT ts f, e = .ref a ∧ Junk K z g a ∧ h.get? a = some o ∧ o.cls = .ref CF ∧ o.data = .fields vs ∧ vs[1]? = some (.ref T) ∧
    Junk K z g T ∧ T ≠ a ∧ h.get? T = some oT ∧ oT.data = .fields ts ∧ ts[3]? = some f

theorem Traced.thrown {e : Value} (x : Traced CF K z g e h) : Thrown CF (SF K.fr) z g e h := by
  obtain ⟨a, o, vs, T, oT, ts, f, h1, j, h2, h3, h4, h5, k, h6, h7, h8, h9⟩ := x
  exact ⟨a, o, vs, _, h1, j.n, j.o, j.x, j.s, h2, h3, h4, h5, .inr ⟨T, oT, ts, f, rfl, k.n, h6, k.o, k.x, k.s, h7, h8, h9⟩⟩

theorem wpAny_setField' {M : Model} {E : Value → Shared → Prop} {a : Addr} {o : Obj} {vs : Array Value} {i : Nat} {x : Value} {Q : Unit → Shared → Prop} (ho : s.heap.get? a = some o) (hd : o.data = .fields vs) (hi : i < vs.size)
    (h : ∀ h', Heap.SameBut a s.heap h' → h'.get? a = some { o with data := .fields (vs.setIfInBounds i x) } → Q () { s with heap := h' }) : wpAny M A (setField (.ref a) i x) Q E s := by
  refine wpAny_setField ho hd hi (h _ (Heap.SameBut.update ..) ?_)
  have hd' := Obj.data_mapFields hd (·.setIfInBounds i x)
  rw [Heap.get?_update_self _ ho (Obj.isFreed_of_fields hd')]
  obtain ⟨c, d, dt, sl⟩ := o
  simp only at hd
  subst hd
  rfl

/-- but records and frames, all keeps -/
noncomputable def KeepNR (K : Cfg) (g : St) (h : Heap) (g' : St) (h' : Heap) : Prop := g'.X = g.X ∧ (∀ a, g.O a → g'.O a) ∧ ∀ b o, h.get? b = some o → (∀ vs, o.data ≠ .fields vs) → ¬ SF K.fr b → h'.get? b = some o
theorem KeepNR.trans {g₁ g₂ g₃ : St} {h₁ h₂ h₃ : Heap} (x : KeepNR K g₁ h₁ g₂ h₂) (y : KeepNR K g₂ h₂ g₃ h₃) : KeepNR K g₁ h₁ g₃ h₃ :=
  ⟨y.1.trans x.1, fun a q => y.2.1 a (x.2.1 a q), fun b o e hd hs => y.2.2 b o (x.2.2 b o e hd hs) hd hs⟩
theorem KeepNR.refl {g₁ : St} {h₁ : Heap} : KeepNR K g₁ h₁ g₁ h₁ := ⟨rfl, fun _ q => q, fun _ _ e _ _ => e⟩
theorem KeepNR.same {g₁ : St} {h₁ h₂ : Heap} {a : Addr} {o : Obj} (ho : h₁.get? a = some o) (hf : ∃ vs, o.data = .fields vs) (hs : Heap.SameBut a h₁ h₂) : KeepNR K g₁ h₁ g₁ h₂ :=
  ⟨rfl, fun _ q => q, fun b o' e hd _ => (hs.2 b fun q => by
    subst q; rw [ho] at e; cases e
    obtain ⟨vs, hv⟩ := hf
    exact hd vs hv).trans e⟩

/-- the place of flight is set -/
theorem setFlight_at {e : Value} {f : Option Addr} {E : Value → Shared → Prop} {Q : Unit → Shared → Prop} (Rl : Rel K g m s.heap) (st : Step (SF K.fr) z g s.heap) (th : Traced CF K z g e s.heap)
    (hq : ∀ h', Rel K g m h' → Step (SF K.fr) z g h' → Traced CF K z g e h' → KeepNR K g s.heap g h' → Q () { s with heap := h' }) : wpAny (MK K) A (setFlight e f) Q E s := by
  obtain ⟨a, o, vs, T, oT, ts, f', rfl, j, h2, h3, h4, h5, k, h6, h7, h8, h9⟩ := th
  unfold setFlight
  refine wpAny_bind (wpAny_field h2 h4 h5 ?_)
  rw [if_pos (show (Value.ref T != Value.none) = true from by simp)]
  have hi := (Array.getElem?_eq_some_iff.mp h9).1
  refine wpAny_setField' h7 h8 hi fun h' hs hg => hq h' (Rl.junk k h7 ⟨_, h8⟩ hs ⟨_, hg⟩) (st.junk k.n hs) ?_ (.same h7 ⟨_, h8⟩ hs)
  exact ⟨a, o, vs, T, _, _, _, rfl, j, (hs.2 a (Ne.symm h6)).trans h2, h3, h4, h5, k, h6, hg, rfl, by rw [Array.getElem?_setIfInBounds_self_of_lt hi]⟩

/-- the entry of a traceback -/
theorem newEntry_at (H : EnvOk K.c K.env₀ K.env) (haf : A.frames = some K.fr) (hfr : ∃ outer, K.fr = K.env₀ :: outer) {env : Env} (hf : env.frame = some K.env₀.locals) {a : Addr} {o : Obj} {vs : Array Value} {hadNext : Bool}
    {head : Value} {E : Value → Shared → Prop} {Q : Unit → Shared → Prop} (Rl : Rel K g m s.heap) (st : Step (SF K.fr) z g s.heap) (j : Junk K z g a) (ho : s.heap.get? a = some o) (hc : o.cls = .ref CF) (hd : o.data = .fields vs) (hi : 1 < vs.size)
    (hq : ∀ g' h', Rel K g' m h' → Step (SF K.fr) z g' h' → g'.ρ = g.ρ → Traced CF K z g' (.ref a) h' → KeepNR K g s.heap g' h' → Q () { s with heap := h' }) :
    wpAny (MK K) A (do let fr ← PySem.frameOf env; let pl ← entryPlaceOf K.env₀.locals hadNext; let b ← EntryCells.newEntry head fr .none (rawInt K.env₀.locals) .none pl; setField (.ref a) 1 b) Q E s := by
  obtain ⟨outer, hout⟩ := hfr
  have hff := Rl.ff
  -- the frame object
  have hframe : ∀ {Q' : Value → Shared → Prop}, (∀ h', Heap.SlotsOnly (K.fr.filterMap (·.frame)) s.heap h' → Q' (.ref K.env₀.locals) { s with heap := h' }) → wpAny (MK K) A (PySem.frameOf env) Q' E s := fun {Q'} hQ' => by
    have hx : ∀ E', wpAny (MK K) A (PySem.frameOf env) Q' E' s := fun E' => by
      unfold PySem.frameOf
      refine wpAny_bind (wpAny_frameEnvs haf ?_)
      have hdw : (K.fr.dropWhile fun x => x.frame != env.frame) = K.fr := by
        rw [hout, hf, List.dropWhile_cons, H.f0]; simp
      rw [hdw]
      unfold frameObject
      rw [hout]
      rw [hout] at hff hQ'
      refine wpAny_bind (wpAny_bind (wpAny_readyFrames_fun hff fun h₁ hs₁ => wpAny_pure ?_))
      rw [H.f0]
      exact wpAny_pure (hQ' h₁ hs₁)
    exact hx E
  refine wpAny_bind (hframe fun h₁ hs₁ => ?_)
  have Rl₁ := Rl.slots hs₁
  have st₁ := st.slots (fun b q => q) hs₁
  have ho₁ : h₁.get? a = some o := (hs₁.2.1 a j.s).trans ho
  refine wpAny_bind (wpAny_entryPlaceOf fun pl hpl => ?_)
  unfold EntryCells.newEntry newFields
  refine wpAny_bind (wpAny_newObj_type ?_ (hpl.sizeOk5 _ _ _ _ _))
  obtain ⟨f1, f2, f3, f4⟩ := Rl₁.fresh H (New.size (Nat.le_refl _))
  have Rl₂ := Rl₁.new { cls := .type "traceback", dict := none, data := .fields ([head, .ref K.env₀.locals, .none, rawInt K.env₀.locals, .none] ++ (if pl.isEmpty then List.replicate 6 Value.none else pl)).toArray }
  have st₂ := st₁.new { cls := .type "traceback", dict := none, data := .fields ([head, .ref K.env₀.locals, .none, rawInt K.env₀.locals, .none] ++ (if pl.isEmpty then List.replicate 6 Value.none else pl)).toArray }
  have ho₂ := Heap.get?_push_of_some (h := h₁) { cls := .type "traceback", dict := none, data := .fields ([head, .ref K.env₀.locals, .none, rawInt K.env₀.locals, .none] ++ (if pl.isEmpty then List.replicate 6 Value.none else pl)).toArray } ho₁
  have hT₂ := Heap.get?_push_size h₁ (o := { cls := .type "traceback", dict := none, data := .fields ([head, .ref K.env₀.locals, .none, rawInt K.env₀.locals, .none] ++ (if pl.isEmpty then List.replicate 6 Value.none else pl)).toArray }) rfl
  have hne : h₁.objs.size ≠ a := Nat.ne_of_gt (Heap.lt_size ho₁)
  have j₂ : Junk K z (gNew g h₁) a := ⟨j.n, .inl j.o, j.x, j.s⟩
  have k₂ : Junk K z (gNew g h₁) h₁.objs.size := ⟨st₁.mid (New.size (Nat.le_refl _)), .inr rfl, f2, f3⟩
  refine wpAny_setField' (s := { s with heap := h₁.push { cls := .type "traceback", dict := none, data := .fields ([head, .ref K.env₀.locals, .none, rawInt K.env₀.locals, .none] ++ (if pl.isEmpty then List.replicate 6 Value.none else pl)).toArray } }) ho₂ hd hi fun h₃ hs₃ hg₃ => ?_
  refine hq _ h₃ (Rl₂.junk j₂ ho₂ ⟨_, hd⟩ hs₃ ⟨_, hg₃⟩) (st₂.junk j.n hs₃) rfl ?_ ?_
  rotate_left
  · refine KeepNR.trans (g₂ := gNew g h₁) (h₂ := h₁.push { cls := .type "traceback", dict := none, data := .fields ([head, .ref K.env₀.locals, .none, rawInt K.env₀.locals, .none] ++ (if pl.isEmpty then List.replicate 6 Value.none else pl)).toArray }) ⟨rfl, fun _ q => .inl q, fun b o' e _ hs => Heap.get?_push_of_some _ ((hs₁.2.1 b hs).trans e)⟩ (.same ho₂ ⟨_, hd⟩ hs₃)
  exact ⟨a, _, _, h₁.objs.size, _, _, rawInt K.env₀.locals, rfl, j₂, hg₃, hc, rfl, by rw [Array.getElem?_setIfInBounds_self_of_lt hi], k₂, hne, (hs₃.2 _ hne).trans hT₂, rfl, by simp⟩

theorem noteFrame_at (H : EnvOk K.c K.env₀ K.env) (haf : A.frames = some K.fr) (hfr : ∃ outer, K.fr = K.env₀ :: outer) {env : Env} (hf : env.frame = some K.env₀.locals) {e : Value}
    {E : Value → Shared → Prop} {Q : Unit → Shared → Prop} (Rl : Rel K g m s.heap) (st : Step (SF K.fr) z g s.heap) (th : Thrown CF (SF K.fr) z g e s.heap)
    (hq : ∀ g' h', Rel K g' m h' → Step (SF K.fr) z g' h' → g'.ρ = g.ρ → Traced CF K z g' e h' → KeepNR K g s.heap g' h' → Q () { s with heap := h' }) : wpAny (MK K) A (noteFrame e env) Q E s := by
  obtain ⟨a, o, vs, tb, rfl, h1, h2, h3, h4, h5, h6, h7, h8, h9⟩ := th
  have j : Junk K z g a := ⟨h1, h2, h3, h4⟩
  unfold noteFrame
  simp only [hf]
  refine wpAny_bind (wpAny_field h5 h7 h8 ?_)
  have hi := (Array.getElem?_eq_some_iff.mp h8).1
  rcases h9 with rfl | ⟨T, oT, ts, f, rfl, k1, k2, k3, k4, k5, k6, k7, k8⟩
  · rw [if_neg (by decide)]
    exact newEntry_at H haf hfr hf Rl st j h5 h6 h7 hi hq
  · have k : Junk K z g T := ⟨k1, k3, k4, k5⟩
    rw [if_pos (show (Value.ref T != Value.none) = true from by simp)]
    refine wpAny_bind (wpAny_field k6 k7 k8 ?_)
    by_cases he : (f == rawInt K.env₀.locals) = true
    · rw [if_pos he]
      exact wpAny_pure (hq g s.heap Rl st rfl ⟨a, o, vs, T, oT, ts, f, rfl, j, h5, h6, h7, h8, k, k2, k6, k7, k8⟩ .refl)
    · rw [if_neg he]
      refine wpAny_bind (wpAny_setField' k6 k7 (Array.getElem?_eq_some_iff.mp k8).1 fun h' hs hg => ?_)
      exact newEntry_at (s := { s with heap := h' }) H haf hfr hf (Rl.junk k k6 ⟨_, k7⟩ hs ⟨_, hg⟩) (st.junk k.n hs) j ((hs.2 a (Ne.symm k2)).trans h5) h6 h7 hi fun g' h'' a1 a2 a3 a4 a5 => hq g' h'' a1 a2 a3 a4 (KeepNR.trans (.same k6 ⟨_, k7⟩ hs) a5)

theorem leaving_at (H : EnvOk K.c K.env₀ K.env) (haf : A.frames = some K.fr) (hfr : ∃ outer, K.fr = K.env₀ :: outer) {env : Env} (hf : env.frame = some K.env₀.locals) {e : Value}
    {E : Value → Shared → Prop} {Q : Unit → Shared → Prop} (Rl : Rel K g m s.heap) (st : Step (SF K.fr) z g s.heap) (th : Thrown CF (SF K.fr) z g e s.heap)
    (hq : ∀ g' h', Rel K g' m h' → Step (SF K.fr) z g' h' → g'.ρ = g.ρ → Traced CF K z g' e h' → Q () { s with heap := h' }) : wpAny (MK K) A (leaving env e) Q E s := by
  unfold leaving
  refine wpAny_bind (noteFrame_at H haf hfr hf Rl st th fun g' h' Rl' st' hρ th' _ => ?_)
  exact setFlight_at (s := { s with heap := h' }) Rl' st' th' fun h'' Rl'' st'' th'' _ => hq g' h'' Rl'' st'' hρ th''
end
end
section
open PySem PySem.W PyProof.Rows PySem.Calls
noncomputable def scopeOk (sc : Scope) (ps : List Str) : Bool :=
  sc.kind == .function && !sc.isCoroutine && !sc.isGenerator && ps.all (fun p => sc.names.lookup p == some .local || sc.names.lookup p == some .cell) &&
  decide ((cellsFrom 0 sc.names []).map (·.1)).Nodup && decide ps.Nodup && sc.names.all (fun p => sc.names.lookup p.1 == some p.2)

theorem funs_ok : ∀ f fd, funs f = some fd → scopeOk fd.scope fd.ps = true := by
  have all : (PySem.Challenge.pw_pb0003_01.main.body.filterMap fdOf).all (fun p => scopeOk p.2.scope p.2.ps) = true := by decide +kernel
  intro f fd h
  have := mem_of_lookup h
  exact List.all_eq_true.mp all _ this

section
variable {K : Cfg} {z : St × Heap} {g : St} {m m₀ m₁ m' : M} {h h' : Heap} {ps : List Str} {rs : List R} {vs : List Value}

inductive ArgsR (K : Cfg) (g : St) (m : M) (h : Heap) : List Str → List R → List Value → M → Prop
  | nil : ArgsR K g m h [] [] [] []
  | val {p ps x rs v vs m₀} : FV K.w g.O h v x → ArgsR K g m h ps rs vs m₀ → ArgsR K g m h (p :: ps) (.v x :: rs) (v :: vs) ((p, ⟨false, x⟩) :: m₀)
  | var {p ps y rs v vs m₀ e} : m.lookup y = some e → e.own = true → g.ρ y = some v → ArgsR K g m h ps rs vs m₀ → ArgsR K g m h (p :: ps) (.var y :: rs) (v :: vs) ((p, e) :: m₀)

theorem bindP_args {ps rs vs} (x : RRs K z g h rs vs) : ∀ {m₀}, bindP ps rs m = some m₀ → ArgsR K g m h ps rs vs m₀ := by
  induction x generalizing ps with
  | nil => intro m₀ e; cases ps with
    | nil => cases e; exact .nil
    | cons _ _ => exact none_some e
  | @cons r v rs vs a rr ih =>
    intro m₀ e
    cases ps with
    | nil => exact none_some e
    | cons p ps =>
      obtain ⟨en, h1, e⟩ := Option.bind_eq_some_iff.mp (e : (bind1 m _).bind _ = some m₀)
      obtain ⟨m₂, h2, rfl⟩ := Option.map_eq_some_iff.mp e
      cases r with
      | v x => cases h1; exact .val a (ih h2)
      | fresh x => exact none_some h1
      | var y =>
        obtain ⟨en', hl, h1⟩ := Option.bind_eq_some_iff.mp h1
        rcases Bool.eq_false_or_eq_true en'.own with ho | ho
        · rw [if_pos ho] at h1; cases h1; exact .var hl ho a (ih h2)
        · rw [if_neg (by rw [ho]; exact Bool.false_ne_true)] at h1; exact none_some h1

theorem ArgsR.len {ps rs vs m₀} (x : ArgsR K g m h ps rs vs m₀) : vs.length = ps.length := by
  induction x with
  | nil => rfl
  | val _ _ ih => exact congrArg Nat.succ ih
  | var _ _ _ _ ih => exact congrArg Nat.succ ih

theorem lk_hit {A B : Type} [BEq A] {p p' : A} {v : B} {l : List (A × B)} (h : (p == p') = true) : ((p', v) :: l).lookup p = some v := by rw [List.lookup_cons, h]
theorem lk_miss {A B : Type} [BEq A] {p p' : A} {v : B} {l : List (A × B)} (h : (p == p') = false) : ((p', v) :: l).lookup p = l.lookup p := by rw [List.lookup_cons, h]

theorem ArgsR.ent {ps rs vs m₀} (x : ArgsR K g m h ps rs vs m₀) : ∀ {p e}, m₀.lookup p = some e → p ∈ ps ∧ ∃ v, (ps.zip vs).lookup p = some v ∧
    ((e.own = false ∧ FV K.w g.O h v e.v) ∨ (e.own = true ∧ ∃ y, y ∈ varsOf rs ∧ m.lookup y = some e ∧ g.ρ y = some v)) := by
  induction x with
  | nil => intro p e q; cases q
  | @val p' _ x _ v _ _ a r ih =>
    intro p e q
    cases hp : p == p' with
    | true =>
      rw [lk_hit hp] at q; cases q
      exact ⟨by rw [beq_iff_eq.mp hp]; exact .head _, v, lk_hit hp, .inl ⟨rfl, a⟩⟩
    | false =>
      rw [lk_miss hp] at q
      exact (ih q).imp (.tail _) fun ⟨w, h2, h3⟩ => ⟨w, (lk_miss hp).trans h2, h3⟩
  | @var p' _ y _ v _ _ e' a b c r ih =>
    intro p e q
    cases hp : p == p' with
    | true =>
      rw [lk_hit hp] at q; cases q
      exact ⟨by rw [beq_iff_eq.mp hp]; exact .head _, v, lk_hit hp, .inr ⟨b, y, .head _, a, c⟩⟩
    | false =>
      rw [lk_miss hp] at q
      exact (ih q).imp (.tail _) fun ⟨w, h2, h3⟩ => ⟨w, (lk_miss hp).trans h2, h3.imp id fun ⟨x, y', k1, k2⟩ => ⟨x, y', .tail _ k1, k2⟩⟩

theorem ArgsR.inj (Rl : Rel K g m h) {ps rs vs m₀} (x : ArgsR K g m h ps rs vs m₀) : (varsOf rs).Nodup → ∀ {p q e f a}, m₀.lookup p = some e → m₀.lookup q = some f → e.own = true → f.own = true →
    (ps.zip vs).lookup p = some (.ref a) → (ps.zip vs).lookup q = some (.ref a) → p = q := by
  induction x with
  | nil => intro _ p q e f a q; cases q
  | @val p' _ _ _ _ _ _ _ r ih =>
    intro hn p q e f a h1 h2 h3 h4 h5 h6
    cases hp : p == p' with
    | true => rw [lk_hit hp] at h1; cases h1; cases h3
    | false =>
      cases hq : q == p' with
      | true => rw [lk_hit hq] at h2; cases h2; cases h4
      | false => exact ih hn ((lk_miss hp).symm.trans h1) ((lk_miss hq).symm.trans h2) h3 h4 ((lk_miss hp).symm.trans h5) ((lk_miss hq).symm.trans h6)
  | @var p' ps' y rs' v vs' m₂ e' a' b' c' r ih =>
    intro hn p q e f a h1 h2 h3 h4 h5 h6
    have hn' : y ∉ varsOf rs' ∧ (varsOf rs').Nodup := List.nodup_cons.mp hn
    have clash : ∀ {x : Str} {ex : Ent}, (ps'.zip vs').lookup x = some (.ref a) → m₂.lookup x = some ex → ex.own = true → v = .ref a → False := fun {x ex} k1 k2 k3 k4 => by
      obtain ⟨_, v', k5, k6⟩ := r.ent k2
      rw [k1] at k5; cases k5
      rcases k6 with ⟨k6, _⟩ | ⟨_, y', k7, k8, k9⟩
      · rw [k3] at k6; cases k6
      · subst k4
        exact hn'.1 (Rl.inj y y' e' ex a a' k8 b' k3 c' k9 ▸ k7)
    cases hp : p == p' with
    | true =>
      cases hq : q == p' with
      | true => exact (beq_iff_eq.mp hp).trans (beq_iff_eq.mp hq).symm
      | false => exact (clash ((lk_miss hq).symm.trans h6) ((lk_miss hq).symm.trans h2) h4 (Option.some.inj ((lk_hit hp).symm.trans h5))).elim
    | false =>
      cases hq : q == p' with
      | true => exact (clash ((lk_miss hp).symm.trans h5) ((lk_miss hp).symm.trans h1) h3 (Option.some.inj ((lk_hit hq).symm.trans h6))).elim
      | false => exact ih hn'.2 ((lk_miss hp).symm.trans h1) ((lk_miss hq).symm.trans h2) h3 h4 ((lk_miss hp).symm.trans h5) ((lk_miss hq).symm.trans h6)

theorem ArgsR.owned {ps rs vs m₀} (x : ArgsR K g m h ps rs vs m₀) : ∀ {y}, y ∈ varsOf rs → ∃ e v, m.lookup y = some e ∧ e.own = true ∧ g.ρ y = some v := by
  induction x with
  | nil => intro _ q; cases q
  | val _ _ ih => exact ih
  | var a b c _ ih =>
    intro _ q
    rcases List.mem_cons.mp q with rfl | q
    · exact ⟨_, _, a, b, c⟩
    · exact ih q

theorem ArgsR.back {ps rs vs m₀} (x : ArgsR K g m h ps rs vs m₀) : ps.Nodup → ∀ {m m' : M}, back ps rs m₁ m = some m' → ∀ {y e}, m'.lookup y = some e →
    (y ∉ varsOf rs ∧ m.lookup y = some e) ∨ (y ∈ varsOf rs ∧ ∃ p v, p ∈ ps ∧ m₁.lookup p = some e ∧ (ps.zip vs).lookup p = some v ∧ g.ρ y = some v) := by
  induction x with
  | nil => intro _ m m' e y en q; cases e; exact .inl ⟨List.not_mem_nil, q⟩
  | @val p' ps' _ _ _ _ _ _ r ih =>
    intro hn m m' e y en q
    have hn' := List.nodup_cons.mp hn
    refine (ih hn'.2 (m := m) (m' := m') e q).imp id fun ⟨k1, p, v, k2, k3, k4, k5⟩ => ⟨k1, p, v, .tail _ k2, k3, (lk_miss ?_).trans k4, k5⟩
    exact beq_eq_false_iff_ne.mpr fun t : p = p' => hn'.1 (t ▸ k2)
  | @var p' ps' y' _ v' _ _ _ a b c r ih =>
    intro hn m m' e y en q
    have hn' := List.nodup_cons.mp hn
    have e' : (match m₁.lookup p' with | some e => Mine.back ps' _ m₁ (upd m y' e) | none => none) = some m' := e
    cases hl : m₁.lookup p' with
    | none => rw [hl] at e'; cases e'
    | some e₁ =>
      rw [hl] at e'
      rcases ih hn'.2 e' q with ⟨k1, k2⟩ | ⟨k1, p, v, k2, k3, k4, k5⟩
      · rw [lookup_upd] at k2
        by_cases hy : y = y'
        · subst hy
          rw [if_pos rfl] at k2; cases k2
          exact .inr ⟨.head _, p', v', .head _, hl, lk_hit (beq_iff_eq.mpr rfl), c⟩
        · rw [if_neg hy] at k2
          exact .inl ⟨fun t => (List.mem_cons.mp t).elim hy k1, k2⟩
      · exact .inr ⟨.tail _ k1, p, v, .tail _ k2, k3, (lk_miss (beq_eq_false_iff_ne.mpr fun t : p = p' => hn'.1 (t ▸ k2))).trans k4, k5⟩

theorem bindL_eq (kind : Str → Option NameKind) : ∀ (bs : List (Str × Value)) (x : Str) (m : Str → Option Value), (bs.map (·.1)).Nodup → kind x = some .local → bindL kind bs m x = ((bs.lookup x).or (m x))
  | [], x, m, _, _ => by simp [bindL]
  | (k, v) :: r, x, m, hn, hx => by
    rw [List.map_cons, List.nodup_cons] at hn
    unfold bindL
    rw [bindL_eq kind r x _ hn.2 hx, List.lookup_cons]
    by_cases e : x = k
    · subst e
      have : r.lookup x = none := lookup_none_of.mpr hn.1
      simp [this, hx]
    · have : (x == k) = false := by simpa using e
      rw [this]
      split <;> simp [e]
theorem bindC_eq (kind : Str → Option NameKind) : ∀ (bs : List (Str × Value)) (x : Str) (m : Str → Option Value), (bs.map (·.1)).Nodup → kind x ≠ some .local → bindC kind bs m x = ((bs.lookup x).or (m x))
  | [], x, m, _, _ => by simp [bindC]
  | (k, v) :: r, x, m, hn, hx => by
    rw [List.map_cons, List.nodup_cons] at hn
    unfold bindC
    rw [bindC_eq kind r x _ hn.2 hx, List.lookup_cons]
    by_cases e : x = k
    · subst e
      have : r.lookup x = none := lookup_none_of.mpr hn.1
      simp [this, hx]
    · have : (x == k) = false := by simpa using e
      rw [this]
      split <;> simp [e]
end
end
section
open PySem PySem.W PyProof.Rows PySem.Calls
/-- the callee's configuration -/
noncomputable def cfgOf (K : Cfg) (fd : FD) (vs : List Value) (env : Env) : Cfg :=
  { w := K.w, B := K.B, fr := env :: K.fr, c := ⟨fd.scope, fd.ps, fd.scope, none⟩, env₀ := env, env := env, pv := fun y => (fd.ps.zip vs).lookup y }

/-- the callee's state -/
noncomputable def stOf (g : St) (fd : FD) (vs : List Value) (m₀ : M) (cells : List (Str × Addr)) (L : Addr) : St :=
  { O := fun a => g.O a ∨ a = L ∨ ∃ n, (n, a) ∈ cells
    X := fun a => a = L ∨ (∃ n, (n, a) ∈ cells) ∨ ∃ p e, m₀.lookup p = some e ∧ e.own = true ∧ (fd.ps.zip vs).lookup p = some (.ref a)
    ρ := fun y => (fd.ps.zip vs).lookup y }

theorem SF_cons {env : Env} {fr : List Env} {L : Addr} (hf : env.frame = some L) {a : Addr} : SF (env :: fr) a ↔ a = L ∨ SF fr a := by
  simp [SF, List.filterMap_cons, hf]

section
variable {CF : Addr} {K : Cfg} {A : Around} {z : St × Heap} {g g₁ : St} {m m₀ m₁ m' : M} {h h₁ h₂ : Heap} {rs : List R} {vs : List Value} {fd : FD} {env : Env} {n : Nat}

/-- what is known where a call has been entered -/
structure Entered (fd : FD) (vs : List Value) (env : Env) (h h₁ : Heap) : Prop where
  sc : env.scope = fd.scope
  gl : env.globals = mainGlobals
  bi : env.builtins = builtinsNs
  fr : env.frame = some env.locals
  ok : scopeOk fd.scope fd.ps = true
  keep : ∀ b o, h.get? b = some o → h₁.get? b = some o
  newL : New h env.locals
  newC : ∀ y a, (y, a) ∈ env.cells → New h a
  ns : ∃ nm, h₁.Ns env.locals nm ∧ ∀ y, fd.scope.names.lookup y = some .local → nm y = (fd.ps.zip vs).lookup y
  cells : ∀ y, fd.scope.names.lookup y = some .cell → ∃ a, env.cells.lookup y = some a
  cell : ∀ y a, env.cells.lookup y = some a → h₁.IsCell a ((fd.ps.zip vs).lookup y)
  uniq : ∀ y a, (y, a) ∈ env.cells → env.cells.lookup y = some a
  apart : env.cells.Pairwise fun x y => x.2 ≠ y.2
  above : ∀ y a, (y, a) ∈ env.cells → env.locals < a

theorem Entered.kind (x : Entered fd vs env h h₁) : env.scope.kind = .function := by
  have := x.ok
  unfold scopeOk at this
  simp only [Bool.and_eq_true, beq_iff_eq] at this
  rw [x.sc]; exact this.1.1.1.1.1.1

theorem Entered.nodup (x : Entered fd vs env h h₁) : fd.ps.Nodup := by
  have := x.ok
  unfold scopeOk at this
  simp only [Bool.and_eq_true, decide_eq_true_eq] at this
  exact this.1.2

theorem Entered.envOk (x : Entered fd vs env h h₁) : EnvOk (cfgOf K fd vs env).c (cfgOf K fd vs env).env₀ (cfgOf K fd vs env).env where
  s0 := x.sc
  k0 := x.kind
  g0 := x.gl
  b0 := x.bi
  f0 := x.fr
  kind := x.kind
  g1 := x.gl
  b1 := x.bi
  f1 := x.fr
  fn := fun _ => ⟨rfl, rfl⟩
  loc := fun y hy => by show env.scope.names.lookup y = _; rw [x.sc]; exact hy
  free := fun y hc => by cases hc
  gl := fun y hy => by show env.scope.names.lookup y = _; rw [x.sc]; exact hy
  ci := fun y z a h1 h2 => name_of_addr x.apart (mem_of_lookup h1) (mem_of_lookup h2)
  cL := fun y a h1 => Nat.ne_of_gt (x.above y a (mem_of_lookup h1))

theorem Entered.liveL (x : Entered fd vs env h h₁) : Live h₁ env.locals := let ⟨_, ⟨o, _, _, ho, _⟩, _⟩ := x.ns; ⟨o, ho⟩

theorem ArgsR.addr (Rl : Rel K g m h) (ar : ArgsR K g m h fd.ps rs vs m₀) {p e a} (h1 : m₀.lookup p = some e) (h2 : e.own = true) (h3 : (fd.ps.zip vs).lookup p = some (.ref a)) : OwnAt K g h a e.v := by
  obtain ⟨_, v, k1, k2⟩ := ar.ent h1
  rw [h3] at k1; cases k1
  rcases k2 with ⟨k, _⟩ | ⟨_, y, k3, k4, k5⟩
  · rw [h2] at k; cases k
  · obtain ⟨v, q1, _, q3⟩ := Rl.vv y e k4
    rw [k5] at q1; cases q1
    obtain ⟨b, q4, q5⟩ := q3 h2
    cases q4; exact q5

theorem Rel.enter (Rl : Rel K g m h) (ar : ArgsR K g m h fd.ps rs vs m₀) (hn : (varsOf rs).Nodup) (x : Entered fd vs env h h₁) :
    Rel (cfgOf K fd vs env) (stOf g fd vs m₀ env.cells env.locals) m₀ h₁ := by
  have newO : ∀ a, (a = env.locals ∨ ∃ n, (n, a) ∈ env.cells) → New h a ∧ Live h₁ a := fun a q => by
    rcases q with rfl | ⟨n, q⟩
    · exact ⟨x.newL, x.liveL⟩
    · obtain ⟨o, ho, _⟩ := x.cell n a (x.uniq n a q)
      exact ⟨x.newC n a q, o, ho⟩
  have stay : Stay g.O h (stOf g fd vs m₀ env.cells env.locals).O h₁ := fun a o ha e => ⟨fun q => q.elim ha fun t => (newO a t).1.no e, x.keep a o e⟩
  have newB : ∀ a, New h a → K.B.get? a = none := fun a ha => by
    cases hb : K.B.get? a with
    | none => rfl
    | some o => exact (ha.no (Rl.base a o hb)).elim
  have hkind : ∀ p ∈ fd.ps, fd.scope.names.lookup p = some .local ∨ fd.scope.names.lookup p = some .cell := fun p hp => by
    have := x.ok
    unfold scopeOk at this
    simp only [Bool.and_eq_true, List.all_eq_true, Bool.or_eq_true, beq_iff_eq] at this
    exact this.1.1.1.2 p hp
  refine ⟨fun b o e => x.keep b o (Rl.base b o e), fun a q => ?_, fun a q => ?_, fun a q => ?_, fun a q => ?_, fun a q => ?_, .inl rfl, fun y a q => .inr (.inl ⟨y, mem_of_lookup q⟩), fun y hy => ?_, ?_, fun y e he => ?_, fun y e he => ?_, fun y u e f a hy hu he hf => ?_, (fun _ _ hx => by cases hx), ?_, fun _ _ => rfl⟩
  · rcases q with q | q
    · exact Rl.ob a q
    · exact newB a (newO a q).1
  · rcases q with q | q
    · obtain ⟨o, e⟩ := Rl.olt a q
      exact ⟨o, x.keep a o e⟩
    · exact (newO a q).2
  · rcases q with q | ⟨y, q⟩ | ⟨p, e, h1, h2, h3⟩
    · exact .inr (.inl q)
    · exact .inr (.inr ⟨y, q⟩)
    · exact .inl (Rl.xo a (ar.addr Rl h1 h2 h3).x)
  · rcases (SF_cons x.fr).mp q with rfl | q
    · exact .inr (.inl rfl)
    · exact .inl (Rl.so a q)
  · rcases (SF_cons x.fr).mp q with rfl | q
    · exact .inl rfl
    · refine .inr fun t => ?_
      have hlt := Rl.olt a (Rl.so a q)
      rcases t with t | ⟨y, t⟩ | ⟨p, e, h1, h2, h3⟩
      · subst t; exact x.newL.not hlt
      · exact (x.newC y a t).not hlt
      · exact (ar.addr Rl h1 h2 h3).s q
  · have hy' : fd.scope.names.lookup y = some .cell := by rw [← x.sc]; exact hy
    obtain ⟨a, ha⟩ := x.cells y hy'
    obtain ⟨o, h1, h2⟩ := x.cell y a ha
    exact ⟨a, ha, o, h1, h2⟩
  · obtain ⟨nm, h1, h2⟩ := x.ns
    refine ⟨nm, h1, fun y hy => h2 y ?_⟩
    rw [← x.sc]; exact hy
  · obtain ⟨hp, _⟩ := ar.ent he
    have := hkind y hp
    rw [← x.sc] at this
    exact this
  · obtain ⟨hp, v, h1, h2⟩ := ar.ent he
    refine ⟨v, h1, fun ho => ?_, fun ho => ?_⟩
    · rcases h2 with ⟨_, h2⟩ | ⟨h2, _⟩
      · exact h2.stay stay
      · rw [ho] at h2; cases h2
    · rcases h2 with ⟨h2, _⟩ | ⟨_, y', h3, h4, h5⟩
      · rw [ho] at h2; cases h2
      · obtain ⟨v', q1, _, q3⟩ := Rl.vv y' e h4
        rw [h5] at q1; cases q1
        obtain ⟨a, rfl, w⟩ := q3 ho
        obtain ⟨o, hob⟩ := w.v.there
        have hlt : Live h a := ⟨o, hob⟩
        refine ⟨a, rfl, .inr (.inr ⟨y, e, he, ho, h1⟩), fun t => ?_, fun t => ?_, fun u b t q => ?_, w.v.at stay ((x.keep a o hob).trans hob.symm)⟩
        · rcases (SF_cons x.fr).mp t with t | t
          · subst t; exact x.newL.not hlt
          · exact w.s t
        · subst t; exact x.newL.not hlt
        · subst q; exact (x.newC u b (mem_of_lookup t)).not hlt
  · exact fun e1 e2 => ar.inj Rl hn hy hu he hf e1 e2
  · obtain ⟨nm, hns, _⟩ := x.ns
    refine Heap.FunFrames.cons (by show env.scope.kind ≠ _; rw [x.kind]; decide) x.fr hns (newB _ x.newL) ?_
    exact ff_keep Rl.ff fun b o _ e => ⟨o, x.keep b o e, rfl⟩

/-- the caller's state behind the call -/
noncomputable def stBack (g g₀ g₁ : St) : St := { O := g₁.O, X := fun b => g.X b ∧ (¬ g₀.X b ∨ g₁.X b), ρ := g.ρ }

theorem Rel.leave (Rl : Rel K g m h) (ar : ArgsR K g m h fd.ps rs vs m₀) (x : Entered fd vs env h h₁) (Rl₁ : Rel (cfgOf K fd vs env) g₁ m₁ h₂)
    (st₁ : Step (SF (env :: K.fr)) (stOf g fd vs m₀ env.cells env.locals, h₁) g₁ h₂) (hb : back fd.ps rs m₁ m = some m') (st : Step (SF K.fr) z g h) (H : EnvOk K.c K.env₀ K.env) :
    Rel K (stBack g (stOf g fd vs m₀ env.cells env.locals) g₁) m' h₂ ∧ Step (SF K.fr) z (stBack g (stOf g fd vs m₀ env.cells env.locals) g₁) h₂ := by
  -- the callee's own
  have xX : ∀ a, (stOf g fd vs m₀ env.cells env.locals).X a → New h a ∨ (g.X a ∧ ∃ sv, OwnAt K g h a sv) := fun a q => by
    rcases q with q | ⟨y, q⟩ | ⟨p, e, h1, h2, h3⟩
    · subst q; exact .inl x.newL
    · exact .inl (x.newC y a q)
    · exact .inr ⟨(ar.addr Rl h1 h2 h3).x, e.v, ar.addr Rl h1 h2 h3⟩
  have back1 : ∀ a, New h₁ a → New h a := fun a q => by
    rcases live_or h a with ⟨o, e⟩ | t
    · exact (q.no (x.keep a o e)).elim
    · exact t
  -- what keeps
  have keep : ∀ a o, h.get? a = some o → ¬ (stOf g fd vs m₀ env.cells env.locals).X a → ∃ sl, h₂.get? a = some { o with slots := sl } ∧ (¬ SF K.fr a → sl = o.slots) := fun a o e hx => by
    obtain ⟨sl, e1, q1⟩ := st₁.kept.keep a o (x.keep a o e) hx
    refine ⟨sl, e1, fun hs => q1 fun t => ?_⟩
    rcases (SF_cons x.fr).mp t with t | t
    · subst t; exact x.newL.no e
    · exact hs t
  have exact' : ∀ a o, h.get? a = some o → ¬ (stOf g fd vs m₀ env.cells env.locals).X a → ¬ SF K.fr a → h₂.get? a = some o := fun a o e hx hs => by
    obtain ⟨sl, e1, q1⟩ := keep a o e hx
    rw [q1 hs] at e1; exact e1
  have notXnew : ∀ a, Live h a → ¬ g.X a → ¬ (stOf g fd vs m₀ env.cells env.locals).X a := fun a ha hx q => (xX a q).elim (fun t => t.not ha) fun t => hx t.1
  have okeep : ∀ a, g.O a → ¬ (stOf g fd vs m₀ env.cells env.locals).X a → g₁.O a := fun a ha hx => st₁.okeep a (.inl ha) hx
  have onew : ∀ a, g₁.O a → g.O a ∨ New h a := fun a q => (st₁.onew a q).elim (fun t => t.imp id fun t => t.elim (fun t => t ▸ x.newL) fun ⟨n, t⟩ => x.newC n a t) fun t => .inr (back1 a t)
  have stay : Stay g.O h g₁.O h₂ := fun a o ha e =>
    ⟨fun q => (onew a q).elim ha fun t => t.no e, exact' a o e (notXnew a ⟨o, e⟩ (Rl.xno ha)) (Rl.sfo ha)⟩
  have LX : ¬ (stOf g fd vs m₀ env.cells env.locals).X K.env₀.locals := fun q => (xX _ q).elim (fun t => t.not (Rl.olt _ (Rl.xo _ Rl.xL))) fun ⟨_, _, w⟩ => w.l rfl
  have cX : ∀ y a, K.env₀.cells.lookup y = some a → ¬ (stOf g fd vs m₀ env.cells env.locals).X a := fun y a hy q => (xX a q).elim (fun t => t.not (Rl.olt _ (Rl.xo _ (Rl.xC y a hy)))) fun ⟨_, _, w⟩ => w.c y a hy rfl
  have SX : ∀ a, SF K.fr a → ¬ (stOf g fd vs m₀ env.cells env.locals).X a := fun a ha q => (xX a q).elim (fun t => t.not (Rl.olt _ (Rl.so _ ha))) fun ⟨_, _, w⟩ => w.s ha
  have dat : ∀ a o, h.get? a = some o → ¬ (stOf g fd vs m₀ env.cells env.locals).X a → ∃ o', h₂.get? a = some o' ∧ o'.data = o.data := fun a o e hx => let ⟨sl, e1, _⟩ := keep a o e hx; ⟨_, e1, rfl⟩
  -- an owned argument's address
  have argX : ∀ y a sv, OwnAt K g h a sv → ∀ e, m.lookup y = some e → e.own = true → g.ρ y = some (.ref a) → y ∉ varsOf rs → ¬ (stOf g fd vs m₀ env.cells env.locals).X a := fun y a sv w e hy ho hρ hnot q => by
    rcases q with q | ⟨n, q⟩ | ⟨p, e', h1, h2, h3⟩
    · obtain ⟨o, hob⟩ := w.v.there
      subst q; exact x.newL.no hob
    · obtain ⟨o, hob⟩ := w.v.there
      exact (x.newC n a q).no hob
    · obtain ⟨_, v, k1, k2⟩ := ar.ent h1
      rw [h3] at k1; cases k1
      rcases k2 with ⟨k, _⟩ | ⟨_, y', k3, k4, k5⟩
      · rw [h2] at k; cases k
      · exact hnot (Rl.inj y y' e e' a hy k4 ho h2 hρ k5 ▸ k3)
  have ownBack : ∀ y e, m'.lookup y = some e → e.own = true → ∃ e', m.lookup y = some e' ∧ e'.own = true := fun y e hy ho => by
    rcases ar.back x.nodup hb hy with ⟨_, k⟩ | ⟨k, _⟩
    · exact ⟨e, k, ho⟩
    · obtain ⟨e', _, k1, k2, _⟩ := ar.owned k
      exact ⟨e', k1, k2⟩
  have keepB : ∀ b o, K.B.get? b = some o → h₂.get? b = some o := fun b o e => Rl₁.base b o e
  refine ⟨⟨keepB, fun a q => Rl₁.ob a q, fun a q => Rl₁.olt a q, fun a q => q.2.elim (fun t => okeep a (Rl.xo a q.1) t) (Rl₁.xo a), fun a q => okeep a (Rl.so a q) (SX a q), fun a q => (Rl.sx a q).imp id fun t u => t u.1, ⟨Rl.xL, .inl LX⟩,
    fun y a q => ⟨Rl.xC y a q, .inl (cX y a q)⟩, fun y hy => ?_, ?_, fun y e he => ?_, fun y e he => ?_, fun y u e f a hy hu he hf e1 e2 => ?_, fun y sv hx => ?_, ?_, Rl.pp⟩, ?_⟩
  · obtain ⟨a, h1, o, h2, h3⟩ := Rl.cc y hy
    obtain ⟨o', h4, h5⟩ := dat a o h2 (cX y a h1)
    exact ⟨a, h1, o', h4, h5.trans h3⟩
  · obtain ⟨nm, h1, h2⟩ := Rl.ns
    exact ⟨nm, Ns_at h1 fun o e => dat _ o e LX, h2⟩
  · rcases ar.back x.nodup hb he with ⟨_, k⟩ | ⟨k, _⟩
    · exact Rl.vk y e k
    · obtain ⟨e', _, k1, _⟩ := ar.owned k
      exact Rl.vk y e' k1
  · rcases ar.back x.nodup hb he with ⟨k0, k⟩ | ⟨k0, p, v, k1, k2, k3, k4⟩
    · obtain ⟨v, h1, h2, h3⟩ := Rl.vv y e k
      refine ⟨v, h1, fun q => (h2 q).stay stay, fun q => ?_⟩
      obtain ⟨a, rfl, w⟩ := h3 q
      obtain ⟨o, hob⟩ := w.v.there
      have hx := argX y a _ w e k q h1 k0
      exact ⟨a, rfl, ⟨w.x, .inl hx⟩, w.s, w.l, w.c, w.v.at stay ((exact' a o hob hx w.s).trans hob.symm)⟩
    · obtain ⟨v', q1, q2, q3⟩ := Rl₁.vv p e k2
      have hpp := Rl₁.pp p (by show fd.ps.contains p = true; simpa using k1)
      rw [q1] at hpp
      have hv : v' = v := by
        have : (fd.ps.zip vs).lookup p = some v' := hpp.symm
        rw [k3] at this; exact (Option.some.inj this).symm
      subst hv
      refine ⟨v', k4, fun q => q2 q, fun q => ?_⟩
      obtain ⟨a, rfl, w⟩ := q3 q
      obtain ⟨e', v'', k5, k6, k7⟩ := ar.owned k0
      rw [k4] at k7; cases k7
      obtain ⟨v3, q4, _, q6⟩ := Rl.vv y e' k5
      rw [k4] at q4; cases q4
      obtain ⟨b, q7, w'⟩ := q6 k6
      cases q7
      exact ⟨a, rfl, ⟨w'.x, .inr w.x⟩, w'.s, w'.l, w'.c, w.v⟩
  · obtain ⟨e', k1, k2⟩ := ownBack y e hy he
    obtain ⟨f', k3, k4⟩ := ownBack u f hu hf
    exact Rl.inj y u e' f' a k1 k3 k2 k4 e1 e2
  · obtain ⟨h1, h2, h3, nm, v, h4, h5, h6⟩ := Rl.comp y sv hx
    have hX := notXnew _ (Rl.olt _ h1) h2
    exact ⟨okeep _ h1 hX, fun t => h2 t.1, h3, nm, v, Ns_at h4 fun o e => dat _ o e hX, h5, h6.stay stay⟩
  · exact ff_keep Rl.ff fun b o hb e => dat b o e (SX b hb)
  · refine ⟨st.zlt, st.zxo, ⟨fun b o e hb' => ?_⟩, fun a q => ?_, fun a q => st.xnew a q.1, fun a q hx => ?_⟩
    · obtain ⟨sl, e1, q1⟩ := st.kept.keep b o e hb'
      have hgX : ¬ g.X b := fun t => (st.xnew b t).elim hb' fun u => u.no e
      obtain ⟨sl', e2, q2⟩ := keep b _ e1 (notXnew b ⟨_, e1⟩ hgX)
      exact ⟨sl', e2, fun hs => (q2 hs).trans (q1 hs)⟩
    · rcases onew a q with t | t
      · exact st.onew a t
      · exact (st.mid t).imp (st.zxo a) id
    · have ho := st.okeep a q hx
      have hgX : ¬ g.X a := fun t => (st.xnew a t).elim hx fun u => u.not (st.zlt a q)
      exact okeep a ho (notXnew a (Rl.olt a ho) hgX)
end
end
section
open PySem PySem.W PyProof.Rows PySem.Calls
/-- how a block went on -/
noncomputable def FlR (K : Cfg) (g : St) (h : Heap) : Fl → Flow → Prop
  | .next, .next => True
  | .brk, .brk => True
  | .cont, .cont => True
  | .ret x, .ret v => FV K.w g.O h v x
  | _, _ => False

section
variable (CF : Addr)
noncomputable def SX (n : Nat) : Prop := ∀ K A g m st s, Go CF K A n → K.c.cv = none → Rel K g m s.heap → Sim CF K A (g, s.heap) (exec st K.env) (ex n K.c st m) (fun fl _ g' f s' => FlR K g' s'.heap fl f) s
noncomputable def SXs (n : Nat) : Prop := ∀ K A g m ss s, Go CF K A n → K.c.cv = none → Rel K g m s.heap → Sim CF K A (g, s.heap) (execs ss K.env) (exs n K.c ss m) (fun fl _ g' f s' => FlR K g' s'.heap fl f) s
end

section
variable {CF : Addr} {K : Cfg} {A : Around} {z : St × Heap} {α α' α₁ β β' : Type} {s : Shared} {g : St} {m m₀ : M} {n : Nat}

/-- a rule of the library with a part of its own -/
theorem Sim.stage {t₁ : Sem α₁} {t : Sem α'} {k : α₁ → Sem α'} {P : Heap → Prop} {o : Out β} {f : β → M → Out β'} {Q : β → M → St → α₁ → Shared → Prop} {Q' : β' → M → St → α' → Shared → Prop}
    (conv : ∀ Q E, wpAny (MK K) A t₁ (fun a (s' : Shared) => P s'.heap ∧ wpAny (MK K) A (k a) Q E s') E s → wpAny (MK K) A t Q E s)
    (hP : ∀ g m h, Rel K g m h → P h) (h : Sim CF K A z t₁ o Q s)
    (hk : ∀ b m' g a s', o = .ok b m' → Same s s' → Rel K g m' s'.heap → Step (SF K.fr) z g s'.heap → Q b m' g a s' → Sim CF K A z (k a) (f b m') Q' s') :
    Sim CF K A z t (o.bind f) Q' s := by
  cases o with
  | stuck => trivial
  | exc m' => exact conv _ _ (wpAny_mono h (fun _ _ x => x.elim) fun _ _ x => x)
  | ok b m' =>
    show Sim CF K A z t (f b m') Q' s
    have hk' := fun g a s' => hk b m' g a s' rfl
    revert hk'
    cases f b m' with
    | stuck => intro _; trivial
    | exc m'' => exact fun hk' => conv _ _ (wpAny_mono h (fun a s' ⟨g, e1, e2, e3, e4⟩ => ⟨hP g m' _ e2, wpAny_mono (hk' g a s' e1 e2 e3 e4) (fun _ _ x => x) fun _ _ ⟨g', x1, x⟩ => ⟨g', e1.trans x1, x⟩⟩) fun _ _ x => x.elim)
    | ok b'' m'' => exact fun hk' => conv _ _ (wpAny_mono h (fun a s' ⟨g, e1, e2, e3, e4⟩ => ⟨hP g m' _ e2, wpAny_mono (hk' g a s' e1 e2 e3 e4) (fun _ _ ⟨g', x1, x⟩ => ⟨g', e1.trans x1, x⟩) fun _ _ x => x.elim⟩) fun _ _ x => x.elim)

theorem plain_of {args : List Expr} {pos : Pos} {env : Env} (h : noStar args = true) : (backTo pos (starEach args env)).any (·.1) = false := by
  induction args with
  | nil => rfl
  | cons e es ih =>
    rw [starEach_plain (noStar_head h)]
    exact (Bool.false_or _).trans (ih (List.all_eq_true.mpr fun x hx => List.all_eq_true.mp h x (.tail _ hx)))

theorem callArgs_conv {M : Model} {args : List Expr} {pos : Pos} {env : Env} {f : Value} {first : List Value} {P : Heap → Prop} (hs : noStar args = true)
    (hk : ∀ h, P h → ∃ k, (k = Keeper.frame ∨ k = Keeper.machine ∨ k = Keeper.boundFrame) ∧ Looks M h (keeperOf f) k) (Q : Value → Shared → Prop) (E : Value → Shared → Prop)
    (h : wpAny M A (spliced (backTo pos (starEach args env))) (fun vs (s' : Shared) => P s'.heap ∧ wpAny M A (call f (first ++ vs) []) Q E s') E s) :
    wpAny M A (callWith pos f first (backTo pos (starEach args env)) []) Q E s := by
  have hp := plain_of (pos := pos) (env := env) hs
  refine callWith_of (P := P) (by rw [hp]; rfl) hk ?_
  cases args with
  | nil =>
    unfold evalArgs
    show wpAny M A (spliced [] >>= _) _ E s
    refine wpAny_bind (wpAny_mono h (fun vs s' h' => ?_) fun _ _ x => x)
    refine wpAny_bind (wpAny_pure (wpAny_holding ?_))
    exact wpAny_bind (wpAny_pure (wpAny_bind (wpAny_pure (wpAny_pure h'))))
  | cons e es =>
    have he : ∀ x p, e ≠ .Starred x p := fun x p q => noStar_head hs x p q
    rw [starEach_plain he] at h ⊢
    exact evalArgs_plain h
end
end
section
open PySem PySem.W PyProof.Rows PySem.Calls
section
variable {CF : Addr} {K : Cfg} {A : Around} {z : St × Heap} {s : Shared} {g : St} {m m₀ : M} {n : Nat}

theorem scopeOk_co {sc : Scope} {ps : List Str} (h : scopeOk sc ps = true) : sc.kind = .function ∧ sc.isCoroutine = false ∧ sc.isGenerator = false ∧
    (∀ p ∈ ps, sc.names.lookup p = some .local ∨ sc.names.lookup p = some .cell) ∧ ((cellsFrom 0 sc.names []).map (·.1)).Nodup ∧ ps.Nodup ∧ ∀ p ∈ sc.names, sc.names.lookup p.1 = some p.2 := by
  unfold scopeOk at h
  simp only [Bool.and_eq_true, beq_iff_eq, Bool.not_eq_true', List.all_eq_true, Bool.or_eq_true, decide_eq_true_eq] at h
  exact ⟨h.1.1.1.1.1.1, h.1.1.1.1.1.2, h.1.1.1.1.2, h.1.1.1.2, h.1.1.2, h.1.2, h.2⟩

theorem cellsFrom_mem : ∀ (names : List (Str × NameKind)) (k : Nat) (acc : List (Str × Addr)) (n : Str) (c : Addr), (n, c) ∈ cellsFrom k names acc → (n, c) ∈ acc ∨ (n, NameKind.cell) ∈ names := by
  intro names
  induction names with
  | nil => intro k acc n c h; exact .inl h
  | cons p r ih =>
    intro k acc n c h
    obtain ⟨nm, kd⟩ := p
    unfold cellsFrom at h
    split at h
    · rename_i hk
      rcases ih _ _ _ _ h with t | t
      · rcases List.mem_cons.mp t with t | t
        · cases t
          have : kd = .cell := by simpa using hk
          subst this
          exact .inr (.head _)
        · exact .inl t
      · exact .inr (.tail _ t)
    · rcases ih _ _ _ _ h with t | t
      · exact .inl t
      · exact .inr (.tail _ t)

theorem zip_fst : ∀ (ps : List Str) (vs : List Value), vs.length = ps.length → (ps.zip vs).map (·.1) = ps
  | [], _, _ => by simp
  | p :: ps, [], h => by simp at h
  | p :: ps, v :: vs, h => by simp [zip_fst ps vs (by simpa using h)]

theorem entered_of {fd : FD} {vs : List Value} {env : Env} {s s₁ : Shared} {fn : FuncData} {a : Addr} (ok : scopeOk fd.scope fd.ps = true) (hl : vs.length = fd.ps.length)
    (he : env = newEnv fd.scope s.heap.objs.size mainGlobals (cellsFrom (s.heap.objs.size + 1) fd.scope.names []) (fn.qualname ++ ".<locals>.") (some a) fn.code none builtinsNs)
    (x : InCallC s env.locals (bindL env.kindOf (fd.ps.zip vs) fun _ => none) env.cells (bindC env.kindOf (fd.ps.zip vs) fun _ => none) s₁) : Entered fd vs env s.heap s₁.heap := by
  obtain ⟨h1, h2, h3, h4, h5, h6, h7⟩ := scopeOk_co ok
  have hnd : ((fd.ps.zip vs).map (·.1)).Nodup := by rw [zip_fst fd.ps vs hl]; exact h6
  have hc : env.cells = cellsFrom (s.heap.objs.size + 1) fd.scope.names [] := by rw [he]; rfl
  have hsc : env.scope = fd.scope := by rw [he]; rfl
  have uniq : ∀ y b, (y, b) ∈ env.cells → env.cells.lookup y = some b := fun y b hm =>
    lookup_of_mem_nodup (hc ▸ (cellsFrom_names fd.scope.names 0 (s.heap.objs.size + 1) [] [] rfl ▸ h5)) hm
  refine ⟨hsc, by rw [he]; rfl, by rw [he]; rfl, by rw [he]; rfl, ok, x.toInCall.keep, New.size x.toInCall.fresh, fun y b hb => New.size (Nat.le_of_lt (Nat.lt_of_le_of_lt x.toInCall.fresh (x.above y b hb))), ⟨_, x.toInCall.ns, fun y hy => ?_⟩, fun y hy => ?_, fun y b hb => ?_, uniq, x.apart, x.above⟩
  · rw [bindL_eq _ _ _ _ hnd (by unfold Env.kindOf; rw [hsc]; exact hy)]; simp
  · rw [hc]
    exact Option.isSome_iff_exists.mp (cellsFrom_some _ _ _ (.inl hy))
  · have := x.cell y b hb
    have hk : env.kindOf y ≠ some .local := fun q => by
      unfold Env.kindOf at q
      rw [hsc] at q
      have hm := mem_of_lookup hb
      rw [hc] at hm
      rcases cellsFrom_mem _ _ _ _ _ hm with t | t
      · cases t
      · have := h7 _ t
        rw [q] at this; cases this
    rw [bindC_eq _ _ _ _ hnd hk] at this
    simpa using this
end
end
section
open PySem PySem.W PyProof.Rows PySem.Calls
section
variable {CF : Addr} {K : Cfg} {A : Around} {z : St × Heap} {s : Shared} {g : St} {m m₀ : M} {n : Nat}

theorem enter_call (G : Go CF K A (n + 1)) (Rl : Rel K g m s.heap) {f : Str} {fd : FD} {vs : List Value} (hf : funs f = some fd) (hl : vs.length = fd.ps.length) :
    ∃ a mg, s.heap.Ns mainGlobals mg ∧ mg f = some (.ref a) ∧ (∀ g m h, Rel K g m h → ∃ o fn, h.get? a = some o ∧ o.data = .func fn) ∧ ∀ R : Result → Shared → Prop,
      (∀ env s₁, Entered fd vs env s.heap s₁.heap → Same s s₁ → wpAny (MK K) (A.deeper env) (execs fd.body env) (fun fl s' => R (.ok (.ret (match fl with | .ret v => v | _ => .none))) s')
        (fun e s' => wpAny (MK K) (A.deeper env) (leaving env e) (fun _ s'' => R (.error e) s'') (fun e' s'' => R (.error e') s'') s') s₁) →
      codeAny (MK K) A (.call (.ref a) ⟨vs, []⟩) R s := by
  obtain ⟨mg, mb, n1, n2, hfn, _⟩ := G.gb.fn
  obtain ⟨a, o, pm, code, doc, params, h1, h2, h3, h4, h5⟩ := hfn f fd hf
  have ok := funs_ok f fd hf
  obtain ⟨q1, q2, q3, q4, q5, q6, q7⟩ := scopeOk_co ok
  refine ⟨a, mg, n1.keeps Rl.base, h1, fun g m h Rl' => ⟨o, _, Rl'.base a o h2, h3⟩, fun R hk => ?_⟩
  have hdep := G.dep
  have hrl : recursionLimit = 1000 := by decide +kernel
  refine codeAny_call_function (fd := docDef f params fd.body fd.scope pm code doc) (body := fd.body) (by lia) (Rl.base a o h2) h3 q2 q3 rfl (h4.keeps Rl.base) ?_
  rw [h5 vs hl]
  refine wpAny_pure (wpAny_newFunctionEnv_cells q1 (fun x hx => ?_) fun env he s₁ x => ?_)
  · have hm : x.1 ∈ fd.ps := by
      have := List.mem_map_of_mem (f := Prod.fst) hx
      rwa [zip_fst fd.ps vs hl] at this
    rcases q4 _ hm with q | q
    · exact .inl q
    · exact .inr ⟨q, cellsFrom_some _ _ _ (.inl q)⟩
  · refine ⟨(G.gb.lim.keeps Rl.base).keeps x.toInCall.keep, codeAny_func ?_⟩
    exact hk env s₁ (entered_of (fn := docDef f params fd.body fd.scope pm code doc) (a := a) ok hl he x) (let ⟨h, tk, e⟩ := x.toInCall.same; ⟨h, tk, e⟩)

theorem Go.callee (G : Go CF K A (n + 1)) {fd : FD} {vs : List Value} {env : Env} {h h₁ : Heap} (x : Entered fd vs env h h₁) : Go CF (cfgOf K fd vs env) (A.deeper env) n where
  H := x.envOk
  hh := G.hh
  dep := by have := G.dep; show A.depth + 1 + n + 20 < 1000; lia
  un := by have := G.un; show A.units + 3 + 10 * n + 200 < cLine; lia
  af := Around.frames_deeper G.af
  fr := ⟨K.fr, rfl⟩
  gb := G.gb

theorem sim_callF (hx : SXs CF n) (G : Go CF K A (n + 1)) (Rl : Rel K g m s.heap) (st : Step (SF K.fr) z g s.heap) {f : Str} {fd : FD} {rs : List R} {vs : List Value} {z' : St × Heap} (hf : funs f = some fd) (rr : RRs K z' g s.heap rs vs)
    (hn : (varsOf rs).Nodup) (hb : bindP fd.ps rs m = some m₀) {a : Addr} (henter : ∀ R : Result → Shared → Prop,
      (∀ env s₁, Entered fd vs env s.heap s₁.heap → Same s s₁ → wpAny (MK K) (A.deeper env) (execs fd.body env) (fun fl s' => R (.ok (.ret (match fl with | .ret v => v | _ => .none))) s')
        (fun e s' => wpAny (MK K) (A.deeper env) (leaving env e) (fun _ s'' => R (.error e) s'') (fun e' s'' => R (.error e') s'') s') s₁) →
      codeAny (MK K) A (.call (.ref a) ⟨vs, []⟩) R s) :
    Sim CF K A z (call (.ref a) vs []) (match exs n ⟨fd.scope, fd.ps, fd.scope, none⟩ fd.body m₀ with
      | .ok (.ret v) m₁ => unback (back fd.ps rs m₁ m) fun m => .ok (.v v) m
      | .ok _ _ => .stuck
      | .exc m₁ => unback (back fd.ps rs m₁ m) fun m => .exc m
      | .stuck => .stuck) (QE K z g.ρ) s := by
  have ar := bindP_args rr hb
  have inner := fun env s₁ (x : Entered fd vs env s.heap s₁.heap) => hx (cfgOf K fd vs env) (A.deeper env) (stOf g fd vs m₀ env.cells env.locals) m₀ fd.body s₁ (G.callee x) rfl (Rl.enter ar hn x)
  cases e : exs n ⟨fd.scope, fd.ps, fd.scope, none⟩ fd.body m₀ with
  | stuck => trivial
  | ok fl m₁ =>
    cases fl with
    | ret v =>
      show Sim CF K A z _ (unback (back fd.ps rs m₁ m) fun m => Out.ok (R.v v) m) _ s
      cases hbk : back fd.ps rs m₁ m with
      | none => trivial
      | some m' =>
        refine wpAny_call (henter _ fun env s₁ x sm => ?_)
        have I := inner env s₁ x
        rw [show exs n (cfgOf K fd vs env).c fd.body m₀ = .ok (.ret v) m₁ from e] at I
        refine wpAny_mono I (fun fl s' ⟨g₁, e1, e2, e3, e4⟩ => ?_) fun _ _ q => q.elim
        cases fl with
        | ret w =>
          obtain ⟨k1, k2⟩ := Rl.leave ar x e2 e3 hbk st G.H
          exact ⟨stBack g (stOf g fd vs m₀ env.cells env.locals) g₁, sm.trans e1, k1, k2, rfl, e4⟩
        | next => exact e4.elim
        | brk => exact e4.elim
        | cont => exact e4.elim
    | next => trivial
    | brk => trivial
    | cont => trivial
  | exc m₁ =>
    show Sim CF K A z _ (unback (back fd.ps rs m₁ m) fun m => Out.exc m) _ s
    cases hbk : back fd.ps rs m₁ m with
    | none => trivial
    | some m' =>
      refine wpAny_call (henter _ fun env s₁ x sm => ?_)
      have I := inner env s₁ x
      rw [show exs n (cfgOf K fd vs env).c fd.body m₀ = .exc m₁ from e] at I
      refine wpAny_mono I (fun _ _ q => q.elim) fun e s' ⟨g₁, e1, e2, e3, e4⟩ => ?_
      have G' := G.callee x
      refine leaving_at (K := cfgOf K fd vs env) G'.H G'.af G'.fr x.fr e2 e3 e4 fun g₂ h₂ k1 k2 k3 k4 => ?_
      obtain ⟨q1, q2⟩ := Rl.leave ar x k1 k2 hbk st G.H
      refine ⟨stBack g (stOf g fd vs m₀ env.cells env.locals) g₂, (sm.trans e1).trans .mk, q1, q2, ?_⟩
      -- the exception as the caller sees it
      have jk : ∀ a, Junk (cfgOf K fd vs env) (stOf g fd vs m₀ env.cells env.locals, s₁.heap) g₂ a → Junk K z (stBack g (stOf g fd vs m₀ env.cells env.locals) g₂) a := fun a j => by
        have hn : ∀ q : New s₁.heap a, New s.heap a := fun q => by
          rcases live_or s.heap a with ⟨o, e⟩ | t
          · exact (q.no (x.keep a o e)).elim
          · exact t
        refine ⟨?_, j.o, fun t => t.2.elim (fun u => j.n.elim u fun v => (hn v).not (Rl.olt a (Rl.xo a t.1))) j.x, fun t => j.s ((SF_cons x.fr).mpr (.inr t))⟩
        rcases j.n with (q | ⟨y, q⟩ | ⟨p, e, h1, h2, h3⟩) | q
        · exact st.mid (q ▸ x.newL)
        · exact st.mid (x.newC y a q)
        · exact st.xnew a (ar.addr Rl h1 h2 h3).x
        · exact st.mid (hn q)
      obtain ⟨a, o, vs', T, oT, ts, f, h1, j, h2, h3, h4, h5, k, h6, h7, h8, h9⟩ := k4
      exact Traced.thrown ⟨a, o, vs', T, oT, ts, f, h1, jk a j, h2, h3, h4, h5, jk T k, h6, h7, h8, h9⟩

theorem looks_fn {M : Model} {a : Addr} : ∀ h : Heap, (∃ o fn, h.get? a = some o ∧ o.data = .func fn) → ∃ k, (k = Keeper.frame ∨ k = Keeper.machine ∨ k = Keeper.boundFrame) ∧ Looks M h (keeperOf (.ref a)) k := fun h ⟨o, fn, h1, h2⟩ => by
  refine ⟨.frame, .inl rfl, ?_⟩
  refine (Looks.ld (part := none) h1).andThen ?_
  rw [h2]; exact .now

theorem se_CallF (hr : SR CF n) (hx : SXs CF n) (G : Go CF K A (n + 1)) (Rl : Rel K g m s.heap) {f : Str} {fd : FD} (p : Pos) (args : List Expr) (pos : Pos) (hf : funs f = some fd) (hg : K.c.sc.names.lookup f = some .globalImplicit) (hd : (f == ("__debug__" : Str)) = false) (hs : noStar args = true) :
    Sim CF K A (g, s.heap) (eval (.Call (.Name f p) args [] pos) K.env) ((evRs n K.c args m).bind fun rs m => if (varsOf rs).Nodup then (match bindP fd.ps rs m with
          | some m₀ => (match exs n ⟨fd.scope, fd.ps, fd.scope, none⟩ fd.body m₀ with
            | .ok (.ret v) m₁ => unback (back fd.ps rs m₁ m) fun m => .ok (.v v) m
            | .ok _ _ => .stuck
            | .exc m₁ => unback (back fd.ps rs m₁ m) fun m => .exc m
            | .stuck => .stuck)
          | none => .stuck) else .stuck) (QE K (g, s.heap) g.ρ) s := by
  rw [arm_eval_Call_Name']
  obtain ⟨mg, mb, n1, n2, hfn, _⟩ := G.gb.fn
  obtain ⟨a, o, pm, code, doc, params, h1, h2, h3, h4, h5⟩ := hfn f fd hf
  refine Sim.ahead (I := fun v s' => v = .ref a ∧ s' = s) (fun E => Name_function_global G.H.kind (G.H.gl f hg) (loadGlobal_global (by rw [G.H.g1]; exact n1.keeps Rl.base) h1 ⟨.refl, rfl, rfl⟩) hd) fun v s' _ ⟨e1, e2⟩ => ?_
  subst e1 e2
  refine Sim.stage (P := fun h => ∃ o fn, h.get? a = some o ∧ o.data = .func fn) (k := fun vs => call (.ref a) ([] ++ vs) []) (callArgs_conv hs looks_fn) (fun g m h Rl' => ⟨o, _, Rl'.base a o h2, h3⟩) (hr K A g m args pos s' (G.le (by lia)) Rl) fun rs m₁ g₁ vs s₁ _ _ Rl₁ st₁ ⟨hρ, rr, _⟩ => ?_
  split
  · rename_i hn
    cases hb : bindP fd.ps rs m₁ with
    | none => trivial
    | some m₀ =>
      dsimp only
      have hl := (bindP_args rr hb).len
      obtain ⟨a', mg', w1, w2, w3, w4⟩ := enter_call G Rl₁ hf hl
      have : a' = a := by
        obtain ⟨o2, es2, ep2, ho2, hd2, hk2, hf2⟩ := w1
        obtain ⟨o3, es3, ep3, ho3, hd3, hk3, hf3⟩ := n1.keeps Rl₁.base
        rw [ho2] at ho3; cases ho3; rw [hd2] at hd3; cases hd3
        have := (hf2 f).symm.trans (hf3 f)
        rw [w2, h1] at this
        simpa using this
      subst this
      rw [← hρ]
      exact sim_callF hx G Rl₁ st₁ hf rr hn hb w4
  · trivial
end
end
section
open PySem PySem.W PyProof.Rows PySem.Calls
/-- a dict, by its entries -/
noncomputable def RawAt (h : Heap) (d : Addr) (es : Array DictEntry) (ep : Nat) : Prop := ∃ o, h.get? d = some o ∧ o.ExactDict ∧ o.data = .dict es ep

theorem RawAt.typeIs {s : Shared} {d es ep} (x : RawAt s.heap d es ep) : s.TypeIs (.ref d) "dict" := let ⟨o, ho, hc, _⟩ := x; ⟨o, ho, hc.1⟩
theorem RawAt.at {h h' : Heap} {d es ep} (x : RawAt h d es ep) (e : ∀ o, h.get? d = some o → h'.get? d = some o) : RawAt h' d es ep := let ⟨o, ho, r⟩ := x; ⟨o, e o ho, r⟩
theorem RawAt.lt {h : Heap} {d es ep} (x : RawAt h d es ep) : d < h.objs.size := let ⟨_, ho, _⟩ := x; Heap.lt_size ho

section
variable {prog : Program} {w : World} {A : Around} {E : Value → Shared → Prop} {s : Shared} {d it : Addr} {es : Array DictEntry} {ep i : Nat}

theorem len_raw {Q : Value → Shared → Prop} (hd : (d == sysModules) = false) (hm : RawAt s.heap d es ep) (hfit : (es.size : Int) < 2 ^ 63)
    (h : Q (.int es.size (s.toks + 1)) { s with toks := s.toks + 1 + 1 }) : wpAny (model prog w) A (call (.builtin "len") [.ref d]) Q E s := by
  refine call_len_slot hm.typeIs PySem.F.slot_dict_len (fun Q' hq => ?_) (by lia) (by lia) h
  obtain ⟨o, ho, hc, hdat⟩ := id hm
  refine wpAny_call_entry PySem.F.slot_dict_len hm.typeIs PySem.F.entry_dict_len ?_ (PySem.F.args_dict_len_1 _)
  show wpAny _ _ (dictSize d >>= _) _ _ s
  unfold dictSize
  refine wpAny_bind (wpAny_bind (wpAny_dictEntries ho hdat (wpAny_pure ?_)))
  show wpAny _ _ (Builtin.Dict.pendingCount d >>= _) _ _ s
  refine wpAny_bind (wpAny_pendingCount_other hd ?_)
  refine wpAny_bind (wpAny_mkInt (wpAny_pure ⟨_, rfl, ?_⟩))
  rw [Nat.add_zero]; exact hq

theorem pyIter_raw {Q : Value → Shared → Prop} (hd : (d == sysModules) = false) (hm : RawAt s.heap d es ep)
    (hQ : Q (.ref s.heap.objs.size) { s with heap := s.heap.push { cls := .type "dict_keyiterator", data := .fields #[.ref d, .int 0 0, .int es.size 0, .int ep 0] } }) :
    wpAny (model prog w) A (pyIter (.ref d)) Q E s := by
  obtain ⟨o, ho, hc, hdat⟩ := id hm
  have hT := hm.typeIs
  refine wpAny_pyIter_slot hT PySem.F.slot_dict_iter (wpAny_call_entry PySem.F.slot_dict_iter hT PySem.F.entry_dict_iter ?_ (PySem.F.args_dict_iter_1 _))
  unfold Builtin.«dict.__iter__»
  refine wpAny_bind ?_
  unfold Builtin.Dict.dictSlotNone
  refine wpAny_bind (wpAny_notOrdered_dict hT ?_)
  show wpAny _ _ (pure (Value.ref d)) _ _ s
  refine wpAny_pure ?_
  show wpAny _ _ (Builtin.Dict.showsAll d >>= _) _ _ s
  unfold Builtin.Dict.showsAll
  rw [if_neg (by rw [hd]; exact Bool.false_ne_true)]
  refine wpAny_bind (wpAny_pure ?_)
  refine wpAny_bind (wpAny_dictEntries ho hdat ?_)
  refine wpAny_bind (wpAny_dictEpoch ho hdat ?_)
  refine wpAny_bind (wpAny_newObj_type (wpAny_pure ⟨_, rfl, "dict_keyiterator", _, ⟨_, Heap.get?_push_size _ rfl, rfl⟩, PySem.F.slot_dict_keyiterator_next.lookup, ?_⟩))
  exact hQ

theorem pyNext_raw_item {e : DictEntry} {Q : Option Value → Shared → Prop} (hit : s.heap.IsKeyIter it d i es.size ep) (hm : RawAt s.heap d es ep) (hx : es[i]? = some e)
    (hQ : ∀ h', h'.IsKeyIter it d (i + 1) es.size ep → Heap.SameBut it s.heap h' → Q (some e.key) { s with heap := h' }) : wpAny (model prog w) A (pyNext (.ref it)) Q E s := by
  obtain ⟨o, ho, hc, hd⟩ := id hit
  obtain ⟨od, hod, hcd, hdd⟩ := id hm
  unfold pyNext
  refine wpAny_bind (wpAny_attempt (wpAny_callSpecial?_slot (name := Str.ofString "__next__") hit.typeIs PySem.F.slot_dict_keyiterator_next
    (wpAny_call_entry PySem.F.slot_dict_keyiterator_next hit.typeIs PySem.F.entry_dict_keyiterator_next ?_ (PySem.F.args_dict_keyiterator_next_1 _))))
  refine wpAny_bind (wpAny_pure ?_)
  refine wpAny_bind ?_
  refine wpAny_bind ?_
  first | refine wpAny_bind (wpAny_typeNameOfWhole_keyiter hit.typeIs (wpAny_pure ?_)) | refine wpAny_bind (wpAny_typeNameOf_keyiter hit.typeIs (wpAny_pure ?_))
  refine wpAny_bind (wpAny_fieldsOf ho hd ?_)
  have hown : Builtin.Dict_items.ownsTuple "dict_keyiterator" = false := by decide
  rw [hown]
  show wpAny _ _ (if (Value.ref d == Value.none) = true then _ else _) _ _ s
  rw [if_neg (show ¬ ((Value.ref d == Value.none) = true) from Bool.false_ne_true)]
  refine wpAny_bind (wpAny_pure ?_)
  refine wpAny_bind (wpAny_dictEntries hod hdd ?_)
  rw [if_neg (by simp)]
  refine wpAny_bind (wpAny_pure ?_)
  refine wpAny_bind (wpAny_dictEpoch hod hdd ?_)
  rw [if_neg (by simp)]
  refine wpAny_pure ?_
  dsimp only
  rw [if_neg (show ¬ ((i : Int) < 0) from Int.not_lt.mpr (Int.natCast_nonneg i)), Int.toNat_natCast, hx]
  refine wpAny_bind ?_
  first | refine wpAny_bind (wpAny_typeNameOfWhole_keyiter hit.typeIs (wpAny_pure ?_)) | refine wpAny_bind (wpAny_typeNameOf_keyiter hit.typeIs (wpAny_pure ?_))
  refine wpAny_bind (wpAny_isOneOf_keyiter hit.typeIs ?_)
  show wpAny _ _ (setField (.ref it) 1 (rawInt ((i : Int) + 1)) >>= _) _ _ s
  refine wpAny_bind (wpAny_setField ho hd (by simp) ?_)
  have hit' : (s.heap.update it (Obj.mapFields (·.setIfInBounds 1 (rawInt ((i : Int) + 1))))).IsKeyIter it d (i + 1) es.size ep :=
    ⟨_, Heap.get?_update_self _ ho (Obj.isFreed_of_fields (Obj.data_mapFields hd _)), (Obj.cls_mapFields ..).trans hc, by rw [Obj.data_mapFields hd]; simp [rawInt]⟩
  refine wpAny_bind (wpAny_holding ?_)
  refine wpAny_bind (wpAny_isOneOf_keyiter (s := { s with heap := s.heap.update it (Obj.mapFields (·.setIfInBounds 1 (rawInt ((i : Int) + 1)))) }) hit'.typeIs ?_)
  show wpAny _ _ (pure e.key) _ _ _
  exact wpAny_pure (wpAny_pure ⟨_, rfl, wpAny_pure (hQ _ hit' (Heap.SameBut.update ..))⟩)

theorem pyNext_raw_end {Q : Option Value → Shared → Prop} (hh : A.handled = none) (hit : s.heap.IsKeyIter it d i es.size ep) (hm : RawAt s.heap d es ep) (hx : es[i]? = none)
    (hQ : ∀ h', Heap.ExtBut it s.heap h' → Q none { s with heap := h' }) : wpAny (model prog w) A (pyNext (.ref it)) Q E s := by
  obtain ⟨o, ho, hc, hd⟩ := id hit
  obtain ⟨od, hod, hcd, hdd⟩ := id hm
  unfold pyNext
  refine wpAny_bind (wpAny_attempt (wpAny_callSpecial?_slot (name := Str.ofString "__next__") hit.typeIs PySem.F.slot_dict_keyiterator_next
    (wpAny_call_entry PySem.F.slot_dict_keyiterator_next hit.typeIs PySem.F.entry_dict_keyiterator_next ?_ (PySem.F.args_dict_keyiterator_next_1 _))))
  refine wpAny_bind (wpAny_pure ?_)
  refine wpAny_bind ?_
  refine wpAny_bind ?_
  first | refine wpAny_bind (wpAny_typeNameOfWhole_keyiter hit.typeIs (wpAny_pure ?_)) | refine wpAny_bind (wpAny_typeNameOf_keyiter hit.typeIs (wpAny_pure ?_))
  refine wpAny_bind (wpAny_fieldsOf ho hd ?_)
  have hown : Builtin.Dict_items.ownsTuple "dict_keyiterator" = false := by decide
  rw [hown]
  show wpAny _ _ (if (Value.ref d == Value.none) = true then _ else _) _ _ s
  rw [if_neg (show ¬ ((Value.ref d == Value.none) = true) from Bool.false_ne_true)]
  refine wpAny_bind (wpAny_pure ?_)
  refine wpAny_bind (wpAny_dictEntries hod hdd ?_)
  rw [if_neg (by simp)]
  refine wpAny_bind (wpAny_pure ?_)
  refine wpAny_bind (wpAny_dictEpoch hod hdd ?_)
  rw [if_neg (by simp)]
  refine wpAny_pure ?_
  dsimp only
  rw [if_neg (show ¬ ((i : Int) < 0) from Int.not_lt.mpr (Int.natCast_nonneg i)), Int.toNat_natCast, hx]
  refine wpAny_bind ?_
  first | refine wpAny_bind (wpAny_typeNameOfWhole_keyiter hit.typeIs (wpAny_pure ?_)) | refine wpAny_bind (wpAny_typeNameOf_keyiter hit.typeIs (wpAny_pure ?_))
  show wpAny _ _ (setField (.ref it) 0 .none >>= _) _ _ s
  refine wpAny_bind (wpAny_setField ho hd (by simp) ?_)
  show wpAny _ _ (newExc (.type "StopIteration") [] >>= _) _ _ _
  refine wpAny_bind ?_
  simp only [newExc, newTuple]
  refine wpAny_bind (wpAny_newObj_type ?_ (by size_fits))
  refine wpAny_bind (m := firstArgMember _ _) (wpAny_of_eq (a := Value.none) (by first | rfl | (simp only [firstArgMember]; rfl)) ?_)
  refine wpAny_newObj_type ?_ (by size_fits)
  simp only [raiseNew]
  refine wpAny_bind (wpAny_handled ?_)
  rw [show A.in1.handled = none from hh]
  refine wpAny_bind (wpAny_pure (wpAny_throw ?_))
  refine wpAny_bind (wpAny_isInstance (T := "StopIteration") (b := true) ⟨_, Heap.get?_push_size _ rfl, rfl⟩ isSubtype_stop ?_)
  exact wpAny_pure (hQ _ (((Heap.SameBut.update ..).extBut.push _).push _))

theorem walks_raw (hh : A.handled = none) (I d : Addr) (hne : d ≠ I) (es : Array DictEntry) (ep : Nat) :
    Walks prog w A I [I, d] [I] es.size (fun i v => ∃ e, es[i]? = some e ∧ v = e.key) (fun i h => h.IsKeyIter I d i es.size ep ∧ RawAt h d es ep) where
  sub := fun b hb => by simp at hb; simp [hb]
  frame := fun _ _ _ st hk => ⟨let ⟨o, ho, r⟩ := st.1; ⟨o, hk I (by simp) o ho, r⟩, st.2.at fun o e => hk d (by simp) o e⟩
  item := fun i s Q E hi st hQ => by
    refine pyNext_raw_item st.1 st.2 (e := es[i]) (by simp [hi]) fun h' hit' hs' => ?_
    exact hQ _ h' s.toks ⟨es[i], by simp [hi], rfl⟩ ⟨hit', st.2.at fun o e => hs'.extBut d o hne e⟩ fun b o hb e => hs'.extBut b o (fun h => hb (by simp [h])) e
  done := fun s Q E st hQ => pyNext_raw_end hh st.1 st.2 (by simp) fun h' he' => hQ h' s.toks fun b o hb e => he' b o (fun h => hb (by simp [h])) e
  self := fun _ _ _ _ st hQ => wpAny_pyIter_keyiter st.1 hQ

theorem src_raw (lo : (d == sysModules) = false) : KdlSrc prog w "dict" d d es.size (fun i v => ∃ e, es[i]? = some e ∧ v = e.key) (fun h => RawAt h d es ep) where
  type := fun _ hm => hm.typeIs
  there := fun _ hm => ⟨hm.lt, hm.lt⟩
  keep := fun _ _ hm hk => hm.at fun o e => hk d (.inl rfl) o e
  notList := by decide
  notTuple := by decide
  hint := fun _ _ _ _ hm hq => kdl_hint_dict hm.typeIs hq
  iter := fun _ _ hh hm => ⟨_, _, (fun _ _ hq => pyIter_raw lo hm hq), walks_raw hh _ d (Nat.ne_of_lt hm.lt) es ep, ⟨⟨_, Heap.get?_push_size _ rfl, rfl, rfl⟩, hm.at fun o e => Heap.get?_push_of_some _ e⟩⟩
end
end
section
open PySem PySem.W PyProof.Rows PySem.Calls
section
variable {CF : Addr} {K : Cfg} {A : Around} {z : St × Heap} {s : Shared} {g : St} {m : M} {n : Nat}

/-- a new object that is held alone, wherever it came to lie -/
theorem Sim.newAt {t : Sem Value} {sv : SV} (H : EnvOk K.c K.env₀ K.env) (Rl : Rel K g m s.heap) (st : Step (SF K.fr) z g s.heap)
    (h : ∀ E (Q : Value → Shared → Prop), (∀ D h' tk, New s.heap D → (∀ b o, s.heap.get? b = some o → h'.get? b = some o) → (∀ O' : AP, Stay g.O s.heap O' h' → OV K.w O' h' D sv) → Q (.ref D) { s with heap := h', toks := tk }) → wpAny (MK K) A t Q E s) :
    Sim CF K A z t (.ok (.fresh sv) m) (QE K z g.ρ) s := by
  refine Sim.ok fun E => h E _ fun D h' tk hn hk hv => ?_
  obtain ⟨f1, f2, f3, f4⟩ := Rl.fresh H hn
  have stay : Stay g.O s.heap (fun a => g.O a ∨ a = D) h' := fun a o' ha e => ⟨fun q => q.elim ha fun e' => by subst e'; exact hn.no e, hk a o' e⟩
  have ov := hv _ stay
  have o1 : ∀ a, g.O a → (g.O a ∨ a = D) := fun _ q => .inl q
  have o2 : ∀ a, (g.O a ∨ a = D) → g.O a ∨ (New s.heap a ∧ Live h' a) := fun a q => q.imp id fun e => by subst e; exact ⟨hn, ov.there⟩
  exact ⟨{ g with O := fun a => g.O a ∨ a = D }, ⟨_, tk, rfl⟩, Rl.grow _ hk o1 o2, st.grow _ hk o1 (fun a q => (o2 a q).imp id (·.1)), rfl, D, rfl, st.mid hn, .inr rfl, f2, f3, f4, ov⟩

theorem Sim.newListAt {t : Sem Value} {ds : List PyData} (H : EnvOk K.c K.env₀ K.env) (Rl : Rel K g m s.heap) (st : Step (SF K.fr) z g s.heap) (hlen : ds.length ≤ lenMax)
    (h : ∀ E (Q : Value → Shared → Prop), (∀ D h' tk vs, New s.heap D → (∀ b o, s.heap.get? b = some o → h'.get? b = some o) → h'.PlainList D vs → FzAll g.O s.heap vs.toList ds → Q (.ref D) { s with heap := h', toks := tk }) → wpAny (MK K) A t Q E s) :
    Sim CF K A z t (.ok (.fresh (.d (.list ds))) m) (QE K z g.ρ) s :=
  Sim.newAt H Rl st fun E Q hq => h E Q fun D h' tk vs h1 h2 h3 h4 => hq D h' tk h1 h2 fun O' stay => ⟨vs, h3, hlen, h4.stay stay⟩

theorem notMods_beq {a : Addr} (h : a ≠ sysModules) : (a == sysModules) = false := by simpa using h

theorem itemsAre_fz {O : AP} {h : Heap} {w : World} {k : List Str} {vs : List Value} (x : ItemsAre (PySem.strKind P w) k vs) : strsOk k → FzAll O h vs (k.map .str) := by
  induction x with
  | nil => intro _; exact .nil
  | cons hk r ih =>
    intro hs
    obtain ⟨t, rfl⟩ := Value.isStrOf_shape hk
    exact .cons (.str t (hs _ (.head _)).1 (hs _ (.head _)).2) (ih fun s hs' => hs s (.tail _ hs'))

theorem key_fz {O : AP} {h : Heap} {w : World} {k : List Str} {a : Addr} (x : IsTupleKey (PySem.strKind P w) h k a) (ha : ¬ O a) (hs : strsOk k) (hl : k.length ≤ lenMax) : Fz O h (.ref a) (keyTup k) := by
  obtain ⟨o, items, n, ho, hc, hd, hi⟩ := x
  exact .tuple ha ⟨o, ho, hc, n, hd⟩ (by simpa using hl) (itemsAre_fz hi hs)

/-- a tuple-keyed dict, by its entries -/
theorem DictT.raw {w : World} {O : AP} {h : Heap} {a : Addr} {kvs : List (List Str × PyData)} (x : DictT w O h a kvs) : ∃ es ep, RawAt h a es ep ∧ es.size = kvs.length ∧ (a == sysModules) = false ∧ kvs.length ≤ lenMax ∧
    FzAll O h (es.toList.map (·.key)) (kvs.map fun p => keyTup p.1) := by
  obtain ⟨h1, h2, xs, ⟨o, es, ep, ho, hx, hd, he, hk, hn⟩, h4, h5, h6⟩ := x
  have hsz : es.size = kvs.length := by
    have e1 := congrArg List.length he
    have e2 := congrArg List.length h4
    simp only [List.length_map, Array.length_toList] at e1 e2
    lia
  refine ⟨es, ep, ⟨o, ho, hx, hd⟩, hsz, notMods_beq h1, h2, ?_⟩
  rw [he]
  have e : (kvs.map fun p => keyTup p.1) = (xs.map (·.1)).map keyTup := by rw [h4, List.map_map]; rfl
  rw [e, List.map_map, List.map_map]
  have all : ∀ ys : List (List Str × Addr × Value), (∀ x ∈ ys, x ∈ xs) → FzAll O h (ys.map (DictEntry.key ∘ entryOfKey (tupleKind (PySem.strKind P w)))) (ys.map (keyTup ∘ Prod.fst)) := by
    intro ys
    induction ys with
    | nil => intro _; exact .nil
    | cons y r ih =>
      intro hy
      refine .cons ?_ (ih fun x hx => hy x (.tail _ hx))
      have hm := hy y (.head _)
      exact key_fz (hk y hm) (h5 y hm).1 (h5 y hm).2.1 (h5 y hm).2.2
  exact all xs fun _ hx => hx

theorem Pairs.keysInt {w : World} {es : List DictEntry} {kvs : List (Int × Value)} (x : Pairs (PySem.intKind P w) es kvs) : IntsAre (es.map (·.key)) (kvs.map (·.1)) := by
  induction x with
  | nil => exact .nil
  | @cons e kv _ _ h1 h2 r ih =>
    obtain ⟨t, ht⟩ := Value.isInt_shape h1
    show IntsAre (e.key :: _) (kv.1 :: _)
    rw [ht]; exact .cons _ _ ih

theorem DictI.raw {w : World} {h : Heap} {a : Addr} {ks : List Int} (x : DictI w h a ks) : ∃ es ep, RawAt h a es ep ∧ es.size = ks.length ∧ (a == sysModules) = false ∧ ks.length ≤ lenMax ∧ IntsAre (es.toList.map (·.key)) ks := by
  obtain ⟨h1, h2, kvs, ⟨o, es, ep, ho, hx, hd, hk, hp, hn⟩, rfl⟩ := x
  have hsz : es.size = kvs.length := by rw [← hp.length]; simp
  exact ⟨es, ep, ⟨o, ho, hx, hd⟩, by rw [hsz]; simp, notMods_beq h1, h2, Pairs.keysInt hp⟩
end
end
section
open PySem PySem.W PyProof.Rows PySem.Calls
theorem sort_uniq {ns ks : List Int} (hp : ns.Perm ks) (hs : ns.Pairwise (· ≤ ·)) : ns = ks.mergeSort (· ≤ ·) := by
  have h1 : (ks.mergeSort (· ≤ ·)).Pairwise (fun a b => (decide (a ≤ b)) = true) := List.pairwise_mergeSort (by intro a b c; simp; lia) (by intro a b; simp; lia) ks
  have h2 : (ks.mergeSort (· ≤ ·)).Pairwise (· ≤ ·) := h1.imp (by simp)
  have h3 : ns.Perm (ks.mergeSort (· ≤ ·)) := hp.trans (List.mergeSort_perm ks _).symm
  exact List.Perm.eq_of_pairwise (fun a b _ _ h h' => Int.le_antisymm h h') hs h2 h3

section
variable {CF : Addr} {K : Cfg} {A : Around} {z : St × Heap} {s : Shared} {g : St} {m : M} {n : Nat}

theorem sim_len (Rl : Rel K g m s.heap) (st : Step (SF K.fr) z g s.heap) {v : Value} {sv : SV} {k : Nat} (x : CV K.w g.O s.heap v sv) (e : lenOf sv = some k) :
    Sim CF K A z (call (.builtin "len") [v] []) (.ok (.v (.d (.int k))) m) (QE K z g.ρ) s := by
  have lm : (lenMax : Int) < 2 ^ 63 := by decide
  refine sim_val' Rl st fun E Q h => ?_
  cases sv with
  | d d =>
    cases d with
    | list xs =>
      cases e
      obtain ⟨a, vs, rfl, l1, l2, l3⟩ := x.list
      have hsz := l3.length
      rw [Array.length_toList] at hsz
      refine call_len_list l1 (by lia) ?_
      rw [hsz]; exact h _ _
    | tuple xs =>
      cases e
      obtain ⟨a, vs, rfl, l1, l2, l3, _⟩ := x.tuple
      have hsz := l3.length
      rw [Array.length_toList] at hsz
      refine len_tuple l1 (by lia) ?_
      rw [hsz]; exact h _ _
    | _ => cases e
  | dt kvs =>
    cases e
    obtain ⟨a, rfl, q⟩ := x.dt
    obtain ⟨es, ep, r1, r2, r3, r4, _⟩ := q.raw
    refine len_raw r3 r1 (by lia) ?_
    rw [r2]; exact h _ _
  | di ks =>
    cases e
    obtain ⟨a, rfl, q⟩ := x.di
    obtain ⟨es, ep, r1, r2, r3, r4, _⟩ := q.raw
    refine len_raw r3 r1 (by lia) ?_
    rw [r2]; exact h _ _
  | rng _ => cases e
where
  sim_val' {CF : Addr} {K : Cfg} {A : Around} {z : St × Heap} {s : Shared} {g : St} {m : M} {t : Sem Value} {i : Int} (Rl : Rel K g m s.heap) (st : Step (SF K.fr) z g s.heap)
      (h : ∀ E (Q : Value → Shared → Prop), (∀ t tk, Q (.int i t) { s with toks := tk }) → wpAny (MK K) A t Q E s) : Sim CF K A z t (.ok (.v (.d (.int i))) m) (QE K z g.ρ) s :=
    Sim.ok fun E => h E _ fun t tk => ⟨g, ⟨_, tk, rfl⟩, Rl, st, rfl, (show RR K z (.v (.d (.int i))) g (.int i t) s.heap from Fz.int i t)⟩

theorem sim_range (H : EnvOk K.c K.env₀ K.env) (Rl : Rel K g m s.heap) (st : Step (SF K.fr) z g s.heap) {i : Int} {t : Tok} (h0 : 0 ≤ i) (hi : i < 2 ^ 20) :
    Sim CF K A z (call (.type "range") [.int i t] []) (.ok (.v (.rng i.toNat)) m) (QE K z g.ρ) s := by
  obtain ⟨f1, f2, f3, f4⟩ := Rl.fresh H (New.size (Nat.le_refl _))
  refine Sim.ok fun E => call_range_1 ⟨g, ⟨_, _, rfl⟩, Rl.push _, st.push _, rfl, ?_⟩
  refine ⟨by lia, s.heap.objs.size, s.toks, t, s.toks + 1, rfl, f1, ?_⟩
  have e : ((i.toNat : Nat) : Int) = i := Int.toNat_of_nonneg h0
  rw [e]
  exact IsRange.new s.heap 0 i 1 _ _ _

theorem sim_list (G : Go CF K A n) (Rl : Rel K g m s.heap) (st : Step (SF K.fr) z g s.heap) {v : Value} {kvs : List (List Str × PyData)} (x : CV K.w g.O s.heap v (.dt kvs)) :
    Sim CF K A z (call (.type "list") [v] []) (mkL (kvs.map fun p => keyTup p.1) m) (QE K z g.ρ) s := by
  unfold mkL
  split
  · rename_i hlen
    obtain ⟨a, rfl, q⟩ := x.dt
    obtain ⟨es, ep, r1, r2, r3, r4, r5⟩ := q.raw
    have lm := lenMax_lt
    refine Sim.newListAt G.H Rl st hlen fun E Q h => kdl_call (src_raw (es := es) (ep := ep) r3) G.hh r1 (by lia) fun h' tk acc c hk hg hi => ?_
    refine h _ h' tk acc (New.size (Nat.le_refl _)) hk ⟨c, hg⟩ ?_
    have e : acc.toList = es.toList.map (·.key) := by
      apply List.ext_getElem?
      intro j
      obtain ⟨h1, h2⟩ := hi
      rw [List.getElem?_map, Array.getElem?_toList, Array.getElem?_toList]
      cases ha : acc[j]? with
      | none =>
        have : es[j]? = none := by
          rw [Array.getElem?_eq_none_iff] at ha ⊢
          lia
        rw [this]; rfl
      | some u =>
        obtain ⟨en, e1, e2⟩ := h2 j u ha
        rw [e1, e2]; rfl
    rw [e]; exact r5
  · trivial

theorem sim_sorted (G : Go CF K A n) (Rl : Rel K g m s.heap) (st : Step (SF K.fr) z g s.heap) {a : Addr} {ks : List Int} (q : DictI K.w s.heap a ks) (hlt : ks.length < 64) :
    Sim CF K A z (call (.builtin "sorted") [.ref a] []) (mkL ((ks.mergeSort (· ≤ ·)).map .int) m) (QE K z g.ρ) s := by
  have hlen : ((ks.mergeSort (· ≤ ·)).map PyData.int).length ≤ lenMax := by
    rw [List.length_map, List.length_mergeSort]; exact Nat.le_trans (Nat.le_of_lt hlt) (by decide)
  unfold mkL
  rw [if_pos hlen]
  obtain ⟨es, ep, r1, r2, r3, r4, r5⟩ := q.raw
  have lm := lenMax_lt
  refine Sim.newListAt G.H Rl st hlen fun E Q h => ?_
  refine call_function_entry kind_sorted plain_sorted entry_sorted (args_sorted1 _) ?_
  unfold Builtin.«sorted»
  refine wpAny_bind (m := checkCount "sorted" 1 1 _) (wpAny_pure ?_)
  refine wpAny_bind (kdu_collect (A := A.in1) (src_raw (es := es) (ep := ep) r3) G.hh r1 (by lia) fun h' tk acc hk hi => ?_)
  have e : acc.toList = es.toList.map (·.key) := by
    apply List.ext_getElem?
    intro j
    obtain ⟨h1, h2⟩ := hi
    rw [List.getElem?_map, Array.getElem?_toList, Array.getElem?_toList]
    cases ha : acc[j]? with
    | none =>
      have : es[j]? = none := by
        rw [Array.getElem?_eq_none_iff] at ha ⊢
        lia
      rw [this]; rfl
    | some u =>
      obtain ⟨en, e1, e2⟩ := h2 j u ha
      rw [e1, e2]; rfl
  have hl : acc.toList.length = ks.length := by rw [e]; simp [r2]
  refine wpAny_bind (wpAny_newList ?_ (by lia))
  have ho : (h'.push { cls := .type "list", data := .seq acc.toList.toArray }).get? h'.objs.size = some (seqObj "list" acc.toList.toArray 0) := Heap.get?_push_size _ rfl
  refine wpAny_bind (wpAny_holding (wpAny_call_entry slot_list_sort ⟨_, ho, rfl⟩ entry_list_sort (list_sort_tree (s := { s with heap := h'.push { cls := .type "list", data := .seq acc.toList.toArray }, toks := tk }) ho (e ▸ r5) (by lia) fun out ns' a1 a2 a3 => ⟨_, rfl, ?_⟩) (args_list_sort _)))
  refine wpAny_pure ⟨_, rfl, ?_⟩
  have hns := sort_uniq a2 a3
  have hnew : New s.heap h'.objs.size := by
    rcases live_or s.heap h'.objs.size with ⟨o, e⟩ | t
    · exact absurd (Heap.lt_size (hk _ o e)) (Nat.lt_irrefl _)
    · exact t
  -- the heap behind the sorting
  have hD : (sortedHeap (h'.push { cls := .type "list", data := .seq acc.toList.toArray }) h'.objs.size acc.toList out).PlainList h'.objs.size out := by
    unfold sortedHeap
    have u1 := get?_update_seq ho (fun _ => #[])
    have u2 := Heap.get?_push_of_some (seqObj "tuple" acc.toList.toArray 0) u1
    have u3 := Heap.get?_push_of_some (seqObj "list" #[] 0) u2
    exact ⟨_, get?_update_seq u3 fun _ => out⟩
  have hK : ∀ b o, s.heap.get? b = some o → (sortedHeap (h'.push { cls := .type "list", data := .seq acc.toList.toArray }) h'.objs.size acc.toList out).get? b = some o := by
    intro b o hb
    have hb' := hk b o hb
    have hne : h'.objs.size ≠ b := Nat.ne_of_gt (Heap.lt_size hb')
    unfold sortedHeap
    rw [Heap.get?_update_other _ _ hne]
    refine Heap.get?_push_of_some _ (Heap.get?_push_of_some _ ?_)
    rw [Heap.get?_update_other _ _ hne]
    exact Heap.get?_push_of_some _ hb'
  refine h _ _ _ out hnew hK hD ?_
  rw [← hns]
  have fz : ∀ {vs ns}, IntsAre vs ns → FzAll g.O s.heap vs (ns.map .int) := by
    intro vs ns hi
    induction hi with
    | nil => exact .nil
    | cons n t _ ih => exact .cons (.int n t) ih
  exact fz a1
end
end
section
open PySem PySem.W PyProof.Rows PySem.Calls
section
variable {CF : Addr} {K : Cfg} {A : Around} {z : St × Heap} {s : Shared} {g : St} {m : M} {n : Nat}

theorem strOk_ofString (x : String) : PyData.strOk (Str.ofString x) = true := by
  rw [Str.ofString_eq_toList]
  show ((x.toList.map Char.toNat).toArray.all (· < 0x110000)) = true
  rw [Array.all_eq_true']
  intro n hn
  simp only [List.mem_toArray, List.mem_map] at hn
  obtain ⟨c, _, rfl⟩ := hn
  have := c.valid
  simp only [decide_eq_true_eq]
  rcases this with h | ⟨_, h⟩
  · have : c.toNat < 0xd800 := h
    lia
  · exact h

theorem looks_machine {M : Model} {f : Value} (hf : ∀ a, f ≠ .ref a) : ∀ h : Heap, True → ∃ k, (k = Keeper.frame ∨ k = Keeper.machine ∨ k = Keeper.boundFrame) ∧ Looks M h (keeperOf f) k := fun h _ => by
  refine ⟨.machine, .inr (.inl rfl), Looks.of_pure ?_⟩
  cases f <;> first | rfl | exact absurd rfl (hf _)

theorem arg1_conv {M : Model} {a : Expr} {pos : Pos} {env : Env} {Q : List Value → Shared → Prop} {E : Value → Shared → Prop} (hs : noStar [a] = true) (h : wpAny M A (eval a env) (fun v s' => Q [v] s') E s) :
    wpAny M A (spliced (backTo pos (starEach [a] env))) Q E s := by
  have he : ∀ x p, a ≠ .Starred x p := fun x p q => noStar_head hs x p q
  rw [starEach_plain he]
  exact Calls.spliced_cons (wpAny_mono h (fun v s₁ h₁ => Calls.spliced_nil h₁) fun _ _ e => e)

theorem name_builtin (G : Go CF K A n) (Rl : Rel K g m s.heap) {f : Str} {p : Pos} {v : Value} (hg : K.c.sc.names.lookup f = some .globalImplicit) (hd : (f == ("__debug__" : Str)) = false) (hn : funs f = none)
    (hm : f ∈ (["len", "range", "str", "sorted", "list"] : List Str)) (hb : bootBuiltins f = some v) {M : Model} {E : Value → Shared → Prop} {Q : Value → Shared → Prop} (h : Q v s) : wpAny M A (eval (.Name f p) K.env) Q E s := by
  obtain ⟨mg, mb, n1, n2, _, hbi, _⟩ := G.gb.fn
  obtain ⟨b1, b2⟩ := hbi f hn hm
  exact Name_function_global G.H.kind (G.H.gl f hg) (loadGlobal_builtin (by rw [G.H.g1]; exact n1.keeps Rl.base) b1 (by rw [G.H.b1]; exact n2.keeps Rl.base) (b2.trans hb) h) hd

theorem CV.dt_nil {w : World} {O : AP} {h : Heap} {v : Value} (x : CV w O h v (.dt [])) : ∃ a, v = .ref a ∧ DictI w h a [] := let ⟨a, e, q⟩ := x.dt; ⟨a, e, q.nil_int⟩

theorem sorted_nil : ((([] : List Int).mergeSort (· ≤ ·)).map PyData.int) = [] := by simp
theorem sim_str (Rl : Rel K g m s.heap) (st : Step (SF K.fr) z g s.heap) {i : Int} {t : Tok} (hi : i.natAbs ≤ 1000) :
    Sim CF K A z (call (.type "str") [.int i t] []) (.ok (.v (.d (.str (Str.ofString (toString i))))) m) (QE K z g.ρ) s := by
  refine Sim.ok fun E => str_of_int_fit (N := 1001) (by split <;> lia) (by decide) fun hfit => ?_
  refine ⟨g, ⟨_, _, rfl⟩, Rl, st, rfl, (show RR K z (.v (.d (.str (Str.ofString (toString i))))) g _ s.heap from Fz.str _ (strOk_ofString _) ?_)⟩
  have h1 := len_str_of_int i
  have h2 : (1002 : Int) ≤ lenMax := by decide
  lia

theorem se_CallB (he : SE CF n) (G : Go CF K A n) (Rl : Rel K g m s.heap) {f : Str} (p : Pos) (a : Expr) (pos : Pos) (hn : funs f = none) (hg : K.c.sc.names.lookup f = some .globalImplicit) (hd : (f == ("__debug__" : Str)) = false) (hs : noStar [a] = true) (hkn : known f = true) :
    Sim CF K A (g, s.heap) (eval (.Call (.Name f p) [a] [] pos) K.env) ((ev n K.c a m).bind fun r m => builtin1 f (r.get m) m) (QE K (g, s.heap) g.ρ) s := by
  rw [arm_eval_Call_Name']
  -- the callable, the argument, the call
  have road : ∀ {v : Value}, (∀ a, v ≠ .ref a) → f ∈ (["len", "range", "str", "sorted", "list"] : List Str) → bootBuiltins f = some v →
      (∀ (g₁ : St) (m₁ : M) (s₁ : Shared) (r : R) (va : Value), g₁.ρ = g.ρ → Rel K g₁ m₁ s₁.heap → Step (SF K.fr) (g, s.heap) g₁ s₁.heap → RR K (g, s.heap) r g₁ va s₁.heap → Sim CF K A (g, s.heap) (call v [va] []) (builtin1 f (r.get m₁) m₁) (QE K (g, s.heap) g₁.ρ) s₁) →
      Sim CF K A (g, s.heap) (eval (.Name f p) K.env >>= fun v => callWith pos v [] (backTo pos (starEach [a] K.env)) (backToKw pos (keywordEach [] K.env))) ((ev n K.c a m).bind fun r m => builtin1 f (r.get m) m) (QE K (g, s.heap) g.ρ) s := by
    intro v hv hm hb hk
    refine Sim.ahead (I := fun u s' => u = v ∧ s' = s) (fun E => name_builtin G Rl hg hd hn hm hb ⟨.refl, rfl, rfl⟩) fun u s' _ ⟨e1, e2⟩ => ?_
    subst e1 e2
    refine Sim.stage (t₁ := eval a K.env) (P := fun _ => True) (k := fun va => call u ([] ++ [va]) []) (fun Q E h => callArgs_conv hs (looks_machine hv) Q E (arg1_conv hs h)) (fun _ _ _ _ => trivial) (he K A g m a s' G Rl) fun r m₁ g₁ va s₁ _ _ Rl₁ st₁ ⟨hρ, rr⟩ => ?_
    rw [← hρ]
    exact hk g₁ m₁ s₁ r va hρ Rl₁ st₁ rr
  have hm : f ∈ (["len", "range", "str", "sorted", "list"] : List Str) := by
    simpa [known, or_assoc] using hkn
  have q1 : ∀ {c : Bool}, c = true → (c = true) := id
  rcases hm with _ | ⟨_, _ | ⟨_, _ | ⟨_, _ | ⟨_, _ | ⟨_, hm⟩⟩⟩⟩⟩
  · refine road (v := .builtin "len") (fun _ e => nomatch e) (.head _) (by decide +kernel) fun g₁ m₁ s₁ r va _ Rl₁ st₁ rr => ?_
    rw [b1_len]
    refine Sim.with1 (fun k hk => ?_) trivial
    obtain ⟨sv, hr, hl⟩ := Option.bind_eq_some_iff.mp hk
    exact sim_len Rl₁ st₁ (rr.get Rl₁ hr) hl
  · refine road (v := .type "range") (fun _ e => nomatch e) (.tail _ (.head _)) (by decide +kernel) fun g₁ m₁ s₁ r va _ Rl₁ st₁ rr => ?_
    rw [b1_range]
    refine Sim.with1 (fun i hr => Sim.ifs fun hi => ?_) trivial
    obtain ⟨t, rfl⟩ := (rr.get Rl₁ (intV_eq hr)).int
    exact sim_range G.H Rl₁ st₁ hi.1 hi.2
  · refine road (v := .type "str") (fun _ e => nomatch e) (.tail _ (.tail _ (.head _))) (by decide +kernel) fun g₁ m₁ s₁ r va _ Rl₁ st₁ rr => ?_
    rw [b1_str]
    refine Sim.with1 (fun i hr => Sim.ifs fun hi => ?_) trivial
    obtain ⟨t, rfl⟩ := (rr.get Rl₁ (intV_eq hr)).int
    exact sim_str Rl₁ st₁ hi
  · refine road (v := .builtin "sorted") (fun _ e => nomatch e) (.tail _ (.tail _ (.tail _ (.head _)))) (by decide +kernel) fun g₁ m₁ s₁ r va _ Rl₁ st₁ rr => ?_
    rw [b1_sorted]
    refine Sim.with1 (fun ks hr => Sim.ifs fun hlt => ?_) (Sim.with1 (fun kvs hr => Sim.ifs fun he => ?_) trivial)
    · obtain ⟨b, rfl, q⟩ := (rr.get Rl₁ (some_via (c := .di) hr iV_eq)).di
      exact sim_sorted G Rl₁ st₁ q hlt
    · cases List.isEmpty_iff.mp he
      obtain ⟨b, rfl, q⟩ := (rr.get Rl₁ (some_via (c := .dt) hr tV_eq)).dt_nil
      exact sorted_nil ▸ sim_sorted G Rl₁ st₁ q (by decide)
  · refine road (v := .type "list") (fun _ e => nomatch e) (.tail _ (.tail _ (.tail _ (.tail _ (.head _))))) (by decide +kernel) fun g₁ m₁ s₁ r va _ Rl₁ st₁ rr => ?_
    rw [b1_list]
    exact Sim.with1 (fun kvs hr => sim_list G Rl₁ st₁ (rr.get Rl₁ (some_via (c := .dt) hr tV_eq))) trivial
  · cases hm
end
end
section
open PySem PySem.W PyProof.Rows PySem.Calls
section
variable {CF : Addr} {K : Cfg} {A : Around} {z : St × Heap} {α α' α₁ β β' : Type} {s : Shared} {g : St} {m : M} {n : Nat}

/-- the same, with facts of the middle -/
theorem Sim.stage2 {t₁ : Sem α₁} {t : Sem α'} {k : α₁ → Sem α'} {P : α₁ → Shared → Prop} {o : Out β} {f : β → M → Out β'} {Q : β → M → St → α₁ → Shared → Prop} {Q' : β' → M → St → α' → Shared → Prop}
    (conv : ∀ Q E, wpAny (MK K) A t₁ (fun a (s' : Shared) => P a s' ∧ wpAny (MK K) A (k a) Q E s') E s → wpAny (MK K) A t Q E s) (h : Sim CF K A z t₁ o Q s)
    (hk : ∀ b m' g a s', o = .ok b m' → Same s s' → Rel K g m' s'.heap → Step (SF K.fr) z g s'.heap → Q b m' g a s' → f b m' = .stuck ∨ (P a s' ∧ Sim CF K A z (k a) (f b m') Q' s')) :
    Sim CF K A z t (o.bind f) Q' s := by
  cases o with
  | stuck => trivial
  | exc m' => exact conv _ _ (wpAny_mono h (fun _ _ x => x.elim) fun _ _ x => x)
  | ok b m' =>
    show Sim CF K A z t (f b m') Q' s
    have hk' := fun g a s' => hk b m' g a s' rfl
    revert hk'
    cases f b m' with
    | stuck => intro _; trivial
    | exc m'' => exact fun hk' => conv _ _ (wpAny_mono h (fun a s' ⟨g, e1, e2, e3, e4⟩ => by
        rcases hk' g a s' e1 e2 e3 e4 with q | ⟨q1, q2⟩
        · cases q
        · exact ⟨q1, wpAny_mono q2 (fun _ _ x => x) fun _ _ ⟨g', x1, x⟩ => ⟨g', e1.trans x1, x⟩⟩) fun _ _ x => x.elim)
    | ok b'' m'' => exact fun hk' => conv _ _ (wpAny_mono h (fun a s' ⟨g, e1, e2, e3, e4⟩ => by
        rcases hk' g a s' e1 e2 e3 e4 with q | ⟨q1, q2⟩
        · cases q
        · exact ⟨q1, wpAny_mono q2 (fun _ _ ⟨g', x1, x⟩ => ⟨g', e1.trans x1, x⟩) fun _ _ x => x.elim⟩) fun _ _ x => x.elim)

/-- a variable's own list -/
theorem Rel.ownList (Rl : Rel K g m s.heap) {y : Str} {xs : List PyData} (hy : m.lookup y = some ⟨true, .d (.list xs)⟩) {v : Value} (hv : g.ρ y = some v) :
    ∃ a vs, v = .ref a ∧ g.X a ∧ s.heap.PlainList a vs ∧ xs.length ≤ lenMax ∧ FzAll g.O s.heap vs.toList xs := by
  obtain ⟨v', k1, _, k3⟩ := Rl.vv y _ hy
  rw [hv] at k1; cases k1
  obtain ⟨a, rfl, w⟩ := k3 rfl
  obtain ⟨vs, q1, q2, q3⟩ := w.v
  exact ⟨a, vs, rfl, w.x, q1, q2, q3⟩

/-- a variable's own list is changed; the answer is data -/
theorem sim_mut {t : Sem Value} {x : PyData} {y : Str} {e : Ent} {a : Addr} {ds : List PyData} (Rl : Rel K g m s.heap) (st : Step (SF K.fr) z g s.heap) (hy : m.lookup y = some e) (ho : e.own = true) (hv : g.ρ y = some (.ref a)) (hlen : ds.length ≤ lenMax)
    (h : ∀ E (Q : Value → Shared → Prop), (∀ h' tk vs v, Heap.SameBut a s.heap h' → h'.PlainList a vs → FzAll g.O s.heap vs.toList ds → Fz g.O s.heap v x → Q v { s with heap := h', toks := tk }) → wpAny (MK K) A t Q E s) :
    Sim CF K A z t (.ok (.v (.d x)) (upd m y ⟨true, .d (.list ds)⟩)) (QE K z g.ρ) s := by
  obtain ⟨v', k1, _, k3⟩ := Rl.vv y e hy
  rw [hv] at k1; cases k1
  obtain ⟨a', e', w⟩ := k3 ho
  cases e'
  refine Sim.ok fun E => h E _ fun h' tk vs v hs hp fz fv => ?_
  have stay : Stay g.O s.heap g.O h' := fun b o hb e1 => ⟨hb, (hs.2 b fun q => hb (q ▸ Rl.xo a w.x)).trans e1⟩
  exact ⟨g, ⟨_, tk, rfl⟩, Rl.mut hy ho hv hs ⟨vs, hp, hlen, fz.stay stay⟩, st.mut w.x hs, rfl, fv.stay stay⟩

theorem plainList_update {h : Heap} {a : Addr} {vs : Array Value} {n : Nat} (ho : h.get? a = some (seqObj "list" vs n)) (f : Array Value → Array Value) : (h.update a (Obj.mapSeq f)).PlainList a (f vs) := ⟨_, get?_update_seq ho f⟩

theorem attr_base {o : Expr} {nm : Str} {env : Env} {whole : Sem Value} (h : plainBase o = true) : attributeBase o nm env whole = whole := by
  cases o <;> first | exact ff_tt h | rfl

theorem strJoin_ok {sep : Str} (hs : PyData.strOk sep = true) : ∀ (ys : List Str), (∀ y ∈ ys, PyData.strOk y = true) → PyData.strOk (Str.join sep ys) = true
  | [], _ => (show PyData.strOk Str.empty = true from by decide +kernel)
  | [x], h => h x (.head _)
  | x :: y :: r, h => by
    show PyData.strOk (x ++ sep ++ Str.join sep (y :: r)) = true
    exact strOk_append (strOk_append (h x (.head _)) hs) (strJoin_ok hs (y :: r) fun z hz => h z (.tail _ hz))

theorem sum_le : ∀ ys : List Str, (∀ y ∈ ys, y.length ≤ 1000) → (ys.map (·.length)).sum ≤ ys.length * 1000
  | [], _ => by simp
  | y :: r, h => by
    have h1 := sum_le r fun z hz => h z (.tail _ hz)
    have h2 := h y (.head _)
    simp only [List.map_cons, List.sum_cons, List.length_cons]
    lia

theorem strs_fz {O : AP} {h : Heap} {vs : List Value} {xs : List PyData} {ys : List Str} (x : FzAll O h vs xs) : xs.mapM strOf = some ys → ∃ l : List (Str × Tok), vs = strValues l ∧ l.map (·.1) = ys ∧ ∀ y ∈ ys, PyData.strOk y = true :=
  x.ind (motive := fun vs xs => ∀ ys, xs.mapM strOf = some ys → ∃ l : List (Str × Tok), vs = strValues l ∧ l.map (·.1) = ys ∧ ∀ y ∈ ys, PyData.strOk y = true) (fun ys e => by cases (show some ([] : List Str) = some ys from e); exact ⟨[], rfl, rfl, fun _ hy => nomatch hy⟩) (fun a _ ih ys e => by
    obtain ⟨s, r, h1, h2, rfl⟩ := mapM_cons_inv e
    obtain ⟨l, q1, q2, q3⟩ := ih r h2
    cases strOf_eq h1
    cases a with
    | str t o1 o2 =>
      refine ⟨(s, t) :: l, congrArg _ q1, congrArg _ q2, fun y hy => ?_⟩
      rcases List.mem_cons.mp hy with rfl | hy
      · exact o1
      · exact q3 y hy) ys

theorem sim_join (Rl : Rel K g m s.heap) (st : Step (SF K.fr) z g s.heap) {sep : Str} {t : Tok} {v : Value} {xs : List PyData} {r : Str} (hsep : PyData.strOk sep = true) (fz : Fz g.O s.heap v (.list xs)) (e : joinD sep xs = some r) :
    Sim CF K A z (call (.builtin "str.join") [.str sep t, v] []) (.ok (.v (.d (.str r))) m) (QE K z g.ρ) s := by
  cases fz with
  | list h1 h2 h3 h4 =>
    rename_i a vs
    obtain ⟨ys, hys, e⟩ := Option.bind_eq_some_iff.mp e
    split at e
    · rename_i hc
      cases e
      obtain ⟨l, q1, q2, q3⟩ := strs_fz h4 hys
      have hl : s.heap.IsList a (strValues l).toArray := by rw [← q1]; simpa using h2
      have hB : ∀ y ∈ ys, y.length ≤ 1000 := fun y hy => by have := List.all_eq_true.mp hc.2.2 y hy; simpa using this
      have hmul : ys.length * 1000 + ys.length * sep.length ≤ 64 * 1000 + 64 * 1000 := Nat.add_le_add (Nat.mul_le_mul_right _ hc.2.1) (Nat.mul_le_mul hc.2.1 hc.1)
      have hfit := StrLaws.joinFits (sep := sep) (texts := ys) hB (by lia)
      refine Sim.ok fun E => SC.join hl q2 (by unfold JoinOk; rw [hfit]; rfl) fun t' k => ?_
      have hj : Txt.join sep ys = Str.join sep ys := StrLaws.glued_eq_join sep ys
      rw [hj]
      refine ⟨g, ⟨_, k, rfl⟩, Rl, st, rfl, (show RR K z (.v (.d (.str (Str.join sep ys)))) g _ s.heap from Fz.str _ (strJoin_ok hsep ys q3) ?_)⟩
      have h5 := StrLaws.join_length_le sep ys
      have h6 := sum_le ys hB
      have h7 : (64 * 1000 + 64 * 1000 : Nat) ≤ lenMax := by decide
      lia
    · cases e
end
end
section
open PySem PySem.W PyProof.Rows PySem.Calls
section
variable {CF : Addr} {K : Cfg} {A : Around} {z : St × Heap} {s : Shared} {g : St} {m : M} {n : Nat}

theorem FzAll.snoc {O : AP} {h : Heap} {vs : Array Value} {xs : List PyData} {v : Value} {x : PyData} (fz : FzAll O h vs.toList xs) (f : Fz O h v x) : FzAll O h (vs.push v).toList (xs ++ [x]) := by
  rw [Array.toList_push]; exact fz.append (.one f)

theorem insert_list (vs : Array Value) (u : Value) (k : Nat) : ((vs.extract 0 k).push u ++ vs.extract k).toList = vs.toList.take k ++ u :: vs.toList.drop k := by
  rw [Array.toList_append, Array.toList_push, Array.toList_extract, Array.toList_extract]
  simp [List.extract_eq_take_drop]
  exact List.take_of_length_le (by simp)

theorem index_conv {xs : List PyData} {vs : List Value} {h : Heap} {i : Int} {j : Nat} {as : List Addr} (rs : ReadsAll h vs xs as) (hxs : PyData.canLayAll0 xs = true) (e : idxOf xs (.int i) = some j) :
    j < vs.length ∧ (∀ hj : j < vs.length, PyData.eqv (SeqAt.readOf h vs[j]) (.int i) = true) ∧ ∀ k (hk : k < vs.length), k < j → PyData.eqv (SeqAt.readOf h vs[k]) (.int i) = false := by
  have hm := SeqAt.readsAll_map xs vs as hxs rs
  subst hm
  unfold idxOf at e
  rw [List.findIdx?_eq_some_iff_getElem] at e
  obtain ⟨h1, h2, h3⟩ := e
  rw [List.length_map] at h1
  refine ⟨h1, fun hj => by simpa using h2, fun k hk hkj => ?_⟩
  have := h3 k hkj
  simpa using this

theorem sim_append (Rl : Rel K g m s.heap) (st : Step (SF K.fr) z g s.heap) {y : Str} {v : Value} {xs ds : List PyData} {us : List Value} (hy : ownL m y = some xs) (hv : g.ρ y = some v) (fz : FzAll g.O s.heap us ds) :
    Sim CF K A z (call (.builtin "list.append") (v :: us) []) (mAppend y xs ds m) (QE K z g.ρ) s := by
  refine Sim.with1 (fun x hx => Sim.ifs fun hlt => ?_) trivial
  cases one_eq hx
  obtain ⟨a, vs, rfl, hX, ⟨c, hl⟩, hlen, hfz⟩ := Rl.ownList (ownL_eq hy) hv
  have hsz := hfz.length
  rw [Array.length_toList] at hsz
  have lm := lenMax_lt
  cases fz with
  | cons f r =>
    cases r
    refine sim_mut (a := a) Rl st (ownL_eq hy) rfl hv (by rw [List.length_append]; exact hlt) fun E Q h => ?_
    exact wpAny_list_append_plain ⟨c, hl⟩ (fun h' hp hs => h h' s.toks _ _ hs hp (hfz.snoc f) .none) (hsz ▸ Nat.le_of_lt (Nat.lt_trans hlt lm))

theorem sim_insert (Rl : Rel K g m s.heap) (st : Step (SF K.fr) z g s.heap) {y : Str} {v : Value} {xs ds : List PyData} {us : List Value} (hy : ownL m y = some xs) (hv : g.ρ y = some v) (fz : FzAll g.O s.heap us ds) :
    Sim CF K A z (call (.builtin "list.insert") (v :: us) []) (mInsert y xs ds m) (QE K z g.ρ) s := by
  refine Sim.with1 (fun p hp => Sim.with1 (fun i hi => Sim.ifs fun hc => ?_) trivial) trivial
  obtain ⟨q, x⟩ := p
  cases two_eq hp
  cases intD_eq hi
  obtain ⟨a, vs, rfl, hX, ⟨c, hl⟩, hlen, hfz⟩ := Rl.ownList (ownL_eq hy) hv
  have hsz := hfz.length
  rw [Array.length_toList] at hsz
  have hT : s.TypeIs (.ref a) "list" := ⟨_, hl, rfl⟩
  have lm := lenMax_lt
  have lm2 : (lenMax : Int) < 2 ^ 60 := by decide
  have lmi : (lenMax : Int) < sizeLine := Int.ofNat_lt.mpr lm
  cases fz with
  | cons fi r =>
    cases r with
    | cons f r =>
      cases r
      cases fi with
      | int _ t =>
        obtain ⟨c1, c2, c3⟩ := hc
        refine sim_mut (a := a) Rl st (ownL_eq hy) rfl hv (by rw [List.length_append, List.length_cons, List.length_take, List.length_drop]; lia) fun E Q h => ?_
        refine call_meets PySem.F.slot_list_insert hT PySem.F.entry_list_insert (PySem.F.args_list_insert_3 _ _ _) (AutoSeq1.list_insert_list_int_val_1 a vs c i t _ (by unfold Builtin.List.listFitsIndex; simp; lia) (by lia)) ⟨hl, ?_⟩
        refine h _ s.toks _ _ (Heap.SameBut.update ..) (plainList_update hl _) ?_ .none
        have hk : (if i < 0 then (i + (vs.size : Int)).toNat else min i.toNat vs.size) = i.toNat := by
          rw [if_neg (Int.not_lt.mpr c2)]; lia
        dsimp only
        rw [hk, insert_list vs _ i.toNat]
        exact (hfz.take _).append (.cons f (hfz.drop _))

theorem sim_extend (Rl : Rel K g m s.heap) (st : Step (SF K.fr) z g s.heap) {y : Str} {v : Value} {xs ds : List PyData} {us : List Value} (hy : ownL m y = some xs) (hv : g.ρ y = some v) (fz : FzAll g.O s.heap us ds) :
    Sim CF K A z (call (.builtin "list.extend") (v :: us) []) (mExtend y xs ds m) (QE K z g.ρ) s := by
  refine Sim.with1 (fun ys hx => Sim.ifs fun hc => ?_) trivial
  cases one_via (c := .list) hx listD_eq
  obtain ⟨a, vs, rfl, hX, ⟨c, hl⟩, hlen, hfz⟩ := Rl.ownList (ownL_eq hy) hv
  have hsz := hfz.length
  rw [Array.length_toList] at hsz
  have hT : s.TypeIs (.ref a) "list" := ⟨_, hl, rfl⟩
  cases fz with
  | cons f r =>
    cases r
    cases f with
    | list b1 b2 b3 b4 =>
      rename_i b ws
      have hsw := b4.length
      rw [Array.length_toList] at hsw
      have hz : vs.size + ws.size ≤ sizeLine := by rw [hsz, hsw]; exact Nat.le_trans hc (Nat.le_of_lt lenMax_lt)
      refine sim_mut (a := a) Rl st (ownL_eq hy) rfl hv (by rw [List.length_append]; exact hc) fun E Q h => ?_
      refine wpAny_call_entry PySem.F.slot_list_extend hT PySem.F.entry_list_extend ?_ (PySem.F.args_list_extend_2 _ _)
      show wpAny _ _ (Builtin.List.listExtendWith (.ref a) (.ref b) .none) _ _ s
      unfold Builtin.List.listExtendWith
      obtain ⟨o, ho, hc', nn, hd⟩ := id b2
      refine wpAny_bind (wpAny_typeOf (T := "list") ⟨o, ho, hc'⟩ ?_)
      rw [if_pos (by simp)]
      refine wpAny_bind (listItems_at ho hd ?_)
      refine wpAny_bind (listItems_at hl rfl ?_)
      rw [if_neg (by unfold Builtin.List.listTooLong; simpa using fun _ => hz)]
      refine wpAny_bind (listUpdate_at hl rfl ?_ (Nat.le_trans (Nat.le_add_right _ _) hz) (by rw [Array.size_append]; exact Nat.le_succ_of_le hz))
      refine wpAny_bind (wpAny_pure (wpAny_pure ⟨_, rfl, ?_⟩))
      refine h _ s.toks _ _ (Heap.SameBut.update ..) (plainList_update hl _) ?_ .none
      rw [Array.toList_append]
      exact hfz.append b4

theorem sim_pop (Rl : Rel K g m s.heap) (st : Step (SF K.fr) z g s.heap) {y : Str} {v : Value} {xs ds : List PyData} {us : List Value} (hy : ownL m y = some xs) (hv : g.ρ y = some v) (fz : FzAll g.O s.heap us ds) :
    Sim CF K A z (call (.builtin "list.pop") (v :: us) []) (mPop y xs ds m) (QE K z g.ρ) s := by
  refine Sim.ifs fun hd => Sim.with1 (fun x hx => ?_) trivial
  cases List.isEmpty_iff.mp hd
  cases fz
  obtain ⟨a, vs, rfl, hX, ⟨c, hl⟩, hlen, hfz⟩ := Rl.ownList (ownL_eq hy) hv
  have hsz := hfz.length
  rw [Array.length_toList] at hsz
  have hT : s.TypeIs (.ref a) "list" := ⟨_, hl, rfl⟩
  have lm := lenMax_lt
  have hpos : 0 < xs.length := List.length_pos_iff.mpr fun q => by subst q; cases hx
  rw [List.getLast?_eq_getElem?] at hx
  obtain ⟨u, u1, u2⟩ := hfz.get hx
  have hu : vs[vs.size - 1]? = some u := by rw [← Array.getElem?_toList, hsz]; exact u1
  refine sim_mut (a := a) Rl st (ownL_eq hy) rfl hv (by rw [List.length_dropLast]; exact Nat.le_trans (Nat.sub_le _ _) hlen) fun E Q h => ?_
  refine call_meets PySem.F.slot_list_pop hT PySem.F.entry_list_pop (PySem.F.args_list_pop_1 _) (PySem.MeetsSeq.list_pop_last a vs c u hu (hsz ▸ Nat.le_trans hlen (Nat.le_of_lt lm))) ⟨hl, ?_⟩
  refine h _ s.toks _ _ (Heap.SameBut.update ..) (plainList_update hl _) ?_ u2
  have e1 : (vs.eraseIdxIfInBounds (vs.size - 1)).toList = vs.toList.dropLast := by
    unfold Array.eraseIdxIfInBounds
    rw [dif_pos (by lia), Array.toList_eraseIdx, List.eraseIdx_eq_take_drop_succ, List.dropLast_eq_take]
    simp
    lia
  rw [e1, List.dropLast_eq_take, List.dropLast_eq_take, Array.length_toList, hsz]
  exact hfz.take _

theorem sim_index (G : Go CF K A n) (Rl : Rel K g m s.heap) (st : Step (SF K.fr) z g s.heap) {y : Str} {v : Value} {xs ds : List PyData} {us : List Value} (hy : ownL m y = some xs) (hv : g.ρ y = some v) (fz : FzAll g.O s.heap us ds) :
    Sim CF K A z (call (.builtin "list.index") (v :: us) []) (mIndex xs ds m) (QE K z g.ρ) s := by
  refine Sim.with1 (fun i hx => Sim.with1 (fun j hj => ?_) trivial) trivial
  cases one_via (c := .int) hx intD_eq
  obtain ⟨a, vs, rfl, hX, ⟨c, hl⟩, hlen, hfz⟩ := Rl.ownList (ownL_eq hy) hv
  have hsz := hfz.length
  rw [Array.length_toList] at hsz
  have hT : s.TypeIs (.ref a) "list" := ⟨_, hl, rfl⟩
  have lm2 : (lenMax : Int) < 2 ^ 60 := by decide
  cases fz with
  | cons f r =>
    cases r
    obtain ⟨⟨as, rs⟩, kx⟩ := FzAll.reads hfz
    obtain ⟨⟨bs, rx⟩, kd⟩ := Fz.reads f
    have hun := G.un
    obtain ⟨q1, q2, q3⟩ := index_conv rs kx hj
    rw [Array.length_toList] at q1
    refine Sim.ok fun E => ?_
    refine call_meets PySem.F.slot_list_index hT PySem.F.entry_list_index (PySem.F.args_list_index_2 _ _) (SeqAt.list_indexAt a vs c none #[] _ (fun y => PyData.eqv (SeqAt.readOf s.heap y) (.int i)) j q1 (by lia) (by rw [← Array.getElem_toList]; exact q2 (by simpa using q1)) (fun k hk hkj => by rw [← Array.getElem_toList]; exact q3 k (by simpa using hk) hkj)) ⟨hl, ?_, ?_⟩
    · refine SeqAt.items_eqAt rs rx kx kd ?_
      have h1 := Nat.min_le_right (PyData.depthAll xs) (PyData.depth (.int i))
      have h0 : PyData.depth (.int i) ≤ 1 := by simp [PyData.depth]
      clear q2 q3 rs rx kx kd hfz f lm2
      lia
    · exact ⟨g, ⟨_, _, rfl⟩, Rl, st, rfl, (show RR K z (.v (.d (.int j))) g _ s.heap from Fz.int _ _)⟩


theorem sim_meth (G : Go CF K A n) (Rl : Rel K g m s.heap) (st : Step (SF K.fr) z g s.heap) {nm : Str} {y : Str} {v : Value} {ds : List PyData} {us : List Value} (hv : g.ρ y = some v) (fz : FzAll g.O s.heap us ds) (hrec : nm = "append" ∨ nm = "insert" ∨ nm = "extend" ∨ nm = "pop" ∨ nm = "index") :
    Sim CF K A z (call (.builtin ("list." ++ nm.toString)) (v :: us) []) (meth nm (.var y) ds m) (QE K z g.ρ) s := by
  refine Sim.with1 (fun xs hy => ?_) trivial
  rcases hrec with rfl | rfl | rfl | rfl | rfl
  · exact mL_1 ▸ sim_append Rl st hy hv fz
  · exact mL_2 ▸ sim_insert Rl st hy hv fz
  · exact mL_3 ▸ sim_extend Rl st hy hv fz
  · exact mL_4 ▸ sim_pop Rl st hy hv fz
  · exact mL_5 ▸ sim_index G Rl st hy hv fz
end
end
section
open PySem PySem.W PyProof.Rows PySem.Calls
section
variable {CF : Addr} {K : Cfg} {A : Around} {z : St × Heap} {s : Shared} {g : St} {m : M} {n : Nat}

theorem few_of {args : List Expr} {pos : Pos} {env : Env} (hs : noStar args = true) (hl : args.length < 29) :
    ((backTo pos (starEach args env)).all (fun x => !x.1) && (backToKw pos (keywordEach [] env)).all (fun x => x.1.isSome) && decide (args.length + ([] : List Keyword).length + (if ([] : List Keyword).isEmpty then 0 else 1) < 30)) = true := by
  have hp := plain_of (pos := pos) (env := env) hs
  have h1 : (backTo pos (starEach args env)).all (fun x => !x.1) = true := by
    rw [List.all_eq_true]
    intro x hx
    rw [List.any_eq_false] at hp
    simpa using hp x hx
  rw [h1]
  have h2 : (backToKw pos (keywordEach [] env)).all (fun x => x.1.isSome) = true := rfl
  rw [h2]
  simp
  lia

theorem arm_call (o : Expr) (nm : Str) (apos pos : Pos) (args : List Expr) (env : Env) : eval (.Call (.Attribute o nm apos) args [] pos) env = (do
    let ov ← attributeBase o nm env (eval o env)
    standAt apos.atName
    methodCall o nm apos pos env ov (args.length + ([] : List Keyword).length) (backTo pos (starEach args env)) (backToKw pos (keywordEach [] env))) := rfl

/-- what the receiver is -/
structure RecvAt (nm : Str) (v : Value) (s : Shared) (id : String) (T : String) : Prop where
  pa : PlainAttrs T
  slot : Slot T nm id
  ty : typeOf (.builtin id) = pure (.type "method_descriptor")
  at' : s.TypeIs v T
  dict : ∀ a, v = .ref a → ∃ ob, s.heap.get? a = some ob ∧ ob.dict = none

theorem meth_conv {M : Model} {o : Expr} {nm : Str} {apos pos : Pos} {args : List Expr} {env : Env} {E : Value → Shared → Prop} {Q : Value → Shared → Prop} {prog : Program} {w : World} (hb : plainBase o = true) (hline : (apos.endLine == pos.line) = true) (hs : noStar args = true) (hl : args.length < 29)
    (h : wpAny (model prog w) A (eval o env) (fun v s' => ∃ id T, RecvAt nm v s' id T ∧ wpAny (model prog w) A (callWith pos (.builtin id) [v] (backTo pos (starEach args env)) []) Q E s') E s) :
    wpAny (model prog w) A (eval (.Call (.Attribute o nm apos) args [] pos) env) Q E s := by
  have hfew := few_of (pos := pos) (env := env) hs hl
  rw [arm_call, attr_base hb]
  refine wpAny_bind (wpAny_mono h (fun ov s₁ h₁ => ?_) fun _ _ e => e)
  obtain ⟨id, T, r, hc⟩ := h₁
  refine wpAny_bind (wpAny_standAt ?_)
  have hform : methodCallForm (args.length + ([] : List Keyword).length) (backTo pos (starEach args env)) (backToKw pos (keywordEach [] env)) = true := hfew
  have hpos : methodCallPos true o env apos pos = pure pos := by unfold methodCallPos; simp [hline]
  unfold methodCall
  rw [hform]
  refine wpAny_bind (wpAny_holding (getMethod_builtin r.at' r.pa r.slot r.ty r.dict ?_))
  exact wpAny_bind (wpAny_of_eq hpos hc)

theorem recv_list {nm : Str} (h : nm = "append" ∨ nm = "insert" ∨ nm = "extend" ∨ nm = "pop" ∨ nm = "index") {a : Addr} {vs : Array Value} (hl : s.heap.PlainList a vs) : RecvAt nm (.ref a) s ("list." ++ nm.toString) "list" := by
  obtain ⟨c, hl⟩ := hl
  refine ⟨PySem.F.plainAttrs_list, ?_, ?_, ⟨_, hl, rfl⟩, fun b e => by cases e; exact ⟨_, hl, rfl⟩⟩
  · rcases h with rfl | rfl | rfl | rfl | rfl
    · exact PySem.F.slot_list_append
    · exact PySem.F.slot_list_insert
    · exact PySem.F.slot_list_extend
    · exact PySem.F.slot_list_pop
    · exact PySem.F.slot_list_index
  · rcases h with rfl | rfl | rfl | rfl | rfl
    · exact PySem.F.type_list_append
    · exact PySem.F.type_list_insert
    · exact PySem.F.type_list_extend
    · exact PySem.F.type_list_pop
    · exact PySem.F.type_list_index

theorem se_Meth (he : SE CF n) (hl : SL CF n) (G : Go CF K A n) (Rl : Rel K g m s.heap) (o : Expr) (nm : Str) (apos pos : Pos) (args : List Expr) (hs : noStar args = true) (hb : plainBase o = true) (hline : (apos.endLine == pos.line) = true) (hlen : args.length < 29) :
    Sim CF K A (g, s.heap) (eval (.Call (.Attribute o nm apos) args [] pos) K.env) ((ev n K.c o m).bind fun r m => if recv nm r m then (evs n K.c args m).bind fun ds m => meth nm r ds m else .stuck) (QE K (g, s.heap) g.ρ) s := by
  -- one road for each kind of receiver; the receiver's kind is known from its evaluation
  have road : ∀ (o' : Out R), ev n K.c o m = o' → Sim CF K A (g, s.heap) (eval (.Call (.Attribute o nm apos) args [] pos) K.env) (o'.bind fun r m => if recv nm r m then (evs n K.c args m).bind fun ds m => meth nm r ds m else .stuck) (QE K (g, s.heap) g.ρ) s := by
    intro o' ho
    have hsim := he K A g m o s G Rl
    rw [ho] at hsim
    cases o' with
    | stuck => trivial
    | exc m' => exact wpAny_mono (hsimToCall hb hsim) (fun _ _ x => x) fun _ _ x => x
    | ok r m₁ =>
      show Sim CF K A (g, s.heap) _ (if recv nm r m₁ then (evs n K.c args m₁).bind fun ds m => meth nm r ds m else .stuck) _ s
      by_cases hrc : recv nm r m₁ = true
      · rw [if_pos hrc]
        cases r with
        | v x =>
          obtain ⟨hx, hnm⟩ := Bool.and_eq_true_iff.mp hrc
          obtain ⟨sep, hx⟩ := Option.isSome_iff_exists.mp hx
          cases strV_eq hx
          cases eq_of_beq hnm
          have := Sim.stage2 (t := eval (.Call (.Attribute o "join" apos) args [] pos) K.env) (k := fun v => callWith pos (.builtin "str.join") [v] (backTo pos (starEach args K.env)) []) (P := fun v s' => RecvAt "join" v s' "str.join" "str") (f := fun r m => (evs n K.c args m).bind fun ds m => mJoin sep ds m) (Q' := QE K (g, s.heap) g.ρ)
            (fun Q E h => meth_conv (M := MK K) hb hline hs hlen (wpAny_mono h (fun v s' ⟨p, q⟩ => ⟨_, _, p, q⟩) fun _ _ x => x)) hsim ?_
          · exact this
          intro r' m' g₁ v s₁ heq _ Rl₁ st₁ ⟨hρ, rr⟩
          cases heq
          right
          obtain ⟨t, rfl, hok, _⟩ := (rr.get Rl₁ (s := .d (.str sep)) rfl).str
          refine ⟨⟨PySem.F.plainAttrs_str, PySem.F.slot_str_join, PySem.F.type_str_join, typeIs_str _ _ _, fun _ e => nomatch e⟩, ?_⟩
          refine Sim.stage (P := fun _ => True) (k := fun vs => call (.builtin "str.join") ([.str sep t] ++ vs) []) (callArgs_conv hs (looks_machine (fun _ e => by cases e))) (fun _ _ _ _ => trivial) ((hl K A g₁ m₁ args pos s₁ G Rl₁).rebase st₁) fun ds m₂ g₂ us s₂ _ _ Rl₂ st₂ ⟨⟨hρ₂, fz⟩, _⟩ => ?_
          rw [← hρ, ← hρ₂]
          refine Sim.with1 (fun xs hx => Sim.with1 (fun r hr => ?_) trivial) trivial
          cases one_via (c := .list) hx listD_eq
          cases fz with
          | cons f rest =>
            cases rest
            exact sim_join Rl₂ st₂ hok f hr
        | fresh x => cases hrc
        | var y =>
          obtain ⟨hy, hnm⟩ := Bool.and_eq_true_iff.mp hrc
          obtain ⟨xs, hy⟩ := Option.isSome_iff_exists.mp hy
          have hrec : nm = "append" ∨ nm = "insert" ∨ nm = "extend" ∨ nm = "pop" ∨ nm = "index" := by
            simpa [or_assoc] using hnm
          have hy := ownL_eq hy
          have := Sim.stage2 (t := eval (.Call (.Attribute o nm apos) args [] pos) K.env) (k := fun v => callWith pos (.builtin ("list." ++ nm.toString)) [v] (backTo pos (starEach args K.env)) []) (P := fun v s' => RecvAt nm v s' ("list." ++ nm.toString) "list") (f := fun r m => (evs n K.c args m).bind fun ds m => meth nm (.var y) ds m) (Q' := QE K (g, s.heap) g.ρ)
            (fun Q E h => meth_conv (M := MK K) hb hline hs hlen (wpAny_mono h (fun v s' ⟨p, q⟩ => ⟨_, _, p, q⟩) fun _ _ x => x)) hsim ?_
          · exact this
          intro r' m' g₁ v s₁ heq _ Rl₁ st₁ ⟨hρ, rr⟩
          cases heq
          right
          have hv : g₁.ρ y = some v := rr
          obtain ⟨a, vs, rfl, hX, hpl, _⟩ := Rl₁.ownList hy hv
          refine ⟨recv_list hrec hpl, ?_⟩
          refine Sim.stage (P := fun _ => True) (k := fun us => call (.builtin ("list." ++ nm.toString)) ([.ref a] ++ us) []) (callArgs_conv hs (looks_machine (fun _ e => by cases e))) (fun _ _ _ _ => trivial) ((hl K A g₁ m₁ args pos s₁ G Rl₁).rebase st₁) fun ds m₂ g₂ us s₂ _ _ Rl₂ st₂ ⟨⟨hρ₂, fz⟩, _⟩ => ?_
          rw [← hρ, ← hρ₂]
          exact sim_meth G Rl₂ st₂ (by rw [hρ₂]; exact hv) fz hrec
      · rw [if_neg hrc]; trivial
  exact road _ rfl
where
  hsimToCall {CF : Addr} {K : Cfg} {A : Around} {s : Shared} {g : St} {m' : M} {o : Expr} {nm : Str} {apos pos : Pos} {args : List Expr} (hb : plainBase o = true) (h : Sim CF K A (g, s.heap) (eval o K.env) (.exc m' : Out R) (QE K (g, s.heap) g.ρ) s) :
      wpAny (MK K) A (eval (.Call (.Attribute o nm apos) args [] pos) K.env) (fun _ _ => False) (fun e s' => ∃ g', Same s s' ∧ Rel K g' m' s'.heap ∧ Step (SF K.fr) (g, s.heap) g' s'.heap ∧ Thrown CF (SF K.fr) (g, s.heap) g' e s'.heap) s := by
    rw [arm_call, attr_base hb]
    exact wpAny_bind (wpAny_mono h (fun _ _ x => x.elim) fun _ _ x => x)
end
end
section
open PySem PySem.W PyProof.Rows PySem.Calls
/-- a kind of iterator that owns no tuple of its own -/
noncomputable def iterCls (T : String) : Prop := T = "list_iterator" ∨ T = "tuple_iterator" ∨ T = "range_iterator" ∨ T = "dict_keyiterator"

structure IterOk (K : Cfg) (A : Around) (g : St) (h : Heap) (I : Addr) (items : List SV) (fp : List Addr) (Pi : Nat → Value → Prop) (Si : Nat → Heap → Prop) : Prop where
  W : Walks P K.w A I fp [I] items.length Pi Si
  fp : ∀ b ∈ fp, b = I ∨ (¬ g.O b ∧ Live h b)
  val : ∀ i u, Pi i u → ∀ x, items[i]? = some x → FV K.w g.O h u x
  cls : ∀ i h, Si i h → ∃ o T, h.get? I = some o ∧ o.cls = .type T ∧ iterCls T

section
variable {CF : Addr} {K : Cfg} {A : Around} {z : St × Heap} {s : Shared} {g : St} {m : M} {n : Nat}

inductive IterMk (K : Cfg) (A : Around) (g : St) (s : Shared) (v : Value) (items : List SV) : Prop
  | mk (oI : Obj) (fp : List Addr) (Pi : Nat → Value → Prop) (Si : Nat → Heap → Prop) (h1 : oI.isFreed = false) (h2 : Si 0 (s.heap.push oI)) (h3 : IterOk K A g s.heap s.heap.objs.size items fp Pi Si)
    (h4 : ∀ E (Q : Value → Shared → Prop), Q (.ref s.heap.objs.size) { s with heap := s.heap.push oI } → wpAny (MK K) A (pyIter v) Q E s) : IterMk K A g s v items

theorem fp_two {I a : Addr} {o : Obj} (h1 : ¬ g.O a) (ho : s.heap.get? a = some o) : ∀ b ∈ [I, a], b = I ∨ (¬ g.O b ∧ ∃ o, s.heap.get? b = some o) := fun b hb => by
  rcases List.mem_cons.mp hb with rfl | hb
  · exact .inl rfl
  · cases List.mem_singleton.mp hb
    exact .inr ⟨h1, o, ho⟩
theorem seq_val {vs : Array Value} {xs : List PyData} (h4 : FzAll g.O s.heap vs.toList xs) (i : Nat) (u : Value) (hu : vs[i]? = some u) (x : SV) (hx : (xs.map SV.d)[i]? = some x) : FV K.w g.O s.heap u x := by
  rw [List.getElem?_map] at hx
  obtain ⟨d, hd, rfl⟩ := Option.map_eq_some_iff.mp hx
  obtain ⟨u', q1, q2⟩ := h4.get hd
  rw [Array.getElem?_toList, hu] at q1
  cases q1
  exact q2

theorem iter_list (hh : A.handled = none) {a : Addr} {vs : Array Value} {xs : List PyData} (h1 : ¬ g.O a) (h2 : s.heap.IsList a vs) (h4 : FzAll g.O s.heap vs.toList xs) : IterMk K A g s (.ref a) (xs.map .d) := by
  obtain ⟨o, ho, _⟩ := id h2
  have hw := Walks.list (prog := P) (w := K.w) hh s.heap.objs.size a (Nat.ne_of_lt (Heap.lt_size ho)) vs
  rw [show vs.size = (xs.map SV.d).length by rw [List.length_map, ← h4.length, Array.length_toList]] at hw
  exact ⟨{ cls := .type "list_iterator", data := .fields #[.ref a, .int 0 0] }, [s.heap.objs.size, a], fun i v => vs[i]? = some v, fun i h => h.IsListIter s.heap.objs.size a i ∧ h.IsList a vs, rfl, ⟨⟨_, Heap.get?_push_size _ rfl, rfl, rfl⟩, Heap.IsList.at h2 fun o e => Heap.get?_push_of_some _ e⟩,
    ⟨hw, fp_two h1 ho, seq_val h4, fun i h hs => let ⟨⟨o, h1, h2, _⟩, _⟩ := hs; ⟨o, _, h1, h2, .inl rfl⟩⟩, fun E Q h => wpAny_pyIter_list h2 h⟩

theorem iter_tuple (hh : A.handled = none) {a : Addr} {vs : Array Value} {xs : List PyData} (h1 : ¬ g.O a) (h2 : s.heap.IsTuple a vs) (h4 : FzAll g.O s.heap vs.toList xs) : IterMk K A g s (.ref a) (xs.map .d) := by
  obtain ⟨o, ho, _⟩ := id h2
  have hw := Walks.tuple (prog := P) (w := K.w) hh s.heap.objs.size a (Nat.ne_of_lt (Heap.lt_size ho)) vs
  rw [show vs.size = (xs.map SV.d).length by rw [List.length_map, ← h4.length, Array.length_toList]] at hw
  exact ⟨{ cls := .type "tuple_iterator", data := .fields #[.ref a, .int 0 0] }, [s.heap.objs.size, a], fun i v => vs[i]? = some v, fun i h => h.IsTupleIter s.heap.objs.size a i ∧ h.IsTuple a vs, rfl, ⟨⟨_, Heap.get?_push_size _ rfl, rfl, rfl⟩, Heap.IsTuple.at h2 fun o e => Heap.get?_push_of_some _ e⟩,
    ⟨hw, fp_two h1 ho, seq_val h4, fun i h hs => let ⟨⟨o, h1, h2, _⟩, _⟩ := hs; ⟨o, _, h1, h2, .inr (.inl rfl)⟩⟩, fun E Q h => wpAny_pyIter_tuple h2 h⟩

theorem range_small {k : Nat} (h1 : k < 2 ^ 20) : Builtin.Range.rangeSize 0 (k : Int) 1 = (k : Int) ∧ Builtin.Range.small 0 (k : Int) 1 = true := by
  have hrs : Builtin.Range.rangeSize 0 (k : Int) 1 = (k : Int) := by
    rw [rangeSize_one]; split <;> lia
  refine ⟨hrs, ?_⟩
  unfold Builtin.Range.small
  rw [hrs]
  have fl : ∀ i : Int, 0 ≤ i → i ≤ 2 ^ 20 → Builtin.Range.rangeFitsLong i = true := fun i h0 h1 => by
    unfold Builtin.Range.rangeFitsLong
    rw [Bool.and_eq_true]
    exact ⟨decide_eq_true (by lia), decide_eq_true (by lia)⟩
  have hk : (k : Int) ≤ 2 ^ 20 := by lia
  rw [fl 0 (by decide) (by decide), fl k (Int.natCast_nonneg k) hk, fl 1 (by decide) (by decide), if_pos (by decide), show ((k : Int) + (1 - 1)) = k from Int.add_zero _, fl k (Int.natCast_nonneg k) hk]
  simp

theorem iter_range (hh : A.handled = none) {a : Addr} {k : Nat} {t u x : Tok} (h1 : k < 2 ^ 20) (h3 : IsRange s.heap a 0 k 1 t u x) : IterMk K A g s (.ref a) ((List.range k).map fun (i : Nat) => SV.d (.int (Int.ofNat i))) := by
  obtain ⟨hrs, hsm⟩ := range_small h1
  refine ⟨{ cls := .type "range_iterator", data := .fields #[rawInt 0, rawInt (Builtin.Range.rangeSize 0 k 1), rawInt 1] }, [s.heap.objs.size], fun i v => ∃ t, v = .int (0 + (i : Int) * 1) t, fun i h => IsRangeIter h s.heap.objs.size (0 + (i : Nat) * 1) ((k : Int) - (i : Nat)) 1, rfl, ?_, ⟨?_, fun b hb => .inl (List.mem_singleton.mp hb), fun i w hw y hy => ?_, fun i h hs => ⟨_, _, hs, rfl, .inr (.inr (.inl rfl))⟩⟩, fun E Q h => wpAny_pyIter_range h3 hsm h⟩
  · rw [hrs]
    show Heap.get? _ _ = some _
    rw [Heap.get?_push_size _ rfl]
    simp
  · rw [List.length_map, List.length_range]
    exact Walks.range hh _ 0 1 k
  · obtain ⟨t, rfl⟩ := hw
    rw [List.getElem?_map] at hy
    obtain ⟨j, hj, rfl⟩ := Option.map_eq_some_iff.mp hy
    obtain ⟨hl, e⟩ := List.getElem?_eq_some_iff.mp hj
    rw [List.getElem_range] at e
    subst e
    rw [Int.zero_add, Int.mul_one]
    exact Fz.int _ _

theorem iter_dict (hh : A.handled = none) {a : Addr} {kvs : List (List Str × PyData)} (h1 : ¬ g.O a) (q : DictT K.w g.O s.heap a kvs) : IterMk K A g s (.ref a) (kvs.map fun p => .d (keyTup p.1)) := by
  obtain ⟨es, ep, r1, r2, r3, r4, r5⟩ := q.raw
  obtain ⟨o, ho, _⟩ := id r1
  refine ⟨{ cls := .type "dict_keyiterator", data := .fields #[.ref a, .int 0 0, .int es.size 0, .int ep 0] }, [s.heap.objs.size, a], fun i v => ∃ e, es[i]? = some e ∧ v = e.key, fun i h => h.IsKeyIter s.heap.objs.size a i es.size ep ∧ RawAt h a es ep, rfl, ⟨⟨_, Heap.get?_push_size _ rfl, rfl, rfl⟩, r1.at fun o e => Heap.get?_push_of_some _ e⟩,
    ⟨?_, fp_two h1 ho, fun i u hu x hx => ?_, fun i h hs => let ⟨⟨o, h1, h2, _⟩, _⟩ := hs; ⟨o, _, h1, h2, .inr (.inr (.inr rfl))⟩⟩, fun E Q h => pyIter_raw r3 r1 h⟩
  · rw [List.length_map, ← r2]
    exact walks_raw hh _ a (Nat.ne_of_lt (Heap.lt_size ho)) es ep
  · obtain ⟨en, e1, rfl⟩ := hu
    rw [List.getElem?_map] at hx
    obtain ⟨d, hd, rfl⟩ := Option.map_eq_some_iff.mp hx
    have hd' : (kvs.map fun p => keyTup p.1)[i]? = some (keyTup d.1) := by rw [List.getElem?_map, hd]; rfl
    obtain ⟨u', q1, q2⟩ := r5.get hd'
    rw [List.getElem?_map, Array.getElem?_toList, e1] at q1
    cases q1
    exact q2

theorem iter_at (hh : A.handled = none) {v : Value} {sv : SV} {items : List SV} (fv : FV K.w g.O s.heap v sv) (e : itemsOf sv = some items) : IterMk K A g s v items := by
  cases sv with
  | d d =>
    cases fv with
    | list h1 h2 h3 h4 => cases e; exact iter_list hh h1 h2 h4
    | tuple h1 h2 h3 h4 => cases e; exact iter_tuple hh h1 h2 h4
    | _ => cases e
  | dt kvs =>
    cases e
    obtain ⟨a, rfl, h1, q⟩ := fv
    exact iter_dict hh h1 q
  | rng k =>
    cases e
    obtain ⟨h1, a, t, u, x, rfl, h2, h3⟩ := fv
    exact iter_range hh h1 h3
  | di ks => cases e
end
end
section
open PySem PySem.W PyProof.Rows PySem.Calls
section
variable {CF : Addr} {K : Cfg} {A : Around} {z : St × Heap} {s : Shared} {g : St} {m : M} {n : Nat}

theorem bindable_facts (H : EnvOk K.c K.env₀ K.env) {x : Str} (h : bindable K.c x = true) : K.c.cv = none ∧ K.c.ps.contains x = false ∧ (K.env₀.kindOf x = some .local ∨ K.env₀.kindOf x = some .cell) := by
  unfold bindable at h
  simp only [Bool.and_eq_true, Option.isNone_iff_eq_none, Bool.not_eq_true', Bool.or_eq_true, beq_iff_eq] at h
  refine ⟨h.1.1, h.1.2, ?_⟩
  unfold Env.kindOf
  rw [H.s0]
  exact h.2

/-- data is stored under a name -/
theorem sim_bindV (H : EnvOk K.c K.env₀ K.env) (Rl : Rel K g m s.heap) (st : Step (SF K.fr) z g s.heap) {x : Str} {v : Value} {sv : SV} (hb : bindable K.c x = true) (fv : FV K.w g.O s.heap v sv) :
    Sim CF K A z (bindName K.env x v) (.ok () (upd m x ⟨false, sv⟩)) (fun _ _ g' _ s' => g'.O = g.O ∧ g'.X = g.X) s := by
  obtain ⟨h1, h2, h3⟩ := bindable_facts H hb
  refine Sim.ok fun E => wpAny_bindName (storeName_at H Rl h1 h3 fun h' tk hl => ?_)
  exact ⟨_, ⟨_, tk, rfl⟩, Rl.store (e := ⟨false, sv⟩) (X' := g.X) H h2 h1 hl (.inl ⟨rfl, rfl, fv⟩), Step.store H Rl st (e := ⟨false, sv⟩) (X' := g.X) hl (.inl ⟨rfl, rfl, fv⟩) (fun q => by cases q), rfl, rfl⟩

/-- a new object is stored under a name: the name holds it alone -/
theorem sim_bindF (H : EnvOk K.c K.env₀ K.env) (Rl : Rel K g m s.heap) (st : Step (SF K.fr) z g s.heap) {x : Str} {a : Addr} {sv : SV} (hb : bindable K.c x = true) (hn : Mk z a) (ho : g.O a) (hx : ¬ g.X a) (hs : ¬ SF K.fr a) (ov : OV K.w g.O s.heap a sv) :
    Sim CF K A z (bindName K.env x (.ref a)) (.ok () (upd m x ⟨true, sv⟩)) (fun _ _ g' _ s' => g'.O = g.O ∧ g'.X = fun b => g.X b ∨ b = a) s := by
  obtain ⟨h1, h2, h3⟩ := bindable_facts H hb
  refine Sim.ok fun E => wpAny_bindName (storeName_at H Rl h1 h3 fun h' tk hl => ?_)
  have held : Held K g (.ref a) ⟨true, sv⟩ s.heap (fun b => g.X b ∨ b = a) := .inr ⟨rfl, a, rfl, ho, hx, hs, ov, rfl⟩
  exact ⟨_, ⟨_, tk, rfl⟩, Rl.store H h2 h1 hl held, Step.store H Rl st hl held (fun _ b e => by cases e; exact hn), rfl, rfl⟩

/-- what an expression gave is stored under a name -/
theorem sim_storeR (H : EnvOk K.c K.env₀ K.env) (Rl : Rel K g m s.heap) (st : Step (SF K.fr) z g s.heap) {x : Str} {r : R} {v : Value} (hb : bindable K.c x = true) (rr : RR K z r g v s.heap) :
    Sim CF K A z (bindName K.env x v) (storeR x r m) (fun _ _ _ _ _ => True) s := by
  cases r with
  | v sv => exact (sim_bindV H Rl st hb rr).mono fun _ _ _ _ _ _ _ _ _ => trivial
  | fresh sv =>
    obtain ⟨a, rfl, h1, h2, h3, h4, _, h5⟩ := rr
    exact (sim_bindF H Rl st hb h1 h2 h3 h4 h5).mono fun _ _ _ _ _ _ _ _ _ => trivial
  | var y =>
    cases hy : m.lookup y with
    | none =>
      have e : storeR x (.var y) m = .stuck := by simp only [storeR, hy]
      rw [e]; trivial
    | some e =>
      have e' : storeR x (.var y) m = .ok () (upd (upd m y ⟨false, e.v⟩) x ⟨false, e.v⟩) := by simp only [storeR, hy]
      rw [e']
      have hf : (R.var y).frz m = .ok e.v (upd m y ⟨false, e.v⟩) := by simp [R.frz, hy]
      obtain ⟨g', k1, k2, k3, k4⟩ := rr.frz Rl hf
      exact (sim_bindV (g := g') H k1 (k4 st) hb k3).mono fun _ _ _ _ _ _ _ _ _ => trivial

theorem nameOf_some {e : Expr} {x : Str} (h : nameOf e = some x) : ∃ p, e = .Name x p := by
  cases e <;> first | exact none_some h | (cases h; exact ⟨_, rfl⟩)

theorem twoNames_eq {ts : List Expr} {x y : Str} (h : twoNames ts = some (x, y)) : ∃ px py, ts = [.Name x px, .Name y py] := by
  cases ht : two ts with
  | none => unfold twoNames at h; rw [ht] at h; exact none_some h
  | some p =>
    unfold twoNames at h; rw [ht] at h
    cases hx : nameOf p.1 with
    | none => exact none_some (show with1 (nameOf p.1) none _ = _ by rw [hx]; rfl |>.symm.trans h)
    | some x' =>
      obtain ⟨y', hy, e⟩ := Option.map_eq_some_iff.mp (show (nameOf p.2).map (fun y => (x', y)) = some (x, y) by rw [← h]; show _ = with1 (nameOf p.1) none _; rw [hx]; rfl)
      cases e
      obtain ⟨px, h1⟩ := nameOf_some hx
      obtain ⟨py, h2⟩ := nameOf_some hy
      exact ⟨px, py, by rw [two_eq ht, h1, h2]⟩

theorem assignEach_names : ∀ {es : List Expr} {xs : List Str} {env : Env}, namesOf es = some xs → (assignEach es env).length = xs.length ∧ (assignEach es env).findIdx? (·.1) = none ∧
    ∃ ps : List Pos, ps.length = xs.length ∧ (assignEach es env).map (·.2) = (xs.zip ps).map fun q => assign (.Name q.1 q.2) env
  | [], xs, env, h => by
    simp [namesOf] at h; subst h
    exact ⟨rfl, rfl, [], rfl, rfl⟩
  | e :: es, xs, env, h => by
    unfold namesOf at h
    rw [List.mapM_cons] at h
    cases he : nameOf e with
    | none => rw [he] at h; cases h
    | some x =>
      obtain ⟨p, rfl⟩ := nameOf_some he
      rw [he] at h
      simp only [Option.bind_eq_bind, Option.bind_some] at h
      cases hr : es.mapM nameOf with
      | none => rw [hr] at h; cases h
      | some r =>
        rw [hr] at h
        simp only [Option.pure_def, Option.bind_some, Option.some.injEq] at h
        subst h
        obtain ⟨h1, h2, ps, h3, h4⟩ := assignEach_names (env := env) (show namesOf es = some r from hr)
        have e1 : assignEach (.Name x p :: es) env = (false, assign (.Name x p) env) :: assignEach es env := rfl
        refine ⟨by rw [e1]; simp [h1], ?_, p :: ps, by simp [h3], by rw [e1]; simp [h4]⟩
        rw [e1, List.findIdx?_cons]
        simp [h2]

theorem bindAll_len : ∀ {xs : List Str} {ds : List PyData} {m m' : M}, bindAll xs ds m = some m' → xs.length = ds.length
  | [], [], _, _, _ => rfl
  | x :: xs, d :: ds, m, m', e => by
    have := bindAll_len (xs := xs) (ds := ds) (m := upd m x ⟨false, .d d⟩) (m' := m') e
    simp [this]
  | [], _ :: _, _, _, e => by simp [bindAll] at e
  | _ :: _, [], _, _, e => by simp [bindAll] at e

/-- frozen data, one behind the other, stored under names -/
theorem sim_bindAll (H : EnvOk K.c K.env₀ K.env) : ∀ (xs : List Str) {ps : List Pos} {ds : List PyData} {vs : List Value} {m m' : M} {g : St} {s : Shared}, Rel K g m s.heap → Step (SF K.fr) z g s.heap → xs.all (bindable K.c) = true → ps.length = xs.length → FzAll g.O s.heap vs ds → bindAll xs ds m = some m' →
    Sim CF K A z (assignInOrder ((xs.zip ps).map fun q => assign (.Name q.1 q.2) K.env) vs) (.ok () m') (fun _ _ _ _ _ => True) s := by
  intro xs
  induction xs with
  | nil =>
    intro ps ds vs m m' g s Rl st _ hp fz e
    cases ds with
    | cons _ _ => cases e
    | nil =>
      cases e
      cases fz
      exact Sim.pure Rl st trivial
  | cons x xs ih =>
    intro ps ds vs m m' g s Rl st hb hp fz e
    cases ds with
    | nil => cases e
    | cons d ds =>
      cases ps with
      | nil => simp at hp
      | cons p ps =>
        cases fz with
        | cons f fz =>
          rename_i v vs
          rw [List.all_cons, Bool.and_eq_true] at hb
          have h1 : Sim CF K A (g, s.heap) (holding vs (assign (.Name x p) K.env v)) (.ok () (upd m x ⟨false, .d d⟩)) (fun _ _ g' _ s' => g'.O = g.O ∧ g'.X = g.X) s := Sim.holding (Sim.standAt (sim_bindV H Rl Rl.step hb.1 f))
          have h2 := (h1.rebase st).bind (k := fun _ => assignInOrder ((xs.zip ps).map fun q => assign (.Name q.1 q.2) K.env) vs) (f := fun (_ : Unit) (_ : M) => (.ok () m' : Out Unit)) (Q' := fun _ _ _ _ _ => True) fun _ m₁ g₁ _ s₁ hm _ Rl₁ st₁ ⟨_, q3⟩ => by
            cases hm
            exact ih Rl₁ st₁ hb.2 (by simpa using hp) (fz.step Rl q3) e
          exact h2

/-- a target of a loop, or of an assignment, takes frozen data -/
theorem sim_bindTo (G : Go CF K A n) (Rl : Rel K g m s.heap) (st : Step (SF K.fr) z g s.heap) {t : Expr} {v : Value} {sv : SV} (fv : FV K.w g.O s.heap v sv) :
    Sim CF K A z (assign t K.env v) (bindTo K.c t sv m) (fun _ _ _ _ _ => True) s := by
  cases t with
  | Name x p => exact Sim.ifs fun hb => Sim.standAt ((sim_bindV G.H Rl st hb fv).mono fun _ _ _ _ _ _ _ _ _ => trivial)
  | Tuple es k p =>
    refine Sim.with2 (fun xs ds hn hd => Sim.ifs fun hb => Sim.with1 (fun m' hm => ?_) trivial) trivial
    cases tupV_eq hd
    cases fv with
    | tuple h1 h2 h3 h4 =>
      rename_i a vs
      obtain ⟨e1, e2, ps, e3, e4⟩ := assignEach_names (env := K.env) hn
      have hsz := h4.length
      rw [Array.length_toList] at hsz
      have hlen := bindAll_len hm
      have fin : ∀ h', Heap.ExtBut s.heap.objs.size s.heap h' → Sim CF K A z (assignInOrder ((assignEach es K.env).map (·.2)) vs.toList) (.ok () m') (fun _ _ _ _ _ => True) { s with heap := h' } := fun h' he => by
        have hk : ∀ b o, s.heap.get? b = some o → h'.get? b = some o := fun b o e => he b o (Nat.ne_of_lt (Heap.lt_size e)) e
        have stay : Stay g.O s.heap g.O h' := fun a o ha e => ⟨ha, hk a o e⟩
        rw [e4]
        exact sim_bindAll G.H xs (Rl.keeps hk) (st.keeps hk) hb e3 (h4.stay stay) hm
      exact wpAny_assign_Tuple G.hh h2 (by rw [e1, hsz, hlen]) e2 fun h' he => wpAny_mono (fin h' he) (fun _ _ ⟨g', q1, q2⟩ => ⟨g', Same.trans ⟨h', s.toks, rfl⟩ q1, q2⟩) fun _ _ q => q
  | _ => exact trivial
end
end
section
open PySem PySem.W PyProof.Rows PySem.Calls
/-- an iterator in the midst of its walk -/
structure ItInv (K : Cfg) (A : Around) (I : Addr) (items : List SV) (fp : List Addr) (Pi : Nat → Value → Prop) (Si : Nat → Heap → Prop) (z : St × Heap) (i : Nat) (g : St) (h : Heap) : Prop where
  W : Walks P K.w A I fp [I] items.length Pi Si
  st : Si i h
  j : Junk K z g I
  fp : ∀ b ∈ fp, b = I ∨ (¬ g.O b ∧ Live h b)
  val : ∀ j u, Pi j u → ∀ x, items[j]? = some x → FV K.w g.O h u x
  cls : ∀ i h, Si i h → ∃ o T, h.get? I = some o ∧ o.cls = .type T ∧ iterCls T

section
variable {CF : Addr} {K : Cfg} {A : Around} {z : St × Heap} {s : Shared} {g g' : St} {m : M} {n i : Nat} {h h' : Heap}
variable {I : Addr} {items : List SV} {fp : List Addr} {Pi : Nat → Value → Prop} {Si : Nat → Heap → Prop}

theorem ItInv.step (x : ItInv K A I items fp Pi Si z i g h) (Rl : Rel K g m h) (st : Step (SF K.fr) (g, h) g' h') : ItInv K A I items fp Pi Si z i g' h' := by
  obtain ⟨o, T, hI, _⟩ := x.cls i h x.st
  have stay := Step.stay Rl st
  refine ⟨x.W, x.W.frame i h h' x.st fun b hb o e => ?_, ⟨x.j.n, st.okeep I x.j.o x.j.x, fun q => (st.xnew I q).elim x.j.x fun t => t.no hI, x.j.s⟩, fun b hb => ?_, fun j u hu y hy => (x.val j u hu y hy).stay stay, x.cls⟩
  · rcases x.fp b hb with rfl | ⟨q, _⟩
    · exact st.kept.exact e x.j.x x.j.s
    · exact (stay b o q e).2
  · rcases x.fp b hb with rfl | ⟨q, o, e⟩
    · exact .inl rfl
    · exact .inr ⟨(stay b o q e).1, o, (stay b o q e).2⟩

theorem ItInv.next (x : ItInv K A I items fp Pi Si z i g s.heap) (Rl : Rel K g m s.heap) (st : Step (SF K.fr) z g s.heap) (hL : K.c.cv.isSome = true → K.env.locals ≠ I) {y : SV} (hy : items[i]? = some y) {E : Value → Shared → Prop} {Q : Option Value → Shared → Prop}
    (hq : ∀ u h' tk, FV K.w g.O h' u y → Rel K g m h' → Step (SF K.fr) z g h' → ItInv K A I items fp Pi Si z (i + 1) g h' → (∀ b o, b ≠ I → s.heap.get? b = some o → h'.get? b = some o) → Q (some u) { s with heap := h', toks := tk }) : wpAny (MK K) A (pyNext (.ref I)) Q E s := by
  have hi : i < items.length := (List.getElem?_eq_some_iff.mp hy).1
  refine x.W.item i s Q E hi x.st fun u h' tk hu hs hk => ?_
  have hk' : ∀ b o, b ≠ I → s.heap.get? b = some o → h'.get? b = some o := fun b o hb e => hk b o (by simpa using hb) e
  obtain ⟨o, T, hI, _⟩ := x.cls _ h' hs
  have stay : Stay g.O s.heap g.O h' := fun a o ha e => ⟨ha, hk' a o (fun q => ha (q ▸ x.j.o)) e⟩
  have Rl' : Rel K g m h' := Rl.but (fun b => b = I) g.O (fun b q _ => q ▸ ⟨o, hI⟩) (fun b o hb e => hk' b o hb e) (fun b q => q ▸ x.j.o) (fun b q => q ▸ x.j.x) (fun b q => q ▸ x.j.s) (fun hc q => hL hc q) (fun _ q _ => q) fun _ q => .inl q
  have st' : Step (SF K.fr) z g h' := st.but (fun b => b = I) g.O (fun b o hb e => hk' b o hb e) (fun b q => q ▸ x.j.n) (fun _ q _ => q) fun _ q => .inl q
  refine hq u h' tk ((x.val i u hu y hy).stay stay) Rl' st' ⟨x.W, hs, x.j, fun b hb => ?_, fun j v hv w hw => (x.val j v hv w hw).stay stay, x.cls⟩ hk'
  rcases x.fp b hb with rfl | ⟨q, o, e⟩
  · exact .inl rfl
  · exact .inr ⟨q, o, hk' b o (fun t => q (t ▸ x.j.o)) e⟩

theorem ItInv.done (x : ItInv K A I items fp Pi Si z items.length g s.heap) (Rl : Rel K g m s.heap) (st : Step (SF K.fr) z g s.heap) (hL : K.c.cv.isSome = true → K.env.locals ≠ I) {E : Value → Shared → Prop} {Q : Option Value → Shared → Prop}
    (hq : ∀ h' tk, Rel K { g with O := fun b => g.O b ∧ b ≠ I } m h' → Step (SF K.fr) z { g with O := fun b => g.O b ∧ b ≠ I } h' → Stay g.O s.heap (fun b => g.O b ∧ b ≠ I) h' → (∀ b o, b ≠ I → s.heap.get? b = some o → h'.get? b = some o) → Q none { s with heap := h', toks := tk }) : wpAny (MK K) A (pyNext (.ref I)) Q E s := by
  refine x.W.done s Q E x.st fun h' tk hk => ?_
  have hk' : ∀ b o, b ≠ I → s.heap.get? b = some o → h'.get? b = some o := fun b o hb e => hk b o (by simpa using hb) e
  refine hq h' tk ?_ ?_ ?_ hk'
  · exact Rl.but (fun b => b = I) _ (fun b q t => (t.2 q).elim) (fun b o hb e => hk' b o hb e) (fun b q => q ▸ x.j.o) (fun b q => q ▸ x.j.x) (fun b q => q ▸ x.j.s) (fun hc q => hL hc q) (fun _ q t => ⟨q, t⟩) fun _ q => .inl q.1
  · exact st.but (fun b => b = I) _ (fun b o hb e => hk' b o hb e) (fun b q => q ▸ x.j.n) (fun _ q t => ⟨q, t⟩) fun _ q => .inl q.1
  · exact fun a o ha e => ⟨fun q => ha q.1, hk' a o (fun q => ha (q ▸ x.j.o)) e⟩

/-- an iterator is made -/
theorem sim_iter (H : EnvOk K.c K.env₀ K.env) (hh : A.handled = none) (Rl : Rel K g m s.heap) (st : Step (SF K.fr) z g s.heap) {v : Value} {sv : SV} (fv : FV K.w g.O s.heap v sv) (e : itemsOf sv = some items) {E : Value → Shared → Prop} {Q : Value → Shared → Prop}
    (hq : ∀ (oI : Obj) fp Pi Si, oI.isFreed = false → Rel K (gNew g s.heap) m (s.heap.push oI) → Step (SF K.fr) z (gNew g s.heap) (s.heap.push oI) → ItInv K A s.heap.objs.size items fp Pi Si z 0 (gNew g s.heap) (s.heap.push oI) → s.heap.objs.size ≠ K.env.locals →
      Q (.ref s.heap.objs.size) { s with heap := s.heap.push oI }) : wpAny (MK K) A (pyIter v) Q E s := by
  obtain ⟨oI, fp, Pi, Si, hf, h0, ok, hit⟩ := iter_at (K := K) (A := A) (g := g) hh fv e
  obtain ⟨f1, f2, f3, f4⟩ := Rl.fresh H (New.size (Nat.le_refl _))
  have stay : Stay g.O s.heap (gNew g s.heap).O (s.heap.push oI) := fun a o ha e => ⟨fun q => q.elim ha fun q => by subst q; exact absurd (Heap.lt_size e) (Nat.lt_irrefl _), Heap.get?_push_of_some _ e⟩
  refine hit E Q (hq oI fp Pi Si hf (Rl.new oI hf) (st.new oI) ⟨ok.W, h0, ⟨st.mid (New.size (Nat.le_refl _)), .inr rfl, f2, f3⟩, fun b hb => ?_, fun j u hu x hx => (ok.val j u hu x hx).stay stay, ok.cls⟩ f4)
  rcases ok.fp b hb with rfl | ⟨q, o, e⟩
  · exact .inl rfl
  · exact .inr ⟨(stay b o q e).1, o, (stay b o q e).2⟩

theorem folded_plain {it : Expr} {env : Env} (h : ∀ es k p, it ≠ .Set es k p) (x : Value) : foldedSetIterable it env x = pure x := by
  cases it <;> first | rfl | exact absurd rfl (h _ _ _)

theorem letOwned_iter {M : Model} {A : Around} {E : Value → Shared → Prop} {Q : Unit → Shared → Prop} {t : Expr} {o : Obj} {T : String} {u : Value} (ho : s.heap.get? I = some o) (hc : o.cls = .type T) (hT : iterCls T) (hq : Q () s) : wpAny M A (letOwnedTupleGo t (.ref I) u) Q E s := by
  have main : wpAny M A (match (Value.ref I, u) with
      | (.ref r, .ref a) => (do
        let o ← load r
        match o.cls, o.data with
        | .type n, .fields vs =>
          if ["enumerate", "zip", "dict_itemiterator", "dict_reverseitemiterator", "odict_iterator", "itertools.zip_longest", "itertools.pairwise"].contains n && vs[0]? == some (rawInt a) then
            rule "for.unpacks-the-owned-tuple"
            updateField r 0 .none
        | _, _ => pure () : Sem Unit)
      | _ => pure ()) Q E s := by
    cases u with
    | ref a =>
      refine wpAny_bind (wpAny_load ho ?_)
      rw [hc]
      cases o.data with
      | fields vs =>
        have hno : (["enumerate", "zip", "dict_itemiterator", "dict_reverseitemiterator", "odict_iterator", "itertools.zip_longest", "itertools.pairwise"].contains T) = false := by
          rcases hT with rfl | rfl | rfl | rfl <;> decide
        dsimp only
        rw [hno]
        exact wpAny_pure hq
      | _ => exact wpAny_pure hq
    | _ => exact wpAny_pure hq
  cases t <;> first | exact main | exact wpAny_pure hq

/-- how the outcome of an own activation is told -/
noncomputable def OwnPost (CF : Addr) (K : Cfg) (z : St × Heap) (s : Shared) (o : Out Fl) (r : Result) (s' : Shared) : Prop := match o, r with
  | .ok fl m', .ok f => ∃ g, Same s s' ∧ Rel K g m' s'.heap ∧ Step (SF K.fr) z g s'.heap ∧ FlR K g s'.heap fl f
  | .exc m', .error e => ∃ g, Same s s' ∧ Rel K g m' s'.heap ∧ Step (SF K.fr) z g s'.heap ∧ Traced CF K z g e s'.heap
  | _, _ => False

theorem sim_runOwn (H : EnvOk K.c K.env₀ K.env) {c : Code} {o : Out Fl} (h : o ≠ .stuck → codeAny (MK K) A c (OwnPost CF K z s o) s) : Sim CF K A z (runOwn c K.env) o (fun fl _ g' f s' => FlR K g' s'.heap fl f) s := by
  cases o with
  | stuck => trivial
  | ok fl m' =>
    refine wpAny_runOwn (codeAny_mono (h (by simp)) fun r s' hr => ?_)
    cases r with
    | ok f => exact hr
    | error e => exact hr.elim
  | exc m' =>
    refine wpAny_runOwn (codeAny_mono (h (by simp)) fun r s' hr => ?_)
    cases r with
    | ok f => exact hr.elim
    | error e =>
      obtain ⟨g', h1, h2, h3, h4⟩ := hr
      obtain ⟨a, ob, vs, T, oT, ts, f, rfl, j, q2, q3, q4, q5, q6⟩ := id h4
      refine wpAny_bind (wpAny_field q2 q4 q5 ?_)
      have hne : (Value.ref T == Value.none) = false := by rfl
      rw [hne]
      simp only [Bool.false_eq_true, if_false]
      refine setFlight_at h2 h3 h4 fun h' k1 k2 k3 _ => ?_
      exact ⟨g', h1.trans .mk, k1, k2, k3.thrown⟩
end
end
section
open PySem PySem.W PyProof.Rows PySem.Calls
section
variable {CF : Addr} {K : Cfg} {A : Around} {z : St × Heap} {s s₀ : Shared} {g g' : St} {m : M} {n i : Nat} {h h' : Heap}

/-- an exception out of a block of an own activation -/
theorem noted_at (G : Go CF K A n) (hcv : K.c.cv = none) {m' : M} {e : Value} (hx : ∃ g, Same s₀ s ∧ Rel K g m' s.heap ∧ Step (SF K.fr) z g s.heap ∧ Thrown CF (SF K.fr) z g e s.heap) :
    notedBy (MK K) A K.env (fun e s' => OwnPost CF K z s₀ (.exc m') (.error e) s') e s := by
  obtain ⟨g, h1, h2, h3, h4⟩ := hx
  have he : K.env = K.env₀ := (G.H.fn hcv).1
  refine noteFrame_at (K := K) G.H G.af G.fr (by rw [he]; exact G.H.f0) h2 h3 h4 fun g' h' k1 k2 _ k3 _ => ?_
  exact ⟨g', h1.trans .mk, k1, k2, k3⟩

theorem forLoop_cons {step : SV → M → Out Fl} {x : SV} {xs : List SV} {m : M} : forLoop step (x :: xs) m = match step x m with
    | .ok .next m => forLoop step xs m
    | .ok .cont m => forLoop step xs m
    | .ok .brk m => .ok .next m
    | .ok (.ret v) m => .ok (.ret v) m
    | .exc m => .exc m
    | .stuck => .stuck := rfl

/-- a turn of a for -/
noncomputable def forStep (n : Nat) (c : Ctx) (t : Expr) (b : List Stmt) (s : SV) (m : M) : Out Fl := (bindTo c t s m).bind fun _ m => exs n c b m
theorem forStep_exc {c : Ctx} {t : Expr} {b : List Stmt} {sv : SV} {m₁ m₂ : M} (h : bindTo c t sv m₁ = .exc m₂) : forStep n c t b sv m₁ = .exc m₂ := by unfold forStep; rw [h]; rfl
theorem forStep_stuck {c : Ctx} {t : Expr} {b : List Stmt} {sv : SV} {m₁ : M} (h : bindTo c t sv m₁ = .stuck) : forStep n c t b sv m₁ = .stuck := by unfold forStep; rw [h]; rfl
theorem forStep_ok {c : Ctx} {t : Expr} {b : List Stmt} {sv : SV} {m₁ m₂ : M} {u : Unit} (h : bindTo c t sv m₁ = .ok u m₂) : forStep n c t b sv m₁ = exs n c b m₂ := by unfold forStep; rw [h]; rfl
section
variable {step : SV → M → Out Fl} {x : SV} {xs : List SV} {m₁ m₂ : M}
theorem fl_next (h : step x m₁ = .ok .next m₂) : forLoop step (x :: xs) m₁ = forLoop step xs m₂ := by rw [forLoop_cons, h]
theorem fl_cont (h : step x m₁ = .ok .cont m₂) : forLoop step (x :: xs) m₁ = forLoop step xs m₂ := by rw [forLoop_cons, h]
theorem fl_brk (h : step x m₁ = .ok .brk m₂) : forLoop step (x :: xs) m₁ = .ok .next m₂ := by rw [forLoop_cons, h]
theorem fl_ret {v : SV} (h : step x m₁ = .ok (.ret v) m₂) : forLoop step (x :: xs) m₁ = .ok (.ret v) m₂ := by rw [forLoop_cons, h]
theorem fl_exc (h : step x m₁ = .exc m₂) : forLoop step (x :: xs) m₁ = .exc m₂ := by rw [forLoop_cons, h]
theorem fl_stuck (h : step x m₁ = .stuck) : forLoop step (x :: xs) m₁ = .stuck := by rw [forLoop_cons, h]
end
inductive ForI (K : Cfg) (A : Around) (z : St × Heap) (I : Addr) (items : List SV) (fp : List Addr) (Pi : Nat → Value → Prop) (Si : Nat → Heap → Prop) (s : Shared) (step : SV → M → Out Fl) (o : Out Fl) (k : Nat) (s' : Shared) : Prop
  | mk (i : Nat) (g' : St) (m : M) (hk : k = items.length + 1 - i) (hi : i ≤ items.length) (sm : Same s s') (Rl : Rel K g' m s'.heap) (st : Step (SF K.fr) z g' s'.heap) (inv : ItInv K A I items fp Pi Si z i g' s'.heap) (ho : forLoop step (items.drop i) m = o) : ForI K A z I items fp Pi Si s step o k s'
inductive IterAt (K : Cfg) (A : Around) (z : St × Heap) (m : M) (items : List SV) (v : Value) (s : Shared) : Prop
  | mk (g : St) (fp : List Addr) (Pi : Nat → Value → Prop) (Si : Nat → Heap → Prop) (I : Addr) (e : v = .ref I) (Rl : Rel K g m s.heap) (st : Step (SF K.fr) z g s.heap) (inv : ItInv K A I items fp Pi Si z 0 g s.heap) : IterAt K A z m items v s

theorem for_loop (hs : SXs CF n) (G : Go CF K A n) (hcv : K.c.cv = none) {t : Expr} {b : List Stmt} {items : List SV} {I : Addr} {fp : List Addr} {Pi : Nat → Value → Prop} {Si : Nat → Heap → Prop} {o : Out Fl} (hne : o ≠ .stuck)
    (Rl : Rel K g m s.heap) (st : Step (SF K.fr) z g s.heap) (inv : ItInv K A I items fp Pi Si z 0 g s.heap) (ho : forLoop (forStep n K.c t b) items m = o) :
    codeAny (MK K) A (.forLoop t (.ref I) b [] K.env) (OwnPost CF K z s o) s := by
  have hL : K.c.cv.isSome = true → K.env.locals ≠ I := fun q => by rw [hcv] at q; cases q
  refine codeAny_forLoop_any (I := ForI K A z I items fp Pi Si s (forStep n K.c t b) o) ?_ (items.length + 1) ⟨0, g, m, rfl, Nat.zero_le _, .refl, Rl, st, inv, ho⟩
  rintro k s₃ ⟨i, g₃, m₃, rfl, hi, sm₃, Rl₃, st₃, inv₃, ho₃⟩
  by_cases hlt : i < items.length
  · rw [List.drop_eq_getElem_cons hlt] at ho₃
    refine inv₃.next Rl₃ st₃ hL (y := items[i]) (List.getElem?_eq_getElem hlt) fun u h₄ tk fu Rl₄ st₄ inv₄ _ => ?_
    obtain ⟨oI, T, hI, hc, hT⟩ := inv₄.cls _ _ inv₄.st
    refine letOwned_iter (s := { s₃ with heap := h₄, toks := tk }) hI hc hT ?_
    have B := (sim_bindTo (A := A) (s := { s₃ with heap := h₄, toks := tk }) (t := t) G Rl₄ Rl₄.step fu).rebase st₄
    have next : ∀ {g₆ : St} {m₅ : M} {s₆ : Shared}, forLoop (forStep n K.c t b) (items.drop (i + 1)) m₅ = o → Same s s₆ → Rel K g₆ m₅ s₆.heap → Step (SF K.fr) z g₆ s₆.heap → ItInv K A I items fp Pi Si z (i + 1) g₆ s₆.heap →
        ∃ k', k' < items.length + 1 - i ∧ ForI K A z I items fp Pi Si s (forStep n K.c t b) o k' s₆ := fun h sm Rl st inv => ⟨items.length + 1 - (i + 1), by clear B; lia, i + 1, _, _, rfl, hlt, sm, Rl, st, inv, h⟩
    cases hb : bindTo K.c t items[i] m₃ with
    | stuck => rw [fl_stuck (forStep_stuck hb)] at ho₃; exact absurd ho₃.symm hne
    | exc m₄ =>
      rw [fl_exc (forStep_exc hb)] at ho₃
      rw [hb] at B
      subst ho₃
      exact wpAny_mono B (fun _ _ q => q.elim) fun e s' q => noted_at G hcv (let ⟨g', a, b⟩ := q; ⟨g', sm₃.trans (Same.trans .mk a), b⟩)
    | ok _ m₄ =>
      rw [hb] at B
      refine wpAny_mono B (fun _ s₅ ⟨g₅, sm₅, Rl₅, st₅, _, st₄₅⟩ => ?_) fun _ _ q => q.elim
      have C := (hs K A g₅ m₄ b s₅ G hcv Rl₅).rebase st₅
      have sm : Same s s₅ := sm₃.trans (Same.trans .mk sm₅)
      have hx' := forStep_ok (n := n) (b := b) hb
      cases hx : exs n K.c b m₄ with
      | stuck => rw [fl_stuck (hx'.trans hx)] at ho₃; exact absurd ho₃.symm hne
      | exc m₅ =>
        rw [fl_exc (hx'.trans hx)] at ho₃
        rw [hx] at C
        subst ho₃
        exact wpAny_mono C (fun _ _ q => q.elim) fun e s' q => noted_at G hcv (let ⟨g', a, b⟩ := q; ⟨g', sm.trans a, b⟩)
      | ok fl m₅ =>
        rw [hx] at C
        refine wpAny_mono C (fun f s₆ ⟨g₆, sm₆, Rl₆, st₆, flr, st₅₆⟩ => ?_) fun _ _ q => q.elim
        have inv₆ := (inv₄.step Rl₄ st₄₅).step Rl₅ st₅₆
        have smm : Same s s₆ := sm.trans sm₆
        cases fl with
        | next => cases f <;> first | exact flr.elim | exact next ((fl_next (hx'.trans hx)).symm.trans ho₃) smm Rl₆ st₆ inv₆
        | cont => cases f <;> first | exact flr.elim | exact next ((fl_cont (hx'.trans hx)).symm.trans ho₃) smm Rl₆ st₆ inv₆
        | brk =>
          cases f <;> first | exact flr.elim | skip
          rw [fl_brk (hx'.trans hx)] at ho₃
          subst ho₃
          exact ⟨g₆, smm, Rl₆, st₆, trivial⟩
        | ret v =>
          cases f <;> first | exact flr.elim | skip
          rw [fl_ret (hx'.trans hx)] at ho₃
          subst ho₃
          exact ⟨g₆, smm, Rl₆, st₆, flr⟩
  · have hi' : i = items.length := Nat.le_antisymm hi (Nat.not_lt.mp hlt)
    subst hi'
    rw [List.drop_length] at ho₃
    have ho₄ : (.ok .next m₃ : Out Fl) = o := ho₃
    subst ho₄
    refine inv₃.done Rl₃ st₃ hL fun h₄ tk Rl₄ st₄ _ _ => wpAny_execs_nil ?_
    exact ⟨_, sm₃.trans .mk, Rl₄, st₄, trivial⟩

theorem sx_For (he : SE CF n) (hs : SXs CF n) (G : Go CF K A n) (hcv : K.c.cv = none) (Rl : Rel K g m s.heap) (t it : Expr) (b : List Stmt) (pos : Pos) :
    Sim CF K A (g, s.heap) (exec (.For t it b [] pos) K.env) ((ev n K.c it m).bind fun r m => (r.frz m).bind fun s m => match itemsOf s with
      | some items => forLoop (forStep n K.c t b) items m
      | none => .stuck) (fun fl _ g' f s' => FlR K g' s'.heap fl f) s := by
  show Sim CF K A (g, s.heap) (standAt pos >>= fun _ => eval it K.env >>= fun v => foldedSetIterable it K.env v >>= fun x => standAt it.pos >>= fun _ => holding [x] (pyIter x) >>= fun i => runOwn (.forLoop t i b [] K.env) K.env) _ _ s
  refine Sim.standAt ?_
  by_cases hset : ∃ es k p, it = .Set es k p
  · obtain ⟨es, k, p, rfl⟩ := hset
    rw [ev_set]; trivial
  have hfold := folded_plain (it := it) (env := K.env) (fun es k p q => hset ⟨es, k, p, q⟩)
  rw [← Out.bind_assoc]
  refine (he K A g m it s G Rl).frz.bind fun sv m₁ g₁ v s₁ _ _ Rl₁ st₁ ⟨hρ, fv⟩ => ?_
  rw [hfold, pure_bind]
  refine Sim.standAt ?_
  cases hit : itemsOf sv with
  | none => trivial
  | some items =>
    refine Sim.ahead (I := IterAt K A (g, s.heap) m₁ items)
      (fun E => wpAny_holding (sim_iter G.H G.hh Rl₁ st₁ fv hit fun oI fp Pi Si _ k1 k2 k3 _ => ⟨⟨_, _, rfl⟩, _, fp, Pi, Si, _, rfl, k1, k2, k3⟩)) fun i s₂ _ ⟨g₂, fp, Pi, Si, I, e, Rl₂, st₂, inv₂⟩ => ?_
    subst e
    exact sim_runOwn G.H fun hne => for_loop hs G hcv hne Rl₂ st₂ inv₂ rfl
end
end
section
open PySem PySem.W PyProof.Rows PySem.Calls
section
variable {CF : Addr} {K : Cfg} {A : Around} {z : St × Heap} {s s₀ : Shared} {g g' : St} {m : M} {n i : Nat} {h h' : Heap}

theorem whileLoop_succ {test : M → Out Bool} {body : M → Out Fl} {k : Nat} {m : M} : whileLoop test body (k + 1) m = match test m with
    | .stuck => .stuck
    | .exc m => .exc m
    | .ok false m => .ok .next m
    | .ok true m => match body m with
      | .ok .next m => whileLoop test body k m
      | .ok .cont m => whileLoop test body k m
      | .ok .brk m => .ok .next m
      | .ok (.ret v) m => .ok (.ret v) m
      | .exc m => .exc m
      | .stuck => .stuck := by
  show ((test m).bind fun b m => match b with | false => _ | true => _) = _
  cases test m with
  | ok b m => cases b <;> rfl
  | exc m => rfl
  | stuck => rfl

section
variable {test : M → Out Bool} {body : M → Out Fl} {k : Nat} {m₁ m₂ m₃ : M}
theorem wl_stuck (h : test m₁ = .stuck) : whileLoop test body (k + 1) m₁ = .stuck := by rw [whileLoop_succ, h]
theorem wl_exc (h : test m₁ = .exc m₂) : whileLoop test body (k + 1) m₁ = .exc m₂ := by rw [whileLoop_succ, h]
theorem wl_end (h : test m₁ = .ok false m₂) : whileLoop test body (k + 1) m₁ = .ok .next m₂ := by rw [whileLoop_succ, h]
theorem wl_bstuck (h : test m₁ = .ok true m₂) (hb : body m₂ = .stuck) : whileLoop test body (k + 1) m₁ = .stuck := by rw [whileLoop_succ, h]; show (match body m₂ with | .ok .next m => _ | .ok .cont m => _ | .ok .brk m => _ | .ok (.ret v) m => _ | .exc m => _ | .stuck => _ : Out Fl) = _; rw [hb]
theorem wl_bexc (h : test m₁ = .ok true m₂) (hb : body m₂ = .exc m₃) : whileLoop test body (k + 1) m₁ = .exc m₃ := by rw [whileLoop_succ, h]; show (match body m₂ with | .ok .next m => _ | .ok .cont m => _ | .ok .brk m => _ | .ok (.ret v) m => _ | .exc m => _ | .stuck => _ : Out Fl) = _; rw [hb]
theorem wl_next (h : test m₁ = .ok true m₂) (hb : body m₂ = .ok .next m₃) : whileLoop test body (k + 1) m₁ = whileLoop test body k m₃ := by rw [whileLoop_succ, h]; show (match body m₂ with | .ok .next m => _ | .ok .cont m => _ | .ok .brk m => _ | .ok (.ret v) m => _ | .exc m => _ | .stuck => _ : Out Fl) = _; rw [hb]
theorem wl_cont (h : test m₁ = .ok true m₂) (hb : body m₂ = .ok .cont m₃) : whileLoop test body (k + 1) m₁ = whileLoop test body k m₃ := by rw [whileLoop_succ, h]; show (match body m₂ with | .ok .next m => _ | .ok .cont m => _ | .ok .brk m => _ | .ok (.ret v) m => _ | .exc m => _ | .stuck => _ : Out Fl) = _; rw [hb]
theorem wl_brk (h : test m₁ = .ok true m₂) (hb : body m₂ = .ok .brk m₃) : whileLoop test body (k + 1) m₁ = .ok .next m₃ := by rw [whileLoop_succ, h]; show (match body m₂ with | .ok .next m => _ | .ok .cont m => _ | .ok .brk m => _ | .ok (.ret v) m => _ | .exc m => _ | .stuck => _ : Out Fl) = _; rw [hb]
theorem wl_ret {v : SV} (h : test m₁ = .ok true m₂) (hb : body m₂ = .ok (.ret v) m₃) : whileLoop test body (k + 1) m₁ = .ok (.ret v) m₃ := by rw [whileLoop_succ, h]; show (match body m₂ with | .ok .next m => _ | .ok .cont m => _ | .ok .brk m => _ | .ok (.ret v) m => _ | .exc m => _ | .stuck => _ : Out Fl) = _; rw [hb]
end
inductive WhileI (K : Cfg) (z : St × Heap) (s : Shared) (loop : Nat → M → Out Fl) (o : Out Fl) (k : Nat) (s' : Shared) : Prop
  | mk (g' : St) (m : M) (sm : Same s s') (Rl : Rel K g' m s'.heap) (st : Step (SF K.fr) z g' s'.heap) (ho : loop k m = o) : WhileI K z s loop o k s'

theorem sx_While (hb : SB CF n) (hs : SXs CF n) (G : Go CF K A n) (hcv : K.c.cv = none) (Rl : Rel K g m s.heap) (t : Expr) (b : List Stmt) (pos : Pos) :
    Sim CF K A (g, s.heap) (exec (.While t b [] pos) K.env) (whileLoop (evB n K.c t) (exs n K.c b) whileMax m) (fun fl _ g' f s' => FlR K g' s'.heap fl f) s := by
  show Sim CF K A (g, s.heap) (standAt pos >>= fun _ => runOwn (.whileLoop t b [] K.env) K.env) _ _ s
  refine Sim.standAt ?_
  generalize ho : whileLoop (evB n K.c t) (exs n K.c b) whileMax m = o
  refine sim_runOwn G.H fun hne => ?_
  refine codeAny_whileLoop (I := WhileI K (g, s.heap) s (whileLoop (evB n K.c t) (exs n K.c b)) o) ?_ whileMax ⟨g, m, .refl, Rl, Rl.step, ho⟩
  rintro k s₃ ⟨g₃, m₃, sm₃, Rl₃, st₃, ho₃⟩
  cases k with
  | zero => exact absurd (show (.stuck : Out Fl) = o from ho₃).symm hne
  | succ k =>
    have B := (hb K A g₃ m₃ t s₃ G Rl₃).rebase st₃
    cases ht : evB n K.c t m₃ with
    | stuck => rw [wl_stuck ht] at ho₃; exact absurd ho₃.symm hne
    | exc m₄ =>
      rw [wl_exc ht] at ho₃
      rw [ht] at B
      subst ho₃
      exact wpAny_mono B (fun _ _ q => q.elim) fun e s' q => noted_at G hcv (let ⟨g', a, b⟩ := q; ⟨g', sm₃.trans a, b⟩)
    | ok q m₄ =>
      rw [ht] at B
      refine wpAny_mono B (fun v s₅ ⟨g₅, sm₅, Rl₅, st₅, ⟨_, hv⟩, st₄₅⟩ => ?_) fun _ _ q => q.elim
      subst hv
      have sm : Same s s₅ := sm₃.trans sm₅
      cases v with
      | false =>
        rw [wl_end ht] at ho₃
        subst ho₃
        exact wpAny_execs_nil ⟨g₅, sm, Rl₅, st₅, trivial⟩
      | true =>
        have C := (hs K A g₅ m₄ b s₅ G hcv Rl₅).rebase st₅
        cases hx : exs n K.c b m₄ with
        | stuck => rw [wl_bstuck ht hx] at ho₃; exact absurd ho₃.symm hne
        | exc m₅ =>
          rw [wl_bexc ht hx] at ho₃
          rw [hx] at C
          subst ho₃
          exact wpAny_mono C (fun _ _ q => q.elim) fun e s' q => noted_at G hcv (let ⟨g', a, b⟩ := q; ⟨g', sm.trans a, b⟩)
        | ok fl m₅ =>
          rw [hx] at C
          refine wpAny_mono C (fun f s₆ ⟨g₆, sm₆, Rl₆, st₆, flr, _⟩ => ?_) fun _ _ q => q.elim
          have smm : Same s s₆ := sm.trans sm₆
          cases fl with
          | next => cases f <;> first | exact flr.elim | exact ⟨k, Nat.lt_succ_self _, g₆, m₅, smm, Rl₆, st₆, (wl_next ht hx).symm.trans ho₃⟩
          | cont => cases f <;> first | exact flr.elim | exact ⟨k, Nat.lt_succ_self _, g₆, m₅, smm, Rl₆, st₆, (wl_cont ht hx).symm.trans ho₃⟩
          | brk =>
            cases f <;> first | exact flr.elim | skip
            rw [wl_brk ht hx] at ho₃
            subst ho₃
            exact ⟨g₆, smm, Rl₆, st₆, trivial⟩
          | ret v =>
            cases f <;> first | exact flr.elim | skip
            rw [wl_ret ht hx] at ho₃
            subst ho₃
            exact ⟨g₆, smm, Rl₆, st₆, flr⟩

theorem SXs_succ (hx : SX CF n) (hs : SXs CF n) : SXs CF (n + 1) := fun K A g m ss s G hcv Rl => by
  have G' := G.le (k := n) (by lia)
  cases ss with
  | nil => exact Sim.ok fun E => wpAny_execs_nil ⟨g, .refl, Rl, Rl.step, trivial⟩
  | cons st rest =>
    have B := hx K A g m st s G' hcv Rl
    show Sim CF K A (g, s.heap) _ ((ex n K.c st m).bind fun f m => match f with | .next => exs n K.c rest m | f => .ok f m) _ s
    cases e : ex n K.c st m with
    | stuck => trivial
    | exc m' =>
      rw [e] at B
      exact wpAny_execs_cons (wpAny_mono B (fun _ _ q => q.elim) fun _ _ q => q)
    | ok fl m' =>
      rw [e] at B
      cases fl with
      | next =>
        show Sim CF K A (g, s.heap) _ (exs n K.c rest m') _ s
        have tail : ∀ f s', (∃ g', Same s s' ∧ Rel K g' m' s'.heap ∧ Step (SF K.fr) (g, s.heap) g' s'.heap ∧ FlR K g' s'.heap .next f) → f = .next ∧ Sim CF K A (g, s.heap) (execs rest K.env) (exs n K.c rest m') (fun fl _ g' f s' => FlR K g' s'.heap fl f) s' ∧ Same s s' := by
          rintro f s' ⟨g', sm, Rl', st', flr⟩
          cases f <;> first | exact flr.elim | skip
          exact ⟨rfl, ((hs K A g' m' rest s' G' hcv Rl').rebase st').mono fun _ _ _ _ _ _ _ _ q => q.1, sm⟩
        cases e2 : exs n K.c rest m' with
        | stuck => trivial
        | exc m'' =>
          refine wpAny_execs_cons (wpAny_mono B (fun f s' q => ?_) fun _ _ q => q.elim)
          obtain ⟨rfl, t, sm⟩ := tail f s' q
          rw [e2] at t
          exact wpAny_mono t (fun _ _ q => q) fun _ _ ⟨g', a, b⟩ => ⟨g', sm.trans a, b⟩
        | ok fl m'' =>
          refine wpAny_execs_cons (wpAny_mono B (fun f s' q => ?_) fun _ _ q => q.elim)
          obtain ⟨rfl, t, sm⟩ := tail f s' q
          rw [e2] at t
          exact wpAny_mono t (fun _ _ ⟨g', a, b⟩ => ⟨g', sm.trans a, b⟩) fun _ _ q => q
      | brk =>
        refine wpAny_execs_cons (wpAny_mono B (fun f s' ⟨g', q1, q2, q3, q4⟩ => ?_) fun _ _ q => q)
        cases f <;> first | exact q4.elim | exact ⟨g', q1, q2, q3, q4⟩
      | cont =>
        refine wpAny_execs_cons (wpAny_mono B (fun f s' ⟨g', q1, q2, q3, q4⟩ => ?_) fun _ _ q => q)
        cases f <;> first | exact q4.elim | exact ⟨g', q1, q2, q3, q4⟩
      | ret v =>
        refine wpAny_execs_cons (wpAny_mono B (fun f s' ⟨g', q1, q2, q3, q4⟩ => ?_) fun _ _ q => q)
        cases f <;> first | exact q4.elim | exact ⟨g', q1, q2, q3, q4⟩

theorem sx_If (hb : SB CF n) (hs : SXs CF n) (G : Go CF K A n) (hcv : K.c.cv = none) (Rl : Rel K g m s.heap) (t : Expr) (b o : List Stmt) (pos : Pos) :
    Sim CF K A (g, s.heap) (exec (.If t b o pos) K.env) ((evB n K.c t m).bind fun q m => if q then exs n K.c b m else exs n K.c o m) (fun fl _ g' f s' => FlR K g' s'.heap fl f) s := by
  show Sim CF K A (g, s.heap) (standAt pos >>= fun _ => isTrue t K.env (eval t K.env) >>= fun q => if q then execs b K.env else execs o K.env) _ _ s
  refine Sim.standAt ((hb K A g m t s G Rl).bind fun q m₁ g₁ v s₁ _ _ Rl₁ st₁ ⟨_, hv⟩ => ?_)
  subst hv
  cases v with
  | true => exact ((hs K A g₁ m₁ b s₁ G hcv Rl₁).rebase st₁).mono fun _ _ _ _ _ _ _ _ q => q.1
  | false => exact ((hs K A g₁ m₁ o s₁ G hcv Rl₁).rebase st₁).mono fun _ _ _ _ _ _ _ _ q => q.1

theorem sx_Return (he : SE CF n) (G : Go CF K A n) (Rl : Rel K g m s.heap) (e : Expr) (pos : Pos) :
    Sim CF K A (g, s.heap) (exec (.Return (some e) pos) K.env) ((ev n K.c e m).bind fun r m => (r.frz m).bind fun s m => .ok (.ret s) m) (fun fl _ g' f s' => FlR K g' s'.heap fl f) s := by
  rw [exec_Return_some]
  refine Sim.standAt ?_
  rw [← Out.bind_assoc]
  exact (he K A g m e s G Rl).frz.bind fun sv m₁ g₁ v s₁ _ _ Rl₁ st₁ ⟨_, fv⟩ => Sim.pure Rl₁ st₁ fv

theorem not_interactive (H : EnvOk K.c K.env₀ K.env) : interactive K.env = false := by
  unfold interactive
  rw [H.kind]; rfl

theorem sx_Expr (he : SE CF n) (G : Go CF K A n) (Rl : Rel K g m s.heap) (f : Expr) (args : List Expr) (kws : List Keyword) (p pos : Pos) :
    Sim CF K A (g, s.heap) (exec (.Expr (.Call f args kws p) pos) K.env) ((ev n K.c (.Call f args kws p) m).bind fun r m => with1 (noneV (vR r)) .stuck fun _ => .ok .next m) (fun fl _ g' f s' => FlR K g' s'.heap fl f) s := by
  rw [exec_Expr K.env _ pos (not_interactive G.H) (by rfl)]
  refine Sim.standAt ((he K A g m _ s G Rl).bind fun r m₁ g₁ v s₁ _ _ Rl₁ st₁ ⟨_, rr⟩ => ?_)
  exact Sim.with1 (fun _ _ => Sim.ok fun E => wpAny_dropValue ⟨g₁, .refl, Rl₁, st₁, trivial⟩) trivial
end
end
section
open PySem PySem.W PyProof.Rows PySem.Calls
noncomputable def PErr (CF : Addr) (K : Cfg) (z : St × Heap) {β : Type} (s : Shared) (o : Out β) (e : Value) (s' : Shared) : Prop := match o with
  | .exc m' => ∃ g, Same s s' ∧ Rel K g m' s'.heap ∧ Step (SF K.fr) z g s'.heap ∧ Thrown CF (SF K.fr) z g e s'.heap
  | _ => False
noncomputable def POk (K : Cfg) (z : St × Heap) {α β : Type} (s : Shared) (Q : β → M → St → α → Shared → Prop) (o : Out β) (a : α) (s' : Shared) : Prop := match o with
  | .ok b m' => ∃ g, Same s s' ∧ Rel K g m' s'.heap ∧ Step (SF K.fr) z g s'.heap ∧ Q b m' g a s'
  | _ => False

section
variable {CF : Addr} {K : Cfg} {A : Around} {z : St × Heap} {s s₀ : Shared} {g g' : St} {m m' : M} {n i : Nat} {h h' : Heap}

theorem Sim.of {α β : Type} {t : Sem α} {o : Out β} {Q : β → M → St → α → Shared → Prop} (h : o ≠ .stuck → wpAny (MK K) A t (POk K z s Q o) (PErr CF K z s o) s) : Sim CF K A z t o Q s := by
  cases o with
  | stuck => trivial
  | ok b m' => exact h (by simp)
  | exc m' => exact h (by simp)
theorem Sim.to {α β : Type} {t : Sem α} {o : Out β} {Q : β → M → St → α → Shared → Prop} (h : Sim CF K A z t o Q s) (hne : o ≠ .stuck) : wpAny (MK K) A t (POk K z s Q o) (PErr CF K z s o) s := by
  cases o with
  | stuck => exact absurd rfl hne
  | ok b m' => exact h
  | exc m' => exact h

/-- the configuration of a comprehension's block -/
noncomputable def compCfg (K : Cfg) (sc : Scope) (x : Str) (sv : SV) (C : Addr) (cl : List (Str × Addr)) : Cfg :=
  { K with c := { K.c with sc := sc, cv := some (x, sv) }, env := compEnvC sc cl C K.env }

theorem lookup_map_snd {φ : Str → NameKind → NameKind} : ∀ (names : List (Str × NameKind)) (y : Str), (names.map fun p => (p.1, φ p.1 p.2)).lookup y = (names.lookup y).map (φ y)
  | [], _ => rfl
  | (n, k) :: r, y => by
    rw [List.map_cons, List.lookup_cons, List.lookup_cons]
    by_cases e : (y == n) = true
    · rw [e]
      have : y = n := by simpa using e
      subst this; rfl
    · rw [Bool.not_eq_true] at e
      rw [e]; exact lookup_map_snd r y

theorem relabel_names (sc : Scope) (env : Env) : (relabel sc env).names = sc.names.map fun p => (p.1, if (p.2 == NameKind.free && env.scope.kind == .function && env.kindOf p.1 == some .cell) then NameKind.cell else p.2) := by
  unfold relabel
  dsimp only
  congr 1
  funext p
  obtain ⟨n, k⟩ := p
  dsimp only
  split <;> rfl

theorem relabel_lookup (sc : Scope) (env : Env) (y : Str) : (relabel sc env).names.lookup y = (sc.names.lookup y).map fun k => if (k == NameKind.free && env.scope.kind == .function && env.kindOf y == some .cell) then NameKind.cell else k := by
  rw [relabel_names, lookup_map_snd (φ := fun n k => if (k == NameKind.free && env.scope.kind == .function && env.kindOf n == some .cell) then NameKind.cell else k)]

structure CompOk (c : Ctx) (sc : Scope) (x : Str) : Prop where
  kind : sc.kind = .function
  noCell : ∀ p ∈ sc.names, p.2 ≠ .cell
  x : sc.names.lookup x = some .local
  free : ∀ p ∈ sc.names, p.2 = .free → c.fs.names.lookup p.1 = some .cell ∧ (c.cv = none ∨ c.sc.names.lookup p.1 = some .free)
  uniq : ∀ p ∈ sc.names, sc.names.lookup p.1 = some p.2

theorem compOk_of {c : Ctx} {g : Comprehension} {sc : Scope} {x : Str} (h : compOk c g sc x = true) : CompOk c sc x ∧ g.is_async = 0 := by
  unfold compOk at h
  simp only [Bool.and_eq_true, beq_iff_eq, List.all_eq_true, bne_iff_ne, Bool.or_eq_true, Option.isNone_iff_eq_none] at h
  obtain ⟨⟨⟨⟨⟨⟨⟨h1, h2⟩, h3⟩, h4⟩, h5⟩, h6⟩, h7⟩, h8⟩ := h
  exact ⟨⟨h2, h3, h4, fun p hp hf => (h6 p hp).resolve_left fun t => t hf, h8⟩, h1⟩

theorem closure_go (env : Env) (f : Str × NameKind → List (Str × Addr) → Sem (ForInStep (List (Str × Addr)))) (hf : ∀ n k cs, f (n, k) cs = if k == .free then (do let a ← cellOf env n; pure (.yield ((n, a) :: cs))) else pure (.yield cs)) :
    ∀ (names : List (Str × NameKind)) (acc : List (Str × Addr)), (∀ p ∈ names, p.2 = .free → ∃ a, env.cells.lookup p.1 = some a) → ∃ cl, forIn names acc f = pure cl ∧ ∀ y, (acc.lookup y = env.cells.lookup y ∨ ∃ p ∈ names, p.1 = y ∧ p.2 = .free) → cl.lookup y = env.cells.lookup y
  | [], acc, _ => ⟨acc, List.forIn_nil .., fun y hy => hy.elim id fun ⟨_, h, _⟩ => (nomatch h)⟩
  | (n, k) :: r, acc, h => by
    rw [List.forIn_cons, hf]
    by_cases hk : (k == NameKind.free) = true
    · obtain ⟨a, ha⟩ := h (n, k) (.head _) (by simpa using hk)
      obtain ⟨cl, h1, h2⟩ := closure_go env f hf r ((n, a) :: acc) fun p hp => h p (.tail _ hp)
      refine ⟨cl, ?_, fun y hy => h2 y ?_⟩
      · rw [if_pos hk]
        unfold cellOf
        rw [ha]
        simpa using h1
      · rw [List.lookup_cons]
        by_cases e : (y == n) = true
        · have : y = n := by simpa using e
          subst this
          rw [e]; exact .inl ha.symm
        · rw [Bool.not_eq_true] at e
          rw [e]
          rcases hy with hy | ⟨p, hp, hp1, hp2⟩
          · exact .inl hy
          · rcases List.mem_cons.mp hp with rfl | hp
            · subst hp1; simp at e
            · exact .inr ⟨p, hp, hp1, hp2⟩
    · rw [Bool.not_eq_true] at hk
      obtain ⟨cl, h1, h2⟩ := closure_go env f hf r acc fun p hp => h p (.tail _ hp)
      refine ⟨cl, ?_, fun y hy => h2 y ?_⟩
      · rw [if_neg (by rw [hk]; simp)]
        simpa using h1
      · rcases hy with hy | ⟨p, hp, hp1, hp2⟩
        · exact .inl hy
        · rcases List.mem_cons.mp hp with rfl | hp
          · simp only at hp2; subst hp2; simp at hk
          · exact .inr ⟨p, hp, hp1, hp2⟩

theorem closure_at (H : EnvOk K.c K.env₀ K.env) (Rl : Rel K g m h) {sc : Scope} {x : Str} (ok : CompOk K.c sc x) :
    ∃ cl, closureFor sc K.env = pure cl ∧ ∀ y, (∃ p ∈ sc.names, p.1 = y ∧ p.2 = .free) → cl.lookup y = K.env₀.cells.lookup y := by
  have cells : ∀ p ∈ sc.names, p.2 = .free → K.env.cells.lookup p.1 = K.env₀.cells.lookup p.1 ∧ ∃ a, K.env₀.cells.lookup p.1 = some a := fun p hp hf => by
    obtain ⟨q1, q2⟩ := ok.free p hp hf
    obtain ⟨a, ha, _⟩ := Rl.cc p.1 (by unfold Env.kindOf; rw [H.s0]; exact q1)
    refine ⟨?_, a, ha⟩
    cases hc : K.c.cv with
    | none => rw [(H.fn hc).1]
    | some y =>
      rcases q2 with q2 | q2
      · rw [q2] at hc; cases hc
      · exact (H.free p.1 (by rw [hc]; rfl) q2 q1).2
  have go : ∀ f : Str × NameKind → List (Str × Addr) → Sem (ForInStep (List (Str × Addr))), (∀ n k cs, f (n, k) cs = if k == .free then (do let a ← cellOf K.env n; pure (.yield ((n, a) :: cs))) else pure (.yield cs)) →
      ∃ cl, (forIn sc.names [] f >>= fun r => pure r) = pure cl ∧ ∀ y, (∃ p ∈ sc.names, p.1 = y ∧ p.2 = .free) → cl.lookup y = K.env₀.cells.lookup y := fun f hf => by
    obtain ⟨cl, h1, h2⟩ := closure_go K.env f hf sc.names [] fun p hp hf => by
      obtain ⟨q1, a, q2⟩ := cells p hp hf
      exact ⟨a, q1.trans q2⟩
    refine ⟨cl, by rw [h1]; rfl, fun y hy => ?_⟩
    rw [h2 y (.inr hy)]
    obtain ⟨p, hp, rfl, hf⟩ := hy
    exact (cells p hp hf).1
  unfold closureFor
  refine go _ fun n k cs => ?_
  dsimp only

theorem compEnvOk (H : EnvOk K.c K.env₀ K.env) {sc : Scope} {x : Str} {sv : SV} {C : Addr} {cl : List (Str × Addr)} (ok : CompOk K.c sc x) (hcl : ∀ y, (∃ p ∈ sc.names, p.1 = y ∧ p.2 = .free) → cl.lookup y = K.env₀.cells.lookup y) :
    EnvOk (compCfg K sc x sv C cl).c (compCfg K sc x sv C cl).env₀ (compCfg K sc x sv C cl).env where
  s0 := H.s0
  k0 := H.k0
  g0 := H.g0
  b0 := H.b0
  f0 := H.f0
  kind := ok.kind
  g1 := H.g1
  b1 := H.b1
  f1 := H.f1
  fn := fun hc => by cases hc
  loc := fun y hy => by
    show (relabel sc K.env).names.lookup y = _
    rw [relabel_lookup]
    have hy' : sc.names.lookup y = some .local := hy
    rw [hy']; rfl
  free := fun y _ hy hf => by
    have hy' : sc.names.lookup y = some .free := hy
    refine ⟨?_, hcl y ⟨(y, .free), mem_of_lookup hy', rfl, rfl⟩⟩
    have : (relabel sc K.env).names.lookup y = some (if ((NameKind.free == NameKind.free) && K.env.scope.kind == .function && K.env.kindOf y == some .cell) = true then .cell else .free) := by
      rw [relabel_lookup, hy']; rfl
    show (relabel sc K.env).names.lookup y = _ ∨ (relabel sc K.env).names.lookup y = _
    rw [this]
    split
    · exact .inl rfl
    · exact .inr rfl
  gl := fun y hy => by
    show (relabel sc K.env).names.lookup y = _
    rw [relabel_lookup]
    have hy' : sc.names.lookup y = some .globalImplicit := hy
    rw [hy']; rfl
  ci := H.ci
  cL := H.cL
end
end
section
open PySem PySem.W PyProof.Rows PySem.Calls
section
variable {CF : Addr} {K : Cfg} {A : Around} {z : St × Heap} {s s₀ : Shared} {g g' : St} {m m' : M} {n i : Nat} {h h' : Heap} {sc : Scope} {x : Str} {sv : SV} {C : Addr} {cl : List (Str × Addr)}

/-- something of ours that no one else changes -/
theorem Junk.live_step {a : Addr} {o : Obj} (j : Junk K z g a) (ho : h.get? a = some o) (st : Step (SF K.fr) (g, h) g' h') : Junk K z g' a ∧ h'.get? a = some o :=
  ⟨⟨j.n, st.okeep a j.o j.x, fun q => (st.xnew a q).elim j.x fun t => t.no ho, j.s⟩, st.kept.exact ho j.x j.s⟩

theorem Rel.enterComp (Rl : Rel K g m h) (j : Junk K z g C) {nm : Str → Option Value} {u : Value} (hn : h.Ns C nm) (hx : nm x = some u) (fv : FV K.w g.O h u sv) : Rel (compCfg K sc x sv C cl) g m h :=
  ⟨Rl.base, Rl.ob, Rl.olt, Rl.xo, Rl.so, Rl.sx, Rl.xL, Rl.xC, Rl.cc, Rl.ns, Rl.vk, fun y e he => by
    obtain ⟨v, h1, h2, h3⟩ := Rl.vv y e he
    exact ⟨v, h1, h2, fun q => let ⟨a, e1, w⟩ := h3 q; ⟨a, e1, w.x, w.s, w.l, w.c, w.v⟩⟩, Rl.inj, fun y w hy => by
    cases hy
    exact ⟨j.o, j.x, j.s, nm, u, hn, hx, fv⟩, Rl.ff, Rl.pp⟩

theorem Rel.leaveComp (H : EnvOk K.c K.env₀ K.env) (Rl : Rel K g m h) (Rl' : Rel (compCfg K sc x sv C cl) g' m' h') (st : Step (SF K.fr) (g, h) g' h') : Rel K g' m' h' :=
  ⟨Rl'.base, Rl'.ob, Rl'.olt, Rl'.xo, Rl'.so, Rl'.sx, Rl'.xL, Rl'.xC, Rl'.cc, Rl'.ns, Rl'.vk, fun y e he => by
    obtain ⟨v, h1, h2, h3⟩ := Rl'.vv y e he
    exact ⟨v, h1, h2, fun q => let ⟨a, e1, w⟩ := h3 q; ⟨a, e1, w.x, w.s, w.l, w.c, w.v⟩⟩, Rl'.inj, fun y w hy => by
    obtain ⟨h1, h2, h3, nm, v, h4, h5, h6⟩ := Rl.comp y w hy
    have stay := Step.stay Rl st
    obtain ⟨o, es, ep, ho, _⟩ := id h4
    have ho' := st.kept.exact ho h2 h3
    exact ⟨st.okeep _ h1 h2, fun q => (st.xnew _ q).elim h2 fun t => t.no ho, h3, nm, v, Ns_at h4 fun o₂ e₂ => ⟨o₂, by rw [ho] at e₂; cases e₂; exact ho', rfl⟩, h5, h6.stay stay⟩, Rl'.ff, Rl'.pp⟩

/-- one thing of ours is changed -/
theorem Rel.one (Rl : Rel K g m h) {a : Addr} (j : Junk K z g a) (hL : K.c.cv.isSome = true → K.env.locals ≠ a) (hs : Heap.SameBut a h h') (hl : Live h' a) : Rel K g m h' :=
  Rl.but (fun b => b = a) g.O (fun b q _ => q ▸ hl) (fun b o hb e => (hs.2 b hb).trans e) (fun b q => q ▸ j.o) (fun b q => q ▸ j.x) (fun b q => q ▸ j.s) (fun hc q => hL hc q) (fun _ q _ => q) fun _ q => .inl q
theorem Step.one {S : AP} (st : Step S z g h) {a : Addr} (ha : Mk z a) (hs : Heap.SameBut a h h') : Step S z g h' := st.junk ha hs

/-- and let go -/
theorem Rel.drop (Rl : Rel K g m h) {a : Addr} (j : Junk K z g a) (hL : K.c.cv.isSome = true → K.env.locals ≠ a) (hs : Heap.SameBut a h h') : Rel K { g with O := fun b => g.O b ∧ b ≠ a } m h' :=
  Rl.but (fun b => b = a) _ (fun b q t => (t.2 q).elim) (fun b o hb e => (hs.2 b hb).trans e) (fun b q => q ▸ j.o) (fun b q => q ▸ j.x) (fun b q => q ▸ j.s) (fun hc q => hL hc q) (fun _ q t => ⟨q, t⟩) fun _ q => .inl q.1
theorem Step.drop {S : AP} (st : Step S z g h) {a : Addr} (ha : Mk z a) (hs : Heap.SameBut a h h') : Step S z { g with O := fun b => g.O b ∧ b ≠ a } h' :=
  st.but (fun b => b = a) _ (fun b o hb e => (hs.2 b hb).trans e) (fun b q => q ▸ ha) (fun _ q t => ⟨q, t⟩) fun _ q => .inl q.1

theorem Stay.one {a : Addr} (ho : g.O a) (hs : Heap.SameBut a h h') : Stay g.O h g.O h' := fun b o hb e => ⟨hb, (hs.2 b fun q => hb (q ▸ ho)).trans e⟩
theorem Stay.drop {a : Addr} (ho : g.O a) (hs : Heap.SameBut a h h') : Stay g.O h (fun b => g.O b ∧ b ≠ a) h' := fun b o hb e => ⟨fun q => hb q.1, (hs.2 b fun q => hb (q ▸ ho)).trans e⟩

theorem ItInv.one {I : Addr} {items : List SV} {fp : List Addr} {Pi : Nat → Value → Prop} {Si : Nat → Heap → Prop} (y : ItInv K A I items fp Pi Si z i g h) {a : Addr} (ho : g.O a) (hne : a ≠ I) (hs : Heap.SameBut a h h') : ItInv K A I items fp Pi Si z i g h' := by
  have stay := Stay.one ho hs
  refine ⟨y.W, y.W.frame i h h' y.st fun b hb o e => ?_, y.j, fun b hb => ?_, fun j u hu w hw => (y.val j u hu w hw).stay stay, y.cls⟩
  · rcases y.fp b hb with rfl | ⟨q, _⟩
    · exact (hs.2 b (Ne.symm hne)).trans e
    · exact (stay b o q e).2
  · rcases y.fp b hb with rfl | ⟨q, o, e⟩
    · exact .inl rfl
    · exact .inr ⟨q, o, (stay b o q e).2⟩

theorem compLoop_cons {α : Type} {step : SV → M → Out (Option α)} {y : SV} {ys : List SV} {acc : List α} {m : M} : compLoop step (y :: ys) acc m = match step y m with
    | .ok (some d) m => if acc.length < lenMax then compLoop step ys (acc ++ [d]) m else .stuck
    | .ok none m => compLoop step ys acc m
    | .exc m => .exc m
    | .stuck => .stuck := by
  show ((step y m).bind fun r m => match r with | some d => _ | none => _) = _
  cases step y m with
  | ok r m => cases r <;> rfl
  | exc m => rfl
  | stuck => rfl

/-- the tests of a comprehension -/
noncomputable def SBs (CF : Addr) (n : Nat) : Prop := ∀ K A g m es s, Go CF K A n → Rel K g m s.heap →
  Sim CF K A (g, s.heap) (forIn es true fun c r => if r = true then do let ok ← isTrue c K.env (eval c K.env); pure (ForInStep.yield ok) else pure (ForInStep.yield r)) (evBs n K.c es m) (fun b _ g' v _ => g'.ρ = g.ρ ∧ v = b) s

theorem SBs_succ (hb : SB CF n) : SBs CF (n + 1) := fun K A g m es s G Rl => by
  cases es with
  | nil => exact Sim.ok fun E => wpAny_tests_nil ⟨g, .refl, Rl, Rl.step, rfl, rfl⟩
  | cons e es =>
    cases es with
    | nil => exact (hb K A g m e s (G.le (by lia)) Rl).conv fun Q E h => wpAny_tests_one h
    | cons e' es => exact Sim.stuck
end
end
section
open PySem PySem.W PyProof.Rows PySem.Calls
section
variable {CF : Addr} {K : Cfg} {A : Around} {z : St × Heap} {s s₀ : Shared} {g g' : St} {m m' : M} {n i : Nat} {h h' : Heap} {sc : Scope} {x : Str} {sv : SV} {C D I : Addr} {cl : List (Str × Addr)}
  {items : List SV} {fp : List Addr} {Pi : Nat → Value → Prop} {Si : Nat → Heap → Prop} {acc : SV}

structure CompInv (K : Cfg) (A : Around) (z : St × Heap) (C D I : Addr) (items : List SV) (fp : List Addr) (Pi : Nat → Value → Prop) (Si : Nat → Heap → Prop) (acc : SV) (i : Nat) (g : St) (m : M) (h : Heap) : Prop where
  Rl : Rel K g m h
  st : Step (SF K.fr) z g h
  it : ItInv K A I items fp Pi Si z i g h
  jC : Junk K z g C
  nsC : ∃ nm, h.Ns C nm
  jD : Junk K z g D
  ov : OV K.w g.O h D acc
  cd : C ≠ D
  ci : C ≠ I
  di : D ≠ I
  lC : K.env.locals ≠ C
  lD : K.env.locals ≠ D
  lI : K.env.locals ≠ I

theorem CompInv.step (y : CompInv K A z C D I items fp Pi Si acc i g m h) (Rl' : Rel K g' m' h') (st : Step (SF K.fr) (g, h) g' h') : CompInv K A z C D I items fp Pi Si acc i g' m' h' := by
  obtain ⟨nm, hn⟩ := y.nsC
  obtain ⟨oC, es, ep, hoC, hr⟩ := id hn
  obtain ⟨oD, hoD⟩ := y.ov.there
  obtain ⟨c1, c2⟩ := y.jC.live_step hoC st
  obtain ⟨d1, d2⟩ := y.jD.live_step hoD st
  exact ⟨Rl', y.st.trans' st, y.it.step y.Rl st, c1, ⟨nm, Ns_at hn fun o e => ⟨o, by rw [hoC] at e; cases e; exact c2, rfl⟩⟩, d1, y.ov.at (Step.stay y.Rl st) (d2.trans hoD.symm), y.cd, y.ci, y.di, y.lC, y.lD, y.lI⟩

theorem storeC (hk : (relabel sc K.env).kind = .function) (hx : sc.names.lookup x = some .local) {nm : Str → Option Value} (hn : s.heap.Ns C nm) {u : Value} {p : Pos} {M : Model} {E : Value → Shared → Prop} {Q : Unit → Shared → Prop}
    (hq : ∀ h' tk, h'.Ns C (fun y => if y = x then some u else nm y) → Heap.SameBut C s.heap h' → Q () { s with heap := h', toks := tk }) : wpAny M A (assign (.Name x p) (compEnvC sc cl C K.env) u) Q E s := by
  show wpAny M A (standAt p >>= fun _ => bindName (compEnvC sc cl C K.env) x u) Q E s
  refine wpAny_bind (wpAny_standAt (wpAny_bindName (wpAny_storeName_local (env := compEnvC sc cl C K.env) ?_ hn (fun h' h1 h2 => hq h' _ h1 h2) ?_)))
  · show (relabel sc K.env).names.lookup x = _
    rw [relabel_lookup, hx]; rfl
  · show ((relabel sc K.env).kind == .class || _) = false
    have e : (compEnvC sc cl C K.env).scope.kind = .function := hk
    rw [hk, e]; rfl

theorem Go.comp (G : Go CF K A n) (ok : CompOk K.c sc x) (hcl : ∀ y, (∃ p ∈ sc.names, p.1 = y ∧ p.2 = .free) → cl.lookup y = K.env₀.cells.lookup y) : Go CF (compCfg K sc x sv C cl) A n where
  H := compEnvOk G.H ok hcl
  hh := G.hh
  dep := G.dep
  un := G.un
  af := G.af
  fr := G.fr
  gb := G.gb

/-- an exception within a turn -/
theorem comp_noted (G : Go CF K A n) {R : Result → Shared → Prop} {s₁ : Shared} {e : Value} (sm : Same s s₁) (inv : CompInv K A z C D I items fp Pi Si acc i g m s₁.heap) (th : Thrown CF (SF K.fr) z g e s₁.heap)
    (hR : ∀ g' s', Same s s' → Rel K g' m s'.heap → Step (SF K.fr) z g' s'.heap → Junk K z g' C → (∃ nm, s'.heap.Ns C nm) → Traced CF K z g' e s'.heap → R (.error e) s') :
    notedBy (MK K) A (compEnvC sc cl C K.env) (fun e s' => R (.error e) s') e s₁ := by
  obtain ⟨nm, hn⟩ := inv.nsC
  obtain ⟨oC, es, ep, hoC, hdC, _⟩ := id hn
  refine noteFrame_at (K := K) G.H G.af G.fr (by show K.env.frame = _; rw [G.H.f1]) inv.Rl inv.st th fun g₂ h₂ k1 k2 _ k3 k4 => ?_
  have hoC' := k4.2.2 C oC hoC (fun vs q => by rw [hdC] at q; cases q) inv.jC.s
  exact hR g₂ _ (sm.trans .mk) k1 k2 ⟨inv.jC.n, k4.2.1 _ inv.jC.o, fun q => inv.jC.x (k4.1 ▸ q), inv.jC.s⟩ ⟨nm, Ns_at hn fun o e => ⟨o, by rw [hoC] at e; cases e; exact hoC', rfl⟩⟩ k3

/-- a turn of a comprehension -/
noncomputable def compStep (n : Nat) (c : Ctx) (sc : Scope) (x : Str) (ifs : List Expr) (elt : Expr) (s : SV) (m : M) : Out (Option PyData) :=
  (evBs n { c with sc := sc, cv := some (x, s) } ifs m).bind fun b m => match b with
    | true => (evD n { c with sc := sc, cv := some (x, s) } elt m).bind fun d m => .ok (some d) m
    | false => .ok none m
theorem compStep_exc {c : Ctx} {elt : Expr} {ifs : List Expr} {m₁ m₂ : M} {α : Type} {k : Option PyData → M → Out α} (h : evBs n { c with sc := sc, cv := some (x, sv) } ifs m₁ = .exc m₂) : (compStep n c sc x ifs elt sv m₁).bind k = .exc m₂ := by unfold compStep; rw [h]; rfl
theorem compStep_stuck {c : Ctx} {elt : Expr} {ifs : List Expr} {m₁ : M} {α : Type} {k : Option PyData → M → Out α} (h : evBs n { c with sc := sc, cv := some (x, sv) } ifs m₁ = .stuck) : (compStep n c sc x ifs elt sv m₁).bind k = .stuck := by unfold compStep; rw [h]; rfl
theorem compStep_no {c : Ctx} {elt : Expr} {ifs : List Expr} {m₁ m₂ : M} {α : Type} {k : Option PyData → M → Out α} (h : evBs n { c with sc := sc, cv := some (x, sv) } ifs m₁ = .ok false m₂) : (compStep n c sc x ifs elt sv m₁).bind k = k none m₂ := by unfold compStep; rw [h]; rfl
theorem compStep_yes {c : Ctx} {elt : Expr} {ifs : List Expr} {m₁ m₂ : M} {α : Type} {k : Option PyData → M → Out α} (h : evBs n { c with sc := sc, cv := some (x, sv) } ifs m₁ = .ok true m₂) : (compStep n c sc x ifs elt sv m₁).bind k = (evD n { c with sc := sc, cv := some (x, sv) } elt m₂).bind fun d m => k (some d) m := by
  unfold compStep; rw [h]
  show ((evD n { c with sc := sc, cv := some (x, sv) } elt m₂).bind fun d m => Out.ok (some d) m).bind k = _
  cases evD n { c with sc := sc, cv := some (x, sv) } elt m₂ <;> rfl
inductive CompI (K : Cfg) (A : Around) (z : St × Heap) (C D I : Addr) (items : List SV) (fp : List Addr) (Pi : Nat → Value → Prop) (Si : Nat → Heap → Prop) (s : Shared) (g : St) (step : SV → M → Out (Option PyData)) (o : Out (List PyData)) (k : Nat) (s' : Shared) : Prop
  | mk (i : Nat) (g' : St) (m : M) (ds : List PyData) (hk : k = items.length + 1 - i) (hi : i ≤ items.length) (sm : Same s s') (inv : CompInv K A z C D I items fp Pi Si (.d (.list ds)) i g' m s'.heap) (hρ : g'.ρ = g.ρ) (ho : compLoop step (items.drop i) ds m = o) : CompI K A z C D I items fp Pi Si s g step o k s'

theorem compLoop_at (hb : SBs CF n) (hd : SD CF n) (G : Go CF K A n) (ok : CompOk K.c sc x) (hcl : ∀ y, (∃ p ∈ sc.names, p.1 = y ∧ p.2 = .free) → cl.lookup y = K.env₀.cells.lookup y) {elt iter : Expr} {ifs : List Expr} {px pos : Pos} {R : Result → Shared → Prop} {o : Out (List PyData)}
    (hne : o ≠ .stuck)
    (hRok : ∀ ds m' g' s', o = .ok ds m' → Same s s' → Rel K g' m' s'.heap → Step (SF K.fr) z g' s'.heap → Junk K z g' C → (∃ nm, s'.heap.Ns C nm) → Junk K z g' D → OV K.w g'.O s'.heap D (.d (.list ds)) → g'.ρ = g.ρ → R (.ok .next) s')
    (hRerr : ∀ m' g' s' e, o = .exc m' → Same s s' → Rel K g' m' s'.heap → Step (SF K.fr) z g' s'.heap → Junk K z g' C → (∃ nm, s'.heap.Ns C nm) → Traced CF K z g' e s'.heap → R (.error e) s')
    (inv : CompInv K A z C D I items fp Pi Si (.d (.list [])) 0 g m s.heap)
    (ho : compLoop (compStep n K.c sc x ifs elt) items [] m = o) :
    codeAny (MK K) A (.compLoop (.ListComp elt [⟨.Name x px, iter, ifs, 0⟩] sc pos) 0 (.ref I) (.ref D) (compEnvC sc cl C K.env)) R s := by
  have hkr : (relabel sc K.env).kind = .function := ok.kind
  refine codeAny_compLoop_tests (I := CompI K A z C D I items fp Pi Si s g (compStep n K.c sc x ifs elt) o) ?_ (items.length + 1) ⟨0, g, m, [], rfl, Nat.zero_le _, .refl, inv, rfl, ho⟩
  rintro k s₁ ⟨i, g₁, m₁, ds, rfl, hi, sm, inv₁, hρ₁, ho₁⟩
  by_cases hlt : i < items.length
  · have hdrop : items.drop i = items[i] :: items.drop (i + 1) := List.drop_eq_getElem_cons hlt
    rw [hdrop] at ho₁
    change (compStep n K.c sc x ifs elt items[i] m₁).bind _ = o at ho₁
    refine inv₁.it.next inv₁.Rl inv₁.st (fun _ => inv₁.lI) (y := items[i]) (by simp [hlt]) fun u h₂ tk fu Rl₂ st₂ it₂ hk₂ => ?_
    -- the frame of the comprehension takes the item
    obtain ⟨nm, hn⟩ := inv₁.nsC
    obtain ⟨oC, es, ep, hoC, hdC, hrC⟩ := id hn
    obtain ⟨oD, hoD⟩ := inv₁.ov.there
    have hn₂ : h₂.Ns C nm := Ns_at hn fun o e => ⟨o, hk₂ C o inv₁.ci e, rfl⟩
    refine storeC (K := K) hkr ok.x (s := { s₁ with heap := h₂, toks := tk }) hn₂ fun h₃ tk₃ hn₃ hs₃ => ?_
    have liveC : Live h₃ C := let ⟨o, _, _, e, _⟩ := hn₃; ⟨o, e⟩
    have stay₂ : Stay g₁.O s₁.heap g₁.O h₂ := fun a o ha e => ⟨ha, hk₂ a o (fun q => ha (q ▸ inv₁.it.j.o)) e⟩
    have ov₂ : OV K.w g₁.O h₂ D (.d (.list ds)) := inv₁.ov.at stay₂ ((hk₂ D oD inv₁.di hoD).trans hoD.symm)
    have stay₃ : Stay g₁.O h₂ g₁.O h₃ := Stay.one inv₁.jC.o hs₃
    have inv₃ : CompInv K A z C D I items fp Pi Si (.d (.list ds)) (i + 1) g₁ m₁ h₃ :=
      ⟨Rl₂.one inv₁.jC (fun _ => inv₁.lC) hs₃ liveC, st₂.one inv₁.jC.n hs₃, it₂.one inv₁.jC.o inv₁.ci hs₃, inv₁.jC, ⟨_, hn₃⟩, inv₁.jD, ov₂.at stay₃ (hs₃.2 D (Ne.symm inv₁.cd)), inv₁.cd, inv₁.ci, inv₁.di, inv₁.lC, inv₁.lD, inv₁.lI⟩
    have Rc : Rel (compCfg K sc x items[i] C cl) g₁ m₁ h₃ := inv₃.Rl.enterComp inv₁.jC hn₃ (by simp) (fu.stay stay₃)
    have sm₃ : Same s { s₁ with heap := h₃, toks := tk₃ } := sm.trans .mk
    have T := hb (compCfg K sc x items[i] C cl) A g₁ m₁ ifs { s₁ with heap := h₃, toks := tk₃ } (G.comp ok hcl) Rc
    cases hx : evBs n { K.c with sc := sc, cv := some (x, items[i]) } ifs m₁ with
    | stuck => rw [compStep_stuck hx] at ho₁; exact absurd ho₁.symm hne
    | exc m₂ =>
      rw [compStep_exc hx] at ho₁
      have T' := T.to (by rw [show evBs n (compCfg K sc x items[i] C cl).c ifs m₁ = .exc m₂ from hx]; simp)
      rw [show evBs n (compCfg K sc x items[i] C cl).c ifs m₁ = .exc m₂ from hx] at T'
      refine wpAny_mono T' (fun _ _ q => q.elim) fun e s₄ ⟨g₄, sm₄, Rl₄, st₄, th₄⟩ => ?_
      exact comp_noted G (sm₃.trans sm₄) (inv₃.step (inv₃.Rl.leaveComp G.H Rl₄ st₄) st₄) (th₄.weak fun _ => inv₃.st.mkd) fun g' s' a1 a2 a3 a4 a5 a6 => hRerr m₂ g' s' e ho₁.symm a1 a2 a3 a4 a5 a6
    | ok b m₂ =>
      have T' := T.to (by rw [show evBs n (compCfg K sc x items[i] C cl).c ifs m₁ = .ok b m₂ from hx]; simp)
      rw [show evBs n (compCfg K sc x items[i] C cl).c ifs m₁ = .ok b m₂ from hx] at T'
      refine wpAny_mono T' (fun v s₄ ⟨g₄, sm₄, Rl₄, st₄, hρ₄, hv⟩ => ?_) fun _ _ q => q.elim
      subst hv
      have inv₄ := inv₃.step (inv₃.Rl.leaveComp G.H Rl₄ st₄) st₄
      have smm : Same s s₄ := sm₃.trans sm₄
      cases v with
      | false =>
        rw [compStep_no hx] at ho₁
        rw [if_neg (by simp)]
        exact ⟨items.length + 1 - (i + 1), by lia, i + 1, g₄, m₂, ds, rfl, hlt, smm, inv₄, hρ₄.trans hρ₁, ho₁⟩
      | true =>
        rw [compStep_yes hx] at ho₁
        rw [if_pos rfl]
        have V := hd (compCfg K sc x items[i] C cl) A g₄ m₂ elt s₄ (G.comp ok hcl) Rl₄
        cases hx : evD n { K.c with sc := sc, cv := some (x, items[i]) } elt m₂ with
        | stuck =>
          rw [hx] at ho₁
          exact absurd ho₁.symm hne
        | exc m₃ =>
          rw [hx] at ho₁
          have he : (.exc m₃ : Out (List PyData)) = o := ho₁
          have V' := V.to (by rw [show evD n (compCfg K sc x items[i] C cl).c elt m₂ = .exc m₃ from hx]; simp)
          rw [show evD n (compCfg K sc x items[i] C cl).c elt m₂ = .exc m₃ from hx] at V'
          refine wpAny_mono V' (fun _ _ q => q.elim) fun e s₅ ⟨g₅, sm₅, Rl₅, st₅, th₅⟩ => ?_
          exact comp_noted G (smm.trans sm₅) (inv₄.step (inv₄.Rl.leaveComp G.H Rl₅ st₅) st₅) (th₅.weak fun _ => inv₄.st.mkd) fun g' s' a1 a2 a3 a4 a5 a6 => hRerr m₃ g' s' e he.symm a1 a2 a3 a4 a5 a6
        | ok d m₃ =>
          rw [hx] at ho₁
          have he : (if ds.length < lenMax then compLoop (compStep n K.c sc x ifs elt) (items.drop (i + 1)) (ds ++ [d]) m₃ else .stuck) = o := ho₁
          have V' := V.to (by rw [show evD n (compCfg K sc x items[i] C cl).c elt m₂ = .ok d m₃ from hx]; simp)
          rw [show evD n (compCfg K sc x items[i] C cl).c elt m₂ = .ok d m₃ from hx] at V'
          refine wpAny_mono V' (fun v s₅ ⟨g₅, sm₅, Rl₅, st₅, hρ₅, fz⟩ => ?_) fun _ _ q => q.elim
          have inv₅ := inv₄.step (inv₄.Rl.leaveComp G.H Rl₅ st₅) st₅
          by_cases hlen : ds.length < lenMax
          · rw [if_pos hlen] at he
            obtain ⟨vs, hpl, hl2, hfz⟩ := inv₅.ov
            have hsz := hfz.length
            rw [Array.length_toList] at hsz
            have lm := lenMax_lt
            refine wpAny_list_append_plain hpl (fun h₆ hp hs => ?_) (by lia)
            have ov₆ : OV K.w g₅.O h₆ D (.d (.list (ds ++ [d]))) := ⟨_, hp, by simp; lia, (hfz.snoc fz).stay (Stay.one inv₅.jD.o hs)⟩
            obtain ⟨nm₅, hn₅⟩ := inv₅.nsC
            exact ⟨items.length + 1 - (i + 1), by lia, i + 1, g₅, m₃, ds ++ [d], rfl, hlt, (smm.trans sm₅).trans ⟨h₆, s₅.toks, rfl⟩,
              ⟨inv₅.Rl.one inv₅.jD (fun _ => inv₅.lD) hs ov₆.there, inv₅.st.one inv₅.jD.n hs, inv₅.it.one inv₅.jD.o inv₅.di hs, inv₅.jC, ⟨nm₅, hn₅.sameBut hs inv₅.cd⟩, inv₅.jD, ov₆, inv₅.cd, inv₅.ci, inv₅.di, inv₅.lC, inv₅.lD, inv₅.lI⟩, hρ₅.trans (hρ₄.trans hρ₁), he⟩
          · rw [if_neg hlen] at he; exact absurd he.symm hne
  · have hi' : i = items.length := by lia
    subst hi'
    rw [List.drop_length] at ho₁
    have ho₂ : (.ok ds m₁ : Out (List PyData)) = o := ho₁
    refine inv₁.it.done inv₁.Rl inv₁.st (fun _ => inv₁.lI) fun h₂ tk Rl₂ st₂ stay₂ hk₂ => ?_
    obtain ⟨nm, hn⟩ := inv₁.nsC
    obtain ⟨oD, hoD⟩ := inv₁.ov.there
    exact hRok ds m₁ _ _ ho₂.symm (sm.trans .mk) Rl₂ st₂ ⟨inv₁.jC.n, ⟨inv₁.jC.o, inv₁.ci⟩, inv₁.jC.x, inv₁.jC.s⟩ ⟨nm, Ns_at hn fun o e => ⟨o, hk₂ C o inv₁.ci e, rfl⟩⟩ ⟨inv₁.jD.n, ⟨inv₁.jD.o, inv₁.di⟩, inv₁.jD.x, inv₁.jD.s⟩ (inv₁.ov.at stay₂ ((hk₂ D oD inv₁.di hoD).trans hoD.symm)) hρ₁
end
end
section
open PySem PySem.W PyProof.Rows PySem.Calls
section
variable {CF : Addr} {K : Cfg} {A : Around} {z : St × Heap} {s s₀ : Shared} {g g' : St} {m m' : M} {n i : Nat} {h h' : Heap} {sc : Scope} {x : Str} {sv : SV} {C D I : Addr} {cl : List (Str × Addr)}
  {items : List SV} {fp : List Addr} {Pi : Nat → Value → Prop} {Si : Nat → Heap → Prop} {acc : SV}

theorem CV_of {w : World} {O : AP} {v : Value} {s : SV} (x : FV w O h v s) : CV w O h v s := .inl x

/-- the block of a comprehension, from its iterable on -/
theorem comp_enter (G : Go CF K A n) (ok : CompOk K.c sc x) {v : Value} (Rl : Rel K g m s.heap) (st : Step (SF K.fr) z g s.heap) (fv : FV K.w g.O s.heap v sv) (hit : itemsOf sv = some items) {newAcc : Sem Value} {oA : Obj} {sa : SV}
    (hfA : oA.isFreed = false) (hA : ∀ E (Q : Value → Shared → Prop) (s : Shared), Q (.ref s.heap.objs.size) { s with heap := s.heap.push oA } → wpAny (MK K) A newAcc Q E s)
    (hov : ∀ (O : AP) (h : Heap), s.heap.objs.size < h.objs.size → OV K.w O (h.push oA) h.objs.size sa)
    {cE : Expr} {W : Value → Addr → Result → Shared → Prop} {E : Value → Shared → Prop}
    (hstart : ∀ (I D C : Addr) (fp : List Addr) (Pi : Nat → Value → Prop) (Si : Nat → Heap → Prop) (g' : St) (s' : Shared), Same s s' → CompInv K A z C D I items fp Pi Si sa 0 g' m s'.heap → g'.ρ = g.ρ → codeAny (MK K) A (.compStart cE 0 (.ref I) (.ref D) (compEnvC sc cl C K.env)) (W (.ref D) C) s') :
    wpAny (MK K) A (pyIter v) (fun it s₂ => wpAny (MK K) A newAcc (fun acc s₃ => wpAny (MK K) A (newFunctionEnv sc K.env.globals cl [] K.env.qual none .none (some K.env)) (fun cenv s₄ =>
      codeAny (MK K) A (.compStart cE 0 it acc { cenv with scope := relabel sc K.env }) (W acc cenv.locals) s₄) E s₃) E s₂) E s := by
  refine sim_iter G.H G.hh Rl st fv hit fun oI fp Pi Si hfI Rl₂ st₂ it₂ hI => ?_
  generalize hh2 : s.heap.push oI = h₂ at Rl₂ st₂ it₂
  have hsz2 : h₂.objs.size = s.heap.objs.size + 1 := by rw [← hh2, Heap.size_push]
  refine hA E _ { s with heap := h₂ } ?_
  have Rl₃ := Rl₂.new oA hfA
  have st₃ := st₂.new oA
  obtain ⟨d1, d2, d3, d4⟩ := Rl₂.fresh G.H (New.size (Nat.le_refl _))
  have jD : Junk K z (gNew (gNew g s.heap) h₂) h₂.objs.size := ⟨st₂.mid (New.size (Nat.le_refl _)), .inr rfl, d2, d3⟩
  have grow : ∀ (o : Obj) (g : St) (h : Heap), Rel K g m h → Step (SF K.fr) (g, h) (gNew g h) (h.push o) := fun o g h r => r.step.new o
  have it₃ := it₂.step Rl₂ (grow oA _ _ Rl₂)
  have ov₃ : OV K.w (gNew (gNew g s.heap) h₂).O (h₂.push oA) h₂.objs.size sa := hov _ h₂ (by lia)
  generalize hh3 : h₂.push oA = h₃ at Rl₃ st₃ it₃ ov₃
  have hsz3 : h₃.objs.size = h₂.objs.size + 1 := by rw [← hh3, Heap.size_push]
  refine wpAny_newFunctionEnv (s := { s with heap := h₃ }) ok.noCell (by intro y hy; simp at hy) (fun h₅ hns hsb => ?_) ok.kind
  have Rl₄ := Rl₃.new { cls := .type "dict", data := .dict #[] }
  have st₄ := st₃.new { cls := .type "dict", data := .dict #[] }
  obtain ⟨c1, c2, c3, c4⟩ := Rl₃.fresh G.H (New.size (Nat.le_refl _))
  have grow4 := grow { cls := .type "dict", data := .dict #[] } _ _ Rl₃
  have it₄ := it₃.step Rl₃ grow4
  obtain ⟨oD, hoD⟩ := ov₃.there
  obtain ⟨jD₄, hoD₄⟩ := jD.live_step hoD grow4
  have ov₄ := ov₃.at (Step.stay Rl₃ grow4) (hoD₄.trans hoD.symm)
  have jC : Junk K z (gNew (gNew (gNew g s.heap) h₂) h₃) h₃.objs.size := ⟨st₃.mid (New.size (Nat.le_refl _)), .inr rfl, c2, c3⟩
  have hsb' : Heap.SameBut h₃.objs.size (h₃.push { cls := .type "dict", data := .dict #[] }) h₅ := hsb
  have liveC : Live h₅ h₃.objs.size := let ⟨o, _, _, e, _⟩ := hns; ⟨o, e⟩
  have cd : h₃.objs.size ≠ h₂.objs.size := by lia
  have ci : h₃.objs.size ≠ s.heap.objs.size := by lia
  have di : h₂.objs.size ≠ s.heap.objs.size := by lia
  refine hstart s.heap.objs.size h₂.objs.size h₃.objs.size fp Pi Si (gNew (gNew (gNew g s.heap) h₂) h₃) { s with heap := h₅, toks := s.toks + ([] : List (Str × Value)).length } ⟨_, _, rfl⟩ ?_ rfl
  exact ⟨Rl₄.one jC (fun _ => Ne.symm c4) hsb' liveC, st₄.one jC.n hsb', it₄.one jC.o ci hsb', jC, ⟨_, hns⟩, jD₄, ov₄.at (Stay.one jC.o hsb') (hsb'.2 _ (Ne.symm cd)), cd, ci, di, Ne.symm c4, Ne.symm d4, Ne.symm hI⟩

/-- what the outer block is, once the comprehension's frame is let go -/
theorem passOn_at (Rl : Rel K g m s.heap) (st : Step (SF K.fr) z g s.heap) {e : Value} (th : Traced CF K z g e s.heap) {α : Type} {what : String} {env : Env} {E : Value → Shared → Prop} {Q : α → Shared → Prop}
    (hq : ∀ h', Rel K g m h' → Step (SF K.fr) z g h' → Thrown CF (SF K.fr) z g e h' → E e { s with heap := h' }) : wpAny (MK K) A (PySem.passOn what e env : Sem α) Q E s := by
  obtain ⟨a, ob, vs, T, oT, ts, f, rfl, j, q2, q3, q4, q5, q6⟩ := id th
  unfold PySem.passOn
  refine wpAny_bind (wpAny_field q2 q4 q5 ?_)
  have hne : (Value.ref T == Value.none) = false := by rfl
  rw [hne]
  simp only [Bool.false_eq_true, if_false]
  refine wpAny_bind (setFlight_at Rl st th fun h' k1 k2 k3 _ => wpAny_throw (hq h' k1 k2 k3.thrown))

theorem Traced.same {e : Value} (th : Traced CF K z g e h) (hs : Heap.SameBut C h h') (hC : ∀ o vs, h.get? C = some o → o.data ≠ .fields vs) : Traced CF K z { g with O := fun b => g.O b ∧ b ≠ C } e h' := by
  obtain ⟨a, ob, vs, T, oT, ts, f, rfl, j, q2, q3, q4, q5, k, q6, q7, q8, q9⟩ := th
  have ha : a ≠ C := fun q => hC ob vs (q ▸ q2) q4
  have hT : T ≠ C := fun q => hC oT ts (q ▸ q7) q8
  exact ⟨a, ob, vs, T, oT, ts, f, rfl, ⟨j.n, ⟨j.o, ha⟩, j.x, j.s⟩, (hs.2 a ha).trans q2, q3, q4, q5, ⟨k.n, ⟨k.o, hT⟩, k.x, k.s⟩, q6, (hs.2 T hT).trans q7, q8, q9⟩
end
end
section
open PySem PySem.W PyProof.Rows PySem.Calls
section
variable {CF : Addr} {K : Cfg} {A : Around} {z : St × Heap} {s s₀ : Shared} {g g' : St} {m m' : M} {n i : Nat} {h h' : Heap} {sc : Scope} {x : Str} {sv : SV} {C D I : Addr} {cl : List (Str × Addr)}
  {items : List SV} {fp : List Addr} {Pi : Nat → Value → Prop} {Si : Nat → Heap → Prop} {acc : SV}

/-- the evaluator's comprehension -/
noncomputable abbrev evComp (n : Nat) (c : Ctx) (sc : Scope) (x : Str) (ifs : List Expr) (elt : Expr) (items : List SV) (m : M) : Out (List PyData) := compLoop (compStep n c sc x ifs elt) items [] m

theorem listComp_at (hb : SBs CF n) (hd : SD CF n) (G : Go CF K A n) (ok : CompOk K.c sc x) (Rl : Rel K g m s.heap) (st : Step (SF K.fr) z g s.heap) {v : Value} (fv : FV K.w g.O s.heap v sv) (hit : itemsOf sv = some items) {elt iter : Expr} {ifs : List Expr} {px pos : Pos}
    (hcl : ∀ y, (∃ p ∈ sc.names, p.1 = y ∧ p.2 = .free) → cl.lookup y = K.env₀.cells.lookup y) {o : Out (List PyData)} (ho : evComp n K.c sc x ifs elt items m = o) (hne : o ≠ .stuck)
    {use : Option (Value → Sem Unit)} {Q E : Value → Shared → Prop}
    (hQ : ∀ ds m' g' s' D, o = .ok ds m' → Same s s' → Rel K g' m' s'.heap → Step (SF K.fr) z g' s'.heap → RR K z (.fresh (.d (.list ds))) g' (.ref D) s'.heap → g'.ρ = g.ρ →
      match use with
      | none => Q (.ref D) s'
      | some u => ∀ C, (∃ nm, s'.heap.Ns C nm) → Junk K z g' C → K.env.locals ≠ C → C ≠ D → wpAny (MK K) A (u (.ref D)) (fun _ s'' => (∃ nm, s''.heap.Ns C nm) ∧ ∀ h', Heap.SameBut C s''.heap h' → Q .none { s'' with heap := h' }) E s')
    (hE : ∀ m' e s', o = .exc m' → (∃ g', Same s s' ∧ Rel K g' m' s'.heap ∧ Step (SF K.fr) z g' s'.heap ∧ Thrown CF (SF K.fr) z g' e s'.heap) → E e s') :
    wpAny (MK K) A (pyIter v) (fun it s₂ => wpAny (MK K) A (newList []) (fun acc s₃ => wpAny (MK K) A (newFunctionEnv sc K.env.globals cl [] K.env.qual none .none (some K.env)) (fun cenv s₄ =>
      codeAny (MK K) A (.compStart (.ListComp elt [⟨.Name x px, iter, ifs, 0⟩] sc pos) 0 it acc { cenv with scope := relabel sc K.env }) (compPost (MK K) A E use Q acc cenv.locals) s₄) E s₃) E s₂) E s := by
  refine comp_enter (W := fun acc C => compPost (MK K) A E use Q acc C) (oA := { cls := .type "list", data := .seq #[] }) (sa := .d (.list [])) G ok Rl st fv hit rfl (fun E Q s h => wpAny_newObj_type h) (fun O h _ => ⟨#[], ⟨0, Heap.get?_push_size _ rfl⟩, Nat.zero_le _, .nil⟩) fun I D C fp Pi Si g₁ s₁ sm₁ inv hρ₁ => ?_
  have loop : codeAny (MK K) A (.compLoop (.ListComp elt [⟨.Name x px, iter, ifs, 0⟩] sc pos) 0 (.ref I) (.ref D) (compEnvC sc cl C K.env)) (compPost (MK K) A E use Q (.ref D) C) s₁ := by
    refine compLoop_at hb hd G ok hcl hne (fun ds m' g' s' he sm Rl' st' jC nsC jD ov hρ => ?_) (fun m' g' s' e he sm Rl' st' jC nsC th => ?_) inv ho
    · have smm : Same s s' := sm₁.trans sm
      obtain ⟨nm, hn⟩ := nsC
      obtain ⟨oD, hoD⟩ := ov.there
      cases use with
      | none =>
        refine ⟨nm, hn, fun h' hs => ?_⟩
        have stay := Stay.drop jC.o hs
        exact hQ ds m' _ _ D he (smm.trans .mk) (Rl'.drop jC (fun _ => inv.lC) hs) (st'.drop jC.n hs) ⟨D, rfl, jD.n, ⟨jD.o, Ne.symm inv.cd⟩, jD.x, jD.s, Ne.symm inv.lD, ov.at stay (hs.2 D (Ne.symm inv.cd))⟩ (hρ.trans hρ₁)
      | some u =>
        have := hQ ds m' g' s' D he smm Rl' st' ⟨D, rfl, jD.n, jD.o, jD.x, jD.s, Ne.symm inv.lD, ov⟩ (hρ.trans hρ₁)
        refine wpAny_mono (this C ⟨nm, hn⟩ jC inv.lC inv.cd) (fun _ s'' ⟨⟨nm', hn'⟩, hq⟩ => ⟨nm', hn', hq⟩) fun _ _ q => q
    · have smm : Same s s' := sm₁.trans sm
      obtain ⟨nm, hn⟩ := nsC
      have nf : ∀ o vs, s'.heap.get? C = some o → o.data ≠ .fields vs := fun o vs e q => by
        obtain ⟨o', _, _, e', hd', _⟩ := hn
        rw [e] at e'; cases e'; rw [q] at hd'; cases hd'
      have fin : ∃ nm, s'.heap.Ns C nm ∧ ∀ h', Heap.SameBut C s'.heap h' → ∀ cenv : Env, cenv.locals = C → wpAny (MK K) A (PySem.passOn "comprehension.variables-let-go" e cenv : Sem Value) (fun _ _ => False) E { s' with heap := h' } :=
        ⟨nm, hn, fun h' hs cenv _ => passOn_at (s := { s' with heap := h' }) (Rl'.drop jC (fun _ => inv.lC) hs) (st'.drop jC.n hs) (th.same hs nf) fun h'' k1 k2 k3 => hE m' e _ he ⟨_, smm.trans .mk, k1, k2, k3⟩⟩
      cases use <;> exact fin
  exact codeAny_compStart_list loop (inv.it.W.self 0 _ _ _ inv.it.st loop)

/-- the whole of a comprehension of lists, whatever is done with what it gave -/
theorem sim_ListComp (he : SE CF n) (hb : SBs CF n) (hd : SD CF n) (G : Go CF K A n) (Rl : Rel K g m s.heap) {x : Str} {px pos : Pos} {iter elt : Expr} {ifs : List Expr} (ok : CompOk K.c sc x) {use : Option (Value → Sem Unit)} {β : Type} {f : List PyData → M → Out β} {Q' : β → M → St → Value → Shared → Prop}
    (hf : ∀ ds m' g' s' D, Same s s' → Rel K g' m' s'.heap → Step (SF K.fr) (g, s.heap) g' s'.heap → RR K (g, s.heap) (.fresh (.d (.list ds))) g' (.ref D) s'.heap → g'.ρ = g.ρ → f ds m' ≠ .stuck →
      match use with
      | none => POk K (g, s.heap) s Q' (f ds m') (.ref D) s'
      | some u => ∀ C, (∃ nm, s'.heap.Ns C nm) → Junk K (g, s.heap) g' C → K.env.locals ≠ C → C ≠ D → wpAny (MK K) A (u (.ref D)) (fun _ s'' => (∃ nm, s''.heap.Ns C nm) ∧ ∀ h', Heap.SameBut C s''.heap h' → POk K (g, s.heap) s Q' (f ds m') .none { s'' with heap := h' }) (PErr CF K (g, s.heap) s (f ds m')) s') :
    Sim CF K A (g, s.heap) (comprehension (.ListComp elt [⟨.Name x px, iter, ifs, 0⟩] sc pos) sc K.env (firstIterPos [⟨.Name x px, iter, ifs, 0⟩] pos) (newList []) false (eval iter K.env) use) (((ev n K.c iter m).bind fun r m => (r.frz m).bind fun s m => match s with
            | .dt _ => .stuck
            | s => match itemsOf s with
              | some items => evComp n K.c sc x ifs elt items m
              | none => .stuck).bind f) Q' s := by
  by_cases hset : ∃ es k p, iter = .Set es k p
  · obtain ⟨es, k, p, rfl⟩ := hset
    rw [ev_set]; trivial
  have hfold := folded_plain (it := iter) (env := K.env) (fun es k p q => hset ⟨es, k, p, q⟩)
  rw [← Out.bind_assoc]
  refine Sim.of fun hne => ?_
  obtain ⟨cl, hclos, hcl⟩ := closure_at G.H Rl ok
  refine wpAny_comprehension_free (g := ⟨.Name x px, iter, ifs, 0⟩) (gs := []) rfl hfold hclos ok.kind (fun p hp hl => by rw [ok.uniq p hp, hl]) ?_
  have first := (he K A g m iter s G Rl).frz
  cases e1 : (ev n K.c iter m).bind fun r m => r.frz m with
  | stuck => rw [e1] at hne; exact absurd rfl hne
  | exc m₁ =>
    rw [e1] at first
    exact wpAny_mono first (fun _ _ q => q.elim) fun _ _ q => q
  | ok sv m₁ =>
    rw [e1] at first hne
    have key : ∃ items, itemsOf sv = some items ∧ (((.ok sv m₁ : Out SV).bind fun s m => match s with
            | .dt _ => .stuck
            | s => match itemsOf s with
              | some items => evComp n K.c sc x ifs elt items m
              | none => .stuck).bind f) = (evComp n K.c sc x ifs elt items m₁).bind f := by
      cases sv with
      | dt kvs => exact absurd rfl hne
      | d d =>
        cases hi : itemsOf (.d d) with
        | none =>
          have : (((.ok (SV.d d) m₁ : Out SV).bind fun s m => match s with
            | .dt _ => .stuck
            | s => match itemsOf s with
              | some items => evComp n K.c sc x ifs elt items m
              | none => .stuck).bind f) = .stuck := by simp only [Out.bind, hi]
          exact absurd this hne
        | some items => exact ⟨items, rfl, by simp only [Out.bind, hi]⟩
      | di ks =>
        have : (((.ok (SV.di ks) m₁ : Out SV).bind fun s m => match s with
            | .dt _ => .stuck
            | s => match itemsOf s with
              | some items => evComp n K.c sc x ifs elt items m
              | none => .stuck).bind f) = .stuck := rfl
        exact absurd this hne
      | rng k => exact ⟨_, rfl, rfl⟩
    obtain ⟨items, hit, hkey⟩ := key
    rw [hkey] at hne
    rw [hkey]
    generalize ho : evComp n K.c sc x ifs elt items m₁ = o
    rw [ho] at hne
    have hno : o ≠ .stuck := fun q => by subst q; exact hne rfl
    refine wpAny_mono first (fun v s₁ ⟨g₁, sm₁, Rl₁, st₁, hρ₁, fv⟩ => ?_) fun _ _ q => q.elim
    refine listComp_at hb hd G ok Rl₁ st₁ fv hit hcl ho hno (fun ds m' g' s' D e sm Rl' st' rr hρ => ?_) fun m' e s' he' q => ?_
    · subst e
      have := hf ds m' g' s' D (sm₁.trans sm) Rl' st' rr (hρ.trans hρ₁) hne
      cases use with
      | none => exact this
      | some u => exact this
    · subst he'
      obtain ⟨g', a, b, c⟩ := q
      exact ⟨g', sm₁.trans a, b, c⟩

theorem se_ListComp (he : SE CF n) (hb : SBs CF n) (hd : SD CF n) (G : Go CF K A n) (Rl : Rel K g m s.heap) {x : Str} {px pos : Pos} {iter elt : Expr} {ifs : List Expr} (ok : CompOk K.c sc x) :
    Sim CF K A (g, s.heap) (eval (.ListComp elt [⟨.Name x px, iter, ifs, 0⟩] sc pos) K.env) (((ev n K.c iter m).bind fun r m => (r.frz m).bind fun s m => match s with
            | .dt _ => .stuck
            | s => match itemsOf s with
              | some items => evComp n K.c sc x ifs elt items m
              | none => .stuck).bind fun ds m => .ok (.fresh (.d (.list ds))) m) (QE K (g, s.heap) g.ρ) s := by
  rw [eval_ListComp]
  refine sim_ListComp (use := none) he hb hd G Rl ok fun ds m' g' s' D sm Rl' st' rr hρ _ => ?_
  exact ⟨g', sm, Rl', st', hρ, rr⟩
end
end
section
open PySem PySem.W PyProof.Rows PySem.Calls
theorem stored_keys (kvs : List (Int × Value)) (k : Int) (v : Value) : (stored kvs k v).map (·.1) = addK (kvs.map (·.1)) k := by
  unfold stored addK
  have h : (kvs.any fun kv => decide (kv.1 = k)) = (kvs.map (·.1)).contains k := by
    induction kvs with
    | nil => rfl
    | cons p r ih =>
      rw [List.any_cons, List.map_cons, List.contains_cons, ih]
      congr 1
      by_cases e : p.1 = k
      · rw [decide_eq_true e, beq_iff_eq.mpr e.symm]
      · rw [decide_eq_false e, beq_eq_false_iff_ne.mpr (Ne.symm e)]
  rw [h]
  by_cases hc : (kvs.map (·.1)).contains k = true
  · rw [if_pos hc, if_pos hc, List.map_map]
    apply List.map_congr_left
    intro p _
    simp only [Function.comp_apply]
    split
    · rfl
    · rfl
  · rw [if_neg hc, if_neg hc, List.map_append]; rfl

theorem addK_length (ks : List Int) (k : Int) : (addK ks k).length ≤ ks.length + 1 := by
  unfold addK
  split <;> simp

section
variable {CF : Addr} {K : Cfg} {A : Around} {z : St × Heap} {s s₀ : Shared} {g g' : St} {m m' : M} {n i : Nat} {h h' : Heap} {sc : Scope} {x : Str} {sv : SV} {C D I : Addr} {cl : List (Str × Addr)}
  {items : List SV} {fp : List Addr} {Pi : Nat → Value → Prop} {Si : Nat → Heap → Prop} {acc : SV}

/-- an int key is stored -/
theorem dictSetI {w : World} {d : Addr} {ks : List Int} {k : Int} {t : Tok} {v : Value} {E : Value → Shared → Prop} {Q : Unit → Shared → Prop} (hd : DictI w s.heap d ks) (hlen : ks.length < lenMax)
    (hq : ∀ h', DictI w h' d (addK ks k) → Heap.SameBut d s.heap h' → Q () { s with heap := h', toks := s.toks + 1 }) : wpAny (model P w) A (dictSet d (.int k t) v) Q E s := by
  obtain ⟨h1, h2, kvs, h3, rfl⟩ := hd
  have lm := lenMax_lt
  rw [List.length_map] at hlen
  refine wpAny_dictSet_pairs (knd := PySem.intKind P w) (k := k) (by simp [PySem.intKind, Value.isInt]) h3 (fun h' hm hs => hq h' ⟨h1, ?_, _, hm, stored_keys kvs k v⟩ hs) (by lia)
  have := addK_length (kvs.map (·.1)) k
  rw [List.length_map] at this
  lia

inductive CompD (K : Cfg) (A : Around) (z : St × Heap) (C D I : Addr) (items : List SV) (fp : List Addr) (Pi : Nat → Value → Prop) (Si : Nat → Heap → Prop) (s : Shared) (g : St) (m : M) (is : List Int) (k : Nat) (s' : Shared) : Prop
  | mk (i : Nat) (g' : St) (hk : k = items.length + 1 - i) (hi : i ≤ items.length) (sm : Same s s') (inv : CompInv K A z C D I items fp Pi Si (.di ((is.take i).foldl addK [])) i g' m s'.heap) (hρ : g'.ρ = g.ρ) : CompD K A z C D I items fp Pi Si s g m is k s'
theorem foldl_addK_len (l : List Int) : (l.foldl addK []).length ≤ l.length := by
  have gen : ∀ (l acc : List Int), (l.foldl addK acc).length ≤ acc.length + l.length := by
    intro l
    induction l with
    | nil => intro acc; exact Nat.le_refl _
    | cons a r ih =>
      intro acc
      have h1 := ih (addK acc a)
      have h2 := addK_length acc a
      rw [List.foldl_cons, List.length_cons]
      lia
  have := gen l []
  rwa [List.length_nil, Nat.zero_add] at this
/-- the loop of a comprehension of a dict of ints -/
theorem compLoopD_at (G : Go CF K A n) (ok : CompOk K.c sc x) {iter : Expr} {kx : Pos} {k : Nat} {vp px pos : Pos} {R : Result → Shared → Prop} {is : List Int}
    (hcl : ∀ y, (∃ p ∈ sc.names, p.1 = y ∧ p.2 = .free) → cl.lookup y = K.env₀.cells.lookup y) (hit : items = (is.map PyData.int).map SV.d) (hlen : is.length ≤ lenMax) (hx : (x == ("__debug__" : Str)) = false)
    (hRok : ∀ g' s', Same s s' → Rel K g' m s'.heap → Step (SF K.fr) z g' s'.heap → Junk K z g' C → (∃ nm, s'.heap.Ns C nm) → Junk K z g' D → OV K.w g'.O s'.heap D (.di (is.foldl addK [])) → g'.ρ = g.ρ → R (.ok .next) s')
    (inv : CompInv K A z C D I items fp Pi Si (.di []) 0 g m s.heap) :
    codeAny (MK K) A (.compLoop (.DictComp (.Name x kx) (.Constant (.bool true) k vp) [⟨.Name x px, iter, [], 0⟩] sc pos) 0 (.ref I) (.ref D) (compEnvC sc cl C K.env)) R s := by
  have hkr : (relabel sc K.env).kind = .function := ok.kind
  have hil : items.length = is.length := by rw [hit]; simp
  refine codeAny_compLoop_testsD (I := CompD K A z C D I items fp Pi Si s g m is) ?_ (items.length + 1) ⟨0, g, rfl, Nat.zero_le _, .refl, inv, rfl⟩
  rintro k s₁ ⟨i, g₁, rfl, hi, sm, inv₁, hρ₁⟩
  by_cases hlt : i < items.length
  · have hli : i < is.length := by lia
    have hy : items[i]? = some (.d (.int is[i])) := by rw [hit]; simp [hli]
    refine inv₁.it.next inv₁.Rl inv₁.st (fun _ => inv₁.lI) hy fun u h₂ tk fu Rl₂ st₂ it₂ hk₂ => ?_
    obtain ⟨nm, hn⟩ := inv₁.nsC
    obtain ⟨oD, hoD⟩ := inv₁.ov.there
    have hn₂ : h₂.Ns C nm := Ns_at hn fun o e => ⟨o, hk₂ C o inv₁.ci e, rfl⟩
    refine storeC (K := K) hkr ok.x (s := { s₁ with heap := h₂, toks := tk }) hn₂ fun h₃ tk₃ hn₃ hs₃ => ?_
    have liveC : Live h₃ C := let ⟨o, _, _, e, _⟩ := hn₃; ⟨o, e⟩
    have stay₂ : Stay g₁.O s₁.heap g₁.O h₂ := fun a o ha e => ⟨ha, hk₂ a o (fun q => ha (q ▸ inv₁.it.j.o)) e⟩
    have ov₂ := inv₁.ov.at stay₂ ((hk₂ D oD inv₁.di hoD).trans hoD.symm)
    have stay₃ : Stay g₁.O h₂ g₁.O h₃ := Stay.one inv₁.jC.o hs₃
    have inv₃ : CompInv K A z C D I items fp Pi Si (.di ((is.take i).foldl addK [])) (i + 1) g₁ m h₃ :=
      ⟨Rl₂.one inv₁.jC (fun _ => inv₁.lC) hs₃ liveC, st₂.one inv₁.jC.n hs₃, it₂.one inv₁.jC.o inv₁.ci hs₃, inv₁.jC, ⟨_, hn₃⟩, inv₁.jD, ov₂.at stay₃ (hs₃.2 D (Ne.symm inv₁.cd)), inv₁.cd, inv₁.ci, inv₁.di, inv₁.lC, inv₁.lD, inv₁.lI⟩
    refine wpAny_tests_nil ?_
    rw [if_pos rfl]
    cases fu with
    | int _ t =>
      have hload : ∀ {E : Value → Shared → Prop} {Q : Value → Shared → Prop}, Q (.int is[i] t) { s₁ with heap := h₃, toks := tk₃ } → wpAny (MK K) A (eval (.Name x kx) (compEnvC sc cl C K.env)) Q E { s₁ with heap := h₃, toks := tk₃ } := fun h => by
        refine wpAny_Name (loadName_at (env := compEnvC sc cl C K.env) ok.kind (.inl ⟨?_, _, hn₃, by simp⟩) h) hx
        show (relabel sc K.env).names.lookup x = _
        rw [relabel_lookup, ok.x]; rfl
      refine hload ?_
      refine wpAny_pure ?_
      have htl : ((is.take i).foldl addK []).length < lenMax := by
        have := foldl_addK_len (is.take i)
        rw [List.length_take] at this
        lia
      refine dictSetI inv₃.ov htl fun h₄ hd₄ hs₄ => ?_
      have e1 : (is.take (i + 1)).foldl addK [] = addK ((is.take i).foldl addK []) is[i] := by
        rw [List.take_succ_eq_append_getElem hli, List.foldl_append]; rfl
      have ov₄ : OV K.w g₁.O h₄ D (.di ((is.take (i + 1)).foldl addK [])) := by rw [e1]; exact hd₄
      obtain ⟨nm₃, hn₃'⟩ := inv₃.nsC
      exact ⟨items.length + 1 - (i + 1), by lia, i + 1, g₁, rfl, hlt, sm.trans ⟨h₄, _, rfl⟩,
        ⟨inv₃.Rl.one inv₃.jD (fun _ => inv₃.lD) hs₄ ov₄.there, inv₃.st.one inv₃.jD.n hs₄, inv₃.it.one inv₃.jD.o inv₃.di hs₄, inv₃.jC, ⟨nm₃, hn₃'.sameBut hs₄ inv₃.cd⟩, inv₃.jD, ov₄, inv₃.cd, inv₃.ci, inv₃.di, inv₃.lC, inv₃.lD, inv₃.lI⟩, hρ₁⟩
  · have hi' : i = items.length := by lia
    subst hi'
    refine inv₁.it.done inv₁.Rl inv₁.st (fun _ => inv₁.lI) fun h₂ tk Rl₂ st₂ stay₂ hk₂ => ?_
    obtain ⟨nm, hn⟩ := inv₁.nsC
    obtain ⟨oD, hoD⟩ := inv₁.ov.there
    have ov := inv₁.ov
    rw [hil, List.take_length] at ov
    exact hRok _ _ (sm.trans .mk) Rl₂ st₂ ⟨inv₁.jC.n, ⟨inv₁.jC.o, inv₁.ci⟩, inv₁.jC.x, inv₁.jC.s⟩ ⟨nm, Ns_at hn fun o e => ⟨o, hk₂ C o inv₁.ci e, rfl⟩⟩ ⟨inv₁.jD.n, ⟨inv₁.jD.o, inv₁.di⟩, inv₁.jD.x, inv₁.jD.s⟩ (ov.at stay₂ ((hk₂ D oD inv₁.di hoD).trans hoD.symm)) hρ₁

theorem mapM_ints : ∀ {xs : List PyData} {is : List Int}, xs.mapM (fun | PyData.int i => some i | _ => none) = some is → xs = is.map PyData.int
  | [], is, e => by simp at e; subst e; rfl
  | x :: xs, is, e => by
    rw [List.mapM_cons] at e
    cases x with
    | int i =>
      simp only [Option.bind_eq_bind, Option.bind_some] at e
      cases e2 : xs.mapM (fun | PyData.int i => some i | _ => none) with
      | none => rw [e2] at e; cases e
      | some k =>
        rw [e2] at e
        simp only [Option.pure_def, Option.bind_some, Option.some.injEq] at e
        subst e
        rw [mapM_ints e2]; rfl
    | _ => simp at e

theorem se_DictComp (he : SE CF n) (G : Go CF K A n) (Rl : Rel K g m s.heap) {x : Str} {px kx vp pos : Pos} {k : Nat} {iter : Expr} (ok : CompOk K.c sc x) (hxd : (x == ("__debug__" : Str)) = false) :
    Sim CF K A (g, s.heap) (eval (.DictComp (.Name x kx) (.Constant (.bool true) k vp) [⟨.Name x px, iter, [], 0⟩] sc pos) K.env) ((ev n K.c iter m).bind fun r m => (r.frz m).bind fun s m => match s with
            | .d (.list xs) => match xs.mapM (fun | .int i => some i | _ => none) with
              | some is => if xs.length ≤ lenMax then .ok (.fresh (.di (is.foldl addK []))) m else .stuck
              | none => .stuck
            | _ => .stuck) (QE K (g, s.heap) g.ρ) s := by
  by_cases hset : ∃ es k p, iter = .Set es k p
  · obtain ⟨es, k, p, rfl⟩ := hset
    rw [ev_set]; trivial
  have hfold := folded_plain (it := iter) (env := K.env) (fun es k p q => hset ⟨es, k, p, q⟩)
  rw [← Out.bind_assoc, arm_eval_DictComp]
  refine Sim.of fun hne => ?_
  obtain ⟨cl, hclos, hcl⟩ := closure_at G.H Rl ok
  refine wpAny_comprehension_free (g := ⟨.Name x px, iter, [], 0⟩) (gs := []) (use := none) rfl hfold hclos ok.kind (fun p hp hl => by rw [ok.uniq p hp, hl]) ?_
  have first := (he K A g m iter s G Rl).frz
  cases e1 : (ev n K.c iter m).bind fun r m => r.frz m with
  | stuck => rw [e1] at hne; exact absurd rfl hne
  | exc m₁ =>
    rw [e1] at first
    exact wpAny_mono first (fun _ _ q => q.elim) fun _ _ q => q
  | ok sv m₁ =>
    rw [e1] at first hne
    have key : ∃ is : List Int, sv = .d (.list (is.map PyData.int)) ∧ is.length ≤ lenMax ∧ ((.ok sv m₁ : Out SV).bind fun s m => match s with
            | .d (.list xs) => match xs.mapM (fun | .int i => some i | _ => none) with
              | some is => if xs.length ≤ lenMax then .ok (R.fresh (.di (is.foldl addK []))) m else .stuck
              | none => .stuck
            | _ => .stuck : Out R) = .ok (R.fresh (.di (is.foldl addK []))) m₁ := by
      cases sv with
      | d d =>
        cases d with
        | list xs =>
          cases hm : xs.mapM (fun | PyData.int i => some i | _ => none) with
          | none => simp only [Out.bind, hm] at hne; exact absurd rfl hne
          | some is =>
            have hxs := mapM_ints hm
            subst hxs
            by_cases hl : (is.map PyData.int).length ≤ lenMax
            · exact ⟨is, rfl, by simpa using hl, by simp only [Out.bind, hm, if_pos hl]⟩
            · simp only [Out.bind, hm, if_neg hl] at hne; exact absurd rfl hne
        | _ => exact absurd rfl hne
      | _ => exact absurd rfl hne
    obtain ⟨is, rfl, hlen, hkey⟩ := key
    rw [hkey]
    refine wpAny_mono first (fun v s₁ ⟨g₁, sm₁, Rl₁, st₁, hρ₁, fv⟩ => ?_) fun _ _ q => q.elim
    refine comp_enter (W := fun acc C => compPost (MK K) A _ none _ acc C) (oA := { cls := .type "dict", data := .dict #[] }) (sa := .di []) G ok Rl₁ st₁ fv rfl rfl (fun E Q s h => wpAny_newObj_type h) (fun O h hl => (DictT.new (w := K.w) (O := O) h (Rl₁.notMods G (Nat.le_of_lt hl))).nil_int) fun I D C fp Pi Si g₂ s₂ sm₂ inv hρ₂ => ?_
    have loop : codeAny (MK K) A (.compLoop (.DictComp (.Name x kx) (.Constant (.bool true) k vp) [⟨.Name x px, iter, [], 0⟩] sc pos) 0 (.ref I) (.ref D) (compEnvC sc cl C K.env)) (compPost (MK K) A (PErr CF K (g, s.heap) s (.ok (.fresh (.di (is.foldl addK []))) m₁ : Out R)) none (POk K (g, s.heap) s (QE K (g, s.heap) g.ρ) (.ok (.fresh (.di (is.foldl addK []))) m₁)) (.ref D) C) s₂ := by
      refine compLoopD_at G ok hcl rfl hlen hxd (fun g' s' sm Rl' st' jC nsC jD ov hρ => ?_) inv
      obtain ⟨nm, hn⟩ := nsC
      obtain ⟨oD, hoD⟩ := ov.there
      refine ⟨nm, hn, fun h' hs => ?_⟩
      have stay := Stay.drop jC.o hs
      exact ⟨_, sm₁.trans (sm₂.trans (sm.trans .mk)), Rl'.drop jC (fun _ => inv.lC) hs, st'.drop jC.n hs, hρ.trans (hρ₂.trans hρ₁), D, rfl, jD.n, ⟨jD.o, Ne.symm inv.cd⟩, jD.x, jD.s, Ne.symm inv.lD, ov.at stay (hs.2 D (Ne.symm inv.cd))⟩
    exact codeAny_compStart_dict loop (inv.it.W.self 0 _ _ _ inv.it.st loop)
end
end
section
open PySem PySem.W PyProof.Rows PySem.Calls
section
variable {CF : Addr} {K : Cfg} {A : Around} {z : St × Heap} {s s₀ : Shared} {g g' : St} {m m' : M} {n i : Nat} {h h' : Heap} {sc : Scope} {x : Str} {sv : SV} {C D I : Addr} {cl : List (Str × Addr)}

theorem lc_assoc (X : Out SV) (F : List SV → M → Out (List PyData)) {β : Type} (f : List PyData → M → Out β) :
    ((X.bind fun s m => match s with
            | .dt _ => .stuck
            | s => match itemsOf s with
              | some items => F items m
              | none => .stuck).bind f) = X.bind fun s m => match s with
            | .dt _ => .stuck
            | s => match itemsOf s with
              | some items => (F items m).bind f
              | none => .stuck := by
  cases X with
  | stuck => rfl
  | exc m => rfl
  | ok sv m =>
    show (match sv with
            | .dt _ => .stuck
            | s => match itemsOf s with
              | some items => F items m
              | none => .stuck : Out (List PyData)).bind f = _
    cases sv with
    | dt _ => rfl
    | d d => simp only [Out.bind]; cases itemsOf (.d d) <;> rfl
    | di d => simp only [Out.bind]; cases itemsOf (.di d) <;> rfl
    | rng d => simp only [Out.bind]; cases itemsOf (.rng d) <;> rfl

theorem swaps_other {e : Expr} {t : Option Expr} {line : Nat} {env : Env} (h1 : ∀ a b c d, e ≠ .ListComp a b c d) (h2 : ∀ a b c d, e ≠ .SetComp a b c d) (h3 : ∀ a b c d f, e ≠ .DictComp a b c d f) : swapsWith e t line env = pure false := by
  cases e <;> first | rfl | exact absurd rfl (h1 _ _ _ _) | exact absurd rfl (h2 _ _ _ _) | exact absurd rfl (h3 _ _ _ _ _)

theorem swaps_list {elt : Expr} {gs : List Comprehension} {sc : Scope} {p tp : Pos} {t : Str} {line : Nat} {env : Env} : ∃ b, swapsWith (.ListComp elt gs sc p) (some (.Name t tp)) line env = pure b := ⟨_, rfl⟩

theorem ev_setcomp (n : Nat) (c : Ctx) (a : Expr) (b : List Comprehension) (d : Scope) (p : Pos) (m : M) : ev n c (.SetComp a b d p) m = .stuck := by
  cases n <;> rfl

/-- an assignment to a name, the value first -/
theorem sx_AssignName (he : SE CF n) (G : Go CF K A n) (Rl : Rel K g m s.heap) (x : Str) (xp pos : Pos) (e : Expr) (hb : bindable K.c x = true) (hsw : swapsWith e (some (.Name x xp)) pos.line K.env = pure false) :
    Sim CF K A (g, s.heap) (exec (.Assign [.Name x xp] e pos) K.env) ((ev n K.c e m).bind fun r m => (storeR x r m).bind fun _ m => .ok .next m) (fun fl _ g' f s' => FlR K g' s'.heap fl f) s := by
  rw [exec_Assign_Name K.env x xp e pos hsw]
  refine Sim.standAt ((he K A g m e s G Rl).bind fun r m₁ g₁ v s₁ _ _ Rl₁ st₁ ⟨_, rr⟩ => ?_)
  refine Sim.standAt ((sim_storeR G.H Rl₁ st₁ hb rr).bind fun _ m₂ g₂ _ s₂ _ _ Rl₂ st₂ _ => ?_)
  exact Sim.pure Rl₂ st₂ trivial

/-- an assignment to a name of a comprehension, the name stored within -/
theorem sx_AssignUsed (he : SE CF n) (hbs : SBs CF n) (hd : SD CF n) (G : Go CF K A n) (Rl : Rel K g m s.heap) (y : Str) (yp pos cp px : Pos) (x : Str) (elt iter : Expr) (ifs : List Expr) (ok : CompOk K.c sc x) (hb : bindable K.c y = true)
    (hsw : swapsWith (.ListComp elt [⟨.Name x px, iter, ifs, 0⟩] sc cp) (some (.Name y yp)) pos.line K.env = pure true) :
    Sim CF K A (g, s.heap) (exec (.Assign [.Name y yp] (.ListComp elt [⟨.Name x px, iter, ifs, 0⟩] sc cp) pos) K.env) ((((ev n K.c iter m).bind fun r m => (r.frz m).bind fun s m => match s with
            | .dt _ => .stuck
            | s => match itemsOf s with
              | some items => evComp n K.c sc x ifs elt items m
              | none => .stuck).bind fun ds m => (storeR y (.fresh (.d (.list ds))) m).bind fun _ m => .ok .next m)) (fun fl _ g' f s' => FlR K g' s'.heap fl f) s := by
  rw [exec_Assign_Name_used _ _ _ _ hsw]
  refine Sim.standAt ?_
  obtain ⟨b1, b2, b3⟩ := bindable_facts G.H hb
  have main := sim_ListComp (iter := iter) (elt := elt) (ifs := ifs) (use := some (assign (.Name y yp) K.env)) (f := fun ds m => (storeR y (.fresh (.d (.list ds))) m).bind fun _ m => .ok Fl.next m) (Q' := fun fl _ _ _ _ => fl = Fl.next) (pos := cp) (px := px) he hbs hd G Rl ok fun ds m₁ g₁ s₁ D sm Rl₁ st₁ rr hρ _ C nsC jC lC cd => by
    obtain ⟨D', e, q1, q2, q3, q4, q5, ov⟩ := rr
    cases e
    show wpAny (MK K) A (standAt yp >>= fun _ => bindName K.env y (.ref D)) _ _ s₁
    refine wpAny_bind (wpAny_standAt (wpAny_bindName (storeName_at G.H Rl₁ b1 b3 fun h' tk hl => ?_)))
    have held : Held K g₁ (.ref D) ⟨true, .d (.list ds)⟩ s₁.heap (fun b => g₁.X b ∨ b = D) := .inr ⟨rfl, D, rfl, q2, q3, q4, ov, rfl⟩
    have Rl₂ := Rl₁.store G.H b2 b1 hl held
    have st₂ := Step.store G.H Rl₁ st₁ hl held (fun _ b e => by cases e; exact q1)
    obtain ⟨p, hp, hs⟩ := hl.place G.H Rl₁
    obtain ⟨nm, hn⟩ := nsC
    have hpC : C ≠ p := fun q => jC.x (q ▸ hp)
    refine ⟨⟨nm, hn.sameBut hs hpC⟩, fun h'' hs'' => ?_⟩
    have jC₂ : Junk K (g, s.heap) { g₁ with ρ := fun z => if z = y then some (.ref D) else g₁.ρ z, X := fun b => g₁.X b ∨ b = D } C := ⟨jC.n, jC.o, fun q => q.elim jC.x cd, jC.s⟩
    exact ⟨_, sm.trans ⟨h'', tk, rfl⟩, Rl₂.drop jC₂ (fun _ => lC) hs'', st₂.drop jC.n hs'', rfl⟩
  have conv := Sim.conv (t' := (evalThenUse (.ListComp elt [⟨.Name x px, iter, ifs, 0⟩] sc cp) K.env (assign (.Name y yp) K.env) >>= fun _ => pure Flow.next)) (t := comprehension (.ListComp elt [⟨.Name x px, iter, ifs, 0⟩] sc cp) sc K.env (firstIterPos [⟨.Name x px, iter, ifs, 0⟩] cp) (newList []) false (eval iter K.env) (some (assign (.Name y yp) K.env)) >>= fun _ => pure Flow.next)
    (CF := CF) (z := (g, s.heap)) (s := s) (A := A) (fun Q E h => by
      refine Eq.mp ?_ h
      congr 1
      show _ = ((comprehension _ _ _ _ _ _ _ _ >>= fun _ => pure ()) >>= fun _ => pure Flow.next)
      rw [bind_assoc]
      rfl)
    (main.bind (Q' := fun fl _ g' f s' => FlR K g' s'.heap fl f) (k := fun _ => pure Flow.next) (f := fun fl m => .ok fl m) fun fl m₁ g₁ _ s₁ _ _ Rl₁ st₁ hq => by subst hq; exact Sim.pure Rl₁ st₁ trivial)
  refine Eq.mp ?_ conv
  congr 1
  generalize (((ev n K.c iter m).bind fun r m => (r.frz m).bind fun s m => match s with
            | .dt _ => .stuck
            | s => match itemsOf s with
              | some items => evComp n K.c sc x ifs elt items m
              | none => .stuck).bind fun ds m => (storeR y (.fresh (.d (.list ds))) m).bind fun _ m => (.ok Fl.next m : Out Fl)) = o
  cases o <;> rfl
end
end
section
open PySem PySem.W PyProof.Rows PySem.Calls
section
variable {CF : Addr} {K : Cfg} {A : Around} {z : St × Heap} {s s₀ : Shared} {g g' : St} {m m' : M} {n i : Nat} {h h' : Heap} {sc : Scope} {x : Str} {sv : SV} {C D I : Addr} {cl : List (Str × Addr)}

/-- a tuple of targets, the value first -/
theorem sx_AssignTuple (he : SE CF n) (G : Go CF K A n) (Rl : Rel K g m s.heap) (ts : List Expr) (k : Nat) (p pos : Pos) (e : Expr) (hnt : ∀ es k p, e ≠ .Tuple es k p) :
    Sim CF K A (g, s.heap) (exec (.Assign [.Tuple ts k p] e pos) K.env) ((ev n K.c e m).bind fun r m => (r.frz m).bind fun s m => (bindTo K.c (.Tuple ts k p) s m).bind fun _ m => .ok .next m) (fun fl _ g' f s' => FlR K g' s'.heap fl f) s := by
  have hsw : swapsWith e (some (.Tuple ts k p)) pos.line K.env = pure false := by cases e <;> rfl
  have hst : swappedStores [.Tuple ts k p] e K.env = pure none := by
    cases e <;> first | rfl | exact absurd rfl (hnt _ _ _)
  have e1 : exec (.Assign [.Tuple ts k p] e pos) K.env = (standAt pos >>= fun _ => eval e K.env >>= fun v => assign (.Tuple ts k p) K.env v >>= fun _ => pure Flow.next) := by
    have e0 : exec (.Assign [.Tuple ts k p] e pos) K.env = (standAt pos >>= fun _ => swapsWith e (some (.Tuple ts k p)) pos.line K.env >>= fun b => if b then (do
        evalThenUse e K.env fun v => assignAll v ((assignEach [.Tuple ts k p] K.env).map (·.2))
        pure Flow.next) else (do
        let v ← eval e K.env
        assignStores K.env v (← swappedStores [.Tuple ts k p] e K.env) ((assignEach [.Tuple ts k p] K.env).map (·.2)))) := rfl
    rw [e0, hsw, hst]
    rfl
  rw [e1]
  refine Sim.standAt ?_
  rw [← Out.bind_assoc]
  refine (he K A g m e s G Rl).frz.bind fun sv m₁ g₁ v s₁ _ _ Rl₁ st₁ ⟨_, fv⟩ => ?_
  exact (sim_bindTo G Rl₁ st₁ fv).bind fun _ m₂ g₂ _ s₂ _ _ Rl₂ st₂ _ => Sim.pure Rl₂ st₂ trivial

theorem storeF_some {x : Str} {r : R} {m m' : M} (h : storeF x r m = .ok () m') : (∃ sv, r = .v sv ∧ m' = upd m x ⟨false, sv⟩) ∨ (∃ sv, r = .fresh sv ∧ m' = upd m x ⟨true, sv⟩) := by
  cases r with
  | v sv => cases h; exact .inl ⟨sv, rfl, rfl⟩
  | fresh sv => cases h; exact .inr ⟨sv, rfl, rfl⟩
  | var y => cases h

/-- what an expression gave, apart from a thing of ours -/
theorem upd_comm (m : M) {x y : Str} (hne : x ≠ y) (e f : Ent) (w : Str) : (upd (upd m y f) x e).lookup w = (upd (upd m x e) y f).lookup w := by
  rw [lookup_upd, lookup_upd, lookup_upd, lookup_upd]
  by_cases h1 : w = x
  · subst h1
    simp [hne]
  · by_cases h2 : w = y
    · subst h2; simp [h1]
    · simp [h1, h2]

/-- one of two stores: a frozen value, or a new object that is no one's -/
noncomputable def Fit (K : Cfg) (z : St × Heap) (g : St) (r : R) (v : Value) (h : Heap) : Prop := RR K z r g v h

theorem sim_storeF (H : EnvOk K.c K.env₀ K.env) (Rl : Rel K g m s.heap) (st : Step (SF K.fr) z g s.heap) {x : Str} {r : R} {v : Value} (hb : bindable K.c x = true) (rr : RR K z r g v s.heap) {r' : R} {v' : Value} (rr' : RR K z r' g v' s.heap) (hr' : ∀ y, r' ≠ .var y)
    (hap : ∀ sv sv', r = .fresh sv → r' = .fresh sv' → v ≠ v') :
    Sim CF K A z (bindName K.env x v) (storeF x r m) (fun _ _ g' _ s' => RR K z r' g' v' s'.heap) s := by
  have keepR : ∀ {g' : St} {s' : Shared}, Same s s' → Rel K g m s.heap → (∀ b o, s.heap.get? b = some o → ¬ g.X b → s'.heap.get? b = some o) → g'.O = g.O → (∀ b, g'.X b → g.X b ∨ (∃ sv, r = .fresh sv ∧ v = .ref b)) → RR K z r' g' v' s'.heap := fun {g' s'} _ _ hk ho hx => by
    have stay : Stay g.O s.heap g'.O s'.heap := fun b o hb e => ⟨by rw [ho]; exact hb, hk b o e fun q => hb (Rl.xo b q)⟩
    cases r' with
    | v sv => exact FV.stay stay rr'
    | fresh sv =>
      obtain ⟨a, rfl, q1, q2, q3, q4, q5, ov⟩ := rr'
      obtain ⟨o, hob⟩ := ov.there
      refine ⟨a, rfl, q1, by rw [ho]; exact q2, fun q => ?_, q4, q5, ov.at stay ((hk a o hob q3).trans hob.symm)⟩
      rcases hx a q with t | ⟨sv', e1, e2⟩
      · exact q3 t
      · exact hap sv' sv e1 rfl e2
    | var y => exact absurd rfl (hr' y)
  obtain ⟨h1, h2, h3⟩ := bindable_facts H hb
  cases r with
  | v sv =>
    refine Sim.ok fun E => wpAny_bindName (storeName_at H Rl h1 h3 fun h' tk hl => ?_)
    obtain ⟨p, hp, hs⟩ := hl.place H Rl
    refine ⟨_, ⟨_, tk, rfl⟩, Rl.store (e := ⟨false, sv⟩) (X' := g.X) H h2 h1 hl (.inl ⟨rfl, rfl, rr⟩), Step.store H Rl st (e := ⟨false, sv⟩) (X' := g.X) hl (.inl ⟨rfl, rfl, rr⟩) (fun q => by cases q), ?_⟩
    exact keepR .mk Rl (fun b o e hx => (hs.2 b fun q => hx (q ▸ hp)).trans e) rfl fun b q => .inl q
  | fresh sv =>
    obtain ⟨a, rfl, q1, q2, q3, q4, q5, ov⟩ := rr
    refine Sim.ok fun E => wpAny_bindName (storeName_at H Rl h1 h3 fun h' tk hl => ?_)
    obtain ⟨p, hp, hs⟩ := hl.place H Rl
    have held : Held K g (.ref a) ⟨true, sv⟩ s.heap (fun b => g.X b ∨ b = a) := .inr ⟨rfl, a, rfl, q2, q3, q4, ov, rfl⟩
    refine ⟨_, ⟨_, tk, rfl⟩, Rl.store H h2 h1 hl held, Step.store H Rl st hl held (fun _ b e => by cases e; exact q1), ?_⟩
    exact keepR .mk Rl (fun b o e hx => (hs.2 b fun q => hx (q ▸ hp)).trans e) rfl fun b q => q.imp id fun t => ⟨sv, rfl, by rw [t]⟩
  | var y => trivial

theorem sim_storeF1 (H : EnvOk K.c K.env₀ K.env) (Rl : Rel K g m s.heap) (st : Step (SF K.fr) z g s.heap) {x : Str} {r : R} {v : Value} (hb : bindable K.c x = true) (rr : RR K z r g v s.heap) : Sim CF K A z (bindName K.env x v) (storeF x r m) (fun _ _ _ _ _ => True) s := by
  cases r with
  | v sv => exact sim_storeR H Rl st hb rr
  | fresh sv => exact sim_storeR H Rl st hb rr
  | var y => trivial
end
end
section
open PySem PySem.W PyProof.Rows PySem.Calls
section
variable {CF : Addr} {K : Cfg} {A : Around} {z : St × Heap} {s s₀ : Shared} {g g' : St} {m m' : M} {n i : Nat} {h h' : Heap} {sc : Scope} {x : Str} {sv : SV} {C D I : Addr} {cl : List (Str × Addr)}

/-- the swap of stores, once the names are known -/
noncomputable def swBody (vs : List Expr) (names : List Str) : Sem (Option (List Str)) :=
  if names.length != 2 || names.eraseDups.length != names.length then pure none else if vs.all (foldedForSure 8) then pure none
  else if vs.all (constantsAlone 8) then unsupported "assign.tuple-of-constant-expressions:order-of-the-stores" else pure (some names)
noncomputable def isSw (l : List Str) (t : Sem (Option (List Str))) : Prop := ∃ b : Bool, t = pure (if b then some l else none)
theorem sw_none {l : List Str} : isSw l (pure none) := ⟨false, rfl⟩
theorem sw_if {l : List Str} {c : Prop} [Decidable c] {t u : Sem (Option (List Str))} (ht : isSw l t) (hu : isSw l u) : isSw l (if c then t else u) := by
  by_cases h : c
  · rw [if_pos h]; exact ht
  · rw [if_neg h]; exact hu
theorem sw_body {e₁ e₂ : Expr} {x y : Str} (hc : (constantsAlone 8 e₁ && constantsAlone 8 e₂) = false) {names : List Str} (h : names = [x, y] ∨ (names.length != 2) = true) : isSw [x, y] (swBody [e₁, e₂] names) := by
  unfold swBody
  rcases h with rfl | h
  · refine sw_if sw_none (sw_if sw_none ?_)
    rw [if_neg]
    · exact ⟨true, rfl⟩
    · intro q
      rw [List.all_cons, List.all_cons, List.all_nil, Bool.and_true, hc] at q
      cases q
  · rw [h, Bool.true_or, if_pos rfl]; exact sw_none
theorem two_names (c d : Bool) (x y : Str) : (List.filterMap id [if c then some x else none, if d then some y else none]) = [x, y] ∨ ((List.filterMap id [if c then some x else none, if d then some y else none]).length != 2) = true := by
  cases c <;> cases d <;> first | exact .inl rfl | exact .inr rfl
theorem swapped_two (env : Env) (x y : Str) (px py p p2 : Pos) (k k2 : Nat) (e₁ e₂ : Expr) (hc : (constantsAlone 8 e₁ && constantsAlone 8 e₂) = false) :
    ∃ b : Bool, swappedStores [.Tuple [.Name x px, .Name y py] k p] (.Tuple [e₁, e₂] k2 p2) env = pure (if b then some [x, y] else none) := by
  have e : swappedStores [.Tuple [.Name x px, .Name y py] k p] (.Tuple [e₁, e₂] k2 p2) env = (if env.blockKind != .function then pure none else if ([e₁, e₂].any fun | .Starred .. => true | _ => false) then pure none else
      swBody [e₁, e₂] (List.filterMap id [if env.kindOf x == some .local && px.line == px.line then some x else none, if env.kindOf y == some .local && py.line == px.line then some y else none])) := rfl
  rw [e]
  exact sw_if sw_none (sw_if sw_none (sw_body hc (two_names _ _ x y)))

theorem RR.keeps {r : R} {v : Value} (x : RR K z r g v h) (Rl : Rel K g m h) (hk : ∀ b o, h.get? b = some o → h'.get? b = some o) : RR K z r g v h' :=
  x.persist Rl (Rl.step.keeps hk) rfl

theorem storeF_ok (x : Str) (r : R) (m : M) : storeF x r m = .stuck ∨ ∃ e, ∀ m, storeF x r m = .ok () (upd m x e) := by
  cases r with
  | v sv => exact .inr ⟨_, fun _ => rfl⟩
  | fresh sv => exact .inr ⟨_, fun _ => rfl⟩
  | var y => exact .inl rfl

/-- two stores, one behind the other -/
theorem sim_twoStores (H : EnvOk K.c K.env₀ K.env) (Rl : Rel K g m s.heap) (st : Step (SF K.fr) z g s.heap) {x y : Str} {r₁ r₂ : R} {v₁ v₂ : Value} (hx : bindable K.c x = true) (hy : bindable K.c y = true) (rr₁ : RR K z r₁ g v₁ s.heap) (rr₂ : RR K z r₂ g v₂ s.heap)
    (hap : ∀ a b, r₁ = .fresh a → r₂ = .fresh b → v₁ ≠ v₂) {t₁ t₂ : Sem Unit} (c₁ : ∀ (s : Shared) Q E, wpAny (MK K) A (bindName K.env x v₁) Q E s → wpAny (MK K) A t₁ Q E s) (c₂ : ∀ (s : Shared) Q E, wpAny (MK K) A (bindName K.env y v₂) Q E s → wpAny (MK K) A t₂ Q E s)
    {en₁ en₂ : Ent} (hs₁ : ∀ m, storeF x r₁ m = .ok () (upd m x en₁)) (hs₂ : ∀ m, storeF y r₂ m = .ok () (upd m y en₂)) :
    Sim CF K A z (t₁ >>= fun _ => t₂) (.ok () (upd (upd m x en₁) y en₂)) (fun _ _ _ _ _ => True) s := by
  have hv : ∀ w, r₂ ≠ .var w := fun w q => by subst q; have := hs₂ []; cases this
  have a₁ := (sim_storeF (CF := CF) (A := A) H Rl st hx rr₁ rr₂ hv hap).conv (t' := t₁) (c₁ s)
  rw [hs₁] at a₁
  exact a₁.bind (f := fun _ m => .ok () (upd m y en₂)) fun _ m₁ g₁ _ s₁ hm _ Rl₁ st₁ rr => by
    have a₂ := (sim_storeF1 (CF := CF) (A := A) H Rl₁ st₁ hy rr).conv (t' := t₂) (c₂ s₁)
    rw [hs₂] at a₂
    exact a₂

theorem Sim.congrM {α β : Type} {t : Sem α} {m₁ m₂ : M} {b : β} {Q : β → M → St → α → Shared → Prop} (h : Sim CF K A z t (.ok b m₁) Q s) (e : ∀ y, m₂.lookup y = m₁.lookup y) (hQ : ∀ g a s', Q b m₁ g a s' → Q b m₂ g a s') : Sim CF K A z t (.ok b m₂) Q s :=
  wpAny_mono h (fun _ _ ⟨g, a, b, c, d⟩ => ⟨g, a, b.congr e, c, hQ _ _ _ d⟩) fun _ _ q => q

theorem sx_Tuple2 (hr : SR CF n) (G : Go CF K A n) (Rl : Rel K g m s.heap) (x y : Str) (px py p p2 pos : Pos) (k k2 : Nat) (e₁ e₂ : Expr) (hx : bindable K.c x = true) (hy : bindable K.c y = true) (hne : x ≠ y) (hc : (constantsAlone 8 e₁ && constantsAlone 8 e₂) = false) :
    Sim CF K A (g, s.heap) (exec (.Assign [.Tuple [.Name x px, .Name y py] k p] (.Tuple [e₁, e₂] k2 p2) pos) K.env) ((evRs n K.c [e₁, e₂] m).bind fun rs m => match rs with
          | [r₁, r₂] => (storeF x r₁ m).bind fun _ m => (storeF y r₂ m).bind fun _ m => .ok .next m
          | _ => .stuck) (fun fl _ g' f s' => FlR K g' s'.heap fl f) s := by
  obtain ⟨b, hsw⟩ := swapped_two K.env x y px py p p2 k k2 e₁ e₂ hc
  have e1 : exec (.Assign [.Tuple [.Name x px, .Name y py] k p] (.Tuple [e₁, e₂] k2 p2) pos) K.env = (standAt pos >>= fun _ => (standAt p2 >>= fun _ => spliced (backTo p2 (starEach [e₁, e₂] K.env)) >>= fun vs => newTuple vs) >>= fun v => swappedStores [.Tuple [.Name x px, .Name y py] k p] (.Tuple [e₁, e₂] k2 p2) K.env >>= fun sw => assignStores K.env v sw [assign (.Tuple [.Name x px, .Name y py] k p) K.env]) := rfl
  rw [e1, hsw]
  simp only [bind_assoc, pure_bind]
  refine Sim.standAt (Sim.standAt ((hr K A g m [e₁, e₂] p2 s G Rl).bind fun rs m₁ g₁ vs s₁ _ _ Rl₁ st₁ ⟨_, rr, nd⟩ => ?_))
  cases rr with
  | nil => trivial
  | @cons r₁ v₁ rs vs rr₁ rest =>
    cases rest with
    | nil => trivial
    | @cons r₂ v₂ rs vs rr₂ rest =>
      cases rest with
      | cons _ _ => trivial
      | nil =>
        dsimp only
        have hap : ∀ a b, r₁ = .fresh a → r₂ = .fresh b → v₁ ≠ v₂ := fun a b q1 q2 => by
          subst q1 q2
          have : [v₁, v₂].Nodup := nd
          simpa using this
        -- the outcome of both stores
        rcases storeF_ok x r₁ m₁ with q | ⟨en₁, hs₁⟩
        · rw [q]; trivial
        rcases storeF_ok y r₂ m₁ with q | ⟨en₂, hs₂⟩
        · rw [hs₁]
          cases r₂ with
          | var w => trivial
          | v sv => cases q
          | fresh sv => cases q
        rw [hs₁]
        show Sim CF K A (g, s.heap) _ ((storeF y r₂ (upd m₁ x en₁)).bind fun _ m => Out.ok Fl.next m) _ s₁
        rw [hs₂]
        show Sim CF K A (g, s.heap) _ (Out.ok Fl.next (upd (upd m₁ x en₁) y en₂)) _ s₁
        -- the tuple
        have hz : sizeOk (.seq [v₁, v₂].toArray) := by show (2 : Nat) ≤ sizeLine; rw [sizeLine_eq]; decide
        refine Sim.ahead (I := fun v s' => ∃ T, v = .ref T ∧ s'.heap.IsTuple T #[v₁, v₂] ∧ ∀ b o, s₁.heap.get? b = some o → s'.heap.get? b = some o) (fun E => wpAny_newObj_type ⟨⟨_, _, rfl⟩, _, rfl, ⟨_, Heap.get?_push_size _ rfl, rfl, 0, rfl⟩, fun b o e => Heap.get?_push_of_some _ e⟩ hz) fun v s₂ _ ⟨T, e, hT, hk₂⟩ => ?_
        subst e
        have Rl₂ := Rl₁.keeps hk₂
        have st₂ := st₁.keeps hk₂
        have rr₁' := rr₁.keeps Rl₁ hk₂
        have rr₂' := rr₂.keeps Rl₁ hk₂
        -- the stores behind the unpacking
        have keep3 : ∀ {h' : Heap}, Heap.ExtBut s₂.heap.objs.size s₂.heap h' → ∀ b o, s₂.heap.get? b = some o → h'.get? b = some o := fun he b o e => he b o (Nat.ne_of_lt (Heap.lt_size e)) e
        cases b with
        | true =>
          have bwd : ∀ h', Heap.ExtBut s₂.heap.objs.size s₂.heap h' → Sim CF K A (g, s.heap) (holding [v₁] (bindName K.env y v₂) >>= fun _ => holding [] (bindName K.env x v₁) >>= fun _ => pure ()) (.ok () (upd (upd m₁ x en₁) y en₂)) (fun _ _ _ _ _ => True) { s₂ with heap := h' } := fun h' he => by
            have := sim_twoStores (CF := CF) (A := A) (s := { s₂ with heap := h' }) (t₁ := holding [v₁] (bindName K.env y v₂)) (t₂ := holding [] (bindName K.env x v₁) >>= fun _ => pure ()) G.H (Rl₂.keeps (keep3 he)) (st₂.keeps (keep3 he)) hy hx (rr₂'.keeps Rl₂ (keep3 he)) (rr₁'.keeps Rl₂ (keep3 he)) (fun a b q1 q2 q3 => hap b a q2 q1 q3.symm)
              (fun _ _ _ h => wpAny_holding h) (fun _ _ _ h => wpAny_bind (wpAny_holding (wpAny_mono h (fun _ _ q => wpAny_pure q) fun _ _ q => q))) hs₂ hs₁
            exact this.congrM (fun w => (upd_comm m₁ hne en₁ en₂ w).symm) fun _ _ _ q => q
          refine Sim.of fun _ => wpAny_bind (wpAny_rule (wpAny_bind (wpAny_unpackItems_tuple (items := #[v₁, v₂]) G.hh hT fun h' he => ?_)))
          exact wpAny_bind (wpAny_mono (bwd h' he) (fun _ s' ⟨g', q1, q2, q3, _⟩ => wpAny_pure ⟨g', Same.trans ⟨h', s₂.toks, rfl⟩ q1, q2, q3, trivial⟩) fun _ _ q => q.elim)
        | false =>
          have fwd : ∀ h', Heap.ExtBut s₂.heap.objs.size s₂.heap h' → Sim CF K A (g, s.heap) (holding [v₂] (assign (.Name x px) K.env v₁) >>= fun _ => holding [] (assign (.Name y py) K.env v₂) >>= fun _ => pure ()) (.ok () (upd (upd m₁ x en₁) y en₂)) (fun _ _ _ _ _ => True) { s₂ with heap := h' } := fun h' he =>
            sim_twoStores (CF := CF) (A := A) (s := { s₂ with heap := h' }) (t₁ := holding [v₂] (assign (.Name x px) K.env v₁)) (t₂ := holding [] (assign (.Name y py) K.env v₂) >>= fun _ => pure ()) G.H (Rl₂.keeps (keep3 he)) (st₂.keeps (keep3 he)) hx hy (rr₁'.keeps Rl₂ (keep3 he)) (rr₂'.keeps Rl₂ (keep3 he)) hap
              (fun _ _ _ h => wpAny_holding (wpAny_bind (wpAny_standAt h))) (fun _ _ _ h => wpAny_bind (wpAny_holding (wpAny_bind (wpAny_standAt (wpAny_mono h (fun _ _ q => wpAny_pure q) fun _ _ q => q))))) hs₁ hs₂
          refine Sim.of fun _ => wpAny_bind (wpAny_assign_Tuple (items := #[v₁, v₂]) G.hh hT rfl rfl fun h' he => ?_)
          exact wpAny_mono (fwd h' he) (fun _ s' ⟨g', q1, q2, q3, _⟩ => wpAny_pure ⟨g', Same.trans ⟨h', s₂.toks, rfl⟩ q1, q2, q3, trivial⟩) fun _ _ q => q.elim
end
end
section
open PySem PySem.W PyProof.Rows PySem.Calls
section
variable {CF : Addr} {K : Cfg} {A : Around} {z : St × Heap} {s s₀ : Shared} {g g' : St} {m m' : M} {n i : Nat} {h h' : Heap}

theorem setItemI {w : World} {d : Addr} {ks : List Int} {k : Int} {t : Tok} {v : Value} {E : Value → Shared → Prop} {Q : Unit → Shared → Prop} (hd : DictI w s.heap d ks) (hlen : ks.length < lenMax)
    (hq : ∀ h' tk, DictI w h' d (addK ks k) → Heap.SameBut d s.heap h' → Q () { s with heap := h', toks := tk }) : wpAny (model P w) A (setItem (.ref d) (.int k t) v) Q E s := by
  have hT : s.TypeIs (.ref d) "dict" := by
    obtain ⟨es, ep, r, _⟩ := hd.raw
    exact r.typeIs
  unfold setItem
  try with_reducible refine wpAny_holding ?_
  refine wpAny_bind (wpAny_sequenceKey hT (by decide) ?_)
  refine wpAny_bind (wpAny_callSpecial?_slot (name := Str.ofString "__setitem__") hT slot_dict_setitem
    (wpAny_call_entry slot_dict_setitem hT entry_dict_setitem ?_ (args_dict_setitem _ _ _)))
  show wpAny _ _ (Builtin.Dict.notOrdered "__setitem__" ⟨[.ref d, .int k t, v], []⟩ >>= _) _ _ s
  refine wpAny_bind (wpAny_notOrdered_dict hT ?_)
  show wpAny _ _ (dictSet d (.int k t) v >>= _) _ _ s
  exact wpAny_bind (dictSetI hd hlen fun h' hm' hs' => wpAny_pure ⟨.none, rfl, wpAny_pure (hq h' _ hm' hs')⟩)

/-- a store under a key -/
theorem setItem_at (G : Go CF K A n) {O : AP} {a : Addr} {sv sv' : SV} {k v : PyData} {kv vv : Value} (ov : OV K.w O s.heap a sv) (ho : O a) (fk : Fz O s.heap kv k) (fv : Fz O s.heap vv v) (e : put sv k v = some sv') {E : Value → Shared → Prop} {Q : Unit → Shared → Prop}
    (hq : ∀ h' tk, OV K.w O h' a sv' → Heap.SameBut a s.heap h' → Q () { s with heap := h', toks := tk }) : wpAny (MK K) A (setItem (.ref a) kv vv) Q E s := by
  have hun := G.un
  rcases with1_inv e with ⟨ks, hs, e⟩ | ⟨_, e⟩
  · cases iV_eq hs
    obtain ⟨hc, e⟩ := if_inv e
    obtain ⟨i, hi, rfl⟩ := Option.map_eq_some_iff.mp e
    cases intD_eq hi
    cases fk
    exact setItemI ov (of_decide_eq_true (Bool.and_eq_true_iff.mp hc).2) fun h' tk hd hs => hq h' tk hd hs
  rcases with1_inv e with ⟨kvs, hs, e⟩ | ⟨_, e⟩
  · cases tV_eq hs
    change (if (kvs.isEmpty && (intD k).isSome && boolD v == some true) = true then (intD k).map fun i => SV.di [i] else if kvs.length < lenMax then (tupKey k).map fun k => .dt (putK kvs k v) else none) = _ at e
    by_cases hc : (kvs.isEmpty && (intD k).isSome && boolD v == some true) = true
    · rw [if_pos hc] at e
      obtain ⟨i, hi, rfl⟩ := Option.map_eq_some_iff.mp e
      cases intD_eq hi
      cases List.isEmpty_iff.mp (Bool.and_eq_true_iff.mp (Bool.and_eq_true_iff.mp hc).1).1
      cases fk
      exact setItemI (DictT.nil_int (O := O) ov) (by decide) fun h' tk hd hs => hq h' tk hd hs
    · rw [if_neg hc] at e
      obtain ⟨hlen, e⟩ := if_inv e
      obtain ⟨key, hk, rfl⟩ := Option.map_eq_some_iff.mp e
      obtain ⟨b, rfl, hb, kk, hk1, hk2⟩ := fk.key (w := K.w) hk
      obtain ⟨h1, h2, xs, h3, h4, h5, h6⟩ := ov
      have hxl : xs.length ≤ sizeLine := by
        have := congrArg List.length h4
        rw [List.length_map, List.length_map] at this
        rw [this]; exact Nat.le_of_lt (Nat.lt_trans hlen lenMax_lt)
      exact wpAny_setItem_heap (hsz := hxl) (knd := tupleKind (PySem.strKind P K.w)) (tupleKind_room_in1 (by lia)) kk h3 fun h' hm hs => hq h' _ (DictT.put2 h1 h3 h4 h5 h6 ho hs hm hb hk1 hk2 fv hlen) hs
  · cases e

theorem Rel.ownAt (Rl : Rel K g m h) {y : Str} {sv : SV} {v : Value} (hy : m.lookup y = some ⟨true, sv⟩) (hv : g.ρ y = some v) : OwnBy K g h v sv := by
  obtain ⟨v', k1, _, k3⟩ := Rl.vv y _ hy
  rw [hv] at k1; cases k1
  exact k3 rfl

theorem swaps_sub {e : Expr} {o i : Expr} {p : Pos} {line : Nat} {env : Env} : swapsWith e (some (.Subscript o i p)) line env = pure false := by cases e <;> rfl

theorem assign_sub (o i : Expr) (p : Pos) (env : Env) (v : Value) : ∃ f : Value → Value → List Value, assign (.Subscript o i p) env v = (holding [v] (eval o env) >>= fun ov => holding [v, ov] (eval i env) >>= fun iv => standAt p >>= fun _ => holding [v, ov, iv] (setItem ov iv v) >>= fun _ => release (f ov iv) []) :=
  ⟨fun ov iv => (match i with | .Slice _ _ none _ => [iv, v, ov] | _ => [v, ov, iv]), rfl⟩

theorem sx_AssignSub (hd : SD CF n) (G : Go CF K A n) (Rl : Rel K g m s.heap) (y : Str) (yp sp pos : Pos) (i e : Expr) :
    Sim CF K A (g, s.heap) (exec (.Assign [.Subscript (.Name y yp) i sp] e pos) K.env) ((evD n K.c e m).bind fun v m => with1 (varN (rdName K.c m y)) .stuck fun y => (evD n K.c i m).bind fun k m => with1 (ownV m y) .stuck fun s => with1 (put s k v) .stuck fun s => .ok .next (upd m y ⟨true, s⟩))
      (fun fl _ g' f s' => FlR K g' s'.heap fl f) s := by
  rw [exec_Assign_Subscript (.Name y yp) i sp e pos swaps_sub]
  refine Sim.standAt ((hd K A g m e s G Rl).bind fun d m₁ g₁ v s₁ _ _ Rl₁ st₁ ⟨_, fv⟩ => Sim.with1 (fun y' hy' => ?_) trivial)
  obtain ⟨f, hf⟩ := assign_sub (.Name y yp) i sp K.env v
  rw [hf]
  simp only [bind_assoc]
  obtain ⟨hdbg, u, rr, hload⟩ := name_at (z := (g, s.heap)) G.H Rl₁ (varN_eq hy')
  refine Sim.ahead (I := fun w s' => w = u ∧ s' = s₁) (fun E => wpAny_holding (wpAny_Name (hload s₁ rfl ⟨.refl, rfl, rfl⟩) hdbg)) fun w s' _ ⟨q1, q2⟩ => ?_
  subst q1 q2
  refine ((hd K A g₁ m₁ i s' G Rl₁).rebase st₁).holding.bind fun k m₂ g₂ kv s₂ _ _ Rl₂ st₂ ⟨⟨hρ, fk⟩, st₁₂⟩ => Sim.with1 (fun sv hy => Sim.with1 (fun sv' hp => ?_) trivial) trivial
  obtain ⟨a, rfl, own⟩ := Rl₂.ownAt (ownV_eq hy) ((congrFun hρ y').trans rr)
  refine Sim.standAt (Sim.ok fun E => wpAny_bind (wpAny_holding (setItem_at G own.v (Rl₂.xo a own.x) fk (fv.step Rl₁ st₁₂) hp fun h' tk ov hs => ?_)))
  refine wpAny_bind (wpAny_release (wpAny_pure ?_))
  exact ⟨g₂, ⟨_, _, rfl⟩, Rl₂.mut (ownV_eq hy) rfl ((congrFun hρ y').trans rr) hs ov, st₂.mut own.x hs, trivial⟩
end
end
section
open PySem PySem.W PyProof.Rows PySem.Calls
theorem varR_var {o : Option Ent} {x y : Str} (h : varR o x = some (.var y)) : y = x := by
  obtain ⟨⟨o, v⟩, _, h2⟩ := Option.map_eq_some_iff.mp h
  cases o with
  | true => cases h2; rfl
  | false => cases h2
theorem rdKind_var {cv : Option (Str × SV)} {fc : Bool} {o : Option Ent} {x y : Str} {k : NameKind} (h : rdKind cv fc o x k = some (.var y)) : y = x := by
  cases k with
  | «local» => cases cv with
    | none => exact varR_var h
    | some p =>
      rcases Bool.eq_false_or_eq_true (x == p.1) with e | e
      · exact nomatch ((if_pos e).symm.trans h : some (R.v p.2) = some (.var y))
      · exact none_some ((if_neg (by rw [e]; exact Bool.false_ne_true)).symm.trans h)
  | cell => cases cv with
    | none => exact varR_var h
    | some p => exact none_some h
  | free => cases cv with
    | none => exact none_some h
    | some p => cases fc with
      | true => exact varR_var h
      | false => exact none_some h
  | _ => exact none_some h
theorem rdName_var {c : Ctx} {m : M} {x y : Str} (h : rdName c m x = some (.var y)) : y = x := by
  rcases Bool.eq_false_or_eq_true (x == "__debug__" || x == "__classdict__") with e | e
  · exact none_some ((if_pos e).symm.trans h)
  · obtain ⟨k, _, h2⟩ := Option.bind_eq_some_iff.mp ((if_neg (by rw [e]; exact Bool.false_ne_true)).symm.trans h)
    exact rdKind_var h2

noncomputable def del (m : M) (x : Str) : M := m.filter fun p => p.1 != x
theorem lookup_del (m : M) (x y : Str) : (del m x).lookup y = if y = x then none else m.lookup y := by
  induction m with
  | nil => simp [del]
  | cons p r ih =>
    obtain ⟨k, e⟩ := p
    unfold del at ih ⊢
    rw [List.filter_cons]
    by_cases hk : k = x
    · subst hk
      simp only [bne_self_eq_false, Bool.false_eq_true, if_false]
      rw [ih, List.lookup_cons]
      by_cases hy : y = k
      · simp [hy]
      · have : (y == k) = false := by simpa using hy
        simp [hy, this]
    · have : (k != x) = true := by simpa using hk
      simp only [this, if_true]
      rw [List.lookup_cons, List.lookup_cons]
      by_cases hy : y = k
      · subst hy; simp [hk]
      · have : (y == k) = false := by simpa using hy
        rw [this]; exact ih

section
variable {CF : Addr} {K : Cfg} {A : Around} {z : St × Heap} {s s₀ : Shared} {g g' : St} {m m' : M} {n i : Nat} {h h' : Heap}

/-- a variable's object is taken from it, to be stored under a name again -/
theorem Rel.unown (r : Rel K g m h) {y : Str} {e : Ent} {a : Addr} (hy : m.lookup y = some e) (ho : e.own = true) (ha : g.ρ y = some (.ref a)) :
    Rel K { g with X := fun b => g.X b ∧ b ≠ a } (del m y) h ∧ g.O a ∧ g.X a ∧ ¬ SF K.fr a ∧ OV K.w g.O h a e.v := by
  obtain ⟨v, h1, _, h3⟩ := r.vv y e hy
  rw [ha] at h1; cases h1
  obtain ⟨a', e', w⟩ := h3 ho
  cases e'
  refine ⟨⟨r.base, r.ob, r.olt, fun b q => r.xo b q.1, r.so, fun b q => (r.sx b q).imp id fun t u => t u.1, ⟨r.xL, fun q => w.l q.symm⟩, fun z b q => ⟨r.xC z b q, w.c z b q⟩, r.cc, r.ns, fun z f hz => ?_, fun z f hz => ?_, fun z u f k b hz hu fo ko => ?_, fun x sv hx => ?_, r.ff, r.pp⟩, r.xo a w.x, w.x, w.s, w.v⟩
  · rw [lookup_del] at hz
    split at hz
    · cases hz
    · exact r.vk z f hz
  · rw [lookup_del] at hz
    split at hz
    · cases hz
    · rename_i q
      obtain ⟨v, k1, k2, k3⟩ := r.vv z f hz
      refine ⟨v, k1, k2, fun t => ?_⟩
      obtain ⟨b, k4, k5⟩ := k3 t
      refine ⟨b, k4, ⟨k5.x, fun e1 => ?_⟩, k5.s, k5.l, k5.c, k5.v⟩
      subst e1 k4
      exact q (r.inj z y f e b hz hy t ho k1 ha)
  · rw [lookup_del] at hz hu
    split at hz
    · cases hz
    · split at hu
      · cases hu
      · exact r.inj z u f k b hz hu fo ko
  · obtain ⟨k1, k2, k3, nm, v, k4, k5, k6⟩ := r.comp x sv hx
    exact ⟨k1, fun t => k2 t.1, k3, nm, v, k4, k5, k6⟩

theorem Step.unown {S : AP} (st : Step S z g h) {a : Addr} : Step S z { g with X := fun b => g.X b ∧ b ≠ a } h :=
  ⟨st.zlt, st.zxo, st.kept, st.onew, fun b q => st.xnew b q.1, st.okeep⟩

/-- a list grows in place -/
theorem iadd_list {prog : Program} {w : World} {E : Value → Shared → Prop} {l b : Addr} {items : Array Value} {c : Nat} {items2 : Array Value} {Q : Value → Shared → Prop} (hl : s.heap.get? l = some (seqObj "list" items c)) (hb : s.heap.IsList b items2)
    (hsz : items.size + items2.size ≤ sizeLine) (hq : ∀ h', h'.PlainList l (items ++ items2) → Heap.SameBut l s.heap h' → Q (.ref l) { s with heap := h' }) : wpAny (model prog w) A (inplaceOp .Add (.ref l) (.ref b)) Q E s := by
  have hT : s.TypeIs (.ref l) "list" := ⟨_, hl, rfl⟩
  have hTb : s.TypeIs (.ref b) "list" := hb.typeIs
  have hlk : typeLookup (.type "list") (dunderI "add") = pure (some (.builtin "list.__iadd__")) := PySem.F.slot_list_iadd.lookup
  have hfi : fillsInplaceSlot (.type "list") "add" (Operator.Add == .Add) = pure false := by
    unfold fillsInplaceSlot
    show (typeLookup (.type "list") (dunderI "add") >>= fun fi => pure (fi.isSome && !isSeqSlot fi)) = pure false
    rw [hlk]
    rw [pure_bind, show isSeqSlot (some (.builtin "list.__iadd__")) = true from by decide +kernel]
    rfl
  have hsi : seqSlot? (.type "list") (dunderI "add") = pure (some (.builtin "list.__iadd__")) := PySem.seqSlot_of hlk (by decide +kernel)
  unfold inplaceOp
  refine wpAny_holding ?_
  refine wpAny_bind (wpAny_typeOf hT (wpAny_bind (wpAny_of_eq hfi ?_)))
  show wpAny _ A (if false = true then _ else _) Q E s
  rw [if_neg Bool.false_ne_true]
  refine wpAny_bind (wpAny_binaryOp1_none (nm := "add") hT hTb noFill_list_add ?_)
  refine wpAny_bind (wpAny_of_eq hsi ?_)
  refine wpAny_bind (wpAny_rule ?_)
  refine wpAny_call_entry PySem.F.slot_list_iadd hT PySem.F.entry_list_iadd ?_ (PySem.F.args_list_iadd_2 _ _)
  show wpAny _ _ (Builtin.List.listExtendWith (.ref l) (.ref b) (.ref l)) _ _ s
  unfold Builtin.List.listExtendWith
  obtain ⟨o, ho, hc', nn, hd⟩ := id hb
  refine wpAny_bind (wpAny_typeOf (T := "list") ⟨o, ho, hc'⟩ ?_)
  rw [if_pos (by simp)]
  refine wpAny_bind (listItems_at ho hd ?_)
  refine wpAny_bind (listItems_at hl rfl ?_)
  rw [if_neg (by unfold Builtin.List.listTooLong; simp; lia)]
  refine wpAny_bind (listUpdate_at hl rfl ?_ (by lia) (by rw [Array.size_append]; lia))
  refine wpAny_bind (wpAny_pure (wpAny_pure ⟨_, rfl, ?_⟩))
  exact hq _ (plainList_update hl _) (Heap.SameBut.update ..)

theorem sx_AugName (he : SE CF n) (G : Go CF K A n) (Rl : Rel K g m s.heap) (x : Str) (xp pos : Pos) (e : Expr) (hb : bindable K.c x = true) :
    Sim CF K A (g, s.heap) (exec (.AugAssign (.Name x xp) .Add e pos) K.env) (with1 (varN (rdName K.c m x)) .stuck fun x => (ev n K.c e m).bind fun r m => with2 (ownL m x) (listV (r.get m)) .stuck fun xs ys => if xs.length + ys.length ≤ lenMax then .ok .next (putL m x (xs ++ ys)) else .stuck)
      (fun fl _ g' f s' => FlR K g' s'.heap fl f) s := by
  rw [exec_AugAssign_Name]
  refine Sim.with1 (fun y hrd => ?_) trivial
  have hrd := varN_eq hrd
  cases rdName_var hrd
  obtain ⟨hdbg, u, rr, hload⟩ := name_at (z := (g, s.heap)) G.H Rl hrd
  refine Sim.standAt (Sim.ahead (I := fun w s' => w = u ∧ s' = s) (fun E => hload s rfl ⟨.refl, rfl, rfl⟩) fun w s' _ ⟨q1, q2⟩ => ?_)
  subst q1 q2
  refine (he K A g m e s' G Rl).holding.bind fun r m₁ g₁ v s₁ _ _ Rl₁ st₁ ⟨hρ, rv⟩ => Sim.with2 (fun xs ys hy hr => Sim.ifs fun hlen => ?_) trivial
  have hv : g₁.ρ x = some w := (congrFun hρ x).trans rr
  obtain ⟨a, vs, rfl, hX, ⟨c, hl⟩, hl2, hfz⟩ := Rl₁.ownList (ownL_eq hy) hv
  obtain ⟨b, ws, rfl, hbl, hbn, hbf⟩ := (rv.get Rl₁ (listV_eq hr)).list
  have hz : vs.size + ws.size ≤ sizeLine := by
    rw [← Array.length_toList, ← Array.length_toList, hfz.length, hbf.length]
    exact Nat.le_trans hlen (Nat.le_of_lt lenMax_lt)
  obtain ⟨b1, b2, b3⟩ := bindable_facts G.H hb
  refine Sim.standAt (Sim.of fun _ => wpAny_bind (wpAny_operate (iadd_list hl hbl hz fun h₂ hp hs => ?_)))
  have stay : Stay g₁.O s₁.heap g₁.O h₂ := fun p o hb e1 => ⟨hb, (hs.2 p fun q => hb (q ▸ Rl₁.xo a hX)).trans e1⟩
  have ov₂ : OV K.w g₁.O h₂ a (.d (.list (xs ++ ys))) := ⟨_, hp, by rw [List.length_append]; exact hlen, by rw [Array.toList_append]; exact (hfz.append hbf).stay stay⟩
  have Rl₂ := Rl₁.mut (ownL_eq hy) rfl hv hs ov₂
  have st₂ := st₁.mut hX hs
  have hy₂ : (putL m₁ x (xs ++ ys)).lookup x = some ⟨true, .d (.list (xs ++ ys))⟩ := by rw [lookup_upd, if_pos rfl]
  obtain ⟨Rl₃, o3, x3, s3, ov₃⟩ := Rl₂.unown hy₂ rfl hv
  have st₃ := st₂.unown (a := a)
  refine wpAny_bind (wpAny_standAt (wpAny_bind (wpAny_bindName (storeName_at (s := { s₁ with heap := h₂ }) G.H Rl₃ b1 b3 fun h' tk hl' => wpAny_pure ?_))))
  have held : Held K { g₁ with X := fun b => g₁.X b ∧ b ≠ a } (.ref a) ⟨true, .d (.list (xs ++ ys))⟩ h₂ (fun b => (g₁.X b ∧ b ≠ a) ∨ b = a) := .inr ⟨rfl, a, rfl, o3, fun q => q.2 rfl, s3, ov₃, rfl⟩
  refine ⟨_, ⟨h', tk, rfl⟩, (Rl₃.store G.H b2 b1 hl' held).congr fun w => ?_, Step.store G.H Rl₃ st₃ hl' held (fun _ b e => by cases e; exact st₁.xnew a hX), trivial⟩
  rw [lookup_upd, lookup_upd, lookup_del, lookup_upd]
  by_cases q : w = x
  · rw [if_pos q, if_pos q]
  · rw [if_neg q, if_neg q, if_neg q]

theorem setItem_plain {prog : Program} {w : World} {E : Value → Shared → Prop} {l : Addr} {items : Array Value} {c : Nat} {k : Int} {t : Tok} {v : Value} {Q : Unit → Shared → Prop} (hl : s.heap.get? l = some (seqObj "list" items c)) (h0 : 0 ≤ k) (hfit : k < 2 ^ 63) (hn : k < items.size)
    (hq : ∀ h', h'.PlainList l (items.setIfInBounds k.toNat v) → Heap.SameBut l s.heap h' → Q () { s with heap := h' }) : wpAny (model prog w) A (setItem (.ref l) (.int k t) v) Q E s := by
  have hT : s.TypeIs (.ref l) "list" := ⟨_, hl, rfl⟩
  unfold setItem
  try with_reducible refine wpAny_holding ?_
  refine wpAny_bind (wpAny_sequenceKey hT (by decide) ?_)
  refine wpAny_bind (wpAny_callSpecial?_slot (name := Str.ofString "__setitem__") hT slot_list_setitem
    (wpAny_call_entry slot_list_setitem hT entry_list_setitem ?_ (args_list_setitem _ _ _)))
  show wpAny _ _ (Builtin.List.listSubscript? (.int k t) >>= _) _ _ s
  refine wpAny_bind (wpAny_listSubscript_int (fitsIndex_of h0 hfit) ?_)
  clear hfit
  obtain ⟨j, rfl⟩ := Int.eq_ofNat_of_zero_le h0
  have hj : j < items.size := by lia
  have hx' : items[j]? = some items[j] := Array.getElem?_eq_getElem hj
  show wpAny _ _ ((seqItemAt l j >>= fun r => pure (r.map (j, ·))) >>= _) _ _ s
  refine wpAny_bind (wpAny_bind (wpAny_seqItemAt hl rfl (wpAny_pure ?_)))
  rw [hx']
  show wpAny _ _ (setSeqItemAt l j v >>= _) _ _ s
  refine wpAny_bind (wpAny_setSeqItemAt hl rfl ?_)
  first
    | exact wpAny_bind (wpAny_pure (wpAny_pure ⟨.none, rfl, wpAny_pure (hq _ (plainList_update hl _) (Heap.SameBut.update ..))⟩))
    | exact wpAny_pure ⟨.none, rfl, wpAny_pure (hq _ (plainList_update hl _) (Heap.SameBut.update ..))⟩

theorem exec_AugSub (o : Expr) (i k : Int) (u u2 : Nat) (ip kp sp pos : Pos) (env : Env) : exec (.AugAssign (.Subscript o (.Constant (.int i) u ip) sp) .Add (.Constant (.int k) u2 kp) pos) env = (standAt pos >>= fun _ => eval o env >>= fun ov => holding [ov] (mkInt i) >>= fun iv =>
    holding [ov, iv] (standAt sp >>= fun _ => getItem ov iv >>= fun old => holding [old] (mkInt k) >>= fun v => standAt pos >>= fun _ => operate [old, v] (inplaceOp .Add old v)) >>= fun new => standAt sp >>= fun _ => holding [new, ov, iv] (setItem ov iv new) >>= fun _ => release [new, ov, iv] [] >>= fun _ => pure Flow.next) := rfl

theorem aug_place {n : Nat} {i : Int} {j : Nat} (hj : (if 0 ≤ i then place n i else none) = some j) : 0 ≤ i ∧ j = i.toNat ∧ i < n := by
  obtain ⟨h0, hj⟩ := if_inv hj
  rcases place_nonneg hj with ⟨q1, q2, q3⟩ | ⟨q1, _, _⟩
  · exact ⟨q1, q3, q2⟩
  · exact absurd h0 (Int.not_le.mpr q1)

theorem sx_AugSub (G : Go CF K A n) (Rl : Rel K g m s.heap) (y : Str) (yp ip kp sp pos : Pos) (u u2 : Nat) (i k : Int) :
    Sim CF K A (g, s.heap) (exec (.AugAssign (.Subscript (.Name y yp) (.Constant (.int i) u ip) sp) .Add (.Constant (.int k) u2 kp) pos) K.env) (with1 (varN (rdName K.c m y)) .stuck fun y => with1 (ownL m y) .stuck fun xs => with1 (if 0 ≤ i then place xs.length i else none) .stuck fun j => with1 ((xs[j]?).bind intD) .stuck fun a => .ok .next (putL m y (xs.set j (.int (a + k)))))
      (fun fl _ g' f s' => FlR K g' s'.heap fl f) s := by
  rw [exec_AugSub]
  refine Sim.with1 (fun y' hrd => Sim.with1 (fun xs hy => Sim.with1 (fun j hj => Sim.with1 (fun a hx => ?_) trivial) trivial) trivial) trivial
  obtain ⟨hdbg, w, rr, hload⟩ := name_at (z := (g, s.heap)) G.H Rl (varN_eq hrd)
  obtain ⟨h0, rfl, hjn⟩ := aug_place hj
  obtain ⟨l, vs, rfl, hX, ⟨c, hl⟩, hl2, hfz⟩ := Rl.ownList (ownL_eq hy) rr
  have hz : vs.size = xs.length := by rw [← Array.length_toList]; exact hfz.length
  have hk : i < vs.size := hz ▸ hjn
  have hfit : i < 2 ^ 63 := Int.lt_trans hjn (Int.lt_of_le_of_lt (Int.ofNat_le.mpr hl2) (by decide))
  obtain ⟨v, v1, v2⟩ := hfz.get (some_via (c := .int) hx intD_eq)
  rw [Array.getElem?_toList] at v1
  cases v2 with
  | int _ t =>
    refine Sim.standAt (Sim.of fun _ => wpAny_bind (wpAny_Name (hload s rfl ?_) hdbg))
    refine wpAny_bind (wpAny_holding (wpAny_mkInt ?_))
    refine wpAny_bind (wpAny_holding (wpAny_bind (wpAny_standAt (wpAny_bind ?_))))
    refine wpAny_getItem_list (x := .int a t) ⟨_, hl, rfl, c, rfl⟩ h0 hfit v1 ?_
    refine wpAny_bind (wpAny_holding (wpAny_mkInt ?_))
    refine wpAny_bind (wpAny_standAt (wpAny_operate (wpAny_iadd_int ?_)))
    refine wpAny_bind (wpAny_standAt (wpAny_bind (wpAny_holding (setItem_plain hl h0 hfit hk fun h' hp hs => ?_))))
    refine wpAny_bind (wpAny_release (wpAny_pure ?_))
    have stay : Stay g.O s.heap g.O h' := fun p o hb e1 => ⟨hb, (hs.2 p fun q => hb (q ▸ Rl.xo l hX)).trans e1⟩
    have ov : OV K.w g.O h' l (.d (.list (xs.set i.toNat (.int (a + k))))) := ⟨_, hp, by rw [List.length_set]; exact hl2, by rw [Array.toList_setIfInBounds]; exact (hfz.set (.int _ _)).stay stay⟩
    exact ⟨g, ⟨h', _, rfl⟩, Rl.mut (ownL_eq hy) rfl rr hs ov, Rl.step.mut hX hs, trivial⟩
end
end
section
open PySem PySem.W PyProof.Rows PySem.Calls
section
variable {CF : Addr} {K : Cfg} {A : Around} {z : St × Heap} {s s₀ : Shared} {g g' : St} {m m' : M} {n i : Nat} {h h' : Heap}

theorem cf_name (G : Go CF K A n) (Rl : Rel K g m s.heap) {x : Str} {p : Pos} (hc : isCF K.c (.Name x p) = true) {M : Model} {A' : Around} {E : Value → Shared → Prop} {Q : Value → Shared → Prop} (h : Q (.ref CF) s) : wpAny M A' (eval (.Name x p) K.env) Q E s := by
  unfold isCF at hc
  simp only [Bool.and_eq_true, beq_iff_eq] at hc
  obtain ⟨⟨hx, hg⟩, _⟩ := hc
  subst hx
  obtain ⟨mg, mb, n1, n2, _, _, hcf⟩ := G.gb.fn
  exact Name_function_global G.H.kind (G.H.gl _ hg) (loadGlobal_global (by rw [G.H.g1]; exact n1.keeps Rl.base) hcf h) (by decide)

theorem isCF_name {c : Ctx} {e : Expr} (h : isCF c e = true) : ∃ x p, e = .Name x p := by
  cases e <;> first | exact ff_tt h | exact ⟨_, _, rfl⟩

theorem isNoneC_of {e : Expr} (h : isNoneC e = true) : ∃ k p, e = .Constant .none k p := by
  cases e with
  | Constant c k p => cases c <;> first | exact ff_tt h | exact ⟨_, _, rfl⟩
  | _ => exact ff_tt h
theorem retOf_eq {s : Stmt} {e : Expr} (h : retOf s = some e) : ∃ q, s = .Return (some e) q := by
  cases s with
  | Return o q => exact ⟨q, by rw [show o = some e from h]⟩
  | _ => exact none_some h
theorem retNone_of {hb : List Stmt} (h : retNone hb = true) : ∃ k p q, hb = [.Return (some (.Constant .none k p)) q] := by
  cases h1 : one hb with
  | none => unfold retNone at h; rw [h1] at h; exact ff_tt h
  | some s =>
    unfold retNone at h; rw [h1] at h
    cases h2 : retOf s with
    | none => exact ff_tt ((show with1 (retOf s) false isNoneC = false by rw [h2]; rfl).symm.trans h)
    | some e =>
      obtain ⟨k, p, he⟩ := isNoneC_of ((show with1 (retOf s) false isNoneC = isNoneC e by rw [h2]; rfl).symm.trans h)
      obtain ⟨q, hs⟩ := retOf_eq h2
      exact ⟨k, p, q, by rw [one_eq h1, hs, he]⟩

theorem sx_Try (hs : SXs CF n) (G : Go CF K A n) (hcv : K.c.cv = none) (Rl : Rel K g m s.heap) (b : List Stmt) (t : Expr) (hb : List Stmt) (hp pos : Pos) (ht : isCF K.c t = true) (hr : retNone hb = true) :
    Sim CF K A (g, s.heap) (exec (.Try b [.ExceptHandler (some t) none hb hp] [] [] pos) K.env) (match exs n K.c b m with
        | .ok fl m => .ok fl m
        | .exc m => .ok (.ret (.d .none)) m
        | .stuck => .stuck) (fun fl _ g' f s' => FlR K g' s'.heap fl f) s := by
  obtain ⟨x, p, rfl⟩ := isCF_name ht
  obtain ⟨k, rp, rq, rfl⟩ := retNone_of hr
  have B := hs K A g m b s G hcv Rl
  refine Sim.of fun hne => wpAny_Try_except ?_
  cases e : exs n K.c b m with
  | stuck => rw [e] at hne; exact absurd rfl hne
  | ok fl m₁ =>
    rw [e] at B
    refine wpAny_mono B (fun f s₁ ⟨g₁, sm, Rl₁, st₁, flr⟩ => ?_) fun _ _ q => q.elim
    cases f with
    | next =>
      cases fl <;> first | exact flr.elim | skip
      exact wpAny_execs_nil ⟨g₁, sm, Rl₁, st₁, trivial⟩
    | brk => exact ⟨g₁, sm, Rl₁, st₁, flr⟩
    | cont => exact ⟨g₁, sm, Rl₁, st₁, flr⟩
    | ret v => exact ⟨g₁, sm, Rl₁, st₁, flr⟩
  | exc m₁ =>
    rw [e] at B
    refine wpAny_mono B (fun _ _ q => q.elim) fun ev s₁ ⟨g₁, sm, Rl₁, st₁, th⟩ => ?_
    have he : K.env = K.env₀ := (G.H.fn hcv).1
    refine noteFrame_at (K := K) G.H G.af G.fr (by rw [he]; exact G.H.f0) Rl₁ st₁ th fun g₂ h₂ Rl₂ st₂ _ th₂ _ => ?_
    refine setFlight_at (s := { s₁ with heap := h₂ }) Rl₂ st₂ th₂ fun h₃ Rl₃ st₃ th₃ _ => ?_
    obtain ⟨nm, q, N, bs, bm, hd, sn, sub, ab, col, dd, k0, k1, k2, k3, k5, newId, hC, hbase⟩ := G.gb.ex
    obtain ⟨a, oe, vs, T, oT, ts, f, rfl, j, e1, e2, e3, e4, _⟩ := id th₃
    refine wpAny_handleBy_cons (codeAny_handlers_test (cf_name G (s := { s₁ with heap := h₃ }) Rl₃ ht ?_)) (by intro q; cases q)
    refine wpAny_excMatches_sub_self (Rl₃.base _ _ hC) e1 e2 hbase ?_
    rw [if_pos rfl]
    dsimp only
    refine codeAny_handlers_suite (setFlight_at (A := A.mark (some (.ref a))) (s := { s₁ with heap := h₃ }) Rl₃ st₃ th₃ fun h₄ Rl₄ st₄ th₄ _ => ?_)
    refine wpAny_execs_cons ?_
    rw [exec_Return_some]
    refine wpAny_bind (wpAny_standAt (wpAny_bind ?_))
    show wpAny _ _ (pure Value.none) _ _ _
    exact wpAny_pure (wpAny_pure ⟨g₂, sm.trans .mk, Rl₄, st₄, Fz.none⟩)

theorem raiseNew_at {e : Addr} {o : Obj} {Q : Flow → Shared → Prop} {E : Value → Shared → Prop} {M : Model} (hh : A.handled = none) (h : E (.ref e) s) : wpAny M A (raiseNew (.ref e) : Sem Flow) Q E s := wpAny_raiseNew_none hh h
end
end
section
open PySem PySem.W PyProof.Rows PySem.Calls
section
variable {CF : Addr} {K : Cfg} {A : Around} {z : St × Heap} {s s₀ : Shared} {g g' : St} {m m' : M} {n i : Nat} {h h' : Heap}

theorem raise_tail {M : Model} {E : Value → Shared → Prop} {C N e : Addr} {nm q : Str} {bs bm : List Value} {hdct : Bool} {sn : List Str} {sub : List Value} {ab : Bool} {col : Option Bool} {dd dd2 : Option Addr} {k0 k1 k2 k3 k5 : Option Value} {newId : String}
    {Q : Flow → Shared → Prop} (hbase : bm.contains (.type "BaseException") = true) (hh : A.handled = none) {h : Heap} {gg : Array GenState} {d : Drawn} {t : Nat} {os : OsState} {a0 : Value} {sl : Array (Option Value)}
    (hC : h.get? C = some (excClassObj nm q C N bs bm hdct sn sub ab col dd k0 k1 k2 k3 k5 newId)) (he : h.get? e = some { cls := .ref C, dict := dd2, data := .fields #[a0, .none, .none, .none, .bool false, .none], slots := sl })
    (hE : E (.ref e) ⟨h, gg, d, t, os⟩) :
    wpAny M A (do
      let e' ← holding [] (excFromValue (.ref e) "exceptions must derive from BaseException")
      let e' ← if ← isType (.ref e) then holding [e'] (raisedFor (.ref e) e') else raisedInstance e'
      setFlight e' none
      raiseNew e' : Sem Flow) Q E ⟨h, gg, d, t, os⟩ := by
  have hcB : (Value.ref C :: bm).contains (.type "BaseException") = true := by rw [List.contains_cons, hbase, Bool.or_true]
  repeat (first | with_reducible refine wpAny_loadPart_at he ?_ | with_reducible refine wpAny_loadPart_at hC ?_ | (with_reducible refine wpAny_isSubtype_exc hC ?_; rw [hcB]) | wp_step)
  exact wpAny_raiseNew_none hh hE

theorem raise_eq (env : Env) (x : Sem Value) : raiseStmt env (some x) none = (x >>= fun xv => (do
      let e' ← holding [] (excFromValue xv "exceptions must derive from BaseException")
      let e' ← if ← isType xv then holding [e'] (raisedFor xv e') else raisedInstance e'
      setFlight e' none
      raiseNew e' : Sem Flow)) := by
  rfl
end
end
section
open PySem PySem.W PyProof.Rows PySem.Calls
section
variable {CF : Addr} {K : Cfg} {A : Around} {z : St × Heap} {s s₀ : Shared} {g g' : St} {m m' : M} {n i : Nat} {h h' : Heap}

theorem exec_raise (x : Str) (p cp pos : Pos) (args : List Expr) (env : Env) : exec (.Raise (some (.Call (.Name x p) args [] cp)) none pos) env = (standAt pos >>= fun _ => eval (.Name x p) env >>= fun f => callWith cp f [] (backTo cp (starEach args env)) (backToKw cp (keywordEach [] env)) >>= fun v => standAt pos >>= fun _ => (do
      let e' ← holding [] (excFromValue v "exceptions must derive from BaseException")
      let e' ← if ← isType v then holding [e'] (raisedFor v e') else raisedInstance e'
      setFlight e' none
      raiseNew e' : Sem Flow)) := by
  rw [arm_exec_Raise]
  show (standAt pos >>= fun _ => raiseStmt env (some (eval (.Call (.Name x p) args [] cp) env >>= fun v => standAt pos >>= fun _ => pure v)) none) = _
  rw [raise_eq, arm_eval_Call_Name']
  simp only [bind_assoc, pure_bind]

theorem raise_args {ds : List PyData} {m : M} (h : (with1 (two ds) .stuck fun p => with1 (intD p.1) .stuck fun _ => with1 (strOf p.2) .stuck fun _ => (.exc m : Out Fl)) ≠ .stuck) : ∃ i t, ds = [.int i, .str t] := by
  cases h1 : two ds with
  | none => rw [h1] at h; exact absurd rfl h
  | some p =>
    rw [h1] at h
    cases h2 : intD p.1 with
    | none => change (with1 (intD p.1) _ _) ≠ _ at h; rw [h2] at h; exact absurd rfl h
    | some i =>
      cases h3 : strOf p.2 with
      | none => change (with1 (intD p.1) _ _) ≠ _ at h; rw [h2] at h; change (with1 (strOf p.2) _ _) ≠ _ at h; rw [h3] at h; exact absurd rfl h
      | some t => exact ⟨i, t, by rw [two_eq h1, intD_eq h2, strOf_eq h3]⟩

theorem exc_keep (G : Go CF K A n) (h : Heap) (k : ∀ b o, K.B.get? b = some o → h.get? b = some o) : ∃ kp, (kp = Keeper.frame ∨ kp = Keeper.machine ∨ kp = Keeper.boundFrame) ∧ Looks (MK K) h (keeperOf (.ref CF)) kp := by
  cases G.gb.ex with
  | mk nm q N bs bm hd sn sub ab col dd k0 k1 k2 k3 k5 newId hC hbase => exact ⟨.machine, .inr (.inl rfl), fun A Q E s k' q => wpAny_keeperOf_exc (k' _ _ (k _ _ hC)) q⟩

theorem raise_fin (G : Go CF K A n) {s₁ : Shared} {g₁ : St} {m₁ : M} {vs : List Value} {i : Int} {t : Str} {pos : Pos} {Q : Flow → Shared → Prop} (sm : Same s s₁) (Rl₁ : Rel K g₁ m₁ s₁.heap) (st₁ : Step (SF K.fr) z g₁ s₁.heap) (fz : FzAll g₁.O s₁.heap vs [.int i, .str t]) :
    wpAny (MK K) A (call (.ref CF) vs []) (fun v s' => wpAny (MK K) A (standAt pos >>= fun _ => (do
      let e' ← holding [] (excFromValue v "exceptions must derive from BaseException")
      let e' ← if ← isType v then holding [e'] (raisedFor v e') else raisedInstance e'
      setFlight e' none
      raiseNew e' : Sem Flow)) Q (SErr CF K z s m₁) s') (SErr CF K z s m₁) s₁ := by
  cases fz with
  | cons f1 r1 => cases r1 with
    | cons f2 r2 => cases r2; cases f1 with
      | int _ ti => cases f2 with
        | str ts h1 h2 =>
          have hdep := G.dep
          have hun := G.un
          refine G.gb.raise A s₁ _ _ i ti t ts (by lia) (by lia) G.hh Rl₁.base fun ex h' tk dd2 a0 sl hnew hk he => ?_
          refine wpAny_bind (wpAny_standAt ?_)
          cases G.gb.ex with
          | mk nm q N bs bm hd sn sub ab col dd k0 k1 k2 k3 k5 newId hC hbase =>
            refine raise_tail (bm := bm) hbase G.hh (hk _ _ (Rl₁.base _ _ hC)) he ?_
            obtain ⟨n1, n2, n3, n4⟩ := Rl₁.fresh G.H (show New s₁.heap ex from hnew)
            have o1 : ∀ a, g₁.O a → (g₁.O a ∨ a = ex) := fun _ q => .inl q
            have o2 : ∀ a, (g₁.O a ∨ a = ex) → g₁.O a ∨ (New s₁.heap a ∧ Live h' a) := fun a q => q.imp id fun e => by subst e; exact ⟨hnew, _, he⟩
            exact ⟨{ g₁ with O := fun a => g₁.O a ∨ a = ex }, sm.trans ⟨h', tk, rfl⟩, Rl₁.grow _ hk o1 o2, st₁.grow _ hk o1 (fun a q => (o2 a q).imp id (·.1)),
              ex, _, _, .none, rfl, st₁.mid hnew, .inr rfl, n2, n3, he, rfl, rfl, rfl, .inl rfl⟩

theorem sx_Raise (hl : SL CF n) (G : Go CF K A n) (Rl : Rel K g m s.heap) (f a b : Expr) (cp pos : Pos) (hcf : isCF K.c f = true) (hs : noStar [a, b] = true) :
    Sim CF K A (g, s.heap) (exec (.Raise (some (.Call f [a, b] [] cp)) none pos) K.env) ((evs n K.c [a, b] m).bind fun ds m => with1 (two ds) .stuck fun p => with1 (intD p.1) .stuck fun _ => with1 (strOf p.2) .stuck fun _ => .exc m) (fun fl _ g' f s' => FlR K g' s'.heap fl f) s := by
  obtain ⟨x, p, rfl⟩ := isCF_name hcf
  rw [exec_raise]
  refine Sim.standAt (Sim.ahead (I := fun v s' => v = .ref CF ∧ s' = s) (fun E => cf_name G Rl hcf ⟨.refl, rfl, rfl⟩) fun v s' _ ⟨q1, q2⟩ => ?_)
  subst q1 q2
  have L := hl K A g m [a, b] cp s' G Rl
  refine Sim.of fun hne => wpAny_bind (callArgs_conv hs (exc_keep G) _ _ ?_)
  cases e : evs n K.c [a, b] m with
  | stuck => rw [e] at hne; exact absurd rfl hne
  | exc m₁ =>
    rw [e] at L
    exact wpAny_mono L (fun _ _ q => q.elim) fun _ _ q => q
  | ok ds m₁ =>
    rw [e] at L hne
    obtain ⟨i, t, rfl⟩ := raise_args hne
    exact wpAny_mono L (fun vs s₁ ⟨g₁, sm, Rl₁, st₁, _, fz⟩ => ⟨Rl₁.base, raise_fin G sm Rl₁ st₁ fz⟩) fun _ _ q => q.elim
end
end
section
open PySem PySem.W PyProof.Rows PySem.Calls
section
variable {CF : Addr} {K : Cfg} {A : Around} {z : St × Heap} {s s₀ : Shared} {g g' : St} {m m' : M} {n i : Nat} {h h' : Heap}

/-- all that is said of fuel n -/
structure All (CF : Addr) (n : Nat) : Prop where
  e : SE CF n
  d : SD CF n
  o : SO CF n
  l : SL CF n
  r : SR CF n
  b : SB CF n
  bo : SBo CF n
  bs : SBs CF n
  x : SX CF n
  xs : SXs CF n

theorem all_zero : All CF 0 where
  e := fun _ _ _ _ _ _ _ _ => trivial
  d := fun _ _ _ _ _ _ _ _ => trivial
  o := fun _ _ _ _ _ _ _ _ => trivial
  l := fun _ _ _ _ _ _ _ _ _ => trivial
  r := fun _ _ _ _ _ _ _ _ _ => trivial
  b := fun _ _ _ _ _ _ _ _ => trivial
  bo := fun _ _ _ _ _ _ _ _ _ => trivial
  bs := fun _ _ _ _ _ _ _ _ => trivial
  x := fun _ _ _ _ _ _ _ _ _ => trivial
  xs := fun _ _ _ _ _ _ _ _ _ => trivial

theorem lc_push {β : Type} (X : Out R) {F : List SV → M → Out (List PyData)} {f : List PyData → M → Out β} {G : SV → M → Out β} (_ : True) (h1 : ∀ kvs m, G (.dt kvs) m = .stuck)
    (h2 : ∀ sv m, (∀ kvs, sv ≠ .dt kvs) → G sv m = match itemsOf sv with | some items => (F items m).bind f | none => .stuck) :
    ((X.bind fun r m => (r.frz m).bind fun s m => match s with
            | .dt _ => .stuck
            | s => match itemsOf s with
              | some items => F items m
              | none => .stuck).bind f) = X.bind fun r m => (r.frz m).bind G := by
  cases X with
  | stuck => rfl
  | exc m => rfl
  | ok r m =>
    show ((r.frz m).bind _).bind f = (r.frz m).bind G
    cases r.frz m with
    | stuck => rfl
    | exc m => rfl
    | ok sv m =>
      show (match sv with
            | .dt _ => .stuck
            | s => match itemsOf s with
              | some items => F items m
              | none => .stuck : Out (List PyData)).bind f = G sv m
      cases sv with
      | dt kvs => rw [h1]; rfl
      | d d => rw [h2 _ _ (by simp)]; dsimp only; cases itemsOf (.d d) <;> rfl
      | di d => rw [h2 _ _ (by simp)]; dsimp only; cases itemsOf (.di d) <;> rfl
      | rng d => rw [h2 _ _ (by simp)]; dsimp only; cases itemsOf (.rng d) <;> rfl

theorem SE_succ (I : All CF n) : SE CF (n + 1) := fun K A g m e s G Rl => by
  have G' := G.le (k := n) (by lia)
  cases e with
  | Constant k u p => exact sim_const Rl Rl.step
  | Name x p => exact sim_name G.H Rl Rl.step
  | BinOp l op r p => exact se_BinOp I.e G' Rl l op r p
  | UnaryOp op x p =>
    cases op with
    | USub => exact se_USub I.e G' Rl x p
    | _ => exact trivial
  | BoolOp op vs p =>
    cases op with
    | Or => exact trivial
    | And =>
      match vs with
      | [] => exact trivial
      | [_] => exact trivial
      | [x, y] => exact se_And I.e G' Rl x y p
      | _ :: _ :: _ :: _ => exact trivial
  | Compare l ops rs p =>
    match ops, rs with
    | [op], [r] => exact se_Compare I.e G' Rl l op r p
    | [], _ => exact trivial
    | [_], [] => exact trivial
    | [_], _ :: _ :: _ => exact trivial
    | _ :: _ :: _, _ => exact trivial
  | IfExp t x y p => exact se_IfExp I.e I.b G' Rl t x y p
  | Subscript a i p =>
    by_cases hi : ∃ lo hi st q, i = .Slice lo hi st q
    · obtain ⟨lo, hi, st, q, rfl⟩ := hi
      cases st with
      | none => exact se_Slice I.e I.o G' Rl a lo hi q p
      | some st =>
        -- a slice with a step: its index is no expression
        show Sim CF K A (g, s.heap) _ ((ev n K.c a m).bind fun r m => (ev n K.c (.Slice lo hi (some st) q) m).bind _) _ s
        exact se_Index I.e G' Rl a _ p
    · have : ev (n + 1) K.c (.Subscript a i p) m = ((ev n K.c a m).bind fun r m => (ev n K.c i m).bind fun k m => match item (r.get m) (k.get m) with
      | some d => .ok (.v (.d d)) m
      | none => .stuck) := by
        cases i <;> first | rfl | exact absurd ⟨_, _, _, _, rfl⟩ hi
      rw [this]
      exact se_Index I.e G' Rl a i p
  | Tuple es k p => exact se_Tuple I.l G' Rl es k p
  | List es p => exact se_List I.l G' Rl es p
  | Dict ks vs p =>
    match ks, vs with
    | [], [] => exact se_Dict0 G' Rl p
    | [some k], [v] => exact se_Dict1 I.d G' Rl k v p
    | [], _ :: _ => exact trivial
    | [none], _ => exact trivial
    | [some _], [] => exact trivial
    | [some _], _ :: _ :: _ => exact trivial
    | none :: _ :: _, _ => exact trivial
    | some _ :: _ :: _, _ => exact trivial
  | ListComp elt gs sc p =>
    match gs with
    | [] => exact trivial
    | _ :: _ :: _ => exact trivial
    | [⟨t, it, ifs, asy⟩] =>
      cases t with
      | Name x px =>
        show Sim CF K A (g, s.heap) _ (if compOk K.c ⟨.Name x px, it, ifs, asy⟩ sc x then _ else .stuck) _ s
        by_cases hc : compOk K.c ⟨.Name x px, it, ifs, asy⟩ sc x = true
        · rw [if_pos hc]
          obtain ⟨ok, has⟩ := compOk_of hc
          simp only at has
          subst has
          have := se_ListComp (iter := it) (pos := p) (px := px) (ifs := ifs) (elt := elt) I.e I.bs I.d G' Rl ok
          exact Eq.mp (congrArg (fun o => Sim CF K A (g, s.heap) _ o (QE K (g, s.heap) g.ρ) s) (lc_push (ev n K.c it m) (F := fun items m => evComp n K.c sc x ifs elt items m) trivial (fun _ _ => rfl) (fun sv m h => by cases sv <;> first | rfl | exact absurd rfl (h _)))) this
        · rw [if_neg hc]; exact trivial
      | _ => exact trivial
  | DictComp k v gs sc p =>
    cases v with
    | Constant vc vk vp =>
      cases vc with
      | bool vb =>
        cases vb with
        | false => exact trivial
        | true =>
          match gs with
          | [] => exact trivial
          | _ :: _ :: _ => exact trivial
          | [⟨t, it, ifs, asy⟩] =>
            cases t with
            | Name x px =>
              cases k with
              | Name y py =>
                show Sim CF K A (g, s.heap) _ (if compOk K.c ⟨.Name x px, it, ifs, asy⟩ sc x && x == y && ifs.isEmpty && x != "__debug__" then _ else .stuck) _ s
                by_cases hc : (compOk K.c ⟨.Name x px, it, ifs, asy⟩ sc x && x == y && ifs.isEmpty && x != "__debug__") = true
                · rw [if_pos hc]
                  simp only [Bool.and_eq_true, beq_iff_eq, List.isEmpty_iff, bne_iff_ne, ne_eq] at hc
                  obtain ⟨⟨⟨h1, h2⟩, h3⟩, h4⟩ := hc
                  subst h2 h3
                  obtain ⟨ok, has⟩ := compOk_of h1
                  simp only at has
                  subst has
                  exact se_DictComp I.e G' Rl ok (by simpa using h4)
                · rw [if_neg hc]; exact trivial
              | _ => exact trivial
            | _ => exact trivial
      | _ => exact trivial
    | _ => exact trivial
  | Call f args kws p =>
    cases kws with
    | cons _ _ => cases f <;> exact trivial
    | nil =>
      cases f with
      | Name x px =>
        show Sim CF K A (g, s.heap) _ (if K.c.sc.names.lookup x == some .globalImplicit && x != "__debug__" && noStar args then _ else .stuck) _ s
        by_cases hc : (K.c.sc.names.lookup x == some .globalImplicit && x != "__debug__" && noStar args) = true
        · rw [if_pos hc]
          simp only [Bool.and_eq_true, beq_iff_eq, bne_iff_ne, ne_eq] at hc
          obtain ⟨⟨h1, h2⟩, h3⟩ := hc
          cases hf : funs x with
          | some fd => exact se_CallF I.r I.xs G Rl px args p hf h1 (by simpa using h2) h3
          | none =>
            match args with
            | [] => exact trivial
            | _ :: _ :: _ => exact trivial
            | [a] =>
              show Sim CF K A (g, s.heap) _ (if known x then _ else .stuck) _ s
              by_cases hk : known x = true
              · rw [if_pos hk]
                exact se_CallB I.e G' Rl px a p hf h1 (by simpa using h2) h3 hk
              · rw [if_neg hk]; exact trivial
        · rw [if_neg hc]; exact trivial
      | Attribute o nm ap =>
        show Sim CF K A (g, s.heap) _ (if noStar args && plainBase o && ap.endLine == p.line && decide (args.length < 29) then _ else .stuck) _ s
        by_cases hc : (noStar args && plainBase o && ap.endLine == p.line && decide (args.length < 29)) = true
        · rw [if_pos hc]
          simp only [Bool.and_eq_true, decide_eq_true_eq] at hc
          obtain ⟨⟨⟨h1, h2⟩, h3⟩, h4⟩ := hc
          exact se_Meth I.e I.l G' Rl o nm ap p args h1 h2 h3 h4
        · rw [if_neg hc]; exact trivial
      | _ => exact trivial
  | _ => exact trivial
end
end
section
open PySem PySem.W PyProof.Rows PySem.Calls
section
variable {CF : Addr} {K : Cfg} {A : Around} {z : St × Heap} {s s₀ : Shared} {g g' : St} {m m' : M} {n i : Nat} {h h' : Heap}

theorem sx_Break (Rl : Rel K g m s.heap) (p : Pos) : Sim CF K A (g, s.heap) (exec (.Break p) K.env) (.ok .brk m) (fun fl _ g' f s' => FlR K g' s'.heap fl f) s := by
  show Sim CF K A (g, s.heap) (standAt p >>= fun _ => pure Flow.brk) _ _ s
  exact Sim.standAt (Sim.pure Rl Rl.step trivial)
theorem sx_Continue (Rl : Rel K g m s.heap) (p : Pos) : Sim CF K A (g, s.heap) (exec (.Continue p) K.env) (.ok .cont m) (fun fl _ g' f s' => FlR K g' s'.heap fl f) s := by
  show Sim CF K A (g, s.heap) (standAt p >>= fun _ => pure Flow.cont) _ _ s
  exact Sim.standAt (Sim.pure Rl Rl.step trivial)

theorem sx_Assign1 (I : All CF n) (I' : ∀ k, n = k + 1 → All CF k) (G : Go CF K A n) (Rl : Rel K g m s.heap) (x : Str) (xp pos : Pos) (e : Expr) (hb : bindable K.c x = true) (hd : isDC e = false) :
    Sim CF K A (g, s.heap) (exec (.Assign [.Name x xp] e pos) K.env) ((ev n K.c e m).bind fun r m => (storeR x r m).bind fun _ m => .ok .next m) (fun fl _ g' f s' => FlR K g' s'.heap fl f) s := by
  by_cases hl : ∃ a b c d, e = .ListComp a b c d
  · obtain ⟨elt, gs, sc, cp, rfl⟩ := hl
    obtain ⟨b, hsw⟩ := swaps_list (elt := elt) (gs := gs) (sc := sc) (p := cp) (tp := xp) (t := x) (line := pos.line) (env := K.env)
    cases b with
    | false => exact sx_AssignName I.e G Rl x xp pos _ hb hsw
    | true =>
      cases n with
      | zero => exact trivial
      | succ k =>
        have J := I' k rfl
        have G' := G.le (k := k) (by lia)
        match gs with
        | [] => exact trivial
        | _ :: _ :: _ => exact trivial
        | [⟨t, it, ifs, asy⟩] =>
          cases t with
          | Name y px =>
            show Sim CF K A (g, s.heap) _ ((if compOk K.c ⟨.Name y px, it, ifs, asy⟩ sc y then _ else .stuck : Out R).bind _) _ s
            by_cases hc : compOk K.c ⟨.Name y px, it, ifs, asy⟩ sc y = true
            · rw [if_pos hc]
              obtain ⟨ok, has⟩ := compOk_of hc
              simp only at has
              subst has
              have := sx_AssignUsed (iter := it) (ifs := ifs) (elt := elt) J.e J.bs J.d G' Rl x xp pos cp px y ok hb hsw
              have e2 : ∀ X : Out R, ((X.bind fun r m => (r.frz m).bind fun s m => match s with
                | .dt _ => .stuck
                | s => match itemsOf s with
                  | some items => (evComp k K.c sc y ifs elt items m).bind fun ds m => .ok (R.fresh (.d (.list ds))) m
                  | none => .stuck).bind fun r m => (storeR x r m).bind fun _ m => (.ok Fl.next m : Out Fl)) = X.bind fun r m => (r.frz m).bind fun s m => (match s with
                | .dt _ => .stuck
                | s => match itemsOf s with
                  | some items => (evComp k K.c sc y ifs elt items m).bind fun ds m => (storeR x (.fresh (.d (.list ds))) m).bind fun _ m => (.ok Fl.next m : Out Fl)
                  | none => .stuck) := fun X => by
                cases X with
                | stuck => rfl
                | exc m => rfl
                | ok r m =>
                  show ((r.frz m).bind _).bind _ = (r.frz m).bind _
                  cases r.frz m with
                  | stuck => rfl
                  | exc m => rfl
                  | ok sv m =>
                    cases sv with
                    | dt kvs => rfl
                    | d d =>
                      show (match itemsOf (.d d) with | some items => (evComp k K.c sc y ifs elt items m).bind fun ds m => .ok (R.fresh (.d (.list ds))) m | none => .stuck : Out R).bind _ = (match itemsOf (.d d) with | some items => (evComp k K.c sc y ifs elt items m).bind fun ds m => (storeR x (.fresh (.d (.list ds))) m).bind fun _ m => (.ok Fl.next m : Out Fl) | none => .stuck)
                      cases itemsOf (.d d) with
                      | none => rfl
                      | some items => exact Out.bind_assoc _ _ _
                    | di d =>
                      show (match itemsOf (.di d) with | some items => (evComp k K.c sc y ifs elt items m).bind fun ds m => .ok (R.fresh (.d (.list ds))) m | none => .stuck : Out R).bind _ = (match itemsOf (.di d) with | some items => (evComp k K.c sc y ifs elt items m).bind fun ds m => (storeR x (.fresh (.d (.list ds))) m).bind fun _ m => (.ok Fl.next m : Out Fl) | none => .stuck)
                      cases itemsOf (.di d) with
                      | none => rfl
                      | some items => exact Out.bind_assoc _ _ _
                    | rng d =>
                      show (match itemsOf (.rng d) with | some items => (evComp k K.c sc y ifs elt items m).bind fun ds m => .ok (R.fresh (.d (.list ds))) m | none => .stuck : Out R).bind _ = (match itemsOf (.rng d) with | some items => (evComp k K.c sc y ifs elt items m).bind fun ds m => (storeR x (.fresh (.d (.list ds))) m).bind fun _ m => (.ok Fl.next m : Out Fl) | none => .stuck)
                      cases itemsOf (.rng d) with
                      | none => rfl
                      | some items => exact Out.bind_assoc _ _ _
              have e1 := lc_push (ev k K.c it m) (F := fun items m => evComp k K.c sc y ifs elt items m) (f := fun ds m => (storeR x (.fresh (.d (.list ds))) m).bind fun _ m => (.ok Fl.next m : Out Fl)) (G := fun s m => (match s with
                | .dt _ => .stuck
                | s => match itemsOf s with
                  | some items => (evComp k K.c sc y ifs elt items m).bind fun ds m => (storeR x (.fresh (.d (.list ds))) m).bind fun _ m => (.ok Fl.next m : Out Fl)
                  | none => .stuck)) trivial (fun _ _ => rfl) (fun sv m h => by cases sv <;> first | rfl | exact absurd rfl (h _))
              exact Eq.mp (congrArg (fun o => Sim CF K A (g, s.heap) _ o (fun fl _ g' f s' => FlR K g' s'.heap fl f) s) (e1.trans (e2 (ev k K.c it m)).symm)) this
            · rw [if_neg hc]; exact trivial
          | _ => exact trivial
  · by_cases hs : ∃ a b c d, e = .SetComp a b c d
    · obtain ⟨a, b, c, d, rfl⟩ := hs
      rw [ev_setcomp]; exact trivial
    · exact sx_AssignName I.e G Rl x xp pos e hb (swaps_other (fun a b c d q => hl ⟨a, b, c, d, q⟩) (fun a b c d q => hs ⟨a, b, c, d, q⟩) fun a b c d f q => by rw [q] at hd; cases hd)

theorem SX_succ (I : All CF n) (I' : ∀ k, n = k + 1 → All CF k) : SX CF (n + 1) := fun K A g m st s G hcv Rl => by
  have G' := G.le (k := n) (by lia)
  cases st with
  | Expr e p =>
    cases e with
    | Call f args kws q => exact sx_Expr I.e G' Rl f args kws q p
    | _ => exact trivial
  | Break p => exact sx_Break Rl p
  | Continue p => exact sx_Continue Rl p
  | Return e p =>
    cases e with
    | none => exact trivial
    | some e => exact sx_Return I.e G' Rl e p
  | If t b o p => exact sx_If I.b I.xs G' hcv Rl t b o p
  | For t it b o p =>
    cases o with
    | nil => exact sx_For I.e I.xs G' hcv Rl t it b p
    | cons _ _ => exact trivial
  | While t b o p =>
    cases o with
    | nil => exact sx_While I.b I.xs G' hcv Rl t b p
    | cons _ _ => exact trivial
  | Assign targets e pos =>
    match targets with
    | [] => exact trivial
    | t :: _ :: _ => exact trivial
    | [t] =>
      cases t with
      | Name x xp =>
        show Sim CF K A (g, s.heap) _ (if bindable K.c x && !isDC e then _ else .stuck) _ s
        by_cases hc : (bindable K.c x && !isDC e) = true
        · rw [if_pos hc]
          simp only [Bool.and_eq_true, Bool.not_eq_true'] at hc
          exact sx_Assign1 I I' G' Rl x xp pos e hc.1 hc.2
        · rw [if_neg hc]; exact trivial
      | Tuple ts k p =>
        show Sim CF K A (g, s.heap) _ (match tupleOf e with | some es => _ | none => _) _ s
        cases he : tupleOf e with
        | none =>
          exact sx_AssignTuple I.e G' Rl ts k p pos e fun es k p q => by rw [q] at he; cases he
        | some es =>
          have he' : ∃ k2 p2, e = .Tuple es k2 p2 := by
            cases e <;> first | exact none_some he | (cases he; exact ⟨_, _, rfl⟩)
          obtain ⟨k2, p2, rfl⟩ := he'
          dsimp only
          cases ht : twoNames ts with
          | none => exact trivial
          | some xy =>
            obtain ⟨x, y⟩ := xy
            obtain ⟨px, py, rfl⟩ := twoNames_eq ht
            rcases es with _ | ⟨e₁, _ | ⟨e₂, _ | ⟨e3, r⟩⟩⟩
            · exact trivial
            · exact trivial
            · show Sim CF K A (g, s.heap) _ (if bindable K.c x && bindable K.c y && x != y && !(constantsAlone 8 e₁ && constantsAlone 8 e₂) && noStar [e₁, e₂] then _ else .stuck) _ s
              by_cases hc : (bindable K.c x && bindable K.c y && x != y && !(constantsAlone 8 e₁ && constantsAlone 8 e₂) && noStar [e₁, e₂]) = true
              · rw [if_pos hc]
                simp only [Bool.and_eq_true, Bool.not_eq_true', bne_iff_ne, ne_eq] at hc
                obtain ⟨⟨⟨⟨h1, h2⟩, h3⟩, h4⟩, h5⟩ := hc
                exact sx_Tuple2 I.r G' Rl x y px py p p2 pos k k2 e₁ e₂ h1 h2 h3 h4
              · rw [if_neg hc]; exact trivial
            · exact trivial
      | Subscript a i sp =>
        cases a with
        | Name y yp =>
          show Sim CF K A (g, s.heap) _ (if isSlice i then .stuck else _) _ s
          by_cases hc : isSlice i = true
          · rw [if_pos hc]; exact trivial
          · rw [if_neg hc]; exact sx_AssignSub I.d G' Rl y yp sp pos i e
        | _ => exact trivial
      | _ => exact trivial
  | AugAssign t op e pos =>
    cases t with
    | Name x xp =>
      cases op with
      | Add =>
        show Sim CF K A (g, s.heap) _ (if bindable K.c x then _ else .stuck) _ s
        by_cases hc : bindable K.c x = true
        · rw [if_pos hc]; exact sx_AugName I.e G' Rl x xp pos e hc
        · rw [if_neg hc]; exact trivial
      | _ => exact trivial
    | Subscript a i sp =>
      cases a with
      | Name y yp =>
        cases i with
        | Constant ic iu ip =>
          cases ic with
          | int iv =>
            cases op with
            | Add =>
              cases e with
              | Constant ec eu ep =>
                cases ec with
                | int kv => exact sx_AugSub G' Rl y yp ip ep sp pos iu eu iv kv
                | _ => exact trivial
              | _ => exact trivial
            | _ => exact trivial
          | _ => exact trivial
        | _ => exact trivial
      | _ => exact trivial
    | _ => exact trivial
  | Raise e c pos =>
    cases e with
    | none => exact trivial
    | some e =>
      cases c with
      | some _ =>
        cases e with
        | Call f args kws cp => rcases args with _ | ⟨a, _ | ⟨b, _ | ⟨d, r⟩⟩⟩ <;> cases kws <;> exact trivial
        | _ => exact trivial
      | none =>
        cases e with
        | Call f args kws cp =>
          rcases args with _ | ⟨a, _ | ⟨b, _ | ⟨d, r⟩⟩⟩
          · exact trivial
          · exact trivial
          · cases kws with
            | cons _ _ => exact trivial
            | nil =>
              show Sim CF K A (g, s.heap) _ (if isCF K.c f && noStar [a, b] then _ else .stuck) _ s
              by_cases hc : (isCF K.c f && noStar [a, b]) = true
              · rw [if_pos hc]
                simp only [Bool.and_eq_true] at hc
                exact sx_Raise I.l G' Rl f a b cp pos hc.1 hc.2
              · rw [if_neg hc]; exact trivial
          · exact trivial
        | _ => exact trivial
  | Try b hs o f pos =>
    rcases hs with _ | ⟨⟨t, nm, hb, hp⟩, _ | ⟨h2, r⟩⟩
    · exact trivial
    · cases t with
      | none => exact trivial
      | some t =>
        cases nm with
        | some _ => exact trivial
        | none =>
          cases o with
          | cons _ _ => exact trivial
          | nil =>
            cases f with
            | cons _ _ => exact trivial
            | nil =>
              show Sim CF K A (g, s.heap) _ (if isCF K.c t && retNone hb then _ else .stuck) _ s
              by_cases hc : (isCF K.c t && retNone hb) = true
              · rw [if_pos hc]
                simp only [Bool.and_eq_true] at hc
                exact sx_Try I.xs G' hcv Rl b t hb hp pos hc.1 hc.2
              · rw [if_neg hc]; exact trivial
    · cases t <;> cases nm <;> exact trivial
  | _ => exact trivial

theorem all_succ (I : All CF n) (I' : ∀ k, n = k + 1 → All CF k) : All CF (n + 1) where
  e := SE_succ I
  d := SD_succ I.e
  o := SO_succ I.d
  l := SL_succ I.d I.l
  r := SR_succ I.e I.r
  b := SB_succ I.e (fun k e => (I' k e).e) I.bo
  bo := SBo_succ I.b I.bo
  bs := SBs_succ I.b
  x := SX_succ I I'
  xs := SXs_succ I.x I.xs

/-- the evaluator is sound -/
theorem all_fuel (CF : Addr) : ∀ n, All CF n
  | 0 => all_zero
  | 1 => all_succ all_zero fun k e => by cases e
  | n + 2 => all_succ (all_fuel CF (n + 1)) fun k e => by
      have : n = k := Nat.succ.inj e
      subst this
      exact all_fuel CF n
end
end
section
open PySem PySem.W PyProof.Rows PySem.Calls Builtin Builtin.ObjectAttr
/-- an exception of class C that is being made, since h₀ -/
structure Mak (h₀ : Addr → Option Obj) (h : Heap) (x C : Addr) (mA : Str → Option Value) : Prop where
  keep : ∀ b o, h₀ b = some o → h.get? b = some o
  new : h₀ x = none
  here : ∃ dd a0 sl, h.get? x = some { cls := .ref C, dict := dd, data := .fields #[a0, .none, .none, .none, .bool false, .none], slots := sl } ∧
    ((dd = none ∧ ∀ n, mA n = none) ∨ ∃ d, dd = some d ∧ d ≠ x ∧ h₀ d = none ∧ h.Ns1 d mA)

theorem ns1_keep {h h' : Heap} {d : Addr} {m : Str → Option Value} (x : h.Ns1 d m) (k : ∀ o, h.get? d = some o → h'.get? d = some o) : h'.Ns1 d m := by
  obtain ⟨o, es, ep, e1, e2⟩ := x
  exact ⟨o, es, ep, k o e1, e2⟩

/-- the fragment lies among what is kept -/
noncomputable def KP (K : Frag) (P : Addr → Option Obj) : Prop := ∀ a o, K.lookup a = some o → P a = some o
theorem Mak.kin {P : Addr → Option Obj} {h : Heap} {x C : Addr} {mA} {K : Frag} (I : Mak P h x C mA) (X : KP K P) : K.In h := fun a o e => I.keep a o (X a o e)

theorem Mak.type {M : Model} {h₀ : Addr → Option Obj} {h : Heap} {x C : Addr} {mA} (I : Mak h₀ h x C mA) : Looks M h (typeOf (.ref x)) (.ref C) := by
  obtain ⟨_, dd, a0, sl, e, _⟩ := I.new, I.here
  exact (Looks.ld e).andThen .now

/-- what is known of the classes -/
structure ClsK (K : Frag) (C D : Addr) : Prop where
  ob : ∃ nm q N bs sn sub ab col dd k0 k1 k2 k3 k5, K.lookup C = some (excClassObj nm q C N bs [.ref D, .type "Exception", .type "BaseException", .type "object"] true sn sub ab col dd k0 k1 k2 k3 k5 "Exception.__new__")
  set : findIn K (.ref C) "__setattr__" = some (some (.builtin "object.__setattr__"))

section
variable {prog : Program} {w : World} {A : Around} {E : Value → Shared → Prop} {s : Shared} {K : Frag} {h₀ : Addr → Option Obj} {x C D : Addr} {mA : Str → Option Value} {name : Str} {v : Value}

theorem ClsK.cd (c : ClsK K C D) : ∃ cd, clsIn K C = some cd ∧ cd.mro = [.ref C, .ref D, .type "Exception", .type "BaseException", .type "object"] ∧ cd.hasDict = true := by
  obtain ⟨nm, q, N, bs, sn, sub, ab, col, dd, k0, k1, k2, k3, k5, e⟩ := c.ob
  refine ⟨⟨nm, bs, .ref C :: [.ref D, .type "Exception", .type "BaseException", .type "object"], N, q, true, sn, sub, ab, col, false⟩, ?_, rfl, rfl⟩
  unfold clsIn; rw [e]

theorem ClsK.sub {M : Model} {h : Heap} (c : ClsK K C D) (X : K.In h) {b : Value} {r : Bool} (e : ([.ref C, .ref D, .type "Exception", .type "BaseException", .type "object"] : List Value).contains b = r) : Looks M h (isSubtype (.ref C) b) r := by
  obtain ⟨cd, h1, h2, _⟩ := c.cd
  refine looks_mroIn X ?_
  unfold mroIn
  rw [h1, Option.bind_some, h2, if_neg (by simp), e]

theorem Mak.isInst {M : Model} {h₀ : Addr → Option Obj} {h : Heap} (c : ClsK K C D) (X : KP K h₀) (I : Mak h₀ h x C mA) {b : Value} {r : Bool} (e : ([.ref C, .ref D, .type "Exception", .type "BaseException", .type "object"] : List Value).contains b = r) : Looks M h (isInstance (.ref x) b) r :=
  I.type.andThen (c.sub (I.kin X) e)

theorem exc_check {M : Model} {h : Heap} {g : Array GenState} {d : Drawn} {t : Nat} {os : OsState} {rest : List Value} {Q : Unit → Shared → Prop} (c : ClsK K C D) (X : KP K h₀) (I : Mak h₀ h x C mA) (hq : Q () ⟨h, g, d, t, os⟩) : wpAny M A (checkBuiltinCall "Exception.__init__" ⟨.ref x :: rest, []⟩) Q E ⟨h, g, d, t, os⟩ := by
  have F := PySem.F.excBase_Exception
  have hshort := F.noStar
  obtain ⟨nm, q, N, bs, sn, sub, ab, col, dd, k0, k1, k2, k3, k5, e⟩ := c.ob
  have hC := I.keep _ _ (X _ _ e)
  obtain ⟨dd', a0, sl, he, hd⟩ := I.here
  have hcB : (Value.ref C :: [.ref D, .type "Exception", .type "BaseException", .type "object"]).contains (.type "Exception") = true := by simp
  simp only [checkBuiltinCall, F.initKind, F.initSplit, F.initRow]
  repeat (first | (with_reducible refine wpAny_loadPart_at he ?_) | with_reducible refine wpAny_loadPart_at hC ?_ | (with_reducible refine wpAny_isSubtype_exc hC ?_; rw [hcB]) | wp_step)
  refine wpAny_onRaise ?_
  rw [show ∀ (a b : String) (n : Nat), Bind.check ⟨.positional, "*", "Exception", .self, [⟨"args", .varPos, false⟩]⟩ a b n (List.map (fun x => x.fst) ({ pos := Value.ref x :: rest } : Args).kw) = pure () from
    fun a b n => check_star_args _ _ _ _ _ _]
  exact wpAny_pure hq

theorem exc_init {Q : Value → Shared → Prop} (c : ClsK K C D) (X : KP K h₀) (I : Mak h₀ s.heap x C mA) (hq : ∀ h', Mak h₀ h' x C mA → Q .none { s with heap := h' }) :
    wpAny (model prog w) A (call (.builtin "Exception.__init__") [.ref x, v]) Q E s := by
  have F := PySem.F.excBase_Exception
  obtain ⟨h, g, d, t, os⟩ := s
  refine wpAny_call (codeAny_call_builtin F.init.plain F.initEntry (exc_check c X I ?_))
  obtain ⟨dd, a0, sl, he, hd⟩ := I.here
  dsimp only at he hd hq I ⊢
  have last : Q .none ⟨(h.push { cls := .type "tuple", data := .seq #[v] }).update x (Obj.mapFields fun x => x.setIfInBounds 0 (.ref h.objs.size)), g, d, t, os⟩ := by
    have hx₁ := Heap.get?_push_of_some { cls := .type "tuple", data := .seq #[v] } he
    refine hq _ ⟨fun b o hb => ?_, I.new, dd, .ref h.objs.size, sl, Heap.get?_update_self _ hx₁ rfl, ?_⟩
    · have hne : b ≠ x := fun e => by rw [e, I.new] at hb; cases hb
      exact (Heap.get?_update_ne _ _ _ _ hne).trans (Heap.get?_push_of_some _ (I.keep b o hb))
    · refine hd.imp id fun ⟨d, h1, h2, h3, h4⟩ => ⟨d, h1, h2, h3, ns1_keep h4 fun o ho => ?_⟩
      exact (Heap.get?_update_ne _ _ _ _ h2).trans (Heap.get?_push_of_some _ ho)
  wp_walk
  cases a0
  case ref =>
    wp_walk
    exact last
  all_goals exact wpAny_pure (wpAny_pure last)
end
end
section
open PySem PySem.W PyProof.Rows PySem.Calls Builtin Builtin.ObjectAttr
section
variable {prog : Program} {w : World} {A : Around} {E : Value → Shared → Prop} {h : Heap} {g : Array GenState} {d : Drawn} {t : Nat} {os : OsState}
variable {nm q : Str} {C N : Addr} {bs bm bmB : List Value} {hdct : Bool} {sn : List Str} {sub : List Value} {ab : Bool} {col : Option Bool} {dd : Option Addr} {k0 k1 k2 k3 k5 : Option Value} {B newId initId : String}

theorem own_check_new {M : Model} (F : ExcBaseFacts B newId initId bmB) (hcont : (Value.ref C :: bm).contains (.type B) = true) {rest : List Value} {Q : Unit → Shared → Prop} (hC : h.get? C = some (excClassObj nm q C N bs bm hdct sn sub ab col dd k0 k1 k2 k3 k5 newId))
    (hq : Q () ⟨h, g, d, t, os⟩) : wpAny M A (checkBuiltinCall newId ⟨.ref C :: rest, []⟩) Q E ⟨h, g, d, t, os⟩ := by
  have hstar := F.noStar
  simp only [checkBuiltinCall, F.newKind, F.newSplit, F.newRow]
  repeat (first | refine wpAny_loadPart_at hC ?_ | (refine wpAny_isSubtype_exc hC ?_; rw [hcont]) | refine wpAny_staticBase_exc hC ?_ | refine wpAny_madeBy_exc hC ?_ | simp only [bne_self_eq_false, Bool.false_eq_true, if_false] | wp_step)
  exact hq

theorem own_code_new {R : Result → Shared → Prop} (F : ExcBaseFacts B newId initId bmB) (hcB : (Value.ref C :: bm).contains (.type B) = true) (hcA : (Value.ref C :: bm).contains (.type "AttributeError") = false) (hcN : (Value.ref C :: bm).contains (.type "NameError") = false)
    {rest : List Value} (hC : h.get? C = some (excClassObj nm q C N bs bm hdct sn sub ab col dd k0 k1 k2 k3 k5 newId))
    (hq : R (.ok (.ret (.ref (h.objs.size + 1)))) ⟨(h.push { cls := .type "tuple", data := .seq rest.toArray }).push
      { cls := .ref C, data := .fields #[.ref h.objs.size, .none, .none, .none, .bool false, .none] }, g, d, t, os⟩) (hrest : rest.length ≤ sizeLine) :
    codeAny (model prog w) A (.builtin newId ⟨.ref C :: rest, []⟩) R ⟨h, g, d, t, os⟩ := by
  have hends := F.ends
  refine codeAny_builtinAt F.entry ?_
  unfold Builtin.«BaseException.__new__»
  refine PySem.wpAt_bind ?_
  show PySem.wpAt _ _ _ (stack >>= _) _ _ _
  refine PySem.wpAt_bind (PySem.wpAt_stack fun p below => PySem.wpAt_of_wpAny ?_)
  wp_walk
  refine PySem.wpAt_of_wpAny ?_
  rw [F.owner]
  repeat (first | with_reducible refine wpAny_madeHere_exc F.canon hC ?_ | with_reducible refine wpAny_loadPart_at hC ?_ | (with_reducible refine wpAny_isSubtype_exc hC ?_; first | rw [hcB] | rw [hcA] | rw [hcN]) | wp_step)
  show R _ _
  rw [Heap.size_push]
  exact hq

theorem own_type_call (F : ExcBaseFacts B newId initId bmB) (hcB : (Value.ref C :: bm).contains (.type B) = true) (hcA : (Value.ref C :: bm).contains (.type "AttributeError") = false) (hcN : (Value.ref C :: bm).contains (.type "NameError") = false)
    {rest : List Value} {fI : Addr} {oI : Obj} {Q : Fin → Shared → Prop}
    (hC : h.get? C = some (excClassObj nm q C N bs bm hdct sn sub ab col dd k0 k1 k2 k3 k5 newId)) (hi : Looks (model prog w) h (typeLookup (.ref C) "__init__") (some (.ref fI)))
    (hfI : h.get? fI = some oI) (hfc : oI.cls = .type "function")
    (hq : ∀ h' e, Heap.MadeExcOf h h' e (.ref C) rest →
      wpAny (model prog w) A (call (.ref fI) (.ref e :: rest)) (fun r s' => r = .none ∧ Q (.done (.ret (.ref e))) s') E ⟨h', g, d, t, os⟩) (hrest : rest.length ≤ sizeLine) :
    wpAny (model prog w) A (Builtin.«type.__call__» ⟨.ref C :: rest, []⟩) Q E ⟨h, g, d, t, os⟩ := by
  repeat (first | with_reducible refine wpAny_loadPart_at hC ?_ | with_reducible refine wpAny_madeBy_exc hC ?_ | wp_step)
  refine codeAny_call_builtin_code (Code.quiet_builtin _ F.quiet) (own_check_new F hcB hC ?_)
  refine own_code_new F hcB hcA hcN hC ?_ hrest
  show wpAny _ _ _ _ _ _
  have hC₁ := Heap.get?_push_of_some { cls := .ref C, data := .fields #[.ref h.objs.size, .none, .none, .none, .bool false, .none] }
    (Heap.get?_push_of_some { cls := .type "tuple", data := .seq rest.toArray } hC)
  have hfI₁ := Heap.get?_push_of_some { cls := .ref C, data := .fields #[.ref h.objs.size, .none, .none, .none, .bool false, .none] }
    (Heap.get?_push_of_some { cls := .type "tuple", data := .seq rest.toArray } hfI)
  have hi₁ := hi.keeps (h' := (h.push { cls := .type "tuple", data := .seq rest.toArray }).push { cls := .ref C, data := .fields #[.ref h.objs.size, .none, .none, .none, .bool false, .none] })
    fun b o e => Heap.get?_push_of_some _ (Heap.get?_push_of_some _ e)
  have hget : ((h.push { cls := .type "tuple", data := .seq rest.toArray }).push
      { cls := .ref C, data := .fields #[.ref h.objs.size, .none, .none, .none, .bool false, .none] }).get? (h.objs.size + 1) = some
      { cls := .ref C, data := .fields #[.ref h.objs.size, .none, .none, .none, .bool false, .none] } := by heap_get
  have hcC : (Value.ref C :: bm).contains (.ref C) = true := by simp
  unfold isInstance
  repeat (first | with_reducible refine wpAny_loadPart_at hget ?_ | (with_reducible refine wpAny_isSubtype_exc hC₁ ?_; rw [hcC]) | wp_step)
  show wpAny _ _ (typeLookup (.ref C) _) _ _ _
  refine hi₁.here ?_
  refine wpAny_holding (wpAny_bind ?_)
  unfold bindSpecial
  refine wpAny_bind (wpAny_typeOf (T := "function") ⟨_, hfI₁, hfc⟩ ?_)
  rw [if_pos (by decide)]
  refine wpAny_pure (wpAny_bind (wpAny_mono (hq _ (h.objs.size + 1) ⟨fun b o hb => Heap.get?_push_of_some _ (Heap.get?_push_of_some _ hb), Heap.get?_none_of_le (Nat.le_succ _), h.objs.size, hget, Heap.get?_none_of_le (Nat.le_refl _), ?_⟩) (fun r s' hr => ?_) fun _ _ x => x))
  · exact Heap.get?_push_of_some _ (Heap.get?_push_at rfl rfl)
  · obtain ⟨rfl, hQ⟩ := hr
    wp_walk
    exact hQ

theorem own_call (F : ExcBaseFacts B newId initId bmB) (hcB : (Value.ref C :: bm).contains (.type B) = true) (hcA : (Value.ref C :: bm).contains (.type "AttributeError") = false) (hcN : (Value.ref C :: bm).contains (.type "NameError") = false)
    {rest : List Value} {fI : Addr} {oI : Obj} {Q : Value → Shared → Prop}
    (hC : h.get? C = some (excClassObj nm q C N bs bm hdct sn sub ab col dd k0 k1 k2 k3 k5 newId)) (hi : Looks (model prog w) h (typeLookup (.ref C) "__init__") (some (.ref fI)))
    (hfI : h.get? fI = some oI) (hfc : oI.cls = .type "function")
    (hq : ∀ h' e, Heap.MadeExcOf h h' e (.ref C) rest →
      wpAny (model prog w) (A.under (.builtin "type.__call__" ⟨.ref C :: rest, []⟩)) (call (.ref fI) (.ref e :: rest)) (fun r s' => r = .none ∧ Q (.ref e) s') E ⟨h', g, d, t, os⟩) (hrest : rest.length ≤ sizeLine) :
    wpAny (model prog w) A (call (.ref C) rest) Q E ⟨h, g, d, t, os⟩ := by
  have f1 := tc_lookup
  have f2 := tc_bind (.ref C)
  have hT : (⟨h, g, d, t, os⟩ : Shared).TypeIs (.ref C) "type" := ⟨_, hC, rfl⟩
  refine wpAny_call (codeAny_of_tree ?_)
  show wpAny _ _ (callAny (.ref C) _) _ _ _
  repeat (any_goals (first | assumption | with_reducible refine wpAny_loadPart_at hC ?_ | wp_step))
  refine ⟨rfl, ?_⟩
  refine codeAny_call_builtin_at (Code.quiet_builtin _ (by decide +kernel)) entry_typeCall (wpAny_check_type_call_sub hC (own_type_call F hcB hcA hcN hC hi hfI hfc (fun h' e hm => ?_) hrest))
  exact hq h' e hm
end

section
variable {prog : Program} {w : World} {A : Around} {E : Value → Shared → Prop} {s : Shared} {K : Frag} {h₀ : Addr → Option Obj} {x C D : Addr} {mA : Str → Option Value} {name : Str} {v : Value}

noncomputable def NsOf (ns : List Str) (m : Str → Option Value) : Prop := Within m ns

theorem set_exc {Q : Unit → Shared → Prop} {ns : List Str} (c : ClsK K C D) (X : KP K h₀) (I : Mak h₀ s.heap x C mA) (hf : findIn K (.ref C) name = some none) (hw : Within mA ns) (hsz : ns.length < 10)
    (hq : ∀ h' tk, Mak h₀ h' x C (fun y => if y = name then some v else mA y) → Q () { s with heap := h', toks := tk }) :
    wpAny (model prog w) A (setAttr (.ref x) name v) Q E s := by
  obtain ⟨hp, g, d, t, os⟩ := s
  dsimp only at I hq
  have SF := PySem.F.store_object
  have X' := I.kin X
  obtain ⟨dd, a0, sl, hx, hd⟩ := I.here
  refine wpAny_bind (wpAny_mkText (wpAny_bind (wpAny_bind (wpAny_bind (I.type.here (s := ⟨hp, g, d, t + 1, os⟩) ((looks_findIn X' c.set).here (wpAny_holding ?_)))))))
  rw [SF.slot.bind]
  refine wpAny_bind (wpAny_pure (wpAny_bind (wpAny_call ?_)))
  refine codeAny_call_builtin SF.slot.plain SF.entry (@check_slot (model prog w) _ _ ⟨hp, g, d, t + 1, os⟩ "object.__setattr__" "object" "__setattr__" (.ref x) [.str name _, v] [] _ SF.kind SF.split (I.isInst c X (by simp)) (SF.args (.ref x) (.str name _) v) ?_)
  show wpAny _ _ (Builtin.«object.__setattr__» ⟨[.ref x, .str name _, v], []⟩) _ _ _
  rw [osa_eq, refuse_eq]
  obtain ⟨cd, c1, c2, c3⟩ := c.cd
  have hm : Looks (model prog w) hp (mroOf (.ref C)) cd.mro := (looks_clsIn X' c1).andThen .now
  refine wpAny_bind (wpAny_bind (I.type.here (s := ⟨hp, g, d, t + 1, os⟩) (wpAny_bind (hm.here ?_))))
  rw [c2, refuseLoop_ref, refuseLoop_ref, PySem.F.store_Exception.passes]
  refine wpAny_pure (wpAny_bind (I.type.here (s := ⟨hp, g, d, t + 1, os⟩) (wpAny_bind ((looks_findIn X' hf).here (wpAny_bind (wpAny_pure ?_))))))
  obtain ⟨nm, q, N, bs, sn, sub, ab, col, cdd, k0, k1, k2, k3, k5, eC⟩ := c.ob
  have hC := X' _ _ eC
  refine wpAny_mono (Q := fun fin s' => fin = .done (.ret .none) ∧ Q () s') (E := E) ?_ (fun fin s' z => ?_) (fun _ _ z => z)
  · rcases hd with ⟨rfl, hmA⟩ | ⟨dx, rfl, hne, hnew, hns⟩
    · show wpAny _ _ (storeInOwnDict _ _ _ _ _ _) _ _ _
      unfold storeInOwnDict
      iterate 6 (first | (with_reducible refine wpAny_loadPart_at hx ?_) | (with_reducible refine wpAny_loadPart_at hC ?_) | wp_step)
      unfold instanceDict
      refine wpAny_bind (wpAny_loadPart hx ?_)
      refine wpAny_bind ((looks_clsIn X' c1).here ?_)
      rw [c3]
      show wpAny _ _ (alloc _ >>= _) _ _ _
      have hx₁ := Heap.get?_push_of_some { cls := .type "dict", data := .dict #[] } hx
      have hxs : x ≠ hp.objs.size := Nat.ne_of_lt (Heap.lt_size hx)
      refine wpAny_bind (wpAny_alloc' ?_)
      refine wpAny_bind (wpAny_update' hx₁ ?_)
      refine wpAny_pure ?_
      have hgd : ((hp.push { cls := .type "dict", data := .dict #[] }).update x fun o => { o with dict := some hp.objs.size }).get? hp.objs.size = some { cls := .type "dict", data := .dict #[] } :=
        (Heap.get?_update_ne _ _ _ _ hxs.symm).trans (Heap.get?_push_at rfl rfl)
      have hnd : ((hp.push { cls := .type "dict", data := .dict #[] }).update x fun o => { o with dict := some hp.objs.size }).Ns hp.objs.size (fun _ => none) :=
        ⟨_, #[], _, hgd, rfl, fun e he => absurd he (by simp), fun _ => rfl⟩
      show wpAny _ _ (storeInDict hp.objs.size (.str name _) name v) _ _ _
      unfold storeInDict newKeyGuard
      refine wpAny_bind (wpAny_pure (wpAny_bind (wpAny_nsSet1 (Heap.Ns1.of_empty hnd) fun h' hn' hs => ?_)))
      obtain ⟨oD, esD, epD, hoD, hdD, hcD⟩ := hn'.count (Within.cons name v Within.nil)
      refine wpAny_bind (wpAny_lookBehind hoD (by rw [hdD]; exact pastItsLine_dict (Nat.le_trans hcD (by rw [List.length_cons, List.length_nil, sizeLine_eq]; lia))) ?_)
      have hnew : h₀ hp.objs.size = none := by
        cases q : h₀ hp.objs.size with
        | none => rfl
        | some o => exact absurd (Heap.lt_size (I.keep _ _ q)) (Nat.lt_irrefl _)
      refine wpAny_pure ⟨rfl, hq _ _ ⟨fun b o hb => ?_, I.new, some hp.objs.size, a0, sl, ?_, .inr ⟨hp.objs.size, rfl, hxs.symm, hnew, ?_⟩⟩⟩
      · have hb' := I.keep _ _ hb
        exact (hs.2 b (Nat.ne_of_lt (Heap.lt_size hb'))).trans ((Heap.get?_update_ne _ _ _ _ (fun e => by rw [e, I.new] at hb; cases hb)).trans (Heap.get?_push_of_some _ hb'))
      · exact (hs.2 x hxs).trans (Heap.get?_update_self _ hx₁ rfl)
      · have : (fun y => if y = name then some v else mA y) = fun y => if y = name then some v else none := by funext y; rw [hmA]
        rw [this]; exact hn'
    · show wpAny _ _ (storeInOwnDict _ _ _ _ _ _) _ _ _
      unfold storeInOwnDict
      iterate 6 (first | (with_reducible refine wpAny_loadPart_at hx ?_) | (with_reducible refine wpAny_loadPart_at hC ?_) | wp_step)
      unfold instanceDict
      refine wpAny_bind (wpAny_loadPart hx ?_)
      refine wpAny_bind ((looks_clsIn X' c1).here ?_)
      rw [c3]
      refine wpAny_pure ?_
      show wpAny _ _ (storeInDict dx (.str name _) name v) _ _ _
      unfold storeInDict newKeyGuard
      refine wpAny_bind (wpAny_pure (wpAny_bind (wpAny_nsSet1 hns fun h' hn' hs => ?_)))
      obtain ⟨oD, esD, epD, hoD, hdD, hcD⟩ := hn'.count (Within.cons name v hw)
      refine wpAny_bind (wpAny_lookBehind hoD (by rw [hdD]; exact pastItsLine_dict (Nat.le_trans hcD (by rw [List.length_cons, sizeLine_eq]; lia))) ?_)
      refine wpAny_pure ⟨rfl, hq _ _ ⟨fun b o hb => ?_, I.new, some dx, a0, sl, ?_, .inr ⟨dx, rfl, hne, hnew, hn'⟩⟩⟩
      · exact (hs.2 b (fun e => by rw [e, hnew] at hb; cases hb)).trans (I.keep _ _ hb)
      · exact (hs.2 x hne.symm).trans hx
  · obtain ⟨rfl, z⟩ := z
    exact wpAny_pure (wpAny_pure z)
end
end
section
open PySem PySem.W PyProof.Rows PySem.Calls
noncomputable def KeptP (P : Addr → Option Obj) (h : Heap) : Prop := ∀ b o, P b = some o → h.get? b = some o

/-- what is kept holds the fragment, no limit, the names -/
structure ROk (K : Frag) (mg mb : Str → Option Value) (P : Addr → Option Obj) : Prop where
  kp : KP K P
  lim : ∀ h, KeptP P h → h.NoLimit
  g : ∀ h, KeptP P h → h.Ns mainGlobals mg
  b : ∀ h, KeptP P h → h.Ns builtinsNs mb

/-- a frame of a call is kept too -/
noncomputable def withFr (P : Addr → Option Obj) (L : Addr) (h : Heap) : Addr → Option Obj := fun b => match P b with
  | some o => some o
  | none => if b = L then h.get? L else none
theorem withFr_le {P L h b o} (e : P b = some o) : withFr P L h b = some o := by unfold withFr; rw [e]
theorem ROk.frame {K mg mb P L h} (x : ROk K mg mb P) : ROk K mg mb (withFr P L h) where
  kp := fun a o e => withFr_le (x.kp a o e)
  lim := fun h' k => x.lim h' fun b o e => k b o (withFr_le e)
  g := fun h' k => x.g h' fun b o e => k b o (withFr_le e)
  b := fun h' k => x.b h' fun b o e => k b o (withFr_le e)

theorem Mak.frame {P : Addr → Option Obj} {h h₁ : Heap} {x C L : Addr} {mA} (I : Mak P h x C mA) (k : ∀ b o, h.get? b = some o → h₁.get? b = some o) (n : h.get? L = none) : Mak (withFr P L h₁) h₁ x C mA := by
  obtain ⟨dd, a0, sl, hx, hd⟩ := I.here
  have ne : ∀ b, b ≠ L → P b = none → withFr P L h₁ b = none := fun b hb e => by unfold withFr; rw [e]; simp only [if_neg hb]
  refine ⟨fun b o e => ?_, ne x (fun e => by rw [e, n] at hx; cases hx) I.new, dd, a0, sl, k _ _ hx, hd.imp id fun ⟨d, h1, h2, h3, h4⟩ => ⟨d, h1, h2, ne d (fun e => ?_) h3, ns1_keep h4 (k d)⟩⟩
  · unfold withFr at e
    cases q : P b with
    | some o' => rw [q] at e; cases e; exact k _ _ (I.keep _ _ q)
    | none =>
      rw [q] at e
      simp only at e
      split at e
      · rename_i hb; rw [hb]; exact e
      · cases e
  · obtain ⟨o, es, ep, e1, e2⟩ := h4
    rw [e, n] at e1; cases e1

theorem Mak.outer {P : Addr → Option Obj} {h h₁ : Heap} {x C L : Addr} {mA} (I : Mak (withFr P L h₁) h x C mA) : Mak P h x C mA := by
  have nn : ∀ b, withFr P L h₁ b = none → P b = none := fun b e => by
    cases q : P b with
    | none => rfl
    | some o => rw [withFr_le q] at e; cases e
  obtain ⟨dd, a0, sl, hx, hd⟩ := I.here
  exact ⟨fun b o e => I.keep b o (withFr_le e), nn _ I.new, dd, a0, sl, hx, hd.imp id fun ⟨d, h1, h2, h3, h4⟩ => ⟨d, h1, h2, nn _ h3, h4⟩⟩

/-- a function that makes a new exception's attributes -/
noncomputable def Inits (prog : Program) (w : World) (K : Frag) (mg mb : Str → Option Value) (C : Addr) (f : Value) (vs : List Value) (dep : Nat) (mB : Str → Option Value) : Prop :=
  ∀ (P : Addr → Option Obj) (A : Around) (E Q : Value → Shared → Prop) (s : Shared) (x : Addr), ROk K mg mb P → A.depth + dep < 1000 → Mak P s.heap x C (fun _ => none) →
    (∀ h' tk, Mak P h' x C mB → Q .none { s with heap := h', toks := tk }) → wpAny (model prog w) A (call f (.ref x :: vs)) Q E s

noncomputable def initBody (cn fld val : Str) (p1 p2 p3 p4 p5 p6 p7 p8 p9 p10 : Pos) : List Stmt :=
  [.Expr (.Call (.Attribute (.Name cn p1) "__init__" p2) [.Name "self" p3, .Name "text" p4] [] p5) p6, .Assign [.Attribute (.Name "self" p7) fld p8] (.Name val p9) p10]

structure InitFn (K : Frag) (fI : Addr) (ps : List Str) (cn fld val : Str) : Prop where
  ob : ∃ o fn p1 p2 p3 p4 p5 p6 p7 p8 p9 p10, K.lookup fI = some o ∧ o.cls = .type "function" ∧ o.data = .func fn ∧ fn.body = .stmts (initBody cn fld val p1 p2 p3 p4 p5 p6 p7 p8 p9 p10) ∧
    p2.endLine = p5.line ∧ fn.globals = mainGlobals ∧ fn.builtins = builtinsNs ∧ fn.closure = [] ∧ scopeOk fn.scope ps = true ∧ fn.scope.names.lookup cn = some .globalImplicit ∧
    fn.scope.names.lookup ("self" : Str) = some .local ∧ fn.scope.names.lookup ("text" : Str) = some .local ∧ fn.scope.names.lookup val = some .local ∧ (∀ h, K.In h → h.CodeRec fn.code fn.qualname) ∧
    ∀ vs, vs.length = ps.length → bindArgs fn ⟨vs, []⟩ = pure (ps.zip vs)

section
variable {prog : Program} {w : World} {K : Frag} {mg mb : Str → Option Value} {C D : Addr}

theorem method_any {A : Around} {s : Shared} {o : Expr} {nm : Str} {apos pos : Pos} {args : List Expr} {env : Env} {E : Value → Shared → Prop} {Q : Value → Shared → Prop} (hb : plainBase o = true) (hline : (apos.endLine == pos.line) = true) (hs : noStar args = true) (hl : args.length < 29)
    (h : wpAny (model prog w) A (eval o env) (fun v s' => ∀ pl, wpAny (model prog w) A (getMethod v nm pl) (fun r s'' => wpAny (model prog w) A (callWith pos r.1 r.2 (backTo pos (starEach args env)) []) Q E s'') E s') E s) :
    wpAny (model prog w) A (eval (.Call (.Attribute o nm apos) args [] pos) env) Q E s := by
  have hfew := few_of (pos := pos) (env := env) hs hl
  rw [arm_call, attr_base hb]
  refine wpAny_bind (wpAny_mono h (fun ov s₁ h₁ => ?_) fun _ _ e => e)
  refine wpAny_bind (wpAny_standAt ?_)
  have hform : methodCallForm (args.length + ([] : List Keyword).length) (backTo pos (starEach args env)) (backToKw pos (keywordEach [] env)) = true := hfew
  have hpos : methodCallPos true o env apos pos = pure pos := by unfold methodCallPos; simp [hline]
  unfold methodCall
  rw [hform]
  refine wpAny_bind (wpAny_holding (wpAny_mono (h₁ _) (fun r s₂ h₂ => ?_) fun _ _ e => e))
  exact wpAny_bind (wpAny_of_eq hpos h₂)

theorem init_walk {fI : Addr} {ps : List Str} {cn fld val : Str} {cv f₀ : Value} {vs : List Value} {dep : Nat} {mB : Str → Option Value} {ns : List Str} {y v : Value} (c : ClsK K C D) (F : InitFn K fI ps cn fld val)
    (hg : mg cn = some cv ∨ (mg cn = none ∧ mb cn = some cv)) (hcd : (cn == ("__debug__" : Str)) = false) (hl : vs.length + 1 = ps.length)
    (hself : ∀ x : Value, (ps.zip (x :: vs)).lookup ("self" : Str) = some x) (htext : ∀ x : Value, (ps.zip (x :: vs)).lookup ("text" : Str) = some y) (hval : ∀ x : Value, (ps.zip (x :: vs)).lookup val = some v) (hvd : (val == ("__debug__" : Str)) = false)
    (hm : ∀ (P : Addr → Option Obj) (A : Around) (E : Value → Shared → Prop) (Q : Value × List Value → Shared → Prop) (s : Shared) (pl : Sem Bool), ROk K mg mb P → KeptP P s.heap → Q (f₀, []) { s with toks := s.toks + 1 } → wpAny (model prog w) A (getMethod cv "__init__" pl) Q E s)
    (hkf : ∀ h, K.In h → ∃ k, (k = Keeper.frame ∨ k = Keeper.machine ∨ k = Keeper.boundFrame) ∧ Looks (model prog w) h (keeperOf f₀) k)
    (hin : Inits prog w K mg mb C f₀ [y] dep mB) (hfld : findIn K (.ref C) fld = some none) (hw : Within mB ns) (hns : ns.length < 10) :
    Inits prog w K mg mb C (.ref fI) vs (dep + 1) (fun z => if z = fld then some v else mB z) := by
  intro P A E Q s x X hd I hq
  obtain ⟨o, fn, p1, p2, p3, p4, p5, p6, p7, p8, p9, p10, e1, e2, e3, e4, e5, e6, e7, e8, ok, n1, n2, n3, n4, hcode, hbind⟩ := F.ob
  obtain ⟨q1, q2, q3, q4, q5, q6, q7⟩ := scopeOk_co ok
  have hrl : recursionLimit = 1000 := by decide +kernel
  have hK := I.kin X.kp
  have hlen : (Value.ref x :: vs).length = ps.length := by rw [List.length_cons, hl]
  refine wpAny_call (codeAny_call_function (fd := fn) (by lia) (hK _ _ e1) e3 q2 q3 e4 (hcode _ hK) ?_)
  rw [hbind _ hlen, e6, e7, e8]
  refine wpAny_pure (wpAny_newFunctionEnv_cells q1 (fun x hx => ?_) fun env he s₁ xc => ?_)
  · have hm := List.mem_map_of_mem (f := Prod.fst) hx
    rw [zip_fst ps _ hlen] at hm
    rcases q4 _ hm with q | q
    · exact .inl q
    · exact .inr ⟨q, cellsFrom_some _ _ _ (.inl q)⟩
  have xe : Entered ⟨ps, initBody cn fld val p1 p2 p3 p4 p5 p6 p7 p8 p9 p10, fn.scope⟩ (.ref x :: vs) env s.heap s₁.heap := entered_of (fn := fn) (a := fI) ok hlen he xc
  obtain ⟨h₁, tk₁, es₁⟩ : ∃ h' tk, s₁ = { s with heap := h', toks := tk } := xc.toInCall.same
  have I₁ : Mak (withFr P env.locals s₁.heap) s₁.heap x C (fun _ => none) := I.frame xe.keep xe.newL
  have X₁ : ROk K mg mb (withFr P env.locals s₁.heap) := X.frame
  obtain ⟨nm, hnm, hnl⟩ := xe.ns
  -- the frame's dict stays
  have hfr : ∀ h', KeptP (withFr P env.locals s₁.heap) h' → h'.Ns env.locals nm := fun h' k => by
    obtain ⟨o, es, ep, a1, a2⟩ := hnm
    refine ⟨o, es, ep, k _ _ ?_, a2⟩
    unfold withFr
    cases q : P env.locals with
    | some o' => have := I.keep _ _ q; exact (xe.newL.no this).elim
    | none => simp only [if_true]; exact a1
  have rd : ∀ (z : Str) (u : Value) (p : Pos) (A' : Around) (Q' E' : Value → Shared → Prop) (s' : Shared), (z == ("__debug__" : Str)) = false → fn.scope.names.lookup z = some .local → (ps.zip (.ref x :: vs)).lookup z = some u →
      KeptP (withFr P env.locals s₁.heap) s'.heap → Q' u s' → wpAny (model prog w) A' (eval (.Name z p) env) Q' E' s' := fun z u p A' Q' E' s' hz hsc hlk k hq' =>
    wpAny_Name (wpAny_loadName_local xe.kind (by unfold Env.kindOf; rw [xe.sc]; exact hsc) (hfr _ k) ((hnl z hsc).trans hlk) hq') hz
  refine ⟨X₁.lim _ I₁.keep, codeAny_func ?_⟩
  refine wpAny_execs_cons ?_
  rw [exec_Expr env _ p6 (by unfold interactive; rw [xe.kind]; rfl) (by rfl)]
  refine wpAny_bind (wpAny_standAt (wpAny_bind ?_))
  refine method_any rfl (by rw [e5]; simp) rfl (by simp) ?_
  refine wpAny_mono (Q := fun u s' => u = cv ∧ s' = s₁) (E := fun _ _ => False) ?_ (fun u s' hu => ?_) (fun _ _ z => z.elim)
  · refine Name_function_global xe.kind (by unfold Env.kindOf; rw [xe.sc]; exact n1) ?_ hcd
    have hgl := X₁.g _ I₁.keep
    have hbl := X₁.b _ I₁.keep
    rw [← xe.gl] at hgl
    rw [← xe.bi] at hbl
    rcases hg with hg | ⟨hg, hb⟩
    · exact loadGlobal_global hgl hg ⟨rfl, rfl⟩
    · exact loadGlobal_builtin hgl hg hbl hb ⟨rfl, rfl⟩
  obtain ⟨rfl, rfl⟩ := hu
  intro pl
  refine hm _ _ _ _ _ _ X₁ I₁.keep ?_
  refine callArgs_conv (P := fun h => KeptP (withFr P env.locals s'.heap) h) rfl (fun h k => hkf h fun a o e => k _ _ (X₁.kp a o e)) _ _ ?_
  refine spliced_more (rd _ _ _ _ _ _ _ (by decide) n2 (hself _) I₁.keep (spliced_more (rd _ _ _ _ _ _ _ (by decide) n3 (htext _) I₁.keep (spliced_none ⟨I₁.keep, ?_⟩))))
  refine hin _ _ _ _ _ x X₁ (by show A.depth + 1 + dep < 1000; lia) I₁ fun h₂ tk₂ I₂ => wpAny_dropValue ?_
  refine wpAny_execs_cons (plainObj_wpAny_Assign_Attribute (rd _ _ _ _ _ _ _ hvd n4 (hval _) I₂.keep (rd _ _ _ _ _ _ _ (by decide) n2 (hself _) I₂.keep ?_)) (by rfl))
  refine set_exc c X₁.kp I₂ hfld hw hns fun h₃ tk₃ I₃ => wpAny_execs_nil ?_
  subst es₁
  exact hq h₃ tk₃ I₃.outer
end
end
section
open PySem PySem.W PyProof.Rows PySem.Calls
structure RaiseK (K : Frag) (mg mb : Str → Option Value) (C D fA fC : Addr) : Prop where
  cls : ClsK K C D
  fa : InitFn K fA ["self", "text"] "Exception" "text" "text"
  fc : InitFn K fC ["self", "line", "text"] "AdaError" "line" "line"
  gA : mg "AdaError" = some (.ref D)
  gE : mg "Exception" = none
  bE : mb "Exception" = some (.type "Exception")
  ft : findIn K (.ref C) "text" = some none
  fl : findIn K (.ref C) "line" = some none
  fi : findIn K (.ref C) "__init__" = some (some (.ref fC))
  sp : specialIn K (.ref D) "__getattribute__" = some (some (.builtin "type.__getattribute__"))
  rd : readsIn K D (.type "type") = true
  fD : findCls K (.ref D) (.type "type") "__init__" = some (.val (.ref fA))
  fE : findCls K (.type "Exception") (.type "type") "__init__" = some (.val (.builtin "Exception.__init__"))

section
variable {prog : Program} {w : World} {K : Frag} {mg mb : Str → Option Value} {C D fA fC : Addr}

theorem method_typeX {T : String} {name : Str} {A : Around} {E : Value → Shared → Prop} {s : Shared} {v : Value} {pl : Sem Bool} {Q : Value × List Value → Shared → Prop} (X : K.In s.heap) (ht : typeOf (.type T) = pure (.type "type")) (hs : Manifest.isStub T = false)
    (e : findCls K (.type T) (.type "type") name = some (.val v)) (hh : handedIn v = true) (h : Q (v, []) { s with toks := s.toks + 1 }) : wpAny (model prog w) A (getMethod (.type T) name pl) Q E s := by
  have hstub : opaqueClassAbove (.type T) = pure none := by unfold opaqueClassAbove; dsimp only; rw [hs]; rfl
  have L0 : Looks (model prog w) s.heap (typeOf (.type T)) (.type "type") := Looks.of_pure ht
  have hg : findIn K (.type "type") "__getattribute__" = some (some (.builtin "type.__getattribute__")) := type_tga
  unfold getMethod specialOf
  refine wpAny_bind (wpAny_bind (L0.here ((looks_findIn X hg).here ?_)))
  dsimp only
  rw [if_pos canon_tga]
  refine wpAny_bind (wpAny_mono (Q := fun v => Q (v, [])) (E := E) ?_ (fun _ _ z => wpAny_pure z) fun _ _ z => z)
  have LO : Looks (model prog w) s.heap (opaqueClassAbove (.type T)) none := Looks.of_pure hstub
  refine cls_open X LO L0 hg (looks_hook X (r := none) (by rfl)) (by show subIn K _ _ = _; rfl) e
    (wpAny_pure (by show wpAny _ _ (handedOut v) _ _ _; rw [handedOut_of hh]; exact wpAny_pure h))

theorem fn_keeper {M : Model} {fI : Addr} {ps : List Str} {cn fld val : Str} (F : InitFn K fI ps cn fld val) : ∀ h, K.In h → ∃ k, (k = Keeper.frame ∨ k = Keeper.machine ∨ k = Keeper.boundFrame) ∧ Looks M h (keeperOf (.ref fI)) k := fun h X => by
  obtain ⟨o, fn, _, _, _, _, _, _, _, _, _, _, e1, _, e3, _⟩ := F.ob
  exact looks_fn h ⟨o, fn, X _ _ e1, e3⟩

theorem excInitOk (c : ClsK K C D) (v : Value) : Inits prog w K mg mb C (.builtin "Exception.__init__") [v] 0 (fun _ => none) := by
  intro P A E Q s x X _ I hq
  exact exc_init c X.kp I fun h' I' => hq h' s.toks I'

theorem exc_keeper {M : Model} {h : Heap} : ∃ k, (k = Keeper.frame ∨ k = Keeper.machine ∨ k = Keeper.boundFrame) ∧ Looks M h (keeperOf (.builtin "Exception.__init__")) k :=
  ⟨_, .inr (.inl rfl), Looks.of_pure (by kernel_rfl)⟩

theorem ada_inits (R : RaiseK K mg mb C D fA fC) (v : Value) : Inits prog w K mg mb C (.ref fA) [v] 1 (fun z => if z = "text" then some v else none) :=
  init_walk (ns := []) (y := v) R.cls R.fa (.inr ⟨R.gE, R.bE⟩) (by decide) rfl (fun x => by rfl) (fun x => by rfl) (fun x => by rfl) (by decide)
    (fun P A E Q s pl X k hq => method_typeX (fun a o e => k _ _ (X.kp a o e)) (by rfl) (by decide +kernel) R.fE (by decide +kernel) hq)
    (fun h _ => exc_keeper) (excInitOk R.cls v) R.ft Within.nil (by decide)

theorem cf_inits (R : RaiseK K mg mb C D fA fC) (v u : Value) : Inits prog w K mg mb C (.ref fC) [v, u] 2 (fun z => if z = "line" then some v else if z = "text" then some u else none) :=
  init_walk (ns := ["text"]) (y := u) R.cls R.fc (.inl R.gA) (by decide) rfl (fun x => by rfl) (fun x => by rfl) (fun x => by rfl) (by decide)
    (fun P A E Q s pl X k hq => by
      have X' : K.In s.heap := fun a o e => k _ _ (X.kp a o e)
      exact method_cls X' R.sp (cls_value X' R.rd R.fD (by rfl) hq))
    (fn_keeper R.fa) (ada_inits R u) R.fl (Within.cons _ _ Within.nil) (by decide)

theorem raise_made (R : RaiseK K mg mb C D fA fC) {A : Around} {s : Shared} {E Q : Value → Shared → Prop} {v u : Value} (X : ROk K mg mb s.heap.get?) (hd : A.depth + 10 < 1000)
    (hq : ∀ e h' tk dd a0 sl, s.heap.get? e = none → (∀ b o, s.heap.get? b = some o → h'.get? b = some o) → h'.get? e = some { cls := .ref C, dict := dd, data := .fields #[a0, .none, .none, .none, .bool false, .none], slots := sl } → Q (.ref e) { s with heap := h', toks := tk }) :
    wpAny (model prog w) A (call (.ref C) [v, u] []) Q E s := by
  obtain ⟨h, g, d, t, os⟩ := s
  obtain ⟨nm, q, N, bs, sn, sub, ab, col, dd, k0, k1, k2, k3, k5, e⟩ := R.cls.ob
  obtain ⟨oI, fn, _, _, _, _, _, _, _, _, _, _, e1, e2, _⟩ := R.fc.ob
  have hK : K.In h := X.kp
  refine own_call PySem.F.excBase_Exception (by simp) (by simp) (by simp) (hK _ _ e) (looks_findIn hK R.fi) (hK _ _ e1) e2 (fun h' x hm => ?_) (by rw [sizeLine_eq]; show 2 ≤ 16777216; decide)
  obtain ⟨tt, t1, _⟩ := hm.there
  have I : Mak h.get? h' x C (fun _ => none) := ⟨hm.keeps, hm.new, none, .ref tt, _, t1, .inl ⟨rfl, fun _ => rfl⟩⟩
  refine cf_inits R v u _ _ _ _ ⟨h', g, d, t, os⟩ x X (by show A.depth + 1 + 2 < 1000; lia) I fun h₂ tk I₂ => ⟨rfl, ?_⟩
  obtain ⟨dd, a0, sl, hx, _⟩ := I₂.here
  exact hq x h₂ tk dd a0 sl I₂.new I₂.keep hx
end
end
section
open PySem PySem.W PyProof.Rows PySem.Calls
theorem zip_lookup : ∀ (ns : List Str) (vs : List Value), ns.Nodup → vs.length = ns.length → (ns.filterMap fun n => ((ns.zip vs).lookup n).map (n, ·)) = ns.zip vs ∧ ∀ n ∈ ns, ((ns.zip vs).lookup n).isSome = true := by
  intro ns
  induction ns with
  | nil => intro vs _ _; exact ⟨rfl, fun n h => nomatch h⟩
  | cons n ns ih =>
    intro vs hn hl
    cases vs with
    | nil => cases hl
    | cons v vs =>
      obtain ⟨h1, h2⟩ := List.nodup_cons.mp hn
      obtain ⟨q1, q2⟩ := ih vs h2 (by simpa using hl)
      have hl : ∀ y ∈ ns, (((n, v) :: ns.zip vs).lookup y) = (ns.zip vs).lookup y := fun y hy => by
        have : (y == n) = false := by
          rw [beq_eq_false_iff_ne]; intro e; rw [e] at hy; exact h1 hy
        rw [List.lookup_cons, this]
      refine ⟨?_, fun y hy => ?_⟩
      · rw [List.zip_cons_cons, List.filterMap_cons]
        have : ((n, v) :: ns.zip vs).lookup n = some v := by rw [List.lookup_cons]; simp
        rw [this]
        simp only [Option.map_some]
        have : ∀ l : List Str, (∀ y ∈ l, y ∈ ns) → (l.filterMap fun y => Option.map (fun x => (y, x)) (((n, v) :: ns.zip vs).lookup y)) = l.filterMap fun y => Option.map (fun x => (y, x)) ((ns.zip vs).lookup y) := by
          intro l
          induction l with
          | nil => intro _; rfl
          | cons y l il => intro hy; simp only [List.filterMap_cons, hl y (hy y (.head _)), il fun z hz => hy z (.tail _ hz)]
        rw [this ns fun _ h => h, q1]
      · rw [List.zip_cons_cons]
        rcases List.mem_cons.mp hy with rfl | hy
        · simp
        · rw [hl y hy]; exact q2 y hy

theorem bind_plain {f : Str} {as : List Arg} {body : List Stmt} {sc : Scope} {pm code doc : Value} (hn : (as.map (·.arg)).Nodup) {vs : List Value} (hl : vs.length = (as.map (·.arg)).length) :
    bindArgs (docDef f ⟨[], as, none, [], [], none, []⟩ body sc pm code doc) ⟨vs, []⟩ = pure ((as.map (·.arg)).zip vs) := by
  obtain ⟨q1, q2⟩ := zip_lookup _ vs hn hl
  have hm : ∀ k, ((as.map (·.arg)).take k).filter (fun n => (((as.map (·.arg)).zip vs).lookup n).isNone) = [] := fun k => by
    rw [List.filter_eq_nil_iff]
    intro n hn' q
    rw [Option.isNone_iff_eq_none] at q
    have := q2 n (List.mem_of_mem_take hn')
    rw [q] at this; cases this
  refine (if_neg (Nat.not_lt.mpr (Nat.le_of_eq hl) ∘ fun q => (Bool.and_eq_true_iff.mp q).1 |> of_decide_eq_true)).trans ?_
  refine (if_neg fun q => Bool.noConfusion ((congrArg (fun l : List Str => !l.isEmpty) (hm _)).symm.trans q)).trans ?_
  have hz : ∀ (k j : Nat), (List.drop k (as.map (·.arg))).zip (List.drop j ([] : List Value)) = [] := fun k j => by rw [List.drop_nil, List.zip_nil_right]
  refine Eq.trans (congrArg (fun l => (forIn l _ _ : Sem (List (Str × Value))) >>= _) (hz _ _)) ?_
  show (pure (List.filterMap (fun n => (List.lookup n ((as.map (·.arg)).zip vs)).map (n, ·)) (as.map (·.arg) ++ [])) : Sem (List (Str × Value))) = _
  rw [List.append_nil, q1]

noncomputable def plainPs (a : Arguments) : Bool := a.posonlyargs.isEmpty && a.vararg.isNone && a.kwonlyargs.isEmpty && a.kw_defaults.isEmpty && a.kwarg.isNone && a.defaults.isEmpty && decide (a.args.map (·.arg)).Nodup

theorem plainPs_eq {a : Arguments} (h : plainPs a = true) : a = ⟨[], a.args, none, [], [], none, []⟩ ∧ (a.args.map (·.arg)).Nodup := by
  obtain ⟨a1, a2, a3, a4, a5, a6, a7⟩ := a
  simp only [plainPs, Bool.and_eq_true, List.isEmpty_iff, Option.isNone_iff_eq_none, decide_eq_true_eq] at h
  obtain ⟨⟨⟨⟨⟨⟨rfl, rfl⟩, rfl⟩, rfl⟩, rfl⟩, rfl⟩, h⟩ := h
  exact ⟨rfl, h⟩

theorem gb_top {p : Program} {loose : List Str} {mean : ExcName → Option Value} {mg mb : Str → Option Value} {w : World} {B : Heap} {K : Frag} {CF D fA fC : Addr} (T : Top p loose mean mg mb B) (hK : K.In B) (R : RaiseK K mg mb CF D fA fC)
    (hcf : mg "CheckFault" = some (.ref CF)) (hv : PySem.Challenge.pw_pb0003_01.main.body.filterMap fdOf = (recsOf p).map fun d => (d.name, ⟨d.params.args.map (·.arg), d.body, d.scope⟩))
    (hp : (recsOf p).all (fun d => plainPs d.params) = true) (hfree : ∀ f, f ∈ (["len", "range", "str", "sorted", "list"] : List Str) → mg f = none) : GB w B CF where
  lim := T.nolimit
  fn := by
    refine ⟨mg, mb, T.g, T.b, fun f fd hf => ?_, fun f _ hb => ⟨hfree f hb, T.builtins f fun e => by subst e; revert hb; decide⟩, hcf⟩
    have hm := mem_of_lookup hf
    rw [hv] at hm
    obtain ⟨d, hd, e⟩ := List.mem_map.mp hm
    obtain ⟨a, o, pm, code, doc, h1, h2, h3, h4⟩ := T.fn d hd
    obtain ⟨rfl, rfl⟩ := Prod.mk.inj e
    obtain ⟨q1, q2⟩ := plainPs_eq (List.all_eq_true.mp hp d hd)
    refine ⟨a, o, pm, code, doc, d.params, h1, h2, h3, h4, fun vs hl => ?_⟩
    rw [q1]
    exact bind_plain q2 hl
  ex := by
    obtain ⟨nm, q, N, bs, sn, sub, ab, col, dd, k0, k1, k2, k3, k5, e⟩ := R.cls.ob
    exact ⟨_, _, _, _, _, _, _, _, _, _, _, _, _, _, _, _, _, hK _ _ e, by simp⟩
  raise := fun A s E Q x t y u hd _ _ hk hq => by
    have kb : ∀ h, KeptP s.heap.get? h → ∀ b o, B.get? b = some o → h.get? b = some o := fun h k b o e => k b o (hk b o e)
    exact raise_made R ⟨fun a o e => hk a o (hK a o e), fun h k => T.nolimit.keeps (kb h k), fun h k => T.g.keeps (kb h k), fun h k => T.b.keeps (kb h k)⟩ hd hq
end
section
open PySem
theorem ofString_inj (a b : String) : (Str.ofString a == Str.ofString b) = (a == b) := by
  rw [Str.ofString_eq_toList, Str.ofString_eq_toList]
  by_cases h : a = b
  · subst h; simp
  · have hb : (a == b) = false := by simpa using h
    rw [hb, beq_eq_false_iff_ne]
    intro q
    apply h
    have q1 : (a.toList.map Char.toNat) = (b.toList.map Char.toNat) := by
      have := congrArg (fun x : Str => x.cps.toList) q
      simpa using this
    have inj : Function.Injective Char.toNat := fun c d e => by
      apply Char.ext
      exact UInt32.toNat.inj e
    exact String.toList_inj.mp ((List.map_inj_right (fun x y e => inj e)).mp q1)



/-- the function's text -/
noncomputable def dieFD : FD := (funs "_law_die").getD ⟨[], [], default⟩


/-! The evaluator's steps as rules: what holds of what a step gives. -/

/-- the outcome is well, and Q holds of it; an exception only where x -/
noncomputable def Wp {α : Type} (o : Out α) (Q : α → M → Prop) (x : Prop) : Prop := match o with
  | .ok a m => Q a m
  | .exc _ => x
  | .stuck => False

section
variable {α β : Type} {n : Nat} {c : Ctx} {m : M} {x : Prop} {o : Out α}

theorem Wp.bind {f : α → M → Out β} {Q : β → M → Prop} (h : Wp o (fun a m => Wp (f a m) Q x) x) : Wp (o.bind f) Q x := by
  cases o with
  | ok a m => exact h
  | exc m => exact h
  | stuck => exact h
theorem Wp.mono {Q Q' : α → M → Prop} {x' : Prop} (h : Wp o Q x) (q : ∀ a m, Q a m → Q' a m) (hx : x → x') : Wp o Q' x' := by
  cases o with
  | ok a m => exact q a m h
  | exc m => exact hx h
  | stuck => exact h
theorem wp_ok {Q : α → M → Prop} {a : α} (q : Q a m) : Wp (.ok a m) Q x := q
theorem wp_eq {Q : α → M → Prop} {o' : Out α} (e : o = o') (h : Wp o' Q x) : Wp o Q x := e ▸ h

/-! what a map gives -/
theorem lookup_updP : ∀ (m : M) (y z : Str) (e : Ent), (upd m y e).lookup z = if z == y then some e else m.lookup z
  | [], y, z, e => by
    unfold upd
    rw [List.lookup_cons]
    cases z == y <;> rfl
  | (w, f) :: r, y, z, e => by
    unfold upd
    by_cases h : y == w
    · rw [if_pos h, List.lookup_cons, List.lookup_cons]
      have : y = w := by simpa using h
      subst this
      cases z == y <;> rfl
    · rw [if_neg h, List.lookup_cons, List.lookup_cons, lookup_updP r y z e]
      cases h' : z == w with
      | false => rfl
      | true =>
        have e1 : z = w := by simpa using h'
        subst e1
        have : (z == y) = false := by
          rw [beq_eq_false_iff_ne]; intro q; subst q; simp at h
        rw [this]; rfl
theorem lk_here {y : Str} {e : Ent} : (upd m y e).lookup y = some e := by rw [lookup_updP]; simp
theorem lk_skip {y z : Str} {e : Ent} {r : Option Ent} (h : (z == y) = false) (q : m.lookup z = r) : (upd m y e).lookup z = r := by rw [lookup_updP, h]; exact q
theorem get_var {y : Str} {e : Ent} (h : m.lookup y = some e) : (R.var y).get m = some e.v := by show (m.lookup y).map (·.v) = _; rw [h]; rfl

theorem get_v {v : SV} : (R.v v).get m = some v := rfl
theorem get_f {v : SV} : (R.fresh v).get m = some v := rfl
/-- a plain variable of the block -/
noncomputable def plainKind (cv fc : Bool) : NameKind → Bool
  | .local => !cv
  | .cell => !cv
  | .free => cv && fc
  | _ => false
noncomputable def plainVar (c : Ctx) (y : Str) : Bool := !(y == "__debug__" || y == "__classdict__") && with1 (c.sc.names.lookup y) false (plainKind c.cv.isSome (c.fs.names.lookup y == some .cell))
theorem rdKind_plain {cv : Option (Str × SV)} {fc : Bool} {o : Option Ent} {y : Str} {k : NameKind} (h : plainKind cv.isSome fc k = true) : rdKind cv fc o y k = varR o y := by
  cases k with
  | «local» => cases cv with
    | none => rfl
    | some p => exact ff_tt h
  | cell => cases cv with
    | none => rfl
    | some p => exact ff_tt h
  | free => cases cv with
    | none => exact ff_tt h
    | some p => exact if_pos h
  | _ => exact ff_tt h
theorem rd_plain {y : Str} (h : plainVar c y = true) : rdName c m y = (m.lookup y).map fun e => if e.own then R.var y else .v e.v := by
  obtain ⟨h1, h2⟩ := Bool.and_eq_true_iff.mp h
  refine (if_neg fun q => ?_).trans ?_
  · rw [q] at h1; exact ff_tt h1
  · cases hl : c.sc.names.lookup y with
    | none => rw [hl] at h2; exact ff_tt h2
    | some k => rw [hl] at h2; exact rdKind_plain h2

theorem rd_own {y : Str} {s : SV} (h : plainVar c y = true) (hl : m.lookup y = some ⟨true, s⟩) : varN (rdName c m y) = some y := by rw [rd_plain h, hl]; rfl

/-! expressions -/
section
variable {Q : R → M → Prop}
theorem wp_int {i : Int} {u : Nat} {p : Pos} (q : Q (.v (.d (.int i))) m) : Wp (ev (n + 1) c (.Constant (.int i) u p) m) Q x := q
theorem wp_true {u : Nat} {p : Pos} (q : Q (.v (.d (.bool true))) m) : Wp (ev (n + 1) c (.Constant (.bool true) u p) m) Q x := q
theorem wp_false {u : Nat} {p : Pos} (q : Q (.v (.d (.bool false))) m) : Wp (ev (n + 1) c (.Constant (.bool false) u p) m) Q x := q
theorem wp_none {u : Nat} {p : Pos} (q : Q (.v (.d .none)) m) : Wp (ev (n + 1) c (.Constant .none u p) m) Q x := q
theorem wp_str {s : Str} {u : Nat} {p : Pos} (h : (PyData.strOk s && decide (s.length ≤ 1000)) = true) (q : Q (.v (.d (.str s))) m) : Wp (ev (n + 1) c (.Constant (.str s) u p) m) Q x := by
  show Wp (match constD (.str s) with | some d => Out.ok (R.v (.d d)) m | none => .stuck) Q x
  have e : constD (.str s) = some (.str s) := by
    show (if _ then _ else _) = _
    rw [if_pos h]
  rw [e]; exact q
theorem wp_nameF {y : Str} {v : SV} {p : Pos} (h : plainVar c y = true) (hl : m.lookup y = some ⟨false, v⟩) (q : Q (.v v) m) : Wp (ev (n + 1) c (.Name y p) m) Q x := by
  show Wp (match rdName c m y with | some r => .ok r m | none => .stuck) Q x
  rw [rd_plain h, hl]; exact q
theorem wp_nameO {y : Str} {v : SV} {p : Pos} (h : plainVar c y = true) (hl : m.lookup y = some ⟨true, v⟩) (q : Q (.var y) m) : Wp (ev (n + 1) c (.Name y p) m) Q x := by
  show Wp (match rdName c m y with | some r => .ok r m | none => .stuck) Q x
  rw [rd_plain h, hl]; exact q
theorem wp_nameC {y : Str} {v : SV} {p : Pos} (h1 : c.cv = some (y, v)) (h2 : (y == "__debug__" || y == "__classdict__") = false) (h3 : c.sc.names.lookup y = some .local) (q : Q (.v v) m) : Wp (ev (n + 1) c (.Name y p) m) Q x := by
  show Wp (match rdName c m y with | some r => .ok r m | none => .stuck) Q x
  have : rdName c m y = some (.v v) := by
    unfold rdName
    rw [if_neg (by rw [h2]; decide), h3, h1]
    exact if_pos (beq_self_eq_true y)
  rw [this]; exact q
theorem wp_bin {l r : Expr} {op : Operator} {p : Pos} (h : Wp (ev n c l m) (fun a m₁ => Wp (ev n c r m₁) (fun b m₂ => Wp (binop op (a.get m₂) (b.get m₂) m₂) Q x) x) x) : Wp (ev (n + 1) c (.BinOp l op r p) m) Q x :=
  Wp.bind (h.mono (fun _ _ h => Wp.bind h) id)
theorem wp_bin_ok {op : Operator} {a b r : R} {va vb : SV} {m' : M} (ha : a.get m = some va) (hb : b.get m = some vb) (hv : binop op (some va) (some vb) m = .ok r m') (q : Q r m') : Wp (binop op (a.get m) (b.get m) m) Q x := by rw [ha, hb, hv]; exact q
theorem wp_cmp {l r : Expr} {op : CmpOp} {p : Pos} (h : Wp (ev n c l m) (fun a m₁ => Wp (ev n c r m₁) (fun b m₂ => ∃ q, cmp op (a.get m₂) (b.get m₂) = some q ∧ Q (.v (.d (.bool q))) m₂) x) x) : Wp (ev (n + 1) c (.Compare l [op] [r] p) m) Q x :=
  Wp.bind (h.mono (fun _ _ h => Wp.bind (h.mono (fun _ m h => by obtain ⟨q, e, h⟩ := h; rw [e]; exact h) id)) id)
theorem wp_cmp_ok {op : CmpOp} {a b : R} {va vb : SV} {q : Bool} {P : Bool → Prop} (ha : a.get m = some va) (hb : b.get m = some vb) (hv : cmp op (some va) (some vb) = some q) (h : P q) : ∃ q, cmp op (a.get m) (b.get m) = some q ∧ P q := ⟨q, by rw [ha, hb, hv], h⟩
theorem wp_sub {a i : Expr} {p : Pos} (hs : isSlice i = false) (h : Wp (ev n c a m) (fun r m₁ => Wp (ev n c i m₁) (fun k m₂ => ∃ d, item (r.get m₂) (k.get m₂) = some d ∧ Q (.v (.d d)) m₂) x) x) : Wp (ev (n + 1) c (.Subscript a i p) m) Q x := by
  have e : ev (n + 1) c (.Subscript a i p) m = (ev n c a m).bind fun r m => (ev n c i m).bind fun k m => match item (r.get m) (k.get m) with
      | some d => .ok (.v (.d d)) m
      | none => .stuck := by
    cases i <;> first | rfl | cases hs
  rw [e]
  exact Wp.bind (h.mono (fun _ _ h => Wp.bind (h.mono (fun _ m h => by obtain ⟨d, e, h⟩ := h; rw [e]; exact h) id)) id)
theorem wp_item_ok {a b : R} {va vb : SV} {d : PyData} {P : PyData → Prop} (ha : a.get m = some va) (hb : b.get m = some vb) (hv : item (some va) (some vb) = some d) (h : P d) : ∃ d, item (a.get m) (b.get m) = some d ∧ P d := ⟨d, by rw [ha, hb, hv], h⟩
theorem wp_mod {a b : R} {i j : Int} (ha : a.get m = some (.d (.int i))) (hb : b.get m = some (.d (.int j))) (hj : j ≠ 0) (q : Q (.v (.d (.int (i.fmod j)))) m) : Wp (binop .Mod (a.get m) (b.get m) m) Q x := by
  rw [ha, hb]
  show Wp (if (j != 0) = true then _ else _) Q x
  rw [if_pos (by simpa using hj)]; exact q
theorem wp_mul {a b : R} {i j : Int} (ha : a.get m = some (.d (.int i))) (hb : b.get m = some (.d (.int j))) (hs : (small i && small j) = true) (q : Q (.v (.d (.int (i * j)))) m) : Wp (binop .Mult (a.get m) (b.get m) m) Q x := by
  rw [ha, hb]
  show Wp (if (small i && small j) = true then _ else _) Q x
  rw [if_pos hs]; exact q
theorem wp_fdiv {a b : R} {i j : Int} (ha : a.get m = some (.d (.int i))) (hb : b.get m = some (.d (.int j))) (hs : (small i && small j && j != 0) = true) (q : Q (.v (.d (.int (i.fdiv j)))) m) : Wp (binop .FloorDiv (a.get m) (b.get m) m) Q x := by
  rw [ha, hb]
  show Wp (if (small i && small j && j != 0) = true then _ else _) Q x
  rw [if_pos hs]; exact q
theorem wp_addS {a b : R} {i j : Str} (ha : a.get m = some (.d (.str i))) (hb : b.get m = some (.d (.str j))) (hs : i.length + j.length ≤ lenMax) (q : Q (.v (.d (.str (i ++ j)))) m) : Wp (binop .Add (a.get m) (b.get m) m) Q x := by
  rw [ha, hb]
  show Wp (if i.length + j.length ≤ lenMax then _ else _) Q x
  rw [if_pos hs]; exact q
theorem wp_addL {a b : R} {xs ys : List PyData} (ha : a.get m = some (.d (.list xs))) (hb : b.get m = some (.d (.list ys))) (hs : (xs ++ ys).length ≤ lenMax) (q : Q (.fresh (.d (.list (xs ++ ys)))) m) : Wp (binop .Add (a.get m) (b.get m) m) Q x := by
  rw [ha, hb]
  show Wp (if (xs ++ ys).length ≤ lenMax then _ else _) Q x
  rw [if_pos hs]; exact q
theorem wp_neg {i : Expr} {p : Pos} (h : Wp (ev n c i m) (fun a m => ∃ i, a.get m = some (.d (.int i)) ∧ Q (.v (.d (.int (-i)))) m) x) : Wp (ev (n + 1) c (.UnaryOp .USub i p) m) Q x :=
  Wp.bind (h.mono (fun _ m h => by obtain ⟨i, e, h⟩ := h; rw [e]; exact h) id)

/-- a call of a builtin -/
theorem wp_built {f : Str} {p q : Pos} {a : Expr} (hg : (c.sc.names.lookup f == some .globalImplicit && f != "__debug__") = true) (hs : noStar [a] = true) (hf : funs f = none) (hk : known f = true)
    (h : Wp (ev n c a m) (fun r m => Wp (builtin1 f (r.get m) m) Q x) x) : Wp (ev (n + 1) c (.Call (.Name f p) [a] [] q) m) Q x := by
  show Wp (if c.sc.names.lookup f == some .globalImplicit && f != "__debug__" && noStar [a] then _ else _) Q x
  rw [hg, hs, if_pos (by decide), hf]
  simp only [hk, if_true]
  exact Wp.bind h
theorem wp_len {r : R} {v : SV} {k : Nat} (h : r.get m = some v) (hl : lenOf v = some k) (q : Q (.v (.d (.int k))) m) : Wp (builtin1 "len" (r.get m) m) Q x := by
  rw [b1_len, h, Option.bind_some, hl]; exact q
end

/-! conditions -/
noncomputable def TruthIs (a : R) (m : M) (Q : Bool → M → Prop) : Prop := ∃ q, truth (a.get m) = some q ∧ Q q m
theorem wp_truth {a : R} {q : Bool} {Q : Bool → M → Prop} (ha : a.get m = some (.d (.bool q))) (h : Q q m) : TruthIs a m Q := ⟨q, by rw [ha]; rfl, h⟩

theorem wpB_cmp {Q : Bool → M → Prop} {l r : Expr} {op : CmpOp} {p : Pos} (h : Wp (ev n c (.Compare l [op] [r] p) m) (fun a m => TruthIs a m Q) x) : Wp (evB (n + 1) c (.Compare l [op] [r] p) m) Q x := by
  show Wp ((ev n c (.Compare l [op] [r] p) m).bind _) Q x
  exact Wp.bind (h.mono (fun _ m h => by obtain ⟨q, e, h⟩ := h; rw [e]; exact h) id)

/-! statements -/
/-- what is to hold behind a statement that others follow -/
noncomputable def SeqQ (n : Nat) (c : Ctx) (r : List Stmt) (x : Prop) (Q : Fl → M → Prop) (f : Fl) (m : M) : Prop := match f with
  | .next => Wp (exs n c r m) Q x
  | f => Q f m
/-- what is to hold behind a turn of a loop -/
noncomputable def ForQ (J : M → Prop) (Q : Fl → M → Prop) (f : Fl) (m : M) : Prop := match f with
  | .next => J m
  | .cont => J m
  | .brk => Q .next m
  | .ret v => Q (.ret v) m
section
variable {Q : Fl → M → Prop}
theorem seq_next {r : List Stmt} (h : Wp (exs n c r m) Q x) : SeqQ n c r x Q .next m := h
theorem seq_cont {r : List Stmt} (h : Q .cont m) : SeqQ n c r x Q .cont m := h
theorem seq_brk {r : List Stmt} (h : Q .brk m) : SeqQ n c r x Q .brk m := h
theorem seq_ret {r : List Stmt} {v : SV} (h : Q (.ret v) m) : SeqQ n c r x Q (.ret v) m := h
theorem for_next {J : M → Prop} (h : J m) : ForQ J Q .next m := h
theorem for_cont {J : M → Prop} (h : J m) : ForQ J Q .cont m := h
theorem for_brk {J : M → Prop} (h : Q .next m) : ForQ J Q .brk m := h
theorem for_ret {J : M → Prop} {v : SV} (h : Q (.ret v) m) : ForQ J Q (.ret v) m := h
theorem wps_cons {s : Stmt} {r : List Stmt} (h : Wp (ex n c s m) (SeqQ n c r x Q) x) : Wp (exs (n + 1) c (s :: r) m) Q x :=
  Wp.bind (h.mono (fun f m h => by cases f <;> exact h) id)
theorem wps_nil (q : Q .next m) : Wp (exs (n + 1) c [] m) Q x := q
theorem wp_Return {e : Expr} {p : Pos} (h : Wp (ev n c e m) (fun r m => Wp (r.frz m) (fun s m => Q (.ret s) m) x) x) : Wp (ex (n + 1) c (.Return (some e) p) m) Q x :=
  Wp.bind (h.mono (fun _ _ h => Wp.bind (h.mono (fun _ _ h => h) id)) id)
theorem wp_frzV {Q : SV → M → Prop} {v : SV} (q : Q v m) : Wp ((R.v v).frz m) Q x := q
theorem wp_frzF {Q : SV → M → Prop} {v : SV} (q : Q v m) : Wp ((R.fresh v).frz m) Q x := q
theorem wp_frzO {Q : SV → M → Prop} {y : Str} {e : Ent} (h : m.lookup y = some e) (q : Q e.v (upd m y ⟨false, e.v⟩)) : Wp ((R.var y).frz m) Q x := by unfold R.frz; simp only [h]; exact q
theorem wp_If {t : Expr} {b o : List Stmt} {p : Pos} (h : Wp (evB n c t m) (fun q m => (q = true → Wp (exs n c b m) Q x) ∧ (q = false → Wp (exs n c o m) Q x)) x) : Wp (ex (n + 1) c (.If t b o p) m) Q x :=
  Wp.bind (h.mono (fun q m h => by cases q; exact h.2 rfl; exact h.1 rfl) id)
theorem wp_AugSub {y : Str} {yp ip kp sp pos : Pos} {u u2 : Nat} {i k a : Int} {xs : List PyData} {j : Nat} (h : plainVar c y = true) (hl : m.lookup y = some ⟨true, .d (.list xs)⟩) (hj : (if 0 ≤ i then place xs.length i else none) = some j)
    (ha : xs[j]? = some (.int a)) (q : Q .next (upd m y ⟨true, .d (.list (xs.set j (.int (a + k))))⟩)) :
    Wp (ex (n + 1) c (.AugAssign (.Subscript (.Name y yp) (.Constant (.int i) u ip) sp) .Add (.Constant (.int k) u2 kp) pos) m) Q x := by
  show Wp (with1 (varN (rdName c m y)) .stuck fun y => with1 (ownL m y) .stuck fun xs => with1 (if 0 ≤ i then place xs.length i else none) .stuck fun j => with1 ((xs[j]?).bind intD) .stuck fun a => .ok .next (putL m y (xs.set j (.int (a + k))))) Q x
  rw [rd_own h hl]
  show Wp (with1 (ownL m y) _ _) Q x
  rw [ownL_of hl]
  show Wp (with1 (if 0 ≤ i then place xs.length i else none) _ _) Q x
  rw [hj]
  show Wp (with1 ((xs[j]?).bind intD) _ _) Q x
  rw [ha]; exact q
theorem wp_AssignN {y : Str} {q p : Pos} {e : Expr} (h : (bindable c y && !isDC e) = true) (hw : Wp (ev n c e m) (fun r m => Wp (storeR y r m) (fun _ m => Q .next m) x) x) : Wp (ex (n + 1) c (.Assign [.Name y q] e p) m) Q x := by
  show Wp (if (bindable c y && !isDC e) = true then _ else _) Q x
  rw [if_pos h]
  exact Wp.bind (hw.mono (fun _ _ h => Wp.bind (h.mono (fun _ _ h => h) id)) id)
theorem wp_ExprS {f : Expr} {a : List Expr} {k : List Keyword} {q p : Pos} (h : Wp (ev n c (.Call f a k q) m) (fun r m => r = .v (.d .none) ∧ Q .next m) x) : Wp (ex (n + 1) c (.Expr (.Call f a k q) p) m) Q x :=
  Wp.bind (h.mono (fun _ m h => by obtain ⟨rfl, h⟩ := h; exact h) id)
theorem wp_Break {p : Pos} (q : Q .brk m) : Wp (ex (n + 1) c (.Break p) m) Q x := q
theorem wp_Continue {p : Pos} (q : Q .cont m) : Wp (ex (n + 1) c (.Continue p) m) Q x := q
theorem wp_For {t i : Expr} {b : List Stmt} {p : Pos} (h : Wp (ev n c i m) (fun r m => Wp (r.frz m) (fun s m => ∃ items, itemsOf s = some items ∧ Wp (forLoop (fun s m => (bindTo c t s m).bind fun _ m => exs n c b m) items m) Q x) x) x) : Wp (ex (n + 1) c (.For t i b [] p) m) Q x :=
  Wp.bind (h.mono (fun _ _ h => Wp.bind (h.mono (fun _ _ h => by obtain ⟨is, e, h⟩ := h; rw [e]; exact h) id)) id)
theorem wp_While {t : Expr} {b : List Stmt} {p : Pos} (h : Wp (whileLoop (evB n c t) (exs n c b) whileMax m) Q x) : Wp (ex (n + 1) c (.While t b [] p) m) Q x := h
theorem wp_AssignT {ts : List Expr} {k : Nat} {e : Expr} {p q : Pos} (ht : tupleOf e = none) (h : Wp (ev n c e m) (fun r m => Wp (r.frz m) (fun s m => Wp (bindTo c (.Tuple ts k p) s m) (fun _ m => Q .next m) x) x) x) : Wp (ex (n + 1) c (.Assign [.Tuple ts k p] e q) m) Q x := by
  have e0 : ex (n + 1) c (.Assign [.Tuple ts k p] e q) m = (match tupleOf e with
        | some es => (match twoNames ts, es with
          | some (x, y), [e₁, e₂] => if bindable c x && bindable c y && x != y && !(constantsAlone 8 e₁ && constantsAlone 8 e₂) && noStar [e₁, e₂] then
              (evRs n c [e₁, e₂] m).bind fun rs m => match rs with
                | [r₁, r₂] => (storeF x r₁ m).bind fun _ m => (storeF y r₂ m).bind fun _ m => .ok .next m
                | _ => .stuck
            else .stuck
          | _, _ => .stuck)
        | none => (ev n c e m).bind fun r m => (r.frz m).bind fun s m => (bindTo c (.Tuple ts k p) s m).bind fun _ m => .ok .next m) := rfl
  rw [e0, ht]
  exact Wp.bind (h.mono (fun _ _ h => Wp.bind (h.mono (fun _ _ h => Wp.bind h) id)) id)
theorem wp_Assign2 {y z : Str} {yp zp p0 p1 p2 : Pos} {k k' : Nat} {e₁ e₂ : Expr} (hc : (bindable c y && bindable c z && y != z && !(constantsAlone 8 e₁ && constantsAlone 8 e₂) && noStar [e₁, e₂]) = true)
    (h : Wp (evRs n c [e₁, e₂] m) (fun rs m => ∃ r₁ r₂, rs = [r₁, r₂] ∧ Wp (storeF y r₁ m) (fun _ m => Wp (storeF z r₂ m) (fun _ m => Q .next m) x) x) x) : Wp (ex (n + 1) c (.Assign [.Tuple [.Name y yp, .Name z zp] k p0] (.Tuple [e₁, e₂] k' p1) p2) m) Q x := by
  show Wp (if (bindable c y && bindable c z && y != z && !(constantsAlone 8 e₁ && constantsAlone 8 e₂) && noStar [e₁, e₂]) = true then _ else _) Q x
  rw [if_pos hc]
  exact Wp.bind (h.mono (fun _ _ h => by obtain ⟨r₁, r₂, rfl, h⟩ := h; exact Wp.bind (h.mono (fun _ _ h => Wp.bind h) id)) id)
theorem wp_AssignSub {y : Str} {i e : Expr} {p q r : Pos} (hs : isSlice i = false) (hp : plainVar c y = true)
    (h : Wp (evD n c e m) (fun v m => (∃ s₀, m.lookup y = some ⟨true, s₀⟩) ∧ Wp (evD n c i m) (fun k m => ∃ s s', m.lookup y = some ⟨true, s⟩ ∧ put s k v = some s' ∧ Q .next (upd m y ⟨true, s'⟩)) x) x) :
    Wp (ex (n + 1) c (.Assign [.Subscript (.Name y p) i q] e r) m) Q x := by
  show Wp (if isSlice i = true then _ else _) Q x
  rw [hs, if_neg (by decide)]
  refine Wp.bind (h.mono (fun v m h => ?_) id)
  obtain ⟨⟨s₀, e0⟩, h⟩ := h
  rw [rd_own hp e0]
  refine Wp.bind (h.mono (fun k m h => ?_) id)
  obtain ⟨s, s', e1, e2, q⟩ := h
  rw [ownV_of e1]
  show Wp (with1 (put s k v) _ _) Q x
  rw [e2]; exact q
theorem wp_AugName {y : Str} {e : Expr} {p q : Pos} {s₀ : SV} (hb : bindable c y = true) (hp : plainVar c y = true) (hl : m.lookup y = some ⟨true, s₀⟩)
    (h : Wp (ev n c e m) (fun r m => ∃ xs ys, m.lookup y = some ⟨true, .d (.list xs)⟩ ∧ r.get m = some (.d (.list ys)) ∧ xs.length + ys.length ≤ lenMax ∧ Q .next (upd m y ⟨true, .d (.list (xs ++ ys))⟩)) x) :
    Wp (ex (n + 1) c (.AugAssign (.Name y p) .Add e q) m) Q x := by
  show Wp (if bindable c y = true then _ else _) Q x
  rw [if_pos hb, rd_own hp hl]
  refine Wp.bind (h.mono (fun r m h => ?_) id)
  obtain ⟨xs, ys, e1, e2, e3, q⟩ := h
  rw [ownL_of e1, e2]
  show Wp (if xs.length + ys.length ≤ lenMax then _ else _) Q x
  rw [if_pos e3]; exact q
theorem wp_Raise {f a b : Expr} {p q : Pos} (hc : (isCF c f && noStar [a, b]) = true) (h : Wp (evs n c [a, b] m) (fun ds _ => (∃ i t, ds = [.int i, .str t]) ∧ x) x) : Wp (ex (n + 1) c (.Raise (some (.Call f [a, b] [] p)) none q) m) Q x := by
  show Wp (if (isCF c f && noStar [a, b]) = true then _ else _) Q x
  rw [if_pos hc]
  refine Wp.bind (h.mono (fun ds m h => ?_) id)
  obtain ⟨⟨i, t, rfl⟩, h⟩ := h
  exact h
theorem wp_Try {b hb : List Stmt} {t : Expr} {p q : Pos} (hc : (isCF c t && retNone hb) = true) (h : Wp (exs n c b m) Q (∀ m', Q (.ret (.d .none)) m')) : Wp (ex (n + 1) c (.Try b [.ExceptHandler (some t) none hb p] [] [] q) m) Q x := by
  show Wp (if (isCF c t && retNone hb) = true then _ else _) Q x
  rw [if_pos hc]
  cases e : exs n c b m with
  | ok a m' => rw [e] at h; exact h
  | exc m' => rw [e] at h; exact h m'
  | stuck => rw [e] at h; exact h
end
/-! stores -/
section
variable {Q : Unit → M → Prop} {y : Str} {v : SV}
theorem wp_st_v (q : Q () (upd m y ⟨false, v⟩)) : Wp (storeR y (.v v) m) Q x := q
theorem wp_st_f (q : Q () (upd m y ⟨true, v⟩)) : Wp (storeR y (.fresh v) m) Q x := q
theorem wp_st_o {z : Str} {e : Ent} (h : m.lookup z = some e) (q : Q () (upd (upd m z ⟨false, e.v⟩) y ⟨false, e.v⟩)) : Wp (storeR y (.var z) m) Q x := by
  have : storeR y (.var z) m = .ok () (upd (upd m z ⟨false, e.v⟩) y ⟨false, e.v⟩) := by simp only [storeR, h]
  rw [this]; exact q
theorem wp_sf_v (q : Q () (upd m y ⟨false, v⟩)) : Wp (storeF y (.v v) m) Q x := q
theorem wp_sf_f (q : Q () (upd m y ⟨true, v⟩)) : Wp (storeF y (.fresh v) m) Q x := q
theorem wp_bindN {p : Pos} (hb : bindable c y = true) (q : Q () (upd m y ⟨false, v⟩)) : Wp (bindTo c (.Name y p) v m) Q x := by
  show Wp (if bindable c y = true then _ else _) Q x
  rw [if_pos hb]; exact q
theorem wp_bindT {es : List Expr} {k : Nat} {p : Pos} {xs : List Str} {ds : List PyData} {m' : M} (hn : namesOf es = some xs) (hb : xs.all (bindable c) = true) (hm : bindAll xs ds m = some m') (q : Q () m') : Wp (bindTo c (.Tuple es k p) (.d (.tuple ds)) m) Q x := by
  have : bindTo c (.Tuple es k p) (.d (.tuple ds)) m = .ok () m' := by
    show with2 (namesOf es) (some ds) _ _ = _
    rw [hn]
    show (if xs.all (bindable c) = true then with1 (bindAll xs ds m) _ _ else _) = _
    rw [if_pos hb, hm]; rfl
  rw [this]; exact q
end
/-! more expressions -/
section
variable {Q : R → M → Prop}
theorem wp_tuple {es : List Expr} {k : Nat} {p : Pos} (h : Wp (evs n c es m) (fun ds m => ds.length ≤ 1000 ∧ Q (.v (.d (.tuple ds))) m) x) : Wp (ev (n + 1) c (.Tuple es k p) m) Q x :=
  Wp.bind (h.mono (fun ds m h => by rw [if_pos h.1]; exact h.2) id)
theorem wp_list {es : List Expr} {p : Pos} (h : Wp (evs n c es m) (fun ds m => ds.length ≤ 1000 ∧ Q (.fresh (.d (.list ds))) m) x) : Wp (ev (n + 1) c (.List es p) m) Q x :=
  Wp.bind (h.mono (fun ds m h => by rw [if_pos h.1]; exact h.2) id)
theorem wp_dict0 {p : Pos} (q : Q (.fresh (.dt [])) m) : Wp (ev (n + 1) c (.Dict [] [] p) m) Q x := q
theorem wp_dict1 {k v : Expr} {p : Pos} (h : Wp (evD n c k m) (fun dk m => Wp (evD n c v m) (fun dv m => ∃ k, tupKey dk = some k ∧ Q (.fresh (.dt [(k, dv)])) m) x) x) : Wp (ev (n + 1) c (.Dict [some k] [v] p) m) Q x :=
  Wp.bind (h.mono (fun _ _ h => Wp.bind (h.mono (fun _ _ h => by obtain ⟨k, e, h⟩ := h; rw [e]; exact h) id)) id)
theorem wp_IfExp {t a b : Expr} {p : Pos} (h : Wp (evB n c t m) (fun q m => (q = true → Wp (ev n c a m) Q x) ∧ (q = false → Wp (ev n c b m) Q x)) x) : Wp (ev (n + 1) c (.IfExp t a b p) m) Q x :=
  Wp.bind (h.mono (fun q m h => by cases q; exact h.2 rfl; exact h.1 rfl) id)
theorem wp_and {a b : Expr} {p : Pos} (h : Wp (ev n c a m) (fun r m => ∃ q, truth (r.get m) = some q ∧ (q = false → Q r m) ∧ (q = true → Wp (ev n c b m) Q x)) x) : Wp (ev (n + 1) c (.BoolOp .And [a, b] p) m) Q x :=
  Wp.bind (h.mono (fun r m h => by obtain ⟨q, e, h1, h2⟩ := h; rw [e]; cases q; exact h1 rfl; exact h2 rfl) id)
theorem wp_slice {a : Expr} {lo hi : Option Expr} {p q : Pos} (h : Wp (ev n c a m) (fun r m => Wp (evO n c lo m) (fun lo m => Wp (evO n c hi m) (fun hi m => ∃ xs ys, r.get m = some (.d (.list xs)) ∧ sliceL xs lo hi = some ys ∧ ys.length ≤ lenMax ∧ Q (.fresh (.d (.list ys))) m) x) x) x) :
    Wp (ev (n + 1) c (.Subscript a (.Slice lo hi none p) q) m) Q x :=
  Wp.bind (h.mono (fun r m h => Wp.bind (h.mono (fun lo m h => Wp.bind (h.mono (fun hi m h => by
    obtain ⟨xs, ys, e1, e2, e3, h⟩ := h
    rw [e1, show with1 (listV (some (SV.d (.list xs)))) Out.stuck (fun xs => with1 (sliceL xs lo hi) .stuck fun ys => mkL ys _) = with1 (sliceL xs lo hi) .stuck (fun ys => mkL ys _) from rfl, e2]
    show Wp (if ys.length ≤ lenMax then _ else _) Q x
    rw [if_pos e3]; exact h) id)) id)) id)
theorem wp_LC {elt iter : Expr} {ifs : List Expr} {y : Str} {sc : Scope} {p q : Pos} (hc : compOk c ⟨.Name y p, iter, ifs, 0⟩ sc y = true)
    (h : Wp (ev n c iter m) (fun r m => Wp (r.frz m) (fun s m => (∀ kvs, s ≠ .dt kvs) ∧ ∃ items, itemsOf s = some items ∧ Wp (compLoop (fun s m =>
      (evBs n { c with sc := sc, cv := some (y, s) } ifs m).bind fun b m => match b with
        | true => (evD n { c with sc := sc, cv := some (y, s) } elt m).bind fun d m => .ok (some d) m
        | false => .ok none m) items [] m) (fun ds m => Q (.fresh (.d (.list ds))) m) x) x) x) : Wp (ev (n + 1) c (.ListComp elt [⟨.Name y p, iter, ifs, 0⟩] sc q) m) Q x := by
  show Wp (if compOk c ⟨.Name y p, iter, ifs, 0⟩ sc y = true then _ else _) Q x
  rw [if_pos hc]
  refine Wp.bind (h.mono (fun r m h => Wp.bind (h.mono (fun s m h => ?_) id)) id)
  obtain ⟨hd, items, e, h⟩ := h
  cases s with
  | dt kvs => exact absurd rfl (hd kvs)
  | d v => simp only [e]; exact Wp.bind (h.mono (fun _ _ h => h) id)
  | di v => simp only [e]; exact Wp.bind (h.mono (fun _ _ h => h) id)
  | rng v => simp only [e]; exact Wp.bind (h.mono (fun _ _ h => h) id)
theorem wp_DC {iter : Expr} {y : Str} {u : Nat} {sc : Scope} {p p' q k : Pos} {bx : Pos} (hc : (compOk c ⟨.Name y p, iter, [], 0⟩ sc y && y == y && ([] : List Expr).isEmpty && y != "__debug__") = true)
    (h : Wp (ev n c iter m) (fun r m => Wp (r.frz m) (fun s m => ∃ is : List Int, s = .d (.list (is.map .int)) ∧ is.length ≤ lenMax ∧ Q (.fresh (.di (is.foldl addK []))) m) x) x) :
    Wp (ev (n + 1) c (.DictComp (.Name y p') (.Constant (.bool true) u bx) [⟨.Name y p, iter, [], 0⟩] sc q) m) Q x := by
  show Wp (if (compOk c ⟨.Name y p, iter, [], 0⟩ sc y && y == y && ([] : List Expr).isEmpty && y != "__debug__") = true then _ else _) Q x
  rw [if_pos hc]
  refine Wp.bind (h.mono (fun r m h => Wp.bind (h.mono (fun s m h => ?_) id)) id)
  obtain ⟨is, rfl, hl, h⟩ := h
  have e : ∀ f : PyData → Option Int, (∀ i, f (.int i) = some i) → (is.map PyData.int).mapM f = some is := by
    intro f hf
    clear hl h
    induction is with
    | nil => rfl
    | cons i is ih => rw [List.map_cons, List.mapM_cons, ih, hf]; rfl
  simp only
  rw [e _ fun _ => rfl]
  simp only
  rw [if_pos (by simpa using hl)]; exact h
/-! builtins -/
theorem wp_range {r : R} {i : Int} (h : r.get m = some (.d (.int i))) (hi : 0 ≤ i ∧ i < 2 ^ 20) (q : Q (.v (.rng i.toNat)) m) : Wp (builtin1 "range" (r.get m) m) Q x := by
  rw [b1_range, h]
  show Wp (if _ then _ else _) Q x
  rw [if_pos hi]; exact q
theorem wp_strB {r : R} {i : Int} (h : r.get m = some (.d (.int i))) (hi : i.natAbs ≤ 1000) (q : Q (.v (.d (.str (Str.ofString (toString i))))) m) : Wp (builtin1 "str" (r.get m) m) Q x := by
  rw [b1_str, h]
  show Wp (if _ then _ else _) Q x
  rw [if_pos hi]; exact q
theorem wp_sorted {r : R} {ks : List Int} (h : r.get m = some (.di ks)) (hi : ks.length < 64) (q : Q (.fresh (.d (.list ((ks.mergeSort (· ≤ ·)).map .int)))) m) : Wp (builtin1 "sorted" (r.get m) m) Q x := by
  rw [b1_sorted, h]
  show Wp (if ks.length < 64 then mkL ((ks.mergeSort (· ≤ ·)).map .int) m else _) Q x
  unfold mkL
  rw [if_pos hi, if_pos (by rw [List.length_map, List.length_mergeSort]; unfold lenMax; lia)]; exact q
theorem wp_listB {r : R} {kvs : List (List Str × PyData)} (h : r.get m = some (.dt kvs)) (hi : kvs.length ≤ lenMax) (q : Q (.fresh (.d (.list (kvs.map fun p => keyTup p.1)))) m) : Wp (builtin1 "list" (r.get m) m) Q x := by
  rw [b1_list, h]
  show Wp (mkL (kvs.map fun p => keyTup p.1) m) Q x
  unfold mkL
  rw [if_pos (by simpa using hi)]; exact q
/-! calls -/
theorem wp_call {f : Str} {p q : Pos} {args : List Expr} {fd : FD} (hg : (c.sc.names.lookup f == some .globalImplicit && f != "__debug__") = true) (hs : noStar args = true) (hf : funs f = some fd)
    (h : Wp (evRs n c args m) (fun rs m' => (varsOf rs).Nodup ∧ ∃ m₀, bindP fd.ps rs m' = some m₀ ∧ Wp (exs n ⟨fd.scope, fd.ps, fd.scope, none⟩ fd.body m₀) (fun fl m₁ => ∃ v, fl = .ret v ∧ ∃ m₂, back fd.ps rs m₁ m' = some m₂ ∧ Q (.v v) m₂) (x ∧ ∀ m₁, (back fd.ps rs m₁ m').isSome = true)) x) :
    Wp (ev (n + 1) c (.Call (.Name f p) args [] q) m) Q x := by
  show Wp (if c.sc.names.lookup f == some .globalImplicit && f != "__debug__" && noStar args then _ else _) Q x
  rw [hg, hs, if_pos (by decide), hf]
  refine Wp.bind (h.mono (fun rs m' h => ?_) id)
  obtain ⟨h1, m₀, h2, h3⟩ := h
  rw [if_pos h1, h2]
  simp only
  cases e : exs n ⟨fd.scope, fd.ps, fd.scope, none⟩ fd.body m₀ with
  | ok a m₁ =>
    rw [e] at h3
    obtain ⟨v, rfl, m₂, h4, h5⟩ := h3
    simp only [h4]; exact h5
  | exc m₁ =>
    rw [e] at h3
    obtain ⟨m₂, h4⟩ := Option.isSome_iff_exists.mp (h3.2 m₁)
    simp only [h4]; exact h3.1
  | stuck => rw [e] at h3; exact h3.elim
theorem bindP_v : ∀ (ps : List Str) (vs : List SV) (m : M), vs.length = ps.length → bindP ps (vs.map .v) m = some (ps.zip (vs.map fun v => ⟨false, v⟩))
  | [], [], _, _ => rfl
  | p :: ps, v :: vs, m, h => by
    show (bindP ps (vs.map .v) m).map _ = _
    rw [bindP_v ps vs m (by simpa using h)]; rfl
  | [], _ :: _, _, h => by cases h
  | _ :: _, [], _, h => by cases h
theorem back_v : ∀ (ps : List Str) (vs : List SV) (m₁ m : M), vs.length = ps.length → back ps (vs.map .v) m₁ m = some m
  | [], [], _, _, _ => rfl
  | p :: ps, v :: vs, m₁, m, h => back_v ps vs m₁ m (by simpa using h)
  | [], _ :: _, _, _, h => by cases h
  | _ :: _, [], _, _, h => by cases h
theorem varsOf_v : ∀ vs : List SV, varsOf (vs.map .v) = []
  | [] => rfl
  | _ :: vs => varsOf_v vs
/-- a call with nothing of the caller's own -/
theorem wp_callV {f : Str} {p q : Pos} {args : List Expr} {fd : FD} (hg : (c.sc.names.lookup f == some .globalImplicit && f != "__debug__") = true) (hs : noStar args = true) (hf : funs f = some fd)
    (h : Wp (evRs n c args m) (fun rs m' => ∃ vs : List SV, rs = vs.map .v ∧ vs.length = fd.ps.length ∧ Wp (exs n ⟨fd.scope, fd.ps, fd.scope, none⟩ fd.body (fd.ps.zip (vs.map fun v => ⟨false, v⟩))) (fun fl _ => ∃ v, fl = .ret v ∧ Q (.v v) m') x) x) :
    Wp (ev (n + 1) c (.Call (.Name f p) args [] q) m) Q x := by
  refine wp_call hg hs hf (h.mono (fun rs m' h => ?_) id)
  obtain ⟨vs, rfl, hl, h⟩ := h
  refine ⟨by rw [varsOf_v]; exact List.nodup_nil, _, bindP_v _ _ _ hl, h.mono (fun fl m₁ h => ?_) fun h => ⟨h, fun m₁ => by rw [back_v _ _ _ _ hl]; rfl⟩⟩
  obtain ⟨v, rfl, h⟩ := h
  exact ⟨v, rfl, m', back_v _ _ _ _ hl, h⟩
/-- a method of an own list -/
noncomputable def listMeth (nm : Str) : Bool := nm == "append" || nm == "insert" || nm == "extend" || nm == "pop" || nm == "index"
theorem wp_methL {y nm : Str} {p apos pos : Pos} {args : List Expr} {xs : List PyData} (hc : (noStar args && plainBase (.Name y p) && apos.endLine == pos.line && decide (args.length < 29)) = true) (hp : plainVar c y = true) (hl : m.lookup y = some ⟨true, .d (.list xs)⟩) (hm : listMeth nm = true)
    (h : Wp (evs (n + 1) c args m) (fun ds m => Wp (meth nm (.var y) ds m) Q x) x) : Wp (ev (n + 2) c (.Call (.Attribute (.Name y p) nm apos) args [] pos) m) Q x := by
  show Wp (if (noStar args && plainBase (.Name y p) && apos.endLine == pos.line && decide (args.length < 29)) = true then _ else _) Q x
  rw [if_pos hc]
  have e : ev (n + 1) c (.Name y p) m = .ok (.var y) m := by
    show (match rdName c m y with | some r => Out.ok r m | none => .stuck) = _
    rw [rd_plain hp, hl]; rfl
  rw [e]
  have hr : recv nm (.var y) m = true := by
    show ((ownL m y).isSome && _) = true
    rw [ownL_of hl]; exact hm
  show Wp (if recv nm (.var y) m = true then _ else _) Q x
  rw [if_pos hr]
  exact Wp.bind h
theorem meth_own {nm y : Str} {xs ds : List PyData} (hl : m.lookup y = some ⟨true, .d (.list xs)⟩) : meth nm (.var y) ds m = methL nm y xs ds m := by
  show with1 (ownL m y) _ _ = _
  rw [ownL_of hl]; rfl
theorem wp_append {y : Str} {xs : List PyData} {d : PyData} (hl : m.lookup y = some ⟨true, .d (.list xs)⟩) (hn : xs.length < lenMax) (q : Q (.v (.d .none)) (upd m y ⟨true, .d (.list (xs ++ [d]))⟩)) : Wp (meth "append" (.var y) [d] m) Q x := by
  rw [meth_own hl, mL_1]
  show Wp (if xs.length < lenMax then _ else _) Q x
  rw [if_pos hn]; exact q
theorem wp_insert {y : Str} {xs : List PyData} {i : Int} {d : PyData} (hl : m.lookup y = some ⟨true, .d (.list xs)⟩) (hn : xs.length < lenMax ∧ 0 ≤ i ∧ i ≤ xs.length) (q : Q (.v (.d .none)) (upd m y ⟨true, .d (.list (xs.take i.toNat ++ d :: xs.drop i.toNat))⟩)) : Wp (meth "insert" (.var y) [.int i, d] m) Q x := by
  rw [meth_own hl, mL_2]
  show Wp (if xs.length < lenMax ∧ 0 ≤ i ∧ i ≤ xs.length then _ else _) Q x
  rw [if_pos hn]; exact q
theorem wp_extend {y : Str} {xs ys : List PyData} (hl : m.lookup y = some ⟨true, .d (.list xs)⟩) (hn : xs.length + ys.length ≤ lenMax) (q : Q (.v (.d .none)) (upd m y ⟨true, .d (.list (xs ++ ys))⟩)) : Wp (meth "extend" (.var y) [.list ys] m) Q x := by
  rw [meth_own hl, mL_3]
  show Wp (if xs.length + ys.length ≤ lenMax then _ else _) Q x
  rw [if_pos hn]; exact q
theorem wp_pop {y : Str} {xs : List PyData} {d : PyData} (hl : m.lookup y = some ⟨true, .d (.list xs)⟩) (hn : xs.getLast? = some d) (q : Q (.v (.d d)) (upd m y ⟨true, .d (.list xs.dropLast)⟩)) : Wp (meth "pop" (.var y) [] m) Q x := by
  rw [meth_own hl, mL_4]
  show Wp (with1 xs.getLast? _ _) Q x
  rw [hn]; exact q
theorem wp_index {y : Str} {xs : List PyData} {i : Int} {j : Nat} (hl : m.lookup y = some ⟨true, .d (.list xs)⟩) (hn : idxOf xs (.int i) = some j) (q : Q (.v (.d (.int j))) m) : Wp (meth "index" (.var y) [.int i] m) Q x := by
  rw [meth_own hl, mL_5]
  show Wp (with1 (idxOf xs (.int i)) _ _) Q x
  rw [hn]; exact q
theorem wp_join {sep : Str} {u : Nat} {p apos pos : Pos} {a : Expr} (hc : (noStar [a] && plainBase (.Constant (.str sep) u p) && apos.endLine == pos.line && decide ([a].length < 29)) = true) (hk : (PyData.strOk sep && decide (sep.length ≤ 1000)) = true)
    (h : Wp (evs (n + 1) c [a] m) (fun ds m => ∃ xs s, ds = [.list xs] ∧ joinD sep xs = some s ∧ Q (.v (.d (.str s))) m) x) : Wp (ev (n + 2) c (.Call (.Attribute (.Constant (.str sep) u p) "join" apos) [a] [] pos) m) Q x := by
  show Wp (if (noStar [a] && plainBase (.Constant (.str sep) u p) && apos.endLine == pos.line && decide ([a].length < 29)) = true then _ else _) Q x
  rw [if_pos hc]
  have e : ev (n + 1) c (.Constant (.str sep) u p) m = .ok (.v (.d (.str sep))) m := by
    show (match constD (.str sep) with | some d => Out.ok (R.v (.d d)) m | none => .stuck) = _
    have e : constD (.str sep) = some (.str sep) := by
      show (if _ then _ else _) = _
      rw [if_pos hk]
    rw [e]
  rw [e]
  refine Wp.bind ?_
  show Wp (if recv "join" (.v (.d (.str sep))) m = true then (evs (n + 1) c [a] m).bind (fun ds m => meth "join" (.v (.d (.str sep))) ds m) else .stuck) Q x
  have hj : recv "join" (.v (.d (.str sep))) m = true := by
    show (("join" : Str) == ("join" : Str)) = true
    decide +kernel
  rw [if_pos hj]
  refine Wp.bind (h.mono (fun ds m h => ?_) id)
  obtain ⟨xs, s, rfl, e, h⟩ := h
  have e' : meth "join" (.v (.d (.str sep))) [.list xs] m = .ok (.v (.d (.str s))) m := by
    show with1 (joinD sep xs) _ _ = _
    rw [e]; rfl
  rw [e']; exact h
end
/-! data, lists of expressions -/
theorem wp_D {Q : PyData → M → Prop} {e : Expr} (h : Wp (ev n c e m) (fun r m => Wp (r.frz m) (fun s m => Wp (asD s m) Q x) x) x) : Wp (evD (n + 1) c e m) Q x :=
  Wp.bind (h.mono (fun _ _ h => Wp.bind h) id)
theorem wp_asD {Q : PyData → M → Prop} {d : PyData} (q : Q d m) : Wp (asD (.d d) m) Q x := q
theorem wp_es_nil {Q : List PyData → M → Prop} (q : Q [] m) : Wp (evs (n + 1) c [] m) Q x := q
theorem wp_es_cons {Q : List PyData → M → Prop} {e : Expr} {es : List Expr} (h : Wp (evD n c e m) (fun d m => Wp (evs n c es m) (fun ds m => Q (d :: ds) m) x) x) : Wp (evs (n + 1) c (e :: es) m) Q x :=
  Wp.bind (h.mono (fun _ _ h => Wp.bind h) id)
theorem wp_rs_nil {Q : List R → M → Prop} (q : Q [] m) : Wp (evRs (n + 1) c [] m) Q x := q
theorem wp_rs_cons {Q : List R → M → Prop} {e : Expr} {es : List Expr} (h : Wp (ev n c e m) (fun d m => Wp (evRs n c es m) (fun ds m => Q (d :: ds) m) x) x) : Wp (evRs (n + 1) c (e :: es) m) Q x :=
  Wp.bind (h.mono (fun _ _ h => Wp.bind h) id)
theorem wp_O_none {Q : Option PyData → M → Prop} (q : Q none m) : Wp (evO (n + 1) c none m) Q x := q
theorem wp_O_some {Q : Option PyData → M → Prop} {e : Expr} (h : Wp (evD n c e m) (fun d m => Q (some d) m) x) : Wp (evO (n + 1) c (some e) m) Q x := Wp.bind h
/-! more conditions -/
section
variable {Q : Bool → M → Prop}
theorem wpB_name {y : Str} {p : Pos} (h : Wp (ev n c (.Name y p) m) (fun a m => TruthIs a m Q) x) : Wp (evB (n + 1) c (.Name y p) m) Q x := by
  show Wp ((ev n c (.Name y p) m).bind _) Q x
  exact Wp.bind (h.mono (fun _ m h => by obtain ⟨q, e, h⟩ := h; rw [e]; exact h) id)
theorem wpB_bo {op : BoolOp} {vs : List Expr} {p : Pos} (h : Wp (evBo n c op vs m) Q x) : Wp (evB (n + 1) c (.BoolOp op vs p) m) Q x := h
theorem wpBo_nil {op : BoolOp} (q : Q (op == .And) m) : Wp (evBo (n + 1) c op [] m) Q x := q
theorem wpBo_nilA (q : Q true m) : Wp (evBo (n + 1) c .And [] m) Q x := q
theorem wpBo_nilO (q : Q false m) : Wp (evBo (n + 1) c .Or [] m) Q x := q
theorem wpBo_and {e : Expr} {es : List Expr} (h : Wp (evB n c e m) (fun b m => (b = false → Q false m) ∧ (b = true → Wp (evBo n c .And es m) Q x)) x) : Wp (evBo (n + 1) c .And (e :: es) m) Q x :=
  Wp.bind (h.mono (fun b m h => by cases b; exact h.1 rfl; exact h.2 rfl) id)
theorem wpBo_or {e : Expr} {es : List Expr} (h : Wp (evB n c e m) (fun b m => (b = true → Q true m) ∧ (b = false → Wp (evBo n c .Or es m) Q x)) x) : Wp (evBo (n + 1) c .Or (e :: es) m) Q x :=
  Wp.bind (h.mono (fun b m h => by cases b; exact h.2 rfl; exact h.1 rfl) id)
theorem wpBs_nil (q : Q true m) : Wp (evBs (n + 1) c [] m) Q x := q
theorem wpBs_one {e : Expr} (h : Wp (evB n c e m) Q x) : Wp (evBs (n + 1) c [e] m) Q x := h
end
/-! loops -/
theorem wp_for {Q : Fl → M → Prop} {step : SV → M → Out Fl} (I : List SV → M → Prop) {items : List SV} (h0 : I items m) (hs : ∀ y ys m, I (y :: ys) m → Wp (step y m) (ForQ (I ys) Q) x) (hend : ∀ m, I [] m → Q .next m) : Wp (forLoop step items m) Q x := by
  induction items generalizing m with
  | nil => exact hend m h0
  | cons y ys ih =>
    have h := hs y ys m h0
    unfold forLoop
    cases e : step y m with
    | ok fl m' =>
      rw [e] at h
      cases fl with
      | next => exact ih h
      | cont => exact ih h
      | brk => exact h
      | ret v => exact h
    | exc m' => rw [e] at h; exact h
    | stuck => rw [e] at h; exact h
theorem wp_while {Q : Fl → M → Prop} {test : M → Out Bool} {body : M → Out Fl} (I : Nat → M → Prop) {k : Nat} (h0 : I k m) (hz : ∀ m, ¬ I 0 m) (hs : ∀ k m, I (k + 1) m → Wp (test m) (fun b m => (b = false → Q .next m) ∧ (b = true → Wp (body m) (ForQ (I k) Q) x)) x) : Wp (whileLoop test body k m) Q x := by
  induction k generalizing m with
  | zero => exact (hz m h0).elim
  | succ k ih =>
    unfold whileLoop
    refine Wp.bind ((hs k m h0).mono (fun b m h => ?_) id)
    cases b with
    | false => exact h.1 rfl
    | true =>
      have h := h.2 rfl
      simp only
      cases e : body m with
      | ok fl m' =>
        rw [e] at h
        cases fl with
        | next => exact ih h
        | cont => exact ih h
        | brk => exact h
        | ret v => exact h
      | exc m' => rw [e] at h; exact h
      | stuck => rw [e] at h; exact h
theorem wp_comp {Q : List α → M → Prop} {step : SV → M → Out (Option α)} (I : List SV → List α → M → Prop) {items : List SV} {acc : List α} (h0 : I items acc m) (hs : ∀ y ys acc m, I (y :: ys) acc m → acc.length < lenMax ∧ Wp (step y m) (fun r m' => match r with
      | some d => I ys (acc ++ [d]) m'
      | none => I ys acc m') x) (hend : ∀ acc m, I [] acc m → Q acc m) : Wp (compLoop step items acc m) Q x := by
  induction items generalizing m acc with
  | nil => exact hend acc m h0
  | cons y ys ih =>
    obtain ⟨hl, h⟩ := hs y ys acc m h0
    unfold compLoop
    refine Wp.bind (h.mono (fun r m' h => ?_) id)
    cases r with
    | none => exact ih h
    | some d => simp only; rw [if_pos hl]; exact ih h
/-- a list comprehension that changes nothing -/
theorem wp_comp_pure {Q : List α → M → Prop} {step : SV → M → Out (Option α)} (f : SV → Option α) {items : List SV} (hl : items.length ≤ lenMax) (hs : ∀ y ∈ items, ∀ Q' : Option α → M → Prop, Q' (f y) m → Wp (step y m) Q' x) (q : Q (items.filterMap f) m) : Wp (compLoop step items [] m) Q x := by
  refine wp_comp (fun ys acc m' => m' = m ∧ (∀ y ∈ ys, y ∈ items) ∧ acc.length + ys.length ≤ items.length ∧ acc ++ ys.filterMap f = items.filterMap f) ⟨rfl, fun _ h => h, by simp, by simp⟩ (fun y ys acc m' h => ?_) (fun acc m' h => ?_)
  · obtain ⟨rfl, h1, h2, h3⟩ := h
    rw [List.length_cons] at h2
    refine ⟨by lia, hs y (h1 y (.head _)) _ ?_⟩
    rw [List.filterMap_cons] at h3
    cases e : f y with
    | none => rw [e] at h3; exact ⟨rfl, fun z hz => h1 z (.tail _ hz), by lia, h3⟩
    | some d => rw [e] at h3; exact ⟨rfl, fun z hz => h1 z (.tail _ hz), by rw [List.length_append, List.length_singleton]; lia, by rw [List.append_assoc]; exact h3⟩
  · obtain ⟨rfl, _, _, h3⟩ := h
    rw [List.filterMap_nil, List.append_nil] at h3
    rw [h3]; exact q
end
/-! The same steps as equations, for what takes one way alone. -/
section
variable {n : Nat} {c : Ctx} {m m₁ m₂ : M} {x : Prop}
theorem wp_eqok {α : Type} {o : Out α} {Q : α → M → Prop} {a : α} (h : o = .ok a m₁) (q : Q a m₁) : Wp o Q x := by rw [h]; exact q
theorem e_int {i : Int} {u : Nat} {p : Pos} : ev (n + 1) c (.Constant (.int i) u p) m = .ok (.v (.d (.int i))) m := rfl
theorem e_true {u : Nat} {p : Pos} : ev (n + 1) c (.Constant (.bool true) u p) m = .ok (.v (.d (.bool true))) m := rfl
theorem e_false {u : Nat} {p : Pos} : ev (n + 1) c (.Constant (.bool false) u p) m = .ok (.v (.d (.bool false))) m := rfl
theorem e_none {u : Nat} {p : Pos} : ev (n + 1) c (.Constant .none u p) m = .ok (.v (.d .none)) m := rfl
theorem e_of {α : Type} {o : Out α} {a : α} (h : Wp o (fun b m' => b = a ∧ m' = m₁) False) : o = .ok a m₁ := by
  cases o with
  | ok b m' => obtain ⟨rfl, rfl⟩ := h; rfl
  | exc m' => exact h.elim
  | stuck => exact h.elim
theorem wp_of_e {α : Type} {o : Out α} {a : α} {Q : α → M → Prop} (h : o = .ok a m₁) (q : Q a m₁) : Wp o Q x := wp_eqok h q
theorem e_str {s : Str} {u : Nat} {p : Pos} (h : (PyData.strOk s && decide (s.length ≤ 1000)) = true) : ev (n + 1) c (.Constant (.str s) u p) m = .ok (.v (.d (.str s))) m := e_of (wp_str h ⟨rfl, rfl⟩)
theorem e_nameF {y : Str} {v : SV} {p : Pos} (h : plainVar c y = true) (hl : m.lookup y = some ⟨false, v⟩) : ev (n + 1) c (.Name y p) m = .ok (.v v) m := e_of (wp_nameF h hl ⟨rfl, rfl⟩)
theorem e_nameO {y : Str} {v : SV} {p : Pos} (h : plainVar c y = true) (hl : m.lookup y = some ⟨true, v⟩) : ev (n + 1) c (.Name y p) m = .ok (.var y) m := e_of (wp_nameO h hl ⟨rfl, rfl⟩)
theorem e_nameC {y : Str} {v : SV} {p : Pos} (h1 : c.cv = some (y, v)) (h2 : (y == "__debug__" || y == "__classdict__") = false) (h3 : c.sc.names.lookup y = some .local) : ev (n + 1) c (.Name y p) m = .ok (.v v) m := e_of (wp_nameC h1 h2 h3 ⟨rfl, rfl⟩)
theorem e_negC {i : Int} {u : Nat} {p q : Pos} : ev (n + 2) c (.UnaryOp .USub (.Constant (.int i) u p) q) m = .ok (.v (.d (.int (-i)))) m := rfl
section
variable {r₁ r₂ : R} {va vb : SV} {m₃ : M}
theorem e_bin {l r : Expr} {op : Operator} {p : Pos} {w : R} (h1 : ev n c l m = .ok r₁ m₁) (h2 : ev n c r m₁ = .ok r₂ m₂) (g1 : r₁.get m₂ = some va) (g2 : r₂.get m₂ = some vb) (hv : binop op (some va) (some vb) m₂ = .ok w m₃) : ev (n + 1) c (.BinOp l op r p) m = .ok w m₃ :=
  e_of (wp_bin (wp_of_e h1 (wp_of_e h2 (wp_bin_ok g1 g2 hv ⟨rfl, rfl⟩))))
theorem e_addS {l r : Expr} {p : Pos} {i j : Str} (h1 : ev n c l m = .ok r₁ m₁) (h2 : ev n c r m₁ = .ok r₂ m₂) (g1 : r₁.get m₂ = some (.d (.str i))) (g2 : r₂.get m₂ = some (.d (.str j))) (hs : i.length + j.length ≤ lenMax) : ev (n + 1) c (.BinOp l .Add r p) m = .ok (.v (.d (.str (i ++ j)))) m₂ :=
  e_of (wp_bin (wp_of_e h1 (wp_of_e h2 (wp_addS g1 g2 hs ⟨rfl, rfl⟩))))
theorem e_addL {l r : Expr} {p : Pos} {xs ys : List PyData} (h1 : ev n c l m = .ok r₁ m₁) (h2 : ev n c r m₁ = .ok r₂ m₂) (g1 : r₁.get m₂ = some (.d (.list xs))) (g2 : r₂.get m₂ = some (.d (.list ys))) (hs : (xs ++ ys).length ≤ lenMax) : ev (n + 1) c (.BinOp l .Add r p) m = .ok (.fresh (.d (.list (xs ++ ys)))) m₂ :=
  e_of (wp_bin (wp_of_e h1 (wp_of_e h2 (wp_addL g1 g2 hs ⟨rfl, rfl⟩))))
theorem e_cmp {l r : Expr} {op : CmpOp} {p : Pos} {q : Bool} (h1 : ev n c l m = .ok r₁ m₁) (h2 : ev n c r m₁ = .ok r₂ m₂) (g1 : r₁.get m₂ = some va) (g2 : r₂.get m₂ = some vb) (hv : cmp op (some va) (some vb) = some q) : ev (n + 1) c (.Compare l [op] [r] p) m = .ok (.v (.d (.bool q))) m₂ :=
  e_of (wp_cmp (wp_of_e h1 (wp_of_e h2 (wp_cmp_ok g1 g2 hv ⟨rfl, rfl⟩))))
theorem e_sub {a i : Expr} {p : Pos} {d : PyData} (hs : isSlice i = false) (h1 : ev n c a m = .ok r₁ m₁) (h2 : ev n c i m₁ = .ok r₂ m₂) (g1 : r₁.get m₂ = some va) (g2 : r₂.get m₂ = some vb) (hv : item (some va) (some vb) = some d) : ev (n + 1) c (.Subscript a i p) m = .ok (.v (.d d)) m₂ :=
  e_of (wp_sub hs (wp_of_e h1 (wp_of_e h2 (wp_item_ok g1 g2 hv ⟨rfl, rfl⟩))))
end
theorem e_tuple {es : List Expr} {k : Nat} {p : Pos} {ds : List PyData} (h : evs n c es m = .ok ds m₁) (hl : decide (ds.length ≤ 1000) = true) : ev (n + 1) c (.Tuple es k p) m = .ok (.v (.d (.tuple ds))) m₁ := e_of (wp_tuple (wp_of_e h ⟨of_decide_eq_true hl, rfl, rfl⟩))
theorem e_list {es : List Expr} {p : Pos} {ds : List PyData} (h : evs n c es m = .ok ds m₁) (hl : decide (ds.length ≤ 1000) = true) : ev (n + 1) c (.List es p) m = .ok (.fresh (.d (.list ds))) m₁ := e_of (wp_list (wp_of_e h ⟨of_decide_eq_true hl, rfl, rfl⟩))
theorem e_dict0 {p : Pos} : ev (n + 1) c (.Dict [] [] p) m = .ok (.fresh (.dt [])) m := rfl
theorem e_len {p q : Pos} {a : Expr} {r : R} {v : SV} {k : Nat} (hg : (c.sc.names.lookup ("len" : Str) == some .globalImplicit && ("len" : Str) != "__debug__") = true) (hs : noStar [a] = true) (h : ev n c a m = .ok r m₁) (g : r.get m₁ = some v) (hl : lenOf v = some k) : ev (n + 1) c (.Call (.Name "len" p) [a] [] q) m = .ok (.v (.d (.int k))) m₁ :=
  e_of (wp_built hg hs (by kernel_rfl) (by decide +kernel) (wp_of_e h (wp_len g hl ⟨rfl, rfl⟩)))
theorem e_range {p q : Pos} {a : Expr} {r : R} {i : Int} (hg : (c.sc.names.lookup ("range" : Str) == some .globalImplicit && ("range" : Str) != "__debug__") = true) (hs : noStar [a] = true) (h : ev n c a m = .ok r m₁) (g : r.get m₁ = some (.d (.int i))) (hi : 0 ≤ i ∧ i < 2 ^ 20) : ev (n + 1) c (.Call (.Name "range" p) [a] [] q) m = .ok (.v (.rng i.toNat)) m₁ :=
  e_of (wp_built hg hs (by kernel_rfl) (by decide +kernel) (wp_of_e h (wp_range g hi ⟨rfl, rfl⟩)))
theorem e_strB {p q : Pos} {a : Expr} {r : R} {i : Int} (hg : (c.sc.names.lookup ("str" : Str) == some .globalImplicit && ("str" : Str) != "__debug__") = true) (hs : noStar [a] = true) (h : ev n c a m = .ok r m₁) (g : r.get m₁ = some (.d (.int i))) (hi : i.natAbs ≤ 1000) : ev (n + 1) c (.Call (.Name "str" p) [a] [] q) m = .ok (.v (.d (.str (Str.ofString (toString i))))) m₁ :=
  e_of (wp_built hg hs (by kernel_rfl) (by decide +kernel) (wp_of_e h (wp_strB g hi ⟨rfl, rfl⟩)))
theorem e_Dv {e : Expr} {d : PyData} (h : ev n c e m = .ok (.v (.d d)) m₁) : evD (n + 1) c e m = .ok d m₁ := e_of (wp_D (wp_of_e h ⟨rfl, rfl⟩))
theorem e_Df {e : Expr} {d : PyData} (h : ev n c e m = .ok (.fresh (.d d)) m₁) : evD (n + 1) c e m = .ok d m₁ := e_of (wp_D (wp_of_e h ⟨rfl, rfl⟩))
theorem e_Do {e : Expr} {y : Str} {b : Bool} {d : PyData} (h : ev n c e m = .ok (.var y) m₁) (hl : m₁.lookup y = some ⟨b, .d d⟩) : evD (n + 1) c e m = .ok d (upd m₁ y ⟨false, .d d⟩) := e_of (wp_D (wp_of_e h (wp_frzO hl ⟨rfl, rfl⟩)))
theorem e_es_nil : evs (n + 1) c [] m = .ok [] m := rfl
theorem e_es_cons {e : Expr} {es : List Expr} {d : PyData} {ds : List PyData} (h1 : evD n c e m = .ok d m₁) (h2 : evs n c es m₁ = .ok ds m₂) : evs (n + 1) c (e :: es) m = .ok (d :: ds) m₂ := e_of (wp_es_cons (wp_of_e h1 (wp_of_e h2 ⟨rfl, rfl⟩)))
theorem e_rs_nil : evRs (n + 1) c [] m = .ok [] m := rfl
theorem e_rs_cons {e : Expr} {es : List Expr} {d : R} {ds : List R} (h1 : ev n c e m = .ok d m₁) (h2 : evRs n c es m₁ = .ok ds m₂) : evRs (n + 1) c (e :: es) m = .ok (d :: ds) m₂ := e_of (wp_rs_cons (wp_of_e h1 (wp_of_e h2 ⟨rfl, rfl⟩)))
theorem e_O_none : evO (n + 1) c none m = .ok none m := rfl
theorem e_O_some {e : Expr} {d : PyData} (h : evD n c e m = .ok d m₁) : evO (n + 1) c (some e) m = .ok (some d) m₁ := e_of (wp_O_some (wp_of_e h ⟨rfl, rfl⟩))
theorem eB_cmp {l r : Expr} {op : CmpOp} {p : Pos} {q : Bool} (h : ev n c (.Compare l [op] [r] p) m = .ok (.v (.d (.bool q))) m₁) : evB (n + 1) c (.Compare l [op] [r] p) m = .ok q m₁ := e_of (wpB_cmp (wp_of_e h ⟨q, rfl, rfl, rfl⟩))
theorem eB_name {y : Str} {p : Pos} {q : Bool} (h : ev n c (.Name y p) m = .ok (.v (.d (.bool q))) m₁) : evB (n + 1) c (.Name y p) m = .ok q m₁ := e_of (wpB_name (wp_of_e h ⟨q, rfl, rfl, rfl⟩))
theorem eBs_one {e : Expr} {q : Bool} (h : evB n c e m = .ok q m₁) : evBs (n + 1) c [e] m = .ok q m₁ := h
theorem eBs_nil : evBs (n + 1) c [] m = .ok true m := rfl
end
noncomputable abbrev gt (m : M) (x : Str) : Option Ent := List.lookup x m
noncomputable def fdv (f : Str) : FD := (funs f).getD ⟨[], [], default⟩
noncomputable def cx (f : Str) : Ctx := ⟨(fdv f).scope, (fdv f).ps, (fdv f).scope, none⟩
theorem funs_fdv {f : Str} (h : (funs f).isSome = true) : funs f = some (fdv f) := by
  unfold fdv
  cases e : funs f with
  | none => rw [e] at h; cases h
  | some d => rfl

noncomputable def cupE (L : List Int) (k : Int) : Ent := ⟨true, .d (.list [.list (L.map .int), .int k])⟩

theorem die_body {n : Nat} {m : M} {L : List Int} {k s : Int} (h1 : gt m "cup" = some (cupE L k)) (h2 : gt m "sides" = some ⟨false, .d (.int s)⟩) (hs : 0 < s) (hk : 0 ≤ k ∧ k ≤ 2 ^ 18) :
    Wp (exs (n + 20) (cx "_law_die") (fdv "_law_die").body m) (fun fl m' => ∃ v, fl = .ret (.d (.int v)) ∧ 0 ≤ v ∧ v < s ∧ gt m' "cup" = some (cupE L (k + 1))) False := by
  unfold cupE at *
  have hs0 : s ≠ 0 := by lia
  conv => arg 1; arg 3; whnf
  refine wps_cons ?_
  refine wp_AugSub (a := k) (j := 1) (by kernel_rfl) (by (with_reducible assumption)) (by rfl) (by rfl) ?_
  show Wp (exs (n + 19) _ _ (upd m "cup" ⟨true, .d (.list [.list (L.map .int), .int (k + 1)])⟩)) _ _
  have h3 : gt (upd m "cup" ⟨true, .d (.list [.list (L.map .int), .int (k + 1)])⟩) "cup" = some ⟨true, .d (.list [.list (L.map .int), .int (k + 1)])⟩ := lk_here
  have h4 : gt (upd m "cup" ⟨true, .d (.list [.list (L.map .int), .int (k + 1)])⟩) "sides" = some ⟨false, .d (.int s)⟩ := lk_skip (by decide +kernel) h2
  generalize upd m "cup" ⟨true, .d (.list [.list (L.map .int), .int (k + 1)])⟩ = m at h3 h4 ⊢
  ((with_reducible apply wps_cons; apply wp_If; apply wp_eqok; apply eB_cmp; apply e_cmp; apply e_sub); rfl; (with_reducible apply e_nameO); kernel_rfl; (with_reducible assumption; exact e_int; apply get_var; assumption; exact get_v); rfl; (with_reducible apply e_len); kernel_rfl; rfl; (with_reducible apply e_sub); rfl; (with_reducible apply e_nameO); kernel_rfl; (with_reducible assumption; exact e_int; apply get_var; assumption; exact get_v); rfl; (with_reducible exact get_v); rfl; (with_reducible exact get_v; exact get_v); rfl)
  refine ⟨fun hq => ?_, fun hq => ?_⟩
  · ((with_reducible apply wps_cons; apply wp_Return; apply wp_bin; apply wp_sub); rfl; (with_reducible apply wp_eqok; apply e_sub); rfl; (with_reducible apply e_nameO); kernel_rfl; (with_reducible assumption; exact e_int; apply get_var; assumption; exact get_v); rfl; (with_reducible apply wp_eqok; apply e_bin; apply e_sub); rfl; (with_reducible apply e_nameO); kernel_rfl; (with_reducible assumption; exact e_int; apply get_var; assumption; exact get_v); rfl; (with_reducible exact e_int; exact get_v; exact get_v); rfl)
    have hj : (k.toNat) < L.length := by simp at hq; lia
    refine wp_item_ok (d := .int (L[k.toNat]'hj)) (by (with_reducible exact get_v)) (by (with_reducible exact get_v)) ?_ ?_
    · show (place (L.map PyData.int).length (k + 1 - 1)).bind _ = _
      have : place (L.map PyData.int).length (k + 1 - 1) = some k.toNat := by
        unfold place
        rw [if_pos (by lia), if_pos (by rw [List.length_map]; lia)]
        congr 1; lia
      rw [this, Option.bind_some]
      simp [hj]
    ((with_reducible apply wp_eqok; apply e_nameF); kernel_rfl; (with_reducible assumption))
    refine wp_mod (by (with_reducible exact get_v)) (by (with_reducible exact get_v)) hs0 ?_
    ((with_reducible apply wp_frzV; apply seq_ret; apply seq_ret))
    exact ⟨_, rfl, Int.fmod_nonneg_of_pos _ hs, Int.fmod_lt_of_pos _ hs, h3⟩
  · ((with_reducible apply wps_nil; apply seq_next; apply wps_cons; apply wp_Return; apply wp_bin; apply wp_bin; apply wp_bin; apply wp_eqok; apply e_sub); rfl; (with_reducible apply e_nameO); kernel_rfl; (with_reducible assumption; exact e_int; apply get_var; assumption; exact get_v); rfl; (with_reducible apply wp_eqok; exact e_int))
    refine wp_mul (by (with_reducible exact get_v)) (by (with_reducible exact get_v)) (by simp [small]; lia) ?_
    ((with_reducible apply wp_bin; apply wp_eqok; apply e_sub); rfl; (with_reducible apply e_nameO); kernel_rfl; (with_reducible assumption; exact e_int; apply get_var; assumption; exact get_v); rfl; (with_reducible apply wp_eqok; exact e_int))
    refine wp_fdiv (by (with_reducible exact get_v)) (by (with_reducible exact get_v)) (by simp [small]; lia) ?_
    ((with_reducible apply wp_bin_ok; exact get_v; exact get_v); rfl; (with_reducible apply wp_eqok; apply e_nameF); kernel_rfl; (with_reducible assumption))
    refine wp_mod (by (with_reducible exact get_v)) (by (with_reducible exact get_v)) hs0 ?_
    ((with_reducible apply wp_frzV; apply seq_ret))
    exact ⟨_, rfl, Int.fmod_nonneg_of_pos _ hs, Int.fmod_lt_of_pos _ hs, h3⟩
/-! data, as the steps meet it -/
theorem len_ok {ds : List PyData} {P : Prop} (h : decide (ds.length ≤ 1000) = true) (q : P) : ds.length ≤ 1000 ∧ P := ⟨of_decide_eq_true h, q⟩
theorem br1 {A B : Prop} (h : A) : (true = true → A) ∧ (true = false → B) := ⟨fun _ => h, fun e => absurd e (by decide)⟩
theorem br2 {A B : Prop} (h : B) : (false = true → A) ∧ (false = false → B) := ⟨fun e => absurd e (by decide), fun _ => h⟩
theorem br3 {A B : Prop} (h : A) : (false = false → A) ∧ (false = true → B) := ⟨fun _ => h, fun e => absurd e (by decide)⟩
theorem br4 {A B : Prop} (h : B) : (true = false → A) ∧ (true = true → B) := ⟨fun e => absurd e (by decide), fun _ => h⟩
theorem br5 {A B : Prop} (h : B) : ((!true) = true → A) ∧ ((!true) = false → B) := ⟨fun e => absurd e (by decide), fun _ => h⟩
theorem br6 {A B : Prop} (h : A) : ((!false) = true → A) ∧ ((!false) = false → B) := ⟨fun _ => h, fun e => absurd e (by decide)⟩
theorem br7 {A B : Prop} (h : B) : ((!false) = false → A) ∧ ((!false) = true → B) := ⟨fun e => absurd e (by decide), fun _ => h⟩
theorem br8 {A B : Prop} (h : A) : ((!true) = false → A) ∧ ((!true) = true → B) := ⟨fun _ => h, fun e => absurd e (by decide)⟩
theorem rfl_and {α : Type} {a : α} {P : Prop} (q : P) : a = a ∧ P := ⟨rfl, q⟩
theorem own_and {m : M} {y : Str} {s : SV} {P : Prop} (h : m.lookup y = some ⟨true, s⟩) (q : P) : (∃ s₀, m.lookup y = some ⟨true, s₀⟩) ∧ P := ⟨⟨_, h⟩, q⟩
theorem item_at {xs : List PyData} {k : Nat} (h : k < xs.length) : item (some (.d (.list xs))) (some (.d (.int (k : Int)))) = some xs[k] := by
  show (place xs.length (k : Int)).bind _ = _
  have : place xs.length (k : Int) = some k := by
    unfold place
    rw [if_pos (by lia), if_pos (by lia)]; simp
  rw [this, Option.bind_some]; simp [h]
theorem cmp_eqS {a b : Str} : cmp .Eq (some (.d (.str a))) (some (.d (.str b))) = some (a == b) := by
  rfl
theorem tupKey2 {a b : Str} : tupKey (.tuple [.str a, .str b]) = some [a, b] := rfl
theorem put_dt {kvs : List (List Str × PyData)} {d v : PyData} {k : List Str} (hk : tupKey d = some k) (hl : kvs.length < lenMax) : put (.dt kvs) d v = some (.dt (putK kvs k v)) := by
  show (if (kvs.isEmpty && (intD d).isSome && boolD v == some true) = true then _ else if kvs.length < lenMax then (tupKey d).map fun k => SV.dt (putK kvs k v) else none) = _
  have hd : intD d = none := by cases d <;> first | rfl | cases hk
  rw [if_neg (by rw [hd]; simp), if_pos hl, hk]; rfl
theorem put_di {ks : List Int} {i : Int} (hl : ks.length < lenMax) : put (.di ks) (.int i) (.bool true) = some (.di (addK ks i)) := by
  show (if (boolD (.bool true) == some true && decide (ks.length < lenMax)) = true then _ else _) = _
  rw [if_pos (by rw [decide_eq_true hl]; rfl)]; rfl
theorem isIn_dt {kvs : List (List Str × PyData)} {a b : Str} : cmp .In (some (.d (.tuple [.str a, .str b]))) (some (.dt kvs)) = some ((kvs.lookup [a, b]).isSome) := by
  cases kvs <;> rfl
theorem notIn_dt {kvs : List (List Str × PyData)} {a b : Str} : cmp .NotIn (some (.d (.tuple [.str a, .str b]))) (some (.dt kvs)) = some (!(kvs.lookup [a, b]).isSome) := by
  cases kvs <;> rfl
theorem item_dt {kvs : List (List Str × PyData)} {a b : Str} {d : PyData} (h : kvs.lookup [a, b] = some d) : item (some (.dt kvs)) (some (.d (.tuple [.str a, .str b]))) = some d := h

theorem rng_ok {n : Nat} (h : n ≤ 1000) : 0 ≤ (n : Int) ∧ (n : Int) < 2 ^ 20 := by
  have : (2 : Int) ^ 20 = 1048576 := by decide
  lia

theorem wp_for_idx {m : M} {x : Prop} {Q : Fl → M → Prop} {step : SV → M → Out Fl} {items : List SV} (I : Nat → M → Prop) (h0 : I 0 m) (hs : ∀ k (hk : k < items.length) m, I k m → Wp (step items[k] m) (ForQ (I (k + 1)) Q) x) (hend : ∀ m, I items.length m → Q .next m) : Wp (forLoop step items m) Q x := by
  refine wp_for (fun ys m => ∃ k, k ≤ items.length ∧ ys = items.drop k ∧ I k m) ⟨0, Nat.zero_le _, by simp, h0⟩ (fun y ys m ⟨k, h1, h2, h3⟩ => ?_) (fun m ⟨k, h1, h2, h3⟩ => ?_)
  · have hk : k < items.length := by
      rcases Nat.lt_or_ge k items.length with h | h
      · exact h
      · rw [List.drop_eq_nil_of_le h] at h2; cases h2
    rw [List.drop_eq_getElem_cons hk] at h2
    cases h2
    refine (hs k hk m h3).mono (fun fl m' h => ?_) id
    cases fl with
    | next => exact ⟨k + 1, hk, rfl, h⟩
    | cont => exact ⟨k + 1, hk, rfl, h⟩
    | brk => exact h
    | ret v => exact h
  · have : items.length ≤ k := List.drop_eq_nil_iff.mp h2.symm
    have : k = items.length := by lia
    subst this; exact hend m h3
noncomputable def rngItems (n : Nat) : List SV := (List.range n).map fun (i : Nat) => SV.d (.int (Int.ofNat i))
theorem rng_len {n : Nat} : (rngItems n).length = n := by unfold rngItems; simp
theorem rng_at {n k : Nat} (h : k < (rngItems n).length) : (rngItems n)[k] = .d (.int (k : Int)) := by unfold rngItems; simp

/-! rows -/
structure Row where
  n : Str
  s : Str
  ws : List Str
  es : List Str
noncomputable def Row.enc (r : Row) : PyData := .tuple [.str r.n, .str r.s, .list (r.ws.map .str), .list (r.es.map .str)]
noncomputable def Row.key (r : Row) : List Str := [r.n, r.s]
noncomputable def encRows (rs : List Row) : PyData := .list (rs.map Row.enc)
noncomputable def plOf (rs : List Row) : List (List Str × PyData) := rs.zipIdx.map fun p => (p.1.key, .int (p.2 : Int))
noncomputable def specOk (rs : List Row) : Prop := ∀ r ∈ rs, r.s = "body" → [r.n, ("spec" : Str)] ∈ rs.map Row.key

theorem item_rows {rs : List Row} {k : Nat} (h : k < rs.length) : item (some (.d (encRows rs))) (some (.d (.int (k : Int)))) = some (.tuple [.str rs[k].n, .str rs[k].s, .list (rs[k].ws.map .str), .list (rs[k].es.map .str)]) := by
  have h' : k < (rs.map Row.enc).length := by simpa using h
  have : item (some (.d (encRows rs))) (some (.d (.int (k : Int)))) = some (rs.map Row.enc)[k] := item_at h'
  rw [this, List.getElem_map]; rfl
theorem plOf_take {rs : List Row} {k : Nat} (h : k < rs.length) : plOf (rs.take (k + 1)) = plOf (rs.take k) ++ [(rs[k].key, .int (k : Int))] := by
  unfold plOf
  rw [List.take_succ_eq_append_getElem h, List.zipIdx_append, List.map_append]
  have : (List.take k rs).length = k := by rw [List.length_take]; lia
  rw [this]; simp
theorem plOf_len (rs : List Row) : (plOf rs).length = rs.length := by unfold plOf; simp
theorem plOf_keys (rs : List Row) : (plOf rs).map (·.1) = rs.map Row.key := by
  unfold plOf
  rw [List.map_map, ← List.zipIdx_map_fst 0 rs, List.map_map, List.zipIdx_map_fst]; rfl
theorem lookup_some_iff {l : List (List Str × PyData)} {k : List Str} : (l.lookup k).isSome = true ↔ k ∈ l.map (·.1) := by
  induction l with
  | nil => simp
  | cons p l ih =>
    rw [List.lookup_cons, List.map_cons, List.mem_cons]
    by_cases h : k == p.1
    · rw [h]; simp [eq_of_beq h]
    · rw [Bool.not_eq_true] at h
      rw [h]
      have : ¬ k = p.1 := by rw [beq_eq_false_iff_ne] at h; exact h
      simp [ih, this]
theorem putK_new {l : List (List Str × PyData)} {k : List Str} {v : PyData} (h : k ∉ l.map (·.1)) : putK l k v = l ++ [(k, v)] := by
  induction l with
  | nil => rfl
  | cons p l ih =>
    obtain ⟨a, b⟩ := p
    rw [List.map_cons, List.mem_cons, not_or] at h
    have : (k == a) = false := beq_eq_false_iff_ne.mpr h.1
    show (if k == a then _ else _) = _
    rw [this, ih h.2]; rfl


noncomputable abbrev nI (j : Nat) : PyData := .int (j : Int)
noncomputable def encN (l : List Nat) : PyData := .list (l.map nI)
theorem any_nat (j : Nat) (l : List Nat) : ((l.map nI).any fun y => PyData.eqv y (.int (j : Int))) = decide (j ∈ l) := by
  rw [Bool.eq_iff_iff, List.any_map, List.any_eq_true, decide_eq_true_iff]
  simp [PyData.eqv]
  exact ⟨fun ⟨x, h, e⟩ => by have : x = j := by lia
                             rw [← this]; exact h, fun h => ⟨j, h, rfl⟩⟩
theorem any_str (j : Str) (l : List Str) : ((l.map PyData.str).any fun y => PyData.eqv y (.str j)) = decide (j ∈ l) := by
  rw [Bool.eq_iff_iff, List.any_map, List.any_eq_true, decide_eq_true_iff]
  simp [PyData.eqv]
theorem cmp_inN {j : Nat} {l : List Nat} : cmp .In (some (.d (.int (j : Int)))) (some (.d (.list (l.map nI)))) = some (decide (j ∈ l)) := by
  rw [← any_nat]; rfl
theorem cmp_notInN {j : Nat} {l : List Nat} : cmp .NotIn (some (.d (.int (j : Int)))) (some (.d (.list (l.map nI)))) = some (!decide (j ∈ l)) := by
  rw [← any_nat]; rfl
theorem cmp_inS {j : Str} {l : List Str} : cmp .In (some (.d (.str j))) (some (.d (.list (l.map .str)))) = some (decide (j ∈ l)) := by
  rw [← any_str]; rfl
theorem cmp_notInS {j : Str} {l : List Str} : cmp .NotIn (some (.d (.str j))) (some (.d (.list (l.map .str)))) = some (!decide (j ∈ l)) := by
  rw [← any_str]; rfl
theorem lookup_zipIdx : ∀ (rs : List Row) (i : Nat) (k : List Str), k ∈ rs.map Row.key → ((rs.zipIdx i).map fun p => (p.1.key, PyData.int (p.2 : Int))).lookup k = some (.int ((i + (rs.map Row.key).idxOf k : Nat) : Int))
  | [], _, _, h => by simp at h
  | r :: rs, i, k, h => by
    rw [List.zipIdx_cons, List.map_cons, List.lookup_cons, List.map_cons, List.idxOf_cons]
    by_cases e : k == r.key
    · have e' : (r.key == k) = true := by rw [eq_of_beq e]; simp
      rw [e, e']; simp
    · rw [Bool.not_eq_true] at e
      have e' : (r.key == k) = false := by
        rw [beq_eq_false_iff_ne] at e ⊢; exact fun t => e t.symm
      rw [e, e']
      have hm : k ∈ rs.map Row.key := by
        rw [List.map_cons, List.mem_cons] at h
        rcases h with h | h
        · rw [beq_eq_false_iff_ne] at e; exact (e h).elim
        · exact h
      simp only [cond_false]
      rw [lookup_zipIdx rs (i + 1) k hm]
      congr 3; lia
/-- where a unit stands -/
noncomputable def posOf (rs : List Row) (k : List Str) : Nat := (rs.map Row.key).idxOf k
theorem pl_at {rs : List Row} {k : List Str} (h : k ∈ rs.map Row.key) : (plOf rs).lookup k = some (.int (posOf rs k : Int)) := by
  unfold plOf posOf
  rw [lookup_zipIdx rs 0 k h]; simp
theorem posOf_lt {rs : List Row} {k : List Str} (h : k ∈ rs.map Row.key) : posOf rs k < rs.length := by
  unfold posOf
  have := List.idxOf_lt_length_of_mem h
  simpa using this

inductive PlA (rs : List Row) (k : Nat) (m : M) : Prop
  | mk (h0 : gt m "parts" = some ⟨false, .d (encRows rs)⟩) (h1 : gt m "found" = some ⟨true, .dt (plOf (rs.take k))⟩) (h2 : ((rs.take k).map Row.key).Nodup) : PlA rs k m
inductive PlB (rs : List Row) (k : Nat) (m : M) : Prop
  | mk (h0 : gt m "found" = some ⟨false, .dt (plOf rs)⟩) (h1 : ∀ r ∈ rs.take k, r.s = "body" → [r.n, ("spec" : Str)] ∈ rs.map Row.key) : PlB rs k m
theorem places_body {n : Nat} {m : M} {rs : List Row} (h1 : gt m "parts" = some ⟨false, .d (encRows rs)⟩) (hl : rs.length ≤ 1000) :
    Wp (exs (n + 30) (cx "places_of") (fdv "places_of").body m) (fun fl _ => fl = .ret (.dt (plOf rs)) ∧ (rs.map Row.key).Nodup ∧ specOk rs) (¬ ((rs.map Row.key).Nodup ∧ specOk rs)) := by
  conv => arg 1; arg 3; whnf
  ((with_reducible apply wps_cons; apply wp_AssignN); kernel_rfl; (with_reducible apply wp_eqok; exact e_dict0; apply wp_st_f; apply seq_next; apply wps_cons; apply wp_For; apply wp_eqok; apply e_range); kernel_rfl; rfl; (with_reducible apply e_len); kernel_rfl; rfl; (with_reducible apply e_nameF); kernel_rfl; (with_reducible apply lk_skip); decide +kernel; (with_reducible assumption; exact get_v); rfl; (with_reducible exact get_v); (exact rng_ok (by first | assumption | (simp only [List.length_map]; lia))); (with_reducible apply wp_frzV))
  refine ⟨_, rfl, ?_⟩
  have hlen : (List.map Row.enc rs).length = rs.length := by simp
  refine wp_for_idx (PlA rs) ⟨(by (with_reducible apply lk_skip); decide +kernel; (with_reducible assumption)), lk_here, by simp⟩ (fun k hk m ⟨e1, e2, e3⟩ => ?_) (fun m ⟨e1, e2, e3⟩ => ?_)
  · have hk' : k < rs.length := by simpa using hk
    rw [show (List.map (fun (i : Nat) => SV.d (.int (Int.ofNat i))) (List.range ((List.map Row.enc rs).length : Int).toNat))[k] = .d (.int (k : Int)) by simp]
    ((with_reducible apply Wp.bind; apply wp_bindN); kernel_rfl; (with_reducible apply wps_cons; apply wp_AssignN); kernel_rfl; (with_reducible apply wp_eqok; apply e_tuple; apply e_es_cons; apply e_Dv; apply e_sub); rfl; (with_reducible apply e_sub); rfl; (with_reducible apply e_nameF); kernel_rfl; (with_reducible apply lk_skip); decide +kernel; (with_reducible assumption; apply e_nameF); kernel_rfl; (with_reducible exact lk_here; exact get_v; exact get_v); exact item_rows (by assumption); (with_reducible exact e_int; exact get_v; exact get_v); rfl; (with_reducible apply e_es_cons; apply e_Dv; apply e_sub); rfl; (with_reducible apply e_sub); rfl; (with_reducible apply e_nameF); kernel_rfl; (with_reducible apply lk_skip); decide +kernel; (with_reducible assumption; apply e_nameF); kernel_rfl; (with_reducible exact lk_here; exact get_v; exact get_v); exact item_rows (by assumption); (with_reducible exact e_int; exact get_v; exact get_v); rfl; (with_reducible exact e_es_nil); rfl; (with_reducible apply wp_st_v; apply seq_next; apply wps_cons; apply wp_If; apply wp_eqok; apply eB_cmp; apply e_cmp; apply e_nameF); kernel_rfl; (with_reducible exact lk_here; apply e_nameO); kernel_rfl; (with_reducible apply lk_skip); decide +kernel; (with_reducible apply lk_skip); decide +kernel; (with_reducible assumption; exact get_v; apply get_var; apply lk_skip); decide +kernel; (with_reducible apply lk_skip); decide +kernel; (with_reducible assumption); exact isIn_dt)
    refine ⟨fun hq => ?_, fun hq => ?_⟩
    · rw [lookup_some_iff, plOf_keys] at hq
      ((with_reducible apply wps_cons; apply wp_Raise); kernel_rfl; (with_reducible apply wp_eqok; apply e_es_cons; apply e_Dv; exact e_int; apply e_es_cons; apply e_Dv; apply e_str); decide +kernel; (with_reducible exact e_es_nil))
      refine ⟨⟨_, _, rfl⟩, fun ⟨hn, _⟩ => ?_⟩
      have := (List.take_sublist (k + 1) rs).map Row.key |>.nodup hn
      rw [List.take_succ_eq_append_getElem hk', List.map_append, List.nodup_append] at this
      exact this.2.2 _ hq _ (List.mem_singleton.mpr rfl) rfl
    · have hnot : rs[k].key ∉ (rs.take k).map Row.key := fun t => by
        rw [← plOf_keys, ← lookup_some_iff] at t
        exact absurd (hq.symm.trans t) (by decide)
      ((with_reducible apply wps_nil; apply seq_next; apply wps_cons; apply wp_AssignSub); rfl; kernel_rfl; (with_reducible apply wp_eqok; apply e_Dv; apply e_nameF); kernel_rfl; (with_reducible apply lk_skip); decide +kernel; (with_reducible exact lk_here; apply own_and; apply lk_skip); decide +kernel; (with_reducible apply lk_skip); decide +kernel; (with_reducible assumption; apply wp_eqok; apply e_Dv; apply e_nameF); kernel_rfl; (with_reducible exact lk_here))
      refine ⟨_, _, (by (with_reducible apply lk_skip); decide +kernel; (with_reducible apply lk_skip); decide +kernel; (with_reducible assumption)), put_dt tupKey2 (by rw [plOf_len, List.length_take]; unfold lenMax; lia), ?_⟩
      ((with_reducible apply seq_next; apply wps_nil; apply for_next))
      refine ⟨(by (with_reducible apply lk_skip); decide +kernel; (with_reducible apply lk_skip); decide +kernel; (with_reducible apply lk_skip); decide +kernel; (with_reducible assumption)), ?_, ?_⟩
      · show (upd _ _ _).lookup _ = _
        have hnot' : [rs[k].n, rs[k].s] ∉ (plOf (rs.take k)).map (·.1) := by rw [plOf_keys]; exact hnot
        rw [lookup_updP, if_pos (by simp), plOf_take hk', putK_new hnot']; rfl
      · rw [List.take_succ_eq_append_getElem hk', List.map_append, List.nodup_append]
        refine ⟨e3, by simp, fun a ha b hb q => ?_⟩
        simp at hb
        subst hb q
        exact hnot ha
  · have e0 : (List.map (fun i => SV.d (PyData.int (Int.ofNat i))) (List.range (((List.map Row.enc rs).length : Nat) : Int).toNat)).length = rs.length := by simp
    rw [e0, List.take_length] at e2 e3
    ((with_reducible apply seq_next; apply wps_cons; apply wp_For; apply wp_eqok; apply e_nameO); kernel_rfl; (with_reducible assumption; apply wp_frzO; assumption))
    refine ⟨_, rfl, ?_⟩
    have hsub : ∀ k, (hk : k < rs.length) → (∀ r ∈ rs.take k, r.s = "body" → [r.n, ("spec" : Str)] ∈ rs.map Row.key) → (rs[k].s = "body" → [rs[k].n, ("spec" : Str)] ∈ rs.map Row.key) → ∀ r ∈ rs.take (k + 1), r.s = "body" → [r.n, ("spec" : Str)] ∈ rs.map Row.key := by
      intro k hk h1 h2 r hr
      rw [List.take_succ_eq_append_getElem hk, List.mem_append, List.mem_singleton] at hr
      rcases hr with hr | rfl
      · exact h1 r hr
      · exact h2
    refine wp_for_idx (PlB rs) ⟨lk_here, by simp⟩ (fun k hk m ⟨e1, e4⟩ => ?_) (fun m ⟨e1, e4⟩ => ?_)
    · have hk' : k < rs.length := by rw [List.length_map, plOf_len] at hk; exact hk
      rw [show (List.map (fun p => SV.d (keyTup p.1)) (plOf rs))[k] = .d (.tuple [.str rs[k].n, .str rs[k].s]) by
        simp [plOf, Row.key, keyTup]]
      ((with_reducible apply Wp.bind; apply wp_bindT); rfl; kernel_rfl; rfl; (with_reducible apply wps_cons; apply wp_If; apply wpB_bo; apply wpBo_and; apply wp_eqok; apply eB_cmp; apply e_cmp; apply e_nameF); kernel_rfl; (with_reducible exact lk_here; apply e_str); decide +kernel; (with_reducible exact get_v; exact get_v); exact cmp_eqS)
      refine ⟨fun hb => ?_, fun hb => ?_⟩
      · ((with_reducible apply br2; apply wps_nil; apply seq_next; apply wps_nil; apply for_next))
        exact ⟨(by (with_reducible apply lk_skip); decide +kernel; (with_reducible apply lk_skip); decide +kernel; (with_reducible assumption)), hsub k hk' e4 fun t => by rw [t] at hb; simp at hb⟩
      · ((with_reducible apply wpBo_and; apply wp_eqok; apply eB_cmp; apply e_cmp; apply e_tuple; apply e_es_cons; apply e_Dv; apply e_nameF); kernel_rfl; (with_reducible apply lk_skip); decide +kernel; (with_reducible exact lk_here; apply e_es_cons; apply e_Dv; apply e_str); decide +kernel; (with_reducible exact e_es_nil); rfl; (with_reducible apply e_nameF); kernel_rfl; (with_reducible apply lk_skip); decide +kernel; (with_reducible apply lk_skip); decide +kernel; (with_reducible assumption; exact get_v; exact get_v); exact notIn_dt)
        cases hs : ((plOf rs).lookup [rs[k].n, ("spec" : Str)]).isSome with
        | true =>
          ((with_reducible apply br8; apply br2; apply wps_nil; apply seq_next; apply wps_nil; apply for_next))
          exact ⟨(by (with_reducible apply lk_skip); decide +kernel; (with_reducible apply lk_skip); decide +kernel; (with_reducible assumption)), hsub k hk' e4 fun _ => by rw [lookup_some_iff, plOf_keys] at hs; exact hs⟩
        | false =>
          ((with_reducible apply br7; apply wpBo_nilA; apply br1; apply wps_cons; apply wp_Raise); kernel_rfl; (with_reducible apply wp_eqok; apply e_es_cons; apply e_Dv; exact e_int; apply e_es_cons; apply e_Dv; apply e_str); decide +kernel; (with_reducible exact e_es_nil))
          refine ⟨⟨_, _, rfl⟩, fun ⟨_, h2⟩ => ?_⟩
          have := h2 _ (List.getElem_mem hk') (eq_of_beq hb)
          rw [← plOf_keys, ← lookup_some_iff, hs] at this
          cases this
    · ((with_reducible apply seq_next; apply wps_cons; apply wp_Return; apply wp_eqok; apply e_nameF); kernel_rfl; (with_reducible assumption; apply wp_frzV; apply seq_ret; apply rfl_and))
      refine ⟨e3, fun r hr => e4 r ?_⟩
      rw [List.length_map, plOf_len, List.take_length]; exact hr

/-- two ways that meet again -/
theorem if_join {b : Bool} {o₁ o₂ : Out Fl} {Q : Fl → M → Prop} {x : Prop} (I : M → Prop) (h1 : b = true → Wp o₁ (fun f m => match f with | .next => I m | f => Q f m) x) (h2 : b = false → Wp o₂ (fun f m => match f with | .next => I m | f => Q f m) x)
    (h : ∀ m, I m → Q .next m) : (b = true → Wp o₁ Q x) ∧ (b = false → Wp o₂ Q x) := by
  have j : ∀ f m, (match f with | .next => I m | f => Q f m) → Q f m := fun f m q => by cases f <;> first | exact h m q | exact q
  exact ⟨fun e => (h1 e).mono j id, fun e => (h2 e).mono j id⟩

/-- what a unit needs: keys -/
noncomputable def needKeys (rs : List Row) (r : Row) : List (List Str) :=
  (if r.s = "body" then [[r.n, ("spec" : Str)]] else []) ++ r.ws.map (fun o => [o, ("spec" : Str)]) ++ (r.es.filter fun o => decide ([o, ("body" : Str)] ∈ rs.map Row.key)).map fun o => [o, ("body" : Str)]
noncomputable def needOk (rs : List Row) (r : Row) : Prop := (∀ o ∈ r.ws, [o, ("spec" : Str)] ∈ rs.map Row.key) ∧ ∀ o ∈ r.es, o ∈ r.ws
noncomputable def addN (acc : List Nat) (j : Nat) : List Nat := if j ∈ acc then acc else acc ++ [j]
noncomputable def needsOf (rs : List Row) (r : Row) : List Nat := ((needKeys rs r).map (posOf rs)).foldl addN []
noncomputable abbrev encK (k : List Str) : PyData := .tuple (k.map .str)
theorem tupKey_enc (k : List Str) : tupKey (encK k) = some k := by
  show (k.map PyData.str).mapM _ = _
  induction k with
  | nil => rfl
  | cons a r ih => rw [List.map_cons, List.mapM_cons, ih]; rfl
theorem item_pl {rs : List Row} {k : List Str} (h : k ∈ rs.map Row.key) : item (some (.dt (plOf rs))) (some (.d (encK k))) = some (.int (posOf rs k : Int)) := by
  show (tupKey (encK k)).bind _ = _
  rw [tupKey_enc, Option.bind_some, pl_at h]
theorem item_pl2 {rs : List Row} {a b : Str} (h : [a, b] ∈ rs.map Row.key) : item (some (.dt (plOf rs))) (some (.d (.tuple [.str a, .str b]))) = some (.int (posOf rs [a, b] : Int)) := item_pl h
theorem pl_has (rs : List Row) (k : List Str) : ((plOf rs).lookup k).isSome = decide (k ∈ rs.map Row.key) := by
  rw [Bool.eq_iff_iff, lookup_some_iff, plOf_keys, decide_eq_true_iff]
theorem isIn_pl {rs : List Row} {a b : Str} : cmp .In (some (.d (.tuple [.str a, .str b]))) (some (.dt (plOf rs))) = some (decide ([a, b] ∈ rs.map Row.key)) := by rw [isIn_dt, pl_has]
theorem notIn_pl {rs : List Row} {a b : Str} : cmp .NotIn (some (.d (.tuple [.str a, .str b]))) (some (.dt (plOf rs))) = some (!decide ([a, b] ∈ rs.map Row.key)) := by rw [notIn_dt, pl_has]
theorem take_all {α : Type} {xs : List α} {i : Nat} {P : α → Prop} (hi : i < xs.length) (h : ∀ y ∈ xs.take i, P y) (hx : P xs[i]) : ∀ y ∈ xs.take (i + 1), P y := by
  intro y hy
  rw [List.take_succ_eq_append_getElem hi, List.mem_append, List.mem_singleton] at hy
  rcases hy with hy | rfl
  · exact h y hy
  · exact hx
theorem addN_len (l : List Nat) : ∀ acc : List Nat, (l.foldl addN acc).length ≤ acc.length + l.length := by
  induction l with
  | nil => intro acc; simp
  | cons j l ih =>
    intro acc
    rw [List.foldl_cons]
    have := ih (addN acc j)
    have h2 : (addN acc j).length ≤ acc.length + 1 := by
      unfold addN
      split
      · lia
      · simp
    simp only [List.length_cons]; lia

inductive NdJ (rs : List Row) (r : Row) (m : M) : Prop
  | mk (h0 : gt m "keys" = some ⟨true, .d (.list ((if r.s = "body" then [[r.n, ("spec" : Str)]] else []).map encK))⟩) (h1 : gt m "places" = some ⟨false, .dt (plOf rs)⟩) (h2 : gt m "withs" = some ⟨false, .d (.list (r.ws.map .str))⟩) (h3 : gt m "elaborates" = some ⟨false, .d (.list (r.es.map .str))⟩) : NdJ rs r m
inductive NdA (rs : List Row) (r : Row) (K1 : List (List Str)) (i : Nat) (m : M) : Prop
  | mk (h0 : gt m "keys" = some ⟨true, .d (.list ((K1 ++ (r.ws.take i).map (fun o => [o, ("spec" : Str)])).map encK))⟩) (h1 : gt m "places" = some ⟨false, .dt (plOf rs)⟩) (h2 : gt m "withs" = some ⟨false, .d (.list (r.ws.map .str))⟩) (h3 : gt m "elaborates" = some ⟨false, .d (.list (r.es.map .str))⟩) (h4 : ∀ o ∈ r.ws.take i, [o, ("spec" : Str)] ∈ rs.map Row.key) : NdA rs r K1 i m
inductive NdB (rs : List Row) (r : Row) (K2 : List (List Str)) (i : Nat) (m : M) : Prop
  | mk (h0 : gt m "keys" = some ⟨true, .d (.list ((K2 ++ ((r.es.take i).filter fun o => decide ([o, ("body" : Str)] ∈ rs.map Row.key)).map (fun o => [o, ("body" : Str)])).map encK))⟩) (h1 : gt m "places" = some ⟨false, .dt (plOf rs)⟩) (h2 : gt m "withs" = some ⟨false, .d (.list (r.ws.map .str))⟩) (h3 : ∀ o ∈ r.es.take i, o ∈ r.ws) : NdB rs r K2 i m
inductive NdC (rs : List Row) (r : Row) (i : Nat) (m : M) : Prop
  | mk (h0 : gt m "found" = some ⟨true, .d (.list ((((needKeys rs r).take i).map (posOf rs)).foldl addN [] |>.map nI))⟩) (h1 : gt m "places" = some ⟨false, .dt (plOf rs)⟩) : NdC rs r i m
theorem needs_body {n : Nat} {m : M} {rs : List Row} {k : Nat} (h1 : gt m "parts" = some ⟨false, .d (encRows rs)⟩) (h2 : gt m "places" = some ⟨false, .dt (plOf rs)⟩) (h3 : gt m "at" = some ⟨false, .d (.int (k : Int))⟩) (hk : k < rs.length)
    (hw : rs[k].ws.length ≤ 1000) (he : rs[k].es.length ≤ 1000) (hs : specOk rs) :
    Wp (exs (n + 30) (cx "needs_of") (fdv "needs_of").body m) (fun fl _ => fl = .ret (.d (.list ((needsOf rs rs[k]).map nI))) ∧ needOk rs rs[k]) (¬ needOk rs rs[k]) := by
  conv => arg 1; arg 3; whnf
  ((with_reducible apply wps_cons; apply wp_AssignT); rfl; (with_reducible apply wp_eqok; apply e_sub); rfl; (with_reducible apply e_nameF); kernel_rfl; (with_reducible assumption; apply e_nameF); kernel_rfl; (with_reducible assumption; exact get_v; exact get_v); exact item_rows (by assumption); (with_reducible apply wp_frzV; apply wp_bindT); rfl; kernel_rfl; rfl; (with_reducible apply seq_next; apply wps_cons; apply wp_AssignN); kernel_rfl; (with_reducible apply wp_eqok; apply e_list; exact e_es_nil); rfl; (with_reducible apply wp_st_f; apply seq_next; apply wps_cons; apply wp_If; apply wp_eqok; apply eB_cmp; apply e_cmp; apply e_nameF); kernel_rfl; (with_reducible apply lk_skip); decide +kernel; (with_reducible apply lk_skip); decide +kernel; (with_reducible apply lk_skip); decide +kernel; (with_reducible exact lk_here; apply e_str); decide +kernel; (with_reducible exact get_v; exact get_v); exact cmp_eqS)
  refine if_join (NdJ rs rs[k]) (fun hb => ?_) (fun hb => ?_) (fun m ⟨e1, e2, e3, e4⟩ => ?_)
  · ((with_reducible apply wps_cons; apply wp_ExprS; apply wp_methL); kernel_rfl; kernel_rfl; (with_reducible exact lk_here); kernel_rfl; (with_reducible apply wp_eqok; apply e_es_cons; apply e_Dv; apply e_tuple; apply e_es_cons; apply e_Dv; apply e_nameF); kernel_rfl; (with_reducible apply lk_skip); decide +kernel; (with_reducible apply lk_skip); decide +kernel; (with_reducible apply lk_skip); decide +kernel; (with_reducible apply lk_skip); decide +kernel; (with_reducible exact lk_here; apply e_es_cons; apply e_Dv; apply e_str); decide +kernel; (with_reducible exact e_es_nil); rfl; (with_reducible exact e_es_nil; apply wp_append; exact lk_here); (simp [lenMax] <;> lia); (with_reducible apply rfl_and; apply seq_next; apply wps_nil))
    refine ⟨?_, (by (with_reducible apply lk_skip); decide +kernel; (with_reducible apply lk_skip); decide +kernel; (with_reducible apply lk_skip); decide +kernel; (with_reducible apply lk_skip); decide +kernel; (with_reducible apply lk_skip); decide +kernel; (with_reducible apply lk_skip); decide +kernel; (with_reducible assumption)), (by (with_reducible apply lk_skip); decide +kernel; (with_reducible apply lk_skip); decide +kernel; (with_reducible apply lk_skip); decide +kernel; (with_reducible exact lk_here)), (by (with_reducible apply lk_skip); decide +kernel; (with_reducible apply lk_skip); decide +kernel; (with_reducible exact lk_here))⟩
    rw [if_pos (eq_of_beq hb)]
    exact lk_here
  · ((with_reducible apply wps_nil))
    refine ⟨?_, (by (with_reducible apply lk_skip); decide +kernel; (with_reducible apply lk_skip); decide +kernel; (with_reducible apply lk_skip); decide +kernel; (with_reducible apply lk_skip); decide +kernel; (with_reducible apply lk_skip); decide +kernel; (with_reducible assumption)), (by (with_reducible apply lk_skip); decide +kernel; (with_reducible apply lk_skip); decide +kernel; (with_reducible exact lk_here)), (by (with_reducible apply lk_skip); decide +kernel; (with_reducible exact lk_here))⟩
    rw [if_neg (by simpa using hb)]
    exact lk_here
  · generalize hK : (if rs[k].s = "body" then [[rs[k].n, ("spec" : Str)]] else []) = K1 at e1
    have hK1 : K1.length ≤ 1 := by rw [← hK]; split <;> simp
    have hKm : ∀ y ∈ K1, y ∈ rs.map Row.key := by
      rw [← hK]
      split
      · rename_i hb
        intro y hy
        rw [List.mem_singleton] at hy
        rw [hy]; exact hs _ (List.getElem_mem hk) hb
      · simp
    ((with_reducible apply seq_next; apply wps_cons; apply wp_For; apply wp_eqok; apply e_nameF); kernel_rfl; (with_reducible assumption; apply wp_frzV))
    refine ⟨_, rfl, ?_⟩
    refine wp_for_idx (NdA rs rs[k] K1)
      ⟨by simpa using e1, e2, e3, e4, by simp⟩ (fun i hi m ⟨e1, e2, e3, e4, e5⟩ => ?_) (fun m ⟨e1, e2, e3, e4, e5⟩ => ?_)
    · have hi' : i < rs[k].ws.length := by simpa using hi
      rw [show (List.map SV.d (List.map PyData.str rs[k].ws))[i] = .d (.str rs[k].ws[i]) by simp]
      ((with_reducible apply Wp.bind; apply wp_bindN); kernel_rfl; (with_reducible apply wps_cons; apply wp_If; apply wp_eqok; apply eB_cmp; apply e_cmp; apply e_tuple; apply e_es_cons; apply e_Dv; apply e_nameF); kernel_rfl; (with_reducible exact lk_here; apply e_es_cons; apply e_Dv; apply e_str); decide +kernel; (with_reducible exact e_es_nil); rfl; (with_reducible apply e_nameF); kernel_rfl; (with_reducible apply lk_skip); decide +kernel; (with_reducible assumption; exact get_v; exact get_v); exact notIn_pl)
      refine ⟨fun hb => ?_, fun hb => ?_⟩
      · ((with_reducible apply wps_cons; apply wp_Raise); kernel_rfl; (with_reducible apply wp_eqok; apply e_es_cons; apply e_Dv; exact e_int; apply e_es_cons; apply e_Dv; apply e_str); decide +kernel; (with_reducible exact e_es_nil))
        refine ⟨⟨_, _, rfl⟩, fun h => ?_⟩
        have := h.1 _ (List.getElem_mem hi')
        simp [this] at hb
      · ((with_reducible apply wps_nil; apply seq_next; apply wps_cons; apply wp_ExprS; apply wp_methL); kernel_rfl; kernel_rfl; (with_reducible apply lk_skip); decide +kernel; (with_reducible assumption); kernel_rfl; (with_reducible apply wp_eqok; apply e_es_cons; apply e_Dv; apply e_tuple; apply e_es_cons; apply e_Dv; apply e_nameF); kernel_rfl; (with_reducible exact lk_here; apply e_es_cons; apply e_Dv; apply e_str); decide +kernel; (with_reducible exact e_es_nil); rfl; (with_reducible exact e_es_nil; apply wp_append; apply lk_skip); decide +kernel; (with_reducible assumption); (simp [lenMax] <;> lia); (with_reducible apply rfl_and; apply seq_next; apply wps_nil; apply for_next))
        have hlen : ((K1 ++ (rs[k].ws.take i).map (fun o => [o, ("spec" : Str)])).map encK).length < lenMax := by
          simp only [List.length_map, List.length_append, List.length_take, lenMax]; lia
        skip
        refine ⟨?_, (by (with_reducible apply lk_skip); decide +kernel; (with_reducible apply lk_skip); decide +kernel; (with_reducible assumption)), (by (with_reducible apply lk_skip); decide +kernel; (with_reducible apply lk_skip); decide +kernel; (with_reducible assumption)), (by (with_reducible apply lk_skip); decide +kernel; (with_reducible apply lk_skip); decide +kernel; (with_reducible assumption)), take_all hi' e5 (by simpa using hb)⟩
        rw [List.take_succ_eq_append_getElem hi']
        simp only [List.map_append, ← List.append_assoc]
        exact lk_here
    · have e0 : (List.map SV.d (List.map PyData.str rs[k].ws)).length = rs[k].ws.length := by simp
      rw [e0, List.take_length] at e1 e5
      ((with_reducible apply seq_next; apply wps_cons; apply wp_For; apply wp_eqok; apply e_nameF); kernel_rfl; (with_reducible assumption; apply wp_frzV))
      refine ⟨_, rfl, ?_⟩
      generalize hK2 : K1 ++ rs[k].ws.map (fun o => [o, ("spec" : Str)]) = K2 at e1
      have hK2l : K2.length ≤ 1001 := by rw [← hK2]; simp; lia
      have hK2m : ∀ y ∈ K2, y ∈ rs.map Row.key := by
        rw [← hK2]
        intro y hy
        rw [List.mem_append, List.mem_map] at hy
        rcases hy with hy | ⟨o, ho, rfl⟩
        · exact hKm y hy
        · exact e5 o ho
      refine wp_for_idx (NdB rs rs[k] K2)
        ⟨by simpa using e1, e2, e3, by simp⟩ (fun i hi m ⟨e1, e2, e3, e6⟩ => ?_) (fun m ⟨e1, e2, e3, e6⟩ => ?_)
      · have hi' : i < rs[k].es.length := by simpa using hi
        rw [show (List.map SV.d (List.map PyData.str rs[k].es))[i] = .d (.str rs[k].es[i]) by simp]
        ((with_reducible apply Wp.bind; apply wp_bindN); kernel_rfl; (with_reducible apply wps_cons; apply wp_If; apply wp_eqok; apply eB_cmp; apply e_cmp; apply e_nameF); kernel_rfl; (with_reducible exact lk_here; apply e_nameF); kernel_rfl; (with_reducible apply lk_skip); decide +kernel; (with_reducible assumption; exact get_v; exact get_v); exact cmp_notInS)
        refine ⟨fun hb => ?_, fun hb => ?_⟩
        · ((with_reducible apply wps_cons; apply wp_Raise); kernel_rfl; (with_reducible apply wp_eqok; apply e_es_cons; apply e_Dv; exact e_int; apply e_es_cons; apply e_Dv; apply e_str); decide +kernel; (with_reducible exact e_es_nil))
          refine ⟨⟨_, _, rfl⟩, fun h => ?_⟩
          have := h.2 _ (List.getElem_mem hi')
          simp [this] at hb
        · ((with_reducible apply wps_nil; apply seq_next; apply wps_cons; apply wp_If; apply wp_eqok; apply eB_cmp; apply e_cmp; apply e_tuple; apply e_es_cons; apply e_Dv; apply e_nameF); kernel_rfl; (with_reducible exact lk_here; apply e_es_cons; apply e_Dv; apply e_str); decide +kernel; (with_reducible exact e_es_nil); rfl; (with_reducible apply e_nameF); kernel_rfl; (with_reducible apply lk_skip); decide +kernel; (with_reducible assumption; exact get_v; exact get_v); exact isIn_pl)
          have hlen : ((K2 ++ ((rs[k].es.take i).filter fun o => decide ([o, ("body" : Str)] ∈ rs.map Row.key)).map (fun o => [o, ("body" : Str)])).map encK).length < lenMax := by
            have := List.length_filter_le (fun o => decide ([o, ("body" : Str)] ∈ rs.map Row.key)) (rs[k].es.take i)
            rw [List.length_take] at this
            simp only [List.length_map, List.length_append, lenMax]; lia
          refine ⟨fun hc => ?_, fun hc => ?_⟩
          · ((with_reducible apply wps_cons; apply wp_ExprS; apply wp_methL); kernel_rfl; kernel_rfl; (with_reducible apply lk_skip); decide +kernel; (with_reducible assumption); kernel_rfl; (with_reducible apply wp_eqok; apply e_es_cons; apply e_Dv; apply e_tuple; apply e_es_cons; apply e_Dv; apply e_nameF); kernel_rfl; (with_reducible exact lk_here; apply e_es_cons; apply e_Dv; apply e_str); decide +kernel; (with_reducible exact e_es_nil); rfl; (with_reducible exact e_es_nil; apply wp_append; apply lk_skip); decide +kernel; (with_reducible assumption); assumption; (with_reducible apply rfl_and; apply seq_next; apply wps_nil; apply seq_next; apply wps_nil; apply for_next))
            refine ⟨?_, (by (with_reducible apply lk_skip); decide +kernel; (with_reducible apply lk_skip); decide +kernel; (with_reducible assumption)), (by (with_reducible apply lk_skip); decide +kernel; (with_reducible apply lk_skip); decide +kernel; (with_reducible assumption)), take_all hi' e6 (by simpa using hb)⟩
            rw [List.take_succ_eq_append_getElem hi', List.filter_append]
            simp only [List.filter_cons, hc, if_true, List.filter_nil, List.map_append, ← List.append_assoc]
            exact lk_here
          · ((with_reducible apply wps_nil; apply seq_next; apply wps_nil; apply for_next))
            refine ⟨?_, (by (with_reducible apply lk_skip); decide +kernel; (with_reducible assumption)), (by (with_reducible apply lk_skip); decide +kernel; (with_reducible assumption)), take_all hi' e6 (by simpa using hb)⟩
            rw [List.take_succ_eq_append_getElem hi', List.filter_append]
            simp only [List.filter_cons, hc, Bool.false_eq_true, if_false, List.filter_nil, List.append_nil]
            ((with_reducible apply lk_skip); decide +kernel; (with_reducible assumption))
      · have e0 : (List.map SV.d (List.map PyData.str rs[k].es)).length = rs[k].es.length := by simp
        rw [e0, List.take_length] at e1 e6
        have hkeys : K2 ++ (rs[k].es.filter fun o => decide ([o, ("body" : Str)] ∈ rs.map Row.key)).map (fun o => [o, ("body" : Str)]) = needKeys rs rs[k] := by
          rw [← hK2, ← hK]; rfl
        rw [hkeys] at e1
        have hall : ∀ y ∈ needKeys rs rs[k], y ∈ rs.map Row.key := by
          rw [← hkeys]
          intro y hy
          rw [List.mem_append, List.mem_map] at hy
          rcases hy with hy | ⟨o, ho, rfl⟩
          · exact hK2m y hy
          · exact of_decide_eq_true (List.mem_filter.mp ho).2
        have hnl : (needKeys rs rs[k]).length ≤ 2001 := by
          rw [← hkeys]
          have := List.length_filter_le (fun o => decide ([o, ("body" : Str)] ∈ rs.map Row.key)) rs[k].es
          simp only [List.length_append, List.length_map]; lia
        ((with_reducible apply seq_next; apply wps_cons; apply wp_AssignN); kernel_rfl; (with_reducible apply wp_eqok; apply e_list; exact e_es_nil); rfl; (with_reducible apply wp_st_f; apply seq_next; apply wps_cons; apply wp_For; apply wp_eqok; apply e_nameO); kernel_rfl; (with_reducible apply lk_skip); decide +kernel; (with_reducible assumption; apply wp_frzO; apply lk_skip); decide +kernel; (with_reducible assumption))
        refine ⟨_, rfl, ?_⟩
        refine wp_for_idx (NdC rs rs[k])
          ⟨by refine Eq.trans (b := some ⟨true, .d (.list [])⟩) ?_ (by simp); ((with_reducible apply lk_skip); decide +kernel; (with_reducible exact lk_here)), (by (with_reducible apply lk_skip); decide +kernel; (with_reducible apply lk_skip); decide +kernel; (with_reducible assumption))⟩ (fun i hi m ⟨e1, e2⟩ => ?_) (fun m ⟨e1, e2⟩ => ?_)
        · have hi' : i < (needKeys rs rs[k]).length := by simpa using hi
          have hmem := hall _ (List.getElem_mem hi')
          rw [show (List.map SV.d (List.map encK (needKeys rs rs[k])))[i] = .d (encK (needKeys rs rs[k])[i]) by simp]
          have hlen : ((((needKeys rs rs[k]).take i).map (posOf rs)).foldl addN [] |>.map nI).length < lenMax := by
            have := addN_len (((needKeys rs rs[k]).take i).map (posOf rs)) []
            rw [List.length_map, List.length_take] at this
            simp only [List.length_nil] at this
            simp only [List.length_map, lenMax]; lia
          ((with_reducible apply Wp.bind; apply wp_bindN); kernel_rfl; (with_reducible apply wps_cons; apply wp_If; apply wp_eqok; apply eB_cmp; apply e_cmp; apply e_sub); rfl; (with_reducible apply e_nameF); kernel_rfl; (with_reducible apply lk_skip); decide +kernel; (with_reducible assumption; apply e_nameF); kernel_rfl; (with_reducible exact lk_here; exact get_v; exact get_v); exact item_pl (by assumption); (with_reducible apply e_nameO); kernel_rfl; (with_reducible apply lk_skip); decide +kernel; (with_reducible assumption; exact get_v; apply get_var; apply lk_skip); decide +kernel; (with_reducible assumption); exact cmp_notInN)
          refine ⟨fun hb => ?_, fun hb => ?_⟩
          · ((with_reducible apply wps_cons; apply wp_ExprS; apply wp_methL); kernel_rfl; kernel_rfl; (with_reducible apply lk_skip); decide +kernel; (with_reducible assumption); kernel_rfl; (with_reducible apply wp_eqok; apply e_es_cons; apply e_Dv; apply e_sub); rfl; (with_reducible apply e_nameF); kernel_rfl; (with_reducible apply lk_skip); decide +kernel; (with_reducible assumption; apply e_nameF); kernel_rfl; (with_reducible exact lk_here; exact get_v; exact get_v); exact item_pl (by assumption); (with_reducible exact e_es_nil; apply wp_append; apply lk_skip); decide +kernel; (with_reducible assumption); assumption; (with_reducible apply rfl_and; apply seq_next; apply wps_nil; apply seq_next; apply wps_nil; apply for_next))
            refine ⟨?_, (by (with_reducible apply lk_skip); decide +kernel; (with_reducible apply lk_skip); decide +kernel; (with_reducible assumption))⟩
            rw [List.take_succ_eq_append_getElem hi', List.map_append, List.foldl_append]
            simp only [List.map_cons, List.map_nil, List.foldl_cons, List.foldl_nil]
            rw [addN, if_neg (by simpa using hb), List.map_append]
            exact lk_here
          · ((with_reducible apply wps_nil; apply seq_next; apply wps_nil; apply for_next))
            refine ⟨?_, (by (with_reducible apply lk_skip); decide +kernel; (with_reducible assumption))⟩
            rw [List.take_succ_eq_append_getElem hi', List.map_append, List.foldl_append]
            simp only [List.map_cons, List.map_nil, List.foldl_cons, List.foldl_nil]
            rw [addN, if_pos (by simpa using hb)]
            ((with_reducible apply lk_skip); decide +kernel; (with_reducible assumption))
        · have e0 : (List.map SV.d (List.map encK (needKeys rs rs[k]))).length = (needKeys rs rs[k]).length := by simp
          rw [e0, List.take_length] at e1
          ((with_reducible apply seq_next; apply wps_cons; apply wp_Return; apply wp_eqok; apply e_nameO); kernel_rfl; (with_reducible assumption; apply wp_frzO; assumption; apply seq_ret))
          exact ⟨rfl, e5, e6⟩

theorem wp_comp_idx {α : Type} {m : M} {x : Prop} {Q : List α → M → Prop} {step : SV → M → Out (Option α)} {items : List SV} (I : Nat → List α → M → Prop) (hl : items.length ≤ lenMax) (h0 : I 0 [] m)
    (hs : ∀ k (hk : k < items.length) acc m, I k acc m → Wp (step items[k] m) (fun r m' => match r with
      | some d => I (k + 1) (acc ++ [d]) m'
      | none => I (k + 1) acc m') x) (hend : ∀ acc m, I items.length acc m → Q acc m) : Wp (compLoop step items [] m) Q x := by
  refine wp_comp (fun ys acc m => ∃ k, k ≤ items.length ∧ acc.length ≤ k ∧ ys = items.drop k ∧ I k acc m) ⟨0, Nat.zero_le _, Nat.le_refl _, by simp, h0⟩ (fun y ys acc m ⟨k, h1, h4, h2, h3⟩ => ?_) (fun acc m ⟨k, h1, h4, h2, h3⟩ => ?_)
  · have hk : k < items.length := by
      rcases Nat.lt_or_ge k items.length with h | h
      · exact h
      · rw [List.drop_eq_nil_of_le h] at h2; cases h2
    rw [List.drop_eq_getElem_cons hk] at h2
    cases h2
    refine ⟨by lia, (hs k hk acc m h3).mono (fun r m' h => ?_) id⟩
    cases r with
    | some d => exact ⟨k + 1, hk, by simp; lia, rfl, h⟩
    | none => exact ⟨k + 1, hk, by lia, rfl, h⟩
  · have : items.length ≤ k := List.drop_eq_nil_iff.mp h2.symm
    have : k = items.length := by lia
    subst this; exact hend acc m h3

theorem callV_go1 {n : Nat} {fd : FD} {p₁ : Str} {v₁ : SV} {F : Fl → M → Prop} {x : Prop} (hps : fd.ps = [p₁]) (h : ∀ m₀, gt m₀ p₁ = some ⟨false, v₁⟩ → Wp (exs n ⟨fd.scope, fd.ps, fd.scope, none⟩ fd.body m₀) F x) :
    ∃ vs : List SV, [R.v v₁] = vs.map .v ∧ vs.length = fd.ps.length ∧ Wp (exs n ⟨fd.scope, fd.ps, fd.scope, none⟩ fd.body (fd.ps.zip (vs.map fun v => ⟨false, v⟩))) F x := by
  refine ⟨[v₁], rfl, by rw [hps]; rfl, h _ ?_⟩
  rw [hps]
  show List.lookup p₁ [(p₁, (⟨false, v₁⟩ : Ent))] = _
  simp
theorem callV_go2 {n : Nat} {fd : FD} {p₁ p₂ : Str} {v₁ v₂ : SV} {F : Fl → M → Prop} {x : Prop} (hps : fd.ps = [p₁, p₂]) (hn : (p₂ == p₁) = false) (h : ∀ m₀, gt m₀ p₁ = some ⟨false, v₁⟩ → gt m₀ p₂ = some ⟨false, v₂⟩ → Wp (exs n ⟨fd.scope, fd.ps, fd.scope, none⟩ fd.body m₀) F x) :
    ∃ vs : List SV, [R.v v₁, R.v v₂] = vs.map .v ∧ vs.length = fd.ps.length ∧ Wp (exs n ⟨fd.scope, fd.ps, fd.scope, none⟩ fd.body (fd.ps.zip (vs.map fun v => ⟨false, v⟩))) F x := by
  refine ⟨[v₁, v₂], rfl, by rw [hps]; rfl, h _ ?_ ?_⟩
  · rw [hps]
    show List.lookup p₁ [(p₁, (⟨false, v₁⟩ : Ent)), (p₂, ⟨false, v₂⟩)] = _
    simp
  · rw [hps]
    show List.lookup p₂ [(p₁, (⟨false, v₁⟩ : Ent)), (p₂, ⟨false, v₂⟩)] = _
    rw [List.lookup_cons, hn]; simp
theorem callV_go3 {n : Nat} {fd : FD} {p₁ p₂ p₃ : Str} {v₁ v₂ v₃ : SV} {F : Fl → M → Prop} {x : Prop} (hps : fd.ps = [p₁, p₂, p₃]) (hn : ((p₂ == p₁) || (p₃ == p₁) || (p₃ == p₂)) = false)
    (h : ∀ m₀, gt m₀ p₁ = some ⟨false, v₁⟩ → gt m₀ p₂ = some ⟨false, v₂⟩ → gt m₀ p₃ = some ⟨false, v₃⟩ → Wp (exs n ⟨fd.scope, fd.ps, fd.scope, none⟩ fd.body m₀) F x) :
    ∃ vs : List SV, [R.v v₁, R.v v₂, R.v v₃] = vs.map .v ∧ vs.length = fd.ps.length ∧ Wp (exs n ⟨fd.scope, fd.ps, fd.scope, none⟩ fd.body (fd.ps.zip (vs.map fun v => ⟨false, v⟩))) F x := by
  simp only [Bool.or_eq_false_iff] at hn
  refine ⟨[v₁, v₂, v₃], rfl, by rw [hps]; rfl, h _ ?_ ?_ ?_⟩
  · rw [hps]
    show List.lookup p₁ [(p₁, (⟨false, v₁⟩ : Ent)), (p₂, ⟨false, v₂⟩), (p₃, ⟨false, v₃⟩)] = _
    simp
  · rw [hps]
    show List.lookup p₂ [(p₁, (⟨false, v₁⟩ : Ent)), (p₂, ⟨false, v₂⟩), (p₃, ⟨false, v₃⟩)] = _
    rw [List.lookup_cons, hn.1.1]; simp
  · rw [hps]
    show List.lookup p₃ [(p₁, (⟨false, v₁⟩ : Ent)), (p₂, ⟨false, v₂⟩), (p₃, ⟨false, v₃⟩)] = _
    rw [List.lookup_cons, hn.1.2, List.lookup_cons, hn.2]; simp

structure Small (rs : List Row) : Prop where
  len : rs.length ≤ 20
  row : ∀ r ∈ rs, r.ws.length ≤ 1000 ∧ r.es.length ≤ 1000 ∧ r.n.length ≤ 400 ∧ r.s.length ≤ 400

noncomputable def baseOk (rs : List Row) : Prop := (rs.map Row.key).Nodup ∧ specOk rs
noncomputable def allOk (rs : List Row) : Prop := baseOk rs ∧ ∀ r ∈ rs, needOk rs r
noncomputable abbrev encL (l : List Nat) : PyData := .list (l.map nI)
noncomputable def allNeeds (rs : List Row) : List (List Nat) := rs.map (needsOf rs)

inductive AlA (rs : List Row) (i : Nat) (acc : List PyData) (m' : M) : Prop
  | mk (h0 : gt m' "parts" = some ⟨false, .d (encRows rs)⟩) (h1 : gt m' "places" = some ⟨false, .dt (plOf rs)⟩) (h2 : acc = ((allNeeds rs).map encL).take i) (h3 : ∀ r ∈ rs.take i, needOk rs r) : AlA rs i acc m'
theorem all_body {n : Nat} {m : M} {rs : List Row} (h1 : gt m "parts" = some ⟨false, .d (encRows rs)⟩) (hl : Small rs) :
    Wp (exs (n + 60) (cx "all_needs") (fdv "all_needs").body m) (fun fl _ => fl = .ret (.d (.list ((allNeeds rs).map encL))) ∧ allOk rs) (¬ allOk rs) := by
  have hlen := hl.len
  conv => arg 1; arg 3; whnf
  ((with_reducible apply wps_cons; apply wp_AssignN); kernel_rfl; (with_reducible apply wp_callV); kernel_rfl; rfl; (exact funs_fdv (by kernel_rfl)); (with_reducible apply wp_eqok; apply e_rs_cons; apply e_nameF); kernel_rfl; (with_reducible assumption; exact e_rs_nil))
  refine callV_go1 (p₁ := "parts") (by kernel_rfl) fun m₀ k1 => ?_
  refine (places_body (n := n + 27) k1 (by lia)).mono (fun fl _ h => ?_) (fun h q => h q.1)
  obtain ⟨rfl, hb1, hb2⟩ := h
  refine ⟨_, rfl, ?_⟩
  ((with_reducible apply wp_st_v; apply seq_next; apply wps_cons; apply wp_Return; apply wp_LC); kernel_rfl; (with_reducible apply wp_eqok; apply e_range); kernel_rfl; rfl; (with_reducible apply e_len); kernel_rfl; rfl; (with_reducible apply e_nameF); kernel_rfl; (with_reducible apply lk_skip); decide +kernel; (with_reducible assumption; exact get_v); rfl; (with_reducible exact get_v); (exact rng_ok (by first | assumption | (simp only [List.length_map]; lia))); (with_reducible apply wp_frzV))
  refine And.intro (fun _ h => nomatch h) ⟨_, rfl, ?_⟩
  have e0 : (List.map (fun (i : Nat) => SV.d (.int (Int.ofNat i))) (List.range ((List.map Row.enc rs).length : Int).toNat)).length = rs.length := by simp
  refine wp_comp_idx (AlA rs)
    (by rw [e0]; unfold lenMax; lia) ⟨(by (with_reducible apply lk_skip); decide +kernel; (with_reducible assumption)), (by (with_reducible exact lk_here)), by simp, by simp⟩ (fun i hi acc m ⟨e1, e2, e3, e4⟩ => ?_) (fun acc m ⟨e1, e2, e3, e4⟩ => ?_)
  · have hi' : i < rs.length := by rw [e0] at hi; exact hi
    rw [show (List.map (fun (i : Nat) => SV.d (.int (Int.ofNat i))) (List.range ((List.map Row.enc rs).length : Int).toNat))[i] = .d (.int (i : Int)) by simp]
    ((with_reducible apply Wp.bind; apply wp_eqok; exact eBs_nil; apply Wp.bind; apply wp_D; apply wp_callV); kernel_rfl; rfl; (exact funs_fdv (by kernel_rfl)); (with_reducible apply wp_eqok; apply e_rs_cons; apply e_nameF); kernel_rfl; (with_reducible assumption; apply e_rs_cons; apply e_nameF); kernel_rfl; (with_reducible assumption; apply e_rs_cons; apply e_nameC); rfl; decide +kernel; kernel_rfl; (with_reducible exact e_rs_nil))
    have hr := hl.row _ (List.getElem_mem hi')
    have hii : i < ((allNeeds rs).map encL).length := by simpa [allNeeds] using hi'
    refine callV_go3 (p₁ := "parts") (p₂ := "places") (p₃ := "at") (by kernel_rfl) (by decide +kernel) fun m₀ k1 k2 k3 => ?_
    refine (needs_body (n := n + 24) k1 k2 k3 hi' hr.1 hr.2.1 hb2).mono (fun fl _ h => ?_) (fun h q => h (q.2 _ (List.getElem_mem hi')))
    obtain ⟨rfl, h⟩ := h
    refine ⟨_, rfl, ?_⟩
    ((with_reducible apply wp_frzV; apply wp_asD; apply wp_ok))
    refine ⟨e1, e2, ?_, take_all hi' e4 h⟩
    rw [e3, List.take_succ_eq_append_getElem hii]
    congr 2
    simp [allNeeds]
  · rw [e0, List.take_length] at e4
    ((with_reducible apply wp_frzF; apply seq_ret))
    refine ⟨?_, ⟨hb1, hb2⟩, e4⟩
    rw [e3, e0, List.take_of_length_le (by simp [allNeeds])]
/-! rows: plain facts -/
theorem mem_addN (l : List Nat) : ∀ (acc : List Nat) (j : Nat), j ∈ l.foldl addN acc ↔ j ∈ acc ∨ j ∈ l := by
  induction l with
  | nil => intro acc j; simp
  | cons i l ih =>
    intro acc j
    rw [List.foldl_cons, ih, List.mem_cons]
    have : j ∈ addN acc i ↔ j ∈ acc ∨ j = i := by
      unfold addN
      split
      · rename_i h
        constructor
        · exact .inl
        · rintro (q | rfl)
          · exact q
          · exact h
      · rw [List.mem_append, List.mem_singleton]
    rw [this, or_assoc]
theorem nodup_addN (l : List Nat) : ∀ (acc : List Nat), acc.Nodup → (l.foldl addN acc).Nodup := by
  induction l with
  | nil => intro acc h; exact h
  | cons i l ih =>
    intro acc h
    rw [List.foldl_cons]
    refine ih _ ?_
    unfold addN
    split
    · exact h
    · rename_i hi
      rw [List.nodup_append]
      exact ⟨h, by simp, fun a ha b hb e => by rw [List.mem_singleton] at hb; subst hb; subst e; exact hi ha⟩
theorem nodup_lt_len : ∀ (n : Nat) (l : List Nat), l.Nodup → (∀ j ∈ l, j < n) → l.length ≤ n
  | 0, [], _, _ => Nat.le_refl _
  | 0, j :: _, _, h => absurd (h j (.head _)) (Nat.not_lt_zero _)
  | n + 1, l, hn, h => by
    have h2 := nodup_lt_len n (l.erase n) (hn.erase n) fun j hj => by
      have h3 := h j (List.mem_of_mem_erase hj)
      have : j ≠ n := fun e => by subst e; exact absurd hj (by rw [hn.mem_erase_iff]; simp)
      lia
    rw [List.length_erase] at h2
    split at h2
    · lia
    · lia

theorem needKeys_has {rs : List Row} {r : Row} (hr : r ∈ rs) (hs : specOk rs) (ho : needOk rs r) : ∀ y ∈ needKeys rs r, y ∈ rs.map Row.key := by
  intro y hy
  unfold needKeys at hy
  rw [List.mem_append, List.mem_append, List.mem_map, List.mem_map] at hy
  rcases hy with (hy | ⟨o, h, rfl⟩) | ⟨o, h, rfl⟩
  · split at hy
    · rename_i hb; rw [List.mem_singleton] at hy; rw [hy]; exact hs r hr hb
    · cases hy
  · exact ho.1 o h
  · exact of_decide_eq_true (List.mem_filter.mp h).2
theorem mem_needsOf {rs : List Row} {r : Row} {j : Nat} : j ∈ needsOf rs r ↔ ∃ y ∈ needKeys rs r, posOf rs y = j := by
  unfold needsOf
  rw [mem_addN, List.mem_map]; simp
theorem needsOf_lt {rs : List Row} {r : Row} (hr : r ∈ rs) (hs : specOk rs) (ho : needOk rs r) : ∀ j ∈ needsOf rs r, j < rs.length := by
  intro j hj
  obtain ⟨y, hy, rfl⟩ := mem_needsOf.mp hj
  exact posOf_lt (needKeys_has hr hs ho y hy)
theorem needsOf_len {rs : List Row} {r : Row} (hr : r ∈ rs) (hs : specOk rs) (ho : needOk rs r) : (needsOf rs r).length ≤ rs.length :=
  nodup_lt_len _ _ (nodup_addN _ _ List.nodup_nil) (needsOf_lt hr hs ho)

/-- what follows from a unit -/
noncomputable def succR (rs : List Row) (r : Row) : List Nat := needsOf rs r ++ if [r.n, ("body" : Str)] ∈ rs.map Row.key then [posOf rs [r.n, ("body" : Str)]] else []
inductive Reach (rs : List Row) (s : Nat) : Nat → Prop
  | start : Reach rs s s
  | step {i j : Nat} {r : Row} : Reach rs s i → rs[i]? = some r → j ∈ succR rs r → Reach rs s j
theorem succR_lt {rs : List Row} {r : Row} (hr : r ∈ rs) (ok : allOk rs) : ∀ j ∈ succR rs r, j < rs.length := by
  intro j hj
  unfold succR at hj
  rw [List.mem_append] at hj
  rcases hj with hj | hj
  · exact needsOf_lt hr ok.1.2 (ok.2 r hr) j hj
  · split at hj
    · rename_i hb; rw [List.mem_singleton] at hj; rw [hj]; exact posOf_lt hb
    · cases hj
theorem Reach.lt {rs : List Row} {s i : Nat} (h : Reach rs s i) (ok : allOk rs) (hs : s < rs.length) : i < rs.length := by
  cases h with
  | start => exact hs
  | step _ hr hj => exact succR_lt (List.mem_of_getElem? hr) ok _ hj

/-- the set of found units, as data -/
noncomputable def foundSV : List Nat → SV
  | [] => .dt []
  | F => .di (F.map fun (j : Nat) => (j : Int))
theorem map_contains (F : List Nat) (w : Nat) : (F.map fun (j : Nat) => (j : Int)).contains (w : Int) = decide (w ∈ F) := by
  rw [Bool.eq_iff_iff, List.contains_iff_mem, List.mem_map, decide_eq_true_iff]
  exact ⟨fun ⟨a, h, e⟩ => by have : a = w := by lia
                             rw [← this]; exact h, fun h => ⟨w, h, rfl⟩⟩
theorem cmp_inF {F : List Nat} {w : Nat} : cmp .In (some (.d (.int (w : Int)))) (some (foundSV F)) = some (decide (w ∈ F)) := by
  cases F with
  | nil =>
    show some false = some (decide (w ∈ ([] : List Nat)))
    simp
  | cons a F =>
    show some ((((a :: F).map fun (j : Nat) => (j : Int))).contains (w : Int)) = _
    rw [map_contains]
theorem cmp_notInF {F : List Nat} {w : Nat} : cmp .NotIn (some (.d (.int (w : Int)))) (some (foundSV F)) = some (!decide (w ∈ F)) := by
  cases F with
  | nil =>
    show some true = some (!decide (w ∈ ([] : List Nat)))
    simp
  | cons a F =>
    show some (!(((a :: F).map fun (j : Nat) => (j : Int))).contains (w : Int)) = _
    rw [map_contains]
theorem put_found {F : List Nat} {w : Nat} (h : F.length < lenMax) (hw : w ∉ F) : put (foundSV F) (.int (w : Int)) (.bool true) = some (foundSV (F ++ [w])) := by
  cases F with
  | nil => rfl
  | cons a F =>
    show put (.di ((a :: F).map fun (j : Nat) => (j : Int))) _ _ = _
    rw [put_di (by simpa using h)]
    unfold addK
    rw [map_contains]
    rw [if_neg (by simpa using hw)]
    show some (SV.di _) = some (SV.di _)
    simp
theorem put_found' {F : List Nat} {w : Nat} (h : F.length < lenMax) (hw : w ∈ F) : put (foundSV F) (.int (w : Int)) (.bool true) = some (foundSV F) := by
  cases F with
  | nil => cases hw
  | cons a F =>
    show put (.di ((a :: F).map fun (j : Nat) => (j : Int))) _ _ = _
    rw [put_di (by simpa using h)]
    unfold addK
    rw [map_contains]
    rw [if_pos (by simpa using hw)]
    rfl
theorem cmp_eqNil {W : List PyData} : cmp .Eq (some (.d (.list W))) (some (.d (.list []))) = some W.isEmpty := by
  show (if min (PyData.depth (.list W)) (PyData.depth (.list [])) ≤ 8 then some (PyData.eqv (.list W) (.list [])) else none) = _
  have : PyData.depth (.list []) = 1 := rfl
  rw [this, if_pos (Nat.le_trans (Nat.min_le_right _ _) (by decide))]
  cases W <;> rfl
theorem cmp_neNil {W : List PyData} : cmp .NotEq (some (.d (.list W))) (some (.d (.list []))) = some (!W.isEmpty) := by
  show (if min (PyData.depth (.list W)) (PyData.depth (.list [])) ≤ 8 then some (!PyData.eqv (.list W) (.list [])) else none) = _
  have : PyData.depth (.list []) = 1 := rfl
  rw [this, if_pos (Nat.le_trans (Nat.min_le_right _ _) (by decide))]
  cases W <;> rfl
theorem item_needs {rs : List Row} {k : Nat} (h : k < rs.length) : item (some (.d (.list ((allNeeds rs).map encL)))) (some (.d (.int (k : Int)))) = some (encL (needsOf rs rs[k])) := by
  have h' : k < ((allNeeds rs).map encL).length := by simpa [allNeeds] using h
  have : item (some (.d (.list ((allNeeds rs).map encL)))) (some (.d (.int (k : Int)))) = some ((allNeeds rs).map encL)[k] := item_at h'
  rw [this]; simp [allNeeds]
/-- sorted -/
noncomputable def sortN (F : List Nat) : List Nat := F.mergeSort (fun a b => decide (a ≤ b))
theorem sortN_map (F : List Nat) : (F.map fun (j : Nat) => (j : Int)).mergeSort (fun a b => decide (a ≤ b)) = (sortN F).map fun (j : Nat) => (j : Int) := by
  unfold sortN
  rw [List.map_mergeSort]
  intro a _ b _
  rw [Bool.eq_iff_iff, decide_eq_true_iff, decide_eq_true_iff]; lia
theorem sortN_mem (F : List Nat) (i : Nat) : i ∈ sortN F ↔ i ∈ F := by
  unfold sortN
  exact (List.mergeSort_perm F _).mem_iff
theorem sortN_lt {F : List Nat} (h : F.Nodup) : (sortN F).Pairwise (· < ·) := by
  have h1 : (sortN F).Pairwise (fun a b => decide (a ≤ b) = true) := List.pairwise_mergeSort (fun a b c h1 h2 => by simp at *; lia) (fun a b => by simp; lia) F
  have h2 : (sortN F).Nodup := (List.mergeSort_perm F _).nodup_iff.mpr h
  refine (h1.and h2).imp fun {a b} h => ?_
  have := of_decide_eq_true h.1
  have := h.2
  lia

structure RInv (rs : List Row) (s : Nat) (F W : List Nat) : Prop where
  nd : F.Nodup
  f : ∀ i ∈ F, Reach rs s i
  w : ∀ i ∈ W, Reach rs s i
  cl : ∀ i ∈ F, ∀ r, rs[i]? = some r → ∀ j ∈ succR rs r, j ∈ F ∨ j ∈ W
  st : s ∈ F ∨ s ∈ W

theorem RInv.again {rs : List Row} {s w : Nat} {F W : List Nat} (I : RInv rs s F (W ++ [w])) (h : w ∈ F) : RInv rs s F W := by
  have k : ∀ j, (j ∈ F ∨ j ∈ W ++ [w]) → j ∈ F ∨ j ∈ W := fun j q => by
    rw [List.mem_append, List.mem_singleton] at q
    rcases q with q | q | rfl
    · exact .inl q
    · exact .inr q
    · exact .inl h
  exact ⟨I.nd, I.f, fun i hi => I.w i (List.mem_append_left _ hi), fun i hi r hr j hj => k j (I.cl i hi r hr j hj), k _ I.st⟩
theorem RInv.next {rs : List Row} {s w : Nat} {F W : List Nat} {r : Row} (I : RInv rs s F (W ++ [w])) (h : w ∉ F) (hr : rs[w]? = some r) : RInv rs s (F ++ [w]) (W ++ succR rs r) where
  nd := by
    rw [List.nodup_append]
    exact ⟨I.nd, by simp, fun a ha b hb e => by rw [List.mem_singleton] at hb; subst hb; subst e; exact h ha⟩
  f := fun i hi => by
    rw [List.mem_append, List.mem_singleton] at hi
    rcases hi with hi | rfl
    · exact I.f i hi
    · exact I.w i (by simp)
  w := fun i hi => by
    rw [List.mem_append] at hi
    rcases hi with hi | hi
    · exact I.w i (by simp [hi])
    · exact .step (I.w w (by simp)) hr hi
  cl := fun i hi r' hr' j hj => by
    rw [List.mem_append, List.mem_singleton] at hi
    rcases hi with hi | rfl
    · rcases I.cl i hi r' hr' j hj with q | q
      · exact .inl (by simp [q])
      · rw [List.mem_append, List.mem_singleton] at q
        rcases q with q | rfl
        · exact .inr (by simp [q])
        · exact .inl (by simp)
    · rw [hr] at hr'; cases hr'
      exact .inr (by simp [hj])
  st := by
    rcases I.st with q | q
    · exact .inl (by simp [q])
    · rw [List.mem_append, List.mem_singleton] at q
      rcases q with q | rfl
      · exact .inr (by simp [q])
      · exact .inl (by simp)
theorem RInv.done {rs : List Row} {s : Nat} {F : List Nat} (I : RInv rs s F []) (i : Nat) : i ∈ F ↔ Reach rs s i := by
  refine ⟨I.f i, fun h => ?_⟩
  induction h with
  | start => exact I.st.elim id fun h => nomatch h
  | step _ hr hj ih => exact (I.cl _ ih _ hr _ hj).elim id fun h => nomatch h

inductive RcA (rs : List Row) (main : Str) (k : Nat) (m : M) : Prop
  | mk (F W : List Nat) (h0 : gt m "found" = some ⟨true, foundSV F⟩) (h1 : gt m "waiting" = some ⟨true, .d (.list (W.map nI))⟩) (h2 : gt m "parts" = some ⟨false, .d (encRows rs)⟩) (h3 : gt m "needs" = some ⟨false, .d (.list ((allNeeds rs).map encL))⟩) (h4 : gt m "places" = some ⟨false, .dt (plOf rs)⟩) (h5 : RInv rs (posOf rs [main, ("spec" : Str)]) F W) (h6 : W.length + (rs.length - F.length) * (rs.length + 1) < k) (h7 : k ≤ 1000) : RcA rs main k m
theorem reached_body {n : Nat} {m : M} {rs : List Row} {main : Str} (h1 : gt m "parts" = some ⟨false, .d (encRows rs)⟩) (h2 : gt m "needs" = some ⟨false, .d (.list ((allNeeds rs).map encL))⟩) (h3 : gt m "main" = some ⟨false, .d (.str main)⟩) (hl : Small rs) (ok : allOk rs) :
    Wp (exs (n + 60) (cx "reached_parts") (fdv "reached_parts").body m) (fun fl _ => ∃ L : List Nat, fl = .ret (.d (encL L)) ∧ L.Pairwise (· < ·) ∧ (∀ i, i ∈ L ↔ Reach rs (posOf rs [main, ("spec" : Str)]) i) ∧ [main, ("spec" : Str)] ∈ rs.map Row.key) ([main, ("spec" : Str)] ∉ rs.map Row.key) := by
  have hlen := hl.len
  conv => arg 1; arg 3; whnf
  ((with_reducible apply wps_cons; apply wp_AssignN); kernel_rfl; (with_reducible apply wp_callV); kernel_rfl; rfl; (exact funs_fdv (by kernel_rfl)); (with_reducible apply wp_eqok; apply e_rs_cons; apply e_nameF); kernel_rfl; (with_reducible assumption; exact e_rs_nil))
  refine callV_go1 (p₁ := "parts") (by kernel_rfl) fun m₀ k1 => ?_
  refine (places_body (n := n + 27) k1 (by lia)).mono (fun fl _ h => ?_) (fun h => absurd ok.1 h)
  obtain ⟨rfl, _, _⟩ := h
  refine ⟨_, rfl, ?_⟩
  ((with_reducible apply wp_st_v; apply seq_next; apply wps_cons; apply wp_If; apply wp_eqok; apply eB_cmp; apply e_cmp; apply e_tuple; apply e_es_cons; apply e_Dv; apply e_nameF); kernel_rfl; (with_reducible apply lk_skip); decide +kernel; (with_reducible assumption; apply e_es_cons; apply e_Dv; apply e_str); decide +kernel; (with_reducible exact e_es_nil); rfl; (with_reducible apply e_nameF); kernel_rfl; (with_reducible exact lk_here; exact get_v; exact get_v); exact notIn_pl)
  refine ⟨fun hb => ?_, fun hb => ?_⟩
  · ((with_reducible apply wps_cons; apply wp_Raise); kernel_rfl; (with_reducible apply wp_eqok; apply e_es_cons; apply e_Dv; exact e_int; apply e_es_cons; apply e_Dv; apply e_str); decide +kernel; (with_reducible exact e_es_nil))
    exact ⟨⟨_, _, rfl⟩, by simpa using hb⟩
  have hmain : [main, ("spec" : Str)] ∈ rs.map Row.key := by simpa using hb
  ((with_reducible apply wps_nil; apply seq_next; apply wps_cons; apply wp_AssignN); kernel_rfl; (with_reducible apply wp_eqok; apply e_list; apply e_es_cons; apply e_Dv; apply e_sub); rfl; (with_reducible apply e_nameF); kernel_rfl; (with_reducible exact lk_here; apply e_tuple; apply e_es_cons; apply e_Dv; apply e_nameF); kernel_rfl; (with_reducible apply lk_skip); decide +kernel; (with_reducible assumption; apply e_es_cons; apply e_Dv; apply e_str); decide +kernel; (with_reducible exact e_es_nil); rfl; (with_reducible exact get_v; exact get_v); exact item_pl (by assumption); (with_reducible exact e_es_nil); rfl; (with_reducible apply wp_st_f; apply seq_next; apply wps_cons; apply wp_AssignN); kernel_rfl; (with_reducible apply wp_eqok; exact e_dict0; apply wp_st_f; apply seq_next; apply wps_cons))
  refine wp_While ?_
  refine wp_while (RcA rs main)
    ⟨[], [posOf rs [main, ("spec" : Str)]], lk_here, lk_skip (by decide +kernel) lk_here, (by (with_reducible apply lk_skip); decide +kernel; (with_reducible apply lk_skip); decide +kernel; (with_reducible apply lk_skip); decide +kernel; (with_reducible assumption)), (by (with_reducible apply lk_skip); decide +kernel; (with_reducible apply lk_skip); decide +kernel; (with_reducible apply lk_skip); decide +kernel; (with_reducible assumption)), (by (with_reducible apply lk_skip); decide +kernel; (with_reducible apply lk_skip); decide +kernel; (with_reducible exact lk_here)), ⟨List.nodup_nil, by simp, by simp; exact .start, by simp, .inr (by simp)⟩, ?_, Nat.le_refl _⟩ (fun m ⟨_, _, _, _, _, _, _, _, h, _⟩ => by lia) (fun k m ⟨F, W, e1, e2, e3, e4, e5, I, hk, hk1⟩ => ?_)
  · have h1 : (rs.length - 0) * (rs.length + 1) ≤ 20 * 21 := Nat.mul_le_mul (by lia) (by lia)
    simp only [List.length_singleton, List.length_nil, whileMax]; lia
  · have hF : ∀ i ∈ F, i < rs.length := fun i hi => (I.f i hi).lt ok (posOf_lt hmain)
    have hFl : F.length ≤ rs.length := nodup_lt_len _ _ I.nd hF
    ((with_reducible apply wp_eqok; apply eB_cmp; apply e_cmp; apply e_nameO); kernel_rfl; (with_reducible assumption; apply e_list; exact e_es_nil); rfl; (with_reducible apply get_var; assumption; exact get_f); exact cmp_neNil)
    refine ⟨fun hb => ?_, fun hb => ?_⟩
    · have hW : W = [] := by simpa using hb
      subst hW
      have hne : F ≠ [] := fun e => by have := I.st; simp [e] at this
      ((with_reducible apply seq_next; apply wps_cons; apply wp_Return; apply wp_built); kernel_rfl; rfl; kernel_rfl; decide +kernel; (with_reducible apply wp_eqok; apply e_nameO); kernel_rfl; (with_reducible assumption))
      refine wp_sorted (ks := F.map fun (j : Nat) => (j : Int)) (by
        refine (get_var e1).trans ?_
        cases F with
        | nil => exact absurd rfl hne
        | cons a F => rfl) (by simp; lia) ?_
      ((with_reducible apply wp_frzF; apply seq_ret))
      refine ⟨sortN F, ?_, sortN_lt I.nd, fun i => (sortN_mem F i).trans (I.done i), hmain⟩
      rw [sortN_map, List.map_map]; rfl
    · obtain ⟨W', w, rfl⟩ : ∃ W' w, W = W' ++ [w] := by
        have hne : W ≠ [] := fun e => by simp [e] at hb
        exact ⟨W.dropLast, W.getLast hne, (List.dropLast_concat_getLast hne).symm⟩
      have hw : w < rs.length := (I.w w (by simp)).lt ok (posOf_lt hmain)
      ((with_reducible apply wps_cons; apply wp_AssignN); kernel_rfl; (with_reducible apply wp_methL); kernel_rfl; kernel_rfl; (with_reducible assumption); kernel_rfl; (with_reducible apply wp_eqok; exact e_es_nil))
      refine wp_pop (d := nI w) (by (with_reducible assumption)) (by simp) ?_
      rw [show ((W' ++ [w]).map nI).dropLast = W'.map nI by simp]
      ((with_reducible apply wp_st_v; apply seq_next; apply wps_cons; apply wp_If; apply wp_eqok; apply eB_cmp; apply e_cmp; apply e_nameF); kernel_rfl; (with_reducible exact lk_here; apply e_nameO); kernel_rfl; (with_reducible apply lk_skip); decide +kernel; (with_reducible apply lk_skip); decide +kernel; (with_reducible assumption; exact get_v; apply get_var; apply lk_skip); decide +kernel; (with_reducible apply lk_skip); decide +kernel; (with_reducible assumption); exact cmp_inF)
      have hk' : W'.length + 1 + (rs.length - F.length) * (rs.length + 1) < k + 1 := by simpa using hk
      refine ⟨fun hc => ?_, fun hc => ?_⟩
      · ((with_reducible apply wps_cons; apply wp_Continue; apply seq_cont; apply seq_cont; apply for_cont))
        exact ⟨F, W', (by (with_reducible apply lk_skip); decide +kernel; (with_reducible apply lk_skip); decide +kernel; (with_reducible assumption)), (by (with_reducible apply lk_skip); decide +kernel; (with_reducible exact lk_here)), (by (with_reducible apply lk_skip); decide +kernel; (with_reducible apply lk_skip); decide +kernel; (with_reducible assumption)), (by (with_reducible apply lk_skip); decide +kernel; (with_reducible apply lk_skip); decide +kernel; (with_reducible assumption)), (by (with_reducible apply lk_skip); decide +kernel; (with_reducible apply lk_skip); decide +kernel; (with_reducible assumption)), I.again (by simpa using hc), by lia, by lia⟩
      · have hwF : w ∉ F := by simpa using hc
        have I' := I.next hwF (List.getElem?_eq_getElem hw)
        have hFl' : F.length < rs.length := by
          have := nodup_lt_len _ _ I'.nd fun i hi => (I'.f i hi).lt ok (posOf_lt hmain)
          rw [List.length_append, List.length_singleton] at this; lia
        have hnl := needsOf_len (List.getElem_mem hw) ok.1.2 (ok.2 _ (List.getElem_mem hw))
        have hWl : W'.length ≤ 1000 := by lia
        have hlen1 : (W'.map nI).length + ((needsOf rs rs[w]).map nI).length ≤ lenMax := by
          simp only [List.length_map, lenMax]; lia
        ((with_reducible apply wps_nil; apply seq_next; apply wps_cons; apply wp_AssignSub); rfl; kernel_rfl; (with_reducible apply wp_eqok; apply e_Dv; exact e_true; apply own_and; apply lk_skip); decide +kernel; (with_reducible apply lk_skip); decide +kernel; (with_reducible assumption; apply wp_eqok; apply e_Dv; apply e_nameF); kernel_rfl; (with_reducible exact lk_here))
        refine ⟨_, _, (by (with_reducible apply lk_skip); decide +kernel; (with_reducible apply lk_skip); decide +kernel; (with_reducible assumption)), put_found (by unfold lenMax; lia) hwF, ?_⟩
        ((with_reducible apply seq_next; apply wps_cons; apply wp_ExprS; apply wp_methL); kernel_rfl; kernel_rfl; (with_reducible apply lk_skip); decide +kernel; (with_reducible apply lk_skip); decide +kernel; (with_reducible exact lk_here); kernel_rfl; (with_reducible apply wp_eqok; apply e_es_cons; apply e_Dv; apply e_sub); rfl; (with_reducible apply e_nameF); kernel_rfl; (with_reducible apply lk_skip); decide +kernel; (with_reducible apply lk_skip); decide +kernel; (with_reducible apply lk_skip); decide +kernel; (with_reducible assumption; apply e_nameF); kernel_rfl; (with_reducible apply lk_skip); decide +kernel; (with_reducible exact lk_here; exact get_v; exact get_v); exact item_needs (by assumption); (with_reducible exact e_es_nil; apply wp_extend; apply lk_skip); decide +kernel; (with_reducible apply lk_skip); decide +kernel; (with_reducible exact lk_here); assumption; (with_reducible apply rfl_and; apply seq_next; apply wps_cons; apply wp_If; apply wp_eqok; apply eB_cmp; apply e_cmp; apply e_tuple; apply e_es_cons; apply e_Dv; apply e_sub); rfl; (with_reducible apply e_sub); rfl; (with_reducible apply e_nameF); kernel_rfl; (with_reducible apply lk_skip); decide +kernel; (with_reducible apply lk_skip); decide +kernel; (with_reducible apply lk_skip); decide +kernel; (with_reducible apply lk_skip); decide +kernel; (with_reducible assumption; apply e_nameF); kernel_rfl; (with_reducible apply lk_skip); decide +kernel; (with_reducible apply lk_skip); decide +kernel; (with_reducible exact lk_here; exact get_v; exact get_v); exact item_rows (by assumption); (with_reducible exact e_int; exact get_v; exact get_v); rfl; (with_reducible apply e_es_cons; apply e_Dv; apply e_str); decide +kernel; (with_reducible exact e_es_nil); rfl; (with_reducible apply e_nameF); kernel_rfl; (with_reducible apply lk_skip); decide +kernel; (with_reducible apply lk_skip); decide +kernel; (with_reducible apply lk_skip); decide +kernel; (with_reducible apply lk_skip); decide +kernel; (with_reducible assumption; exact get_v; exact get_v); exact isIn_pl)
        rw [← List.map_append]
        have hmul : (rs.length - F.length) * (rs.length + 1) = (rs.length - (F ++ [w]).length) * (rs.length + 1) + (rs.length + 1) := by
          rw [List.length_append, List.length_singleton, show rs.length - F.length = (rs.length - (F.length + 1)) + 1 by lia, Nat.add_mul, Nat.one_mul]
        refine ⟨fun hd => ?_, fun hd => ?_⟩
        · have hbody : [rs[w].n, ("body" : Str)] ∈ rs.map Row.key := by simpa using hd
          have hlen2 : ((W' ++ needsOf rs rs[w]).map nI).length < lenMax := by
            simp only [List.length_map, List.length_append, lenMax]; lia
          ((with_reducible apply wps_cons; apply wp_ExprS; apply wp_methL); kernel_rfl; kernel_rfl; (with_reducible exact lk_here); kernel_rfl; (with_reducible apply wp_eqok; apply e_es_cons; apply e_Dv; apply e_sub); rfl; (with_reducible apply e_nameF); kernel_rfl; (with_reducible apply lk_skip); decide +kernel; (with_reducible apply lk_skip); decide +kernel; (with_reducible apply lk_skip); decide +kernel; (with_reducible apply lk_skip); decide +kernel; (with_reducible assumption; apply e_tuple; apply e_es_cons; apply e_Dv; apply e_sub); rfl; (with_reducible apply e_sub); rfl; (with_reducible apply e_nameF); kernel_rfl; (with_reducible apply lk_skip); decide +kernel; (with_reducible apply lk_skip); decide +kernel; (with_reducible apply lk_skip); decide +kernel; (with_reducible apply lk_skip); decide +kernel; (with_reducible assumption; apply e_nameF); kernel_rfl; (with_reducible apply lk_skip); decide +kernel; (with_reducible apply lk_skip); decide +kernel; (with_reducible exact lk_here; exact get_v; exact get_v); exact item_rows (by assumption); (with_reducible exact e_int; exact get_v; exact get_v); rfl; (with_reducible apply e_es_cons; apply e_Dv; apply e_str); decide +kernel; (with_reducible exact e_es_nil); rfl; (with_reducible exact get_v; exact get_v); exact item_pl (by assumption); (with_reducible exact e_es_nil; apply wp_append; exact lk_here); assumption; (with_reducible apply rfl_and; apply seq_next; apply wps_nil; apply seq_next; apply wps_nil; apply for_next))
          refine ⟨F ++ [w], W' ++ succR rs rs[w], (by (with_reducible apply lk_skip); decide +kernel; (with_reducible apply lk_skip); decide +kernel; (with_reducible exact lk_here)), ?_, (by (with_reducible apply lk_skip); decide +kernel; (with_reducible apply lk_skip); decide +kernel; (with_reducible apply lk_skip); decide +kernel; (with_reducible apply lk_skip); decide +kernel; (with_reducible apply lk_skip); decide +kernel; (with_reducible assumption)), (by (with_reducible apply lk_skip); decide +kernel; (with_reducible apply lk_skip); decide +kernel; (with_reducible apply lk_skip); decide +kernel; (with_reducible apply lk_skip); decide +kernel; (with_reducible apply lk_skip); decide +kernel; (with_reducible assumption)), (by (with_reducible apply lk_skip); decide +kernel; (with_reducible apply lk_skip); decide +kernel; (with_reducible apply lk_skip); decide +kernel; (with_reducible apply lk_skip); decide +kernel; (with_reducible apply lk_skip); decide +kernel; (with_reducible assumption)), I', ?_, by lia⟩
          · unfold succR
            rw [if_pos hbody, ← List.append_assoc]
            simp only [List.map_append]
            exact lk_here
          · unfold succR
            rw [if_pos hbody]
            simp only [List.length_append, List.length_singleton] at hmul ⊢
            lia
        · have hbody : ¬ [rs[w].n, ("body" : Str)] ∈ rs.map Row.key := by simpa using hd
          ((with_reducible apply wps_nil; apply seq_next; apply wps_nil; apply for_next))
          refine ⟨F ++ [w], W' ++ succR rs rs[w], (by (with_reducible apply lk_skip); decide +kernel; (with_reducible exact lk_here)), ?_, (by (with_reducible apply lk_skip); decide +kernel; (with_reducible apply lk_skip); decide +kernel; (with_reducible apply lk_skip); decide +kernel; (with_reducible apply lk_skip); decide +kernel; (with_reducible assumption)), (by (with_reducible apply lk_skip); decide +kernel; (with_reducible apply lk_skip); decide +kernel; (with_reducible apply lk_skip); decide +kernel; (with_reducible apply lk_skip); decide +kernel; (with_reducible assumption)), (by (with_reducible apply lk_skip); decide +kernel; (with_reducible apply lk_skip); decide +kernel; (with_reducible apply lk_skip); decide +kernel; (with_reducible apply lk_skip); decide +kernel; (with_reducible assumption)), I', ?_, by lia⟩
          · unfold succR
            rw [if_neg hbody, List.append_nil]
            ((with_reducible exact lk_here))
          · unfold succR
            rw [if_neg hbody, List.append_nil]
            simp only [List.length_append, List.length_singleton] at hmul ⊢
            lia

theorem wp_negC {n : Nat} {c : Ctx} {m : M} {x : Prop} {Q : R → M → Prop} {i : Int} {u : Nat} {p q : Pos} (h : Q (.v (.d (.int (-i)))) m) : Wp (ev (n + 2) c (.UnaryOp .USub (.Constant (.int i) u p) q) m) Q x := h
theorem wpB_true {n : Nat} {c : Ctx} {m : M} {x : Prop} {Q : Bool → M → Prop} {u : Nat} {p : Pos} (h : Q true m) : Wp (evB (n + 2) c (.Constant (.bool true) u p) m) Q x := h
theorem item_lastN {P : List Nat} {w : Nat} : item (some (.d (.list ((P ++ [w]).map nI)))) (some (.d (.int (-1)))) = some (nI w) := by
  show (place ((P ++ [w]).map nI).length (-1)).bind _ = _
  have : place ((P ++ [w]).map nI).length (-1) = some P.length := by
    unfold place
    rw [if_neg (by lia), if_pos (by simp; lia)]
    simp only [List.map_append, List.map_cons, List.map_nil, List.length_append, List.length_map, List.length_singleton]
    congr 1; lia
  rw [this, Option.bind_some]; simp
theorem item_zero {a : PyData} {l : List PyData} : item (some (.d (.list (a :: l)))) (some (.d (.int 0))) = some a := item_at (xs := a :: l) (k := 0) (by simp)
theorem idxOf_N {l : List Nat} {f : Nat} (h : f ∈ l) : idxOf (l.map nI) (.int (f : Int)) = some (l.idxOf f) := by
  unfold idxOf
  induction l with
  | nil => cases h
  | cons a l ih =>
    rw [List.map_cons, List.findIdx?_cons, List.idxOf_cons]
    by_cases e : a = f
    · subst e; simp [PyData.eqv]
    · have e1 : PyData.eqv (nI a) (.int (f : Int)) = false := by simp [PyData.eqv]; lia
      have e2 : (a == f) = false := beq_eq_false_iff_ne.mpr e
      rw [e1, e2, ih (by simpa [Ne.symm e] using h)]; simp
theorem sliceL_from {xs : List PyData} {j : Nat} (h : j < 1000) : sliceL xs (some (.int (j : Int))) none = some (xs.drop j) := by
  have e : bnd xs.length 0 (some (.int (j : Int))) = some (min j xs.length) := by
    have h2 : (1000 : Int) ≤ 2 ^ 60 := by decide +kernel
    have hb : (decide (0 ≤ (j : Int)) && decide ((j : Int) < 2 ^ 60)) = true := by
      rw [Bool.and_eq_true]
      exact ⟨decide_eq_true (Int.natCast_nonneg j), decide_eq_true (Int.lt_of_lt_of_le (Int.ofNat_lt.mpr h) h2)⟩
    rw [bnd_int, if_pos hb, Int.toNat_natCast]
  unfold sliceL
  rw [e, Option.bind_some, bnd_none, Option.map_some]
  refine congrArg some ?_
  rw [List.take_of_length_le (by rw [List.length_drop]; exact Nat.le_refl _)]
  rcases Nat.le_total j xs.length with h | h
  · rw [Nat.min_eq_left h]
  · rw [Nat.min_eq_right h, List.drop_eq_nil_of_le (Nat.le_refl _), List.drop_eq_nil_of_le h]
/-- a chain of needs -/
structure Way (rs : List Row) (L P : List Nat) : Prop where
  ne : P ≠ []
  nd : P.Nodup
  sub : ∀ i ∈ P, i ∈ L
  ch : ∀ t (h : t + 1 < P.length), ∃ r, rs[P[t]]? = some r ∧ P[t + 1] ∈ needsOf rs r

/-- a ring of units that need one another -/
structure Ring (rs : List Row) (L R : List Nat) : Prop where
  ne : R ≠ []
  nd : R.Nodup
  sub : ∀ i ∈ R, i ∈ L
  ch : ∀ t (h : t < R.length), ∃ r, rs[R[t]]? = some r ∧ R[(t + 1) % R.length]'(Nat.mod_lt _ (by lia)) ∈ needsOf rs r

theorem Way.ring {rs : List Row} {L P : List Nat} {w f : Nat} {r : Row} (W : Way rs L (P ++ [w])) (hr : rs[w]? = some r) (hf : f ∈ needsOf rs r) (hm : f ∈ P ++ [w]) : Ring rs L ((P ++ [w]).drop ((P ++ [w]).idxOf f)) := by
  have hj := List.idxOf_lt_length_of_mem hm
  have hjf : (P ++ [w])[(P ++ [w]).idxOf f] = f := List.getElem_idxOf hj
  have hlast : ∀ q (h : q < (P ++ [w]).length), q + 1 = (P ++ [w]).length → (P ++ [w])[q] = w := fun q h e => by
    rw [List.length_append, List.length_singleton] at e
    have : q = P.length := by lia
    subst this; simp
  generalize P ++ [w] = Z at *
  generalize Z.idxOf f = j at *
  refine ⟨fun e => ?_, (List.drop_sublist j Z).nodup W.nd, fun i hi => W.sub i (List.mem_of_mem_drop hi), fun t h => ?_⟩
  · rw [List.drop_eq_nil_iff] at e; lia
  · have hl : (Z.drop j).length = Z.length - j := List.length_drop
    have ht : j + t < Z.length := by lia
    rw [List.getElem_drop]
    by_cases hlt : t + 1 < (Z.drop j).length
    · obtain ⟨r', h1, h2⟩ := W.ch (j + t) (by lia)
      refine ⟨r', h1, ?_⟩
      have e : (t + 1) % (Z.drop j).length = t + 1 := Nat.mod_eq_of_lt hlt
      have : (Z.drop j)[(t + 1) % (Z.drop j).length]'(Nat.mod_lt _ (by lia)) = Z[j + t + 1] := by
        rw [List.getElem_drop]; congr 1; lia
      rw [this]; exact h2
    · have e0 : t + 1 = (Z.drop j).length := by lia
      refine ⟨r, by rw [hlast (j + t) ht (by lia)]; exact hr, ?_⟩
      have : (Z.drop j)[(t + 1) % (Z.drop j).length]'(Nat.mod_lt _ (by lia)) = f := by
        rw [List.getElem_drop, ← hjf]
        congr 1
        rw [e0, Nat.mod_self]; rfl
      rw [this]; exact hf
theorem Way.more {rs : List Row} {L P : List Nat} {w f : Nat} {r : Row} (W : Way rs L (P ++ [w])) (hr : rs[w]? = some r) (hf : f ∈ needsOf rs r) (hm : f ∉ P ++ [w]) (hL : f ∈ L) : Way rs L (P ++ [w] ++ [f]) := by
  have hlast : ∀ q (h : q < (P ++ [w]).length), q + 1 = (P ++ [w]).length → (P ++ [w])[q] = w := fun q h e => by
    rw [List.length_append, List.length_singleton] at e
    have : q = P.length := by lia
    subst this; simp
  generalize P ++ [w] = Z at *
  refine ⟨by simp, ?_, fun i hi => ?_, fun t h => ?_⟩
  · rw [List.nodup_append]
    exact ⟨W.nd, by simp, fun a ha b hb e => by rw [List.mem_singleton] at hb; subst hb; subst e; exact hm ha⟩
  · rw [List.mem_append, List.mem_singleton] at hi
    rcases hi with hi | rfl
    · exact W.sub i hi
    · exact hL
  · rw [List.length_append, List.length_singleton] at h
    have ht : t < Z.length := by lia
    rw [List.getElem_append_left ht]
    by_cases hlt : t + 1 < Z.length
    · rw [List.getElem_append_left hlt]; exact W.ch t hlt
    · refine ⟨r, by rw [hlast t ht (by lia)]; exact hr, ?_⟩
      rw [List.getElem_append_right (by lia)]
      simp; exact hf

inductive RgA (rs : List Row) (L : List Nat) (k : Nat) (m : M) : Prop
  | mk (h0 : gt m "needs" = some ⟨false, .d (.list ((allNeeds rs).map encL))⟩) (h1 : gt m "left" = some ⟨false, .d (.list (L.map nI))⟩) (h2 : gt m "inside" = some ⟨true, foundSV (L.take k)⟩) : RgA rs L k m
inductive RgB (rs : List Row) (L : List Nat) (k : Nat) (m : M) : Prop
  | mk (P : List Nat) (w : Nat) (h0 : gt m "needs" = some ⟨false, .d (.list ((allNeeds rs).map encL))⟩) (h1 : gt m "inside" = some ⟨true, foundSV L⟩) (h2 : gt m "way" = some ⟨true, .d (.list ((P ++ [w]).map nI))⟩) (h3 : Way rs L (P ++ [w])) (h4 : P.length + 1 + k = 1001) : RgB rs L k m
theorem ring_body {n : Nat} {m : M} {rs : List Row} {L : List Nat} (h1 : gt m "needs" = some ⟨false, .d (.list ((allNeeds rs).map encL))⟩) (h2 : gt m "left" = some ⟨false, .d (.list (L.map nI))⟩) (hl : Small rs) (hL : ∀ i ∈ L, i < rs.length) (hd : L.Nodup) (hne : L ≠ []) (ok : allOk rs)
    (hp : ∀ i ∈ L, ∀ r, rs[i]? = some r → ∃ j ∈ needsOf rs r, j ∈ L) :
    Wp (exs (n + 40) (cx "ring_of") (fdv "ring_of").body m) (fun fl _ => ∃ R : List Nat, fl = .ret (.d (encL R)) ∧ Ring rs L R) False := by
  have hlen := hl.len
  have hLl : L.length ≤ rs.length := nodup_lt_len _ _ hd hL
  conv => arg 1; arg 3; whnf
  ((with_reducible apply wps_cons; apply wp_AssignN); kernel_rfl; (with_reducible apply wp_eqok; exact e_dict0; apply wp_st_f; apply seq_next; apply wps_cons; apply wp_For; apply wp_eqok; apply e_nameF); kernel_rfl; (with_reducible apply lk_skip); decide +kernel; (with_reducible assumption; apply wp_frzV))
  refine ⟨_, rfl, ?_⟩
  refine wp_for_idx (RgA rs L)
    ⟨(by (with_reducible apply lk_skip); decide +kernel; (with_reducible assumption)), (by (with_reducible apply lk_skip); decide +kernel; (with_reducible assumption)), lk_here⟩ (fun k hk m ⟨e1, e2, e3⟩ => ?_) (fun m ⟨e1, e2, e3⟩ => ?_)
  · have hk' : k < L.length := by simpa using hk
    rw [show (List.map SV.d (List.map nI L))[k] = .d (.int (L[k] : Int)) by simp]
    ((with_reducible apply Wp.bind; apply wp_bindN); kernel_rfl; (with_reducible apply wps_cons; apply wp_AssignSub); rfl; kernel_rfl; (with_reducible apply wp_eqok; apply e_Dv; exact e_true; apply own_and; apply lk_skip); decide +kernel; (with_reducible assumption; apply wp_eqok; apply e_Dv; apply e_nameF); kernel_rfl; (with_reducible exact lk_here))
    have hnot : L[k] ∉ L.take k := fun h => by
      have := (List.take_sublist (k + 1) L).nodup hd
      rw [List.take_succ_eq_append_getElem hk', List.nodup_append] at this
      exact this.2.2 _ h _ (by simp) rfl
    refine ⟨_, _, (by (with_reducible apply lk_skip); decide +kernel; (with_reducible assumption)), put_found (by rw [List.length_take]; unfold lenMax; lia) hnot, ?_⟩
    ((with_reducible apply seq_next; apply wps_nil; apply for_next))
    refine ⟨(by (with_reducible apply lk_skip); decide +kernel; (with_reducible apply lk_skip); decide +kernel; (with_reducible assumption)), (by (with_reducible apply lk_skip); decide +kernel; (with_reducible apply lk_skip); decide +kernel; (with_reducible assumption)), ?_⟩
    rw [List.take_succ_eq_append_getElem hk']
    exact lk_here
  · have e0 : (List.map SV.d (List.map nI L)).length = L.length := by simp
    rw [e0, List.take_length] at e3
    have h0 : 0 < L.length := List.length_pos_iff.mpr hne
    ((with_reducible apply seq_next; apply wps_cons; apply wp_AssignN); kernel_rfl; (with_reducible apply wp_eqok; apply e_list; apply e_es_cons; apply e_Dv; apply e_sub); rfl; (with_reducible apply e_nameF); kernel_rfl; (with_reducible assumption; exact e_int; exact get_v; exact get_v); exact item_at (by first | assumption | (simp <;> lia)); (with_reducible exact e_es_nil); rfl; (with_reducible apply wp_st_f; apply seq_next; apply wps_cons))
    refine wp_While ?_
    refine wp_while (RgB rs L)
      ⟨[], L[0], (by (with_reducible apply lk_skip); decide +kernel; (with_reducible assumption)), (by (with_reducible apply lk_skip); decide +kernel; (with_reducible assumption)), ?_, ?_, rfl⟩ (fun m ⟨P, w, _, _, _, W, h⟩ => ?_) (fun k m ⟨P, w, e1, e2, e3, W, hk⟩ => ?_)
    · have e : (List.map nI L)[0]'(by simpa using h0) = nI L[0] := by simp
      rw [e]
      exact lk_here
    · exact ⟨by simp, by simp, fun i hi => by rw [List.nil_append, List.mem_singleton] at hi; rw [hi]; exact List.getElem_mem h0, fun t h => by simp at h⟩
    · have := nodup_lt_len _ _ W.nd fun i hi => hL i (W.sub i hi)
      simp at this; lia
    · have hwL : w ∈ L := W.sub w (by simp)
      have hw : w < rs.length := hL w hwL
      have hPl := nodup_lt_len _ _ W.nd fun i hi => hL i (W.sub i hi)
      rw [List.length_append, List.length_singleton] at hPl
      ((with_reducible apply wpB_true; apply br4; apply wps_cons; apply wp_AssignN); kernel_rfl; (with_reducible apply wp_sub); rfl; (with_reducible apply wp_LC); kernel_rfl; (with_reducible apply wp_sub); rfl; (with_reducible apply wp_eqok; apply e_nameF); kernel_rfl; (with_reducible assumption; apply wp_sub); rfl; (with_reducible apply wp_eqok; apply e_nameO); kernel_rfl; (with_reducible assumption; apply wp_negC))
      refine wp_item_ok (get_var e3) get_v item_lastN ?_
      ((with_reducible apply wp_item_ok; exact get_v; exact get_v); exact item_needs (by assumption); (with_reducible apply wp_frzV))
      refine And.intro (fun _ h => nomatch h) ⟨_, rfl, ?_⟩
      have hnl := needsOf_len (List.getElem_mem hw) ok.1.2 (ok.2 _ (List.getElem_mem hw))
      have hrw : rs[w]? = some rs[w] := List.getElem?_eq_getElem hw
      obtain ⟨j₀, hj₀, hj₁⟩ := hp w hwL _ hrw
      refine wp_comp_idx (fun i acc m' => m' = m ∧ acc = (((needsOf rs rs[w]).take i).filter (fun j => decide (j ∈ L))).map nI) (by simp [lenMax]; lia) ⟨rfl, by simp⟩ (fun i hi acc m' ⟨q1, q2⟩ => ?_) (fun acc m' ⟨q1, q2⟩ => ?_)
      · have hi' : i < (needsOf rs rs[w]).length := by simpa using hi
        subst q1
        rw [show (List.map SV.d (List.map nI (needsOf rs rs[w])))[i] = .d (.int ((needsOf rs rs[w])[i] : Int)) by simp]
        ((with_reducible apply Wp.bind; apply wp_eqok; apply eBs_one; apply eB_cmp; apply e_cmp; apply e_nameC); rfl; decide +kernel; kernel_rfl; (with_reducible apply e_nameO); kernel_rfl; (with_reducible assumption; exact get_v; apply get_var; assumption); exact cmp_inF)
        cases hb : decide ((needsOf rs rs[w])[i] ∈ L) with
        | true =>
          ((with_reducible apply Wp.bind; apply wp_eqok; apply e_Dv; apply e_nameC); rfl; decide +kernel; kernel_rfl; (with_reducible apply wp_ok; apply rfl_and))
          rw [List.take_succ_eq_append_getElem hi', List.filter_append, q2]
          simp only [List.filter_cons, hb, if_true, List.filter_nil, List.map_append]; rfl
        | false =>
          ((with_reducible apply wp_ok; apply rfl_and))
          rw [List.take_succ_eq_append_getElem hi', List.filter_append, q2]
          simp only [List.filter_cons, hb, Bool.false_eq_true, if_false, List.filter_nil, List.append_nil]
      · subst q1
        rw [List.length_map, List.length_map, List.take_length] at q2
        obtain ⟨f, tl, hft⟩ : ∃ f tl, (needsOf rs rs[w]).filter (fun j => decide (j ∈ L)) = f :: tl := by
          cases q : (needsOf rs rs[w]).filter (fun j => decide (j ∈ L)) with
          | nil =>
            have : j₀ ∈ (needsOf rs rs[w]).filter (fun j => decide (j ∈ L)) := List.mem_filter.mpr ⟨hj₀, by simpa using hj₁⟩
            rw [q] at this; cases this
          | cons f tl => exact ⟨f, tl, rfl⟩
        have hfm : f ∈ (needsOf rs rs[w]).filter (fun j => decide (j ∈ L)) := by rw [hft]; simp
        obtain ⟨hf1, hf2⟩ := List.mem_filter.mp hfm
        rw [hft, List.map_cons] at q2
        subst q2
        ((with_reducible apply wp_eqok; exact e_int; apply wp_item_ok; exact get_f; exact get_v); exact item_at (by first | assumption | (simp <;> lia)); (with_reducible apply wp_st_v; apply seq_next; apply wps_cons; apply wp_If; apply wp_eqok; apply eB_cmp; apply e_cmp; apply e_nameF); kernel_rfl; (with_reducible exact lk_here; apply e_nameO); kernel_rfl; (with_reducible apply lk_skip); decide +kernel; (with_reducible assumption; exact get_v; apply get_var; apply lk_skip); decide +kernel; (with_reducible assumption); exact cmp_inN)
        simp only [List.getElem_cons_zero]
        refine ⟨fun hb => ?_, fun hb => ?_⟩
        · have hm : f ∈ P ++ [w] := by simpa using hb
          have hj := List.idxOf_lt_length_of_mem hm
          rw [List.length_append, List.length_singleton] at hj
          ((with_reducible apply wps_cons; apply wp_Return; apply wp_slice; apply wp_eqok; apply e_nameO); kernel_rfl; (with_reducible apply lk_skip); decide +kernel; (with_reducible assumption; apply wp_O_some; apply wp_D; apply wp_methL); kernel_rfl; kernel_rfl; (with_reducible apply lk_skip); decide +kernel; (with_reducible assumption); kernel_rfl; (with_reducible apply wp_eqok; apply e_es_cons; apply e_Dv; apply e_nameF); kernel_rfl; (with_reducible exact lk_here; exact e_es_nil))
          refine wp_index (by (with_reducible apply lk_skip); decide +kernel; (with_reducible assumption)) (idxOf_N hm) ?_
          ((with_reducible apply wp_frzV; apply wp_asD; apply wp_eqok; exact e_O_none))
          refine ⟨(P ++ [w]).map nI, _, get_var (e := ⟨true, .d (.list ((P ++ [w]).map nI))⟩) (by (with_reducible apply lk_skip); decide +kernel; (with_reducible assumption)), sliceL_from (by lia), by rw [List.length_drop, List.length_map, List.length_append, List.length_singleton]; unfold lenMax; lia, ?_⟩
          ((with_reducible apply wp_frzF; apply seq_ret; apply seq_ret; apply for_ret; apply seq_ret))
          exact ⟨_, by rw [← List.map_drop], W.ring hrw hf1 hm⟩
        · have hm : f ∉ P ++ [w] := by simpa using hb
          have hl2 : ((P ++ [w]).map nI).length < lenMax := by
            simp only [List.length_map, List.length_append, List.length_singleton, lenMax]; lia
          ((with_reducible apply wps_nil; apply seq_next; apply wps_cons; apply wp_ExprS; apply wp_methL); kernel_rfl; kernel_rfl; (with_reducible apply lk_skip); decide +kernel; (with_reducible assumption); kernel_rfl; (with_reducible apply wp_eqok; apply e_es_cons; apply e_Dv; apply e_nameF); kernel_rfl; (with_reducible exact lk_here; exact e_es_nil; apply wp_append; apply lk_skip); decide +kernel; (with_reducible assumption); assumption; (with_reducible apply rfl_and; apply seq_next; apply wps_nil; apply for_next))
          refine ⟨P ++ [w], f, (by (with_reducible apply lk_skip); decide +kernel; (with_reducible apply lk_skip); decide +kernel; (with_reducible assumption)), (by (with_reducible apply lk_skip); decide +kernel; (with_reducible apply lk_skip); decide +kernel; (with_reducible assumption)), ?_, W.more hrw hf1 hm (by simpa using hf2), by rw [List.length_append, List.length_singleton]; lia⟩
          simp only [List.map_append]
          exact lk_here

theorem joinD_ok {sep : Str} {xs : List Str} {B : Nat} (hs : sep.length ≤ 100) (hl : xs.length ≤ 20) (hx : ∀ y ∈ xs, y.length ≤ 900) : ∃ s, joinD sep (xs.map .str) = some s ∧ s.length ≤ 1000 * xs.length := by
  have e : (xs.map PyData.str).mapM strOf = some xs := by
    clear hl hx
    induction xs with
    | nil => rfl
    | cons a r ih => rw [List.map_cons, List.mapM_cons, ih]; rfl
  refine ⟨Str.join sep xs, ?_, ?_⟩
  · unfold joinD
    rw [e, Option.bind_some, if_pos]
    refine ⟨by lia, by lia, ?_⟩
    rw [List.all_eq_true]
    intro y hy
    have := hx y hy
    simp; lia
  · clear e hl
    induction xs with
    | nil => exact Nat.le_refl 0
    | cons a r ih =>
      have h1 := hx a (.head _)
      have h2 := ih fun y hy => hx y (.tail _ hy)
      cases r with
      | nil => show a.length ≤ _; simp; lia
      | cons b r =>
        show (a ++ sep ++ Str.join sep (b :: r)).length ≤ _
        rw [Str.length_append, Str.length_append]
        simp only [List.length_cons] at h2 ⊢
        lia

theorem text_body {n : Nat} {m : M} {rs : List Row} {R : List Nat} (h1 : gt m "parts" = some ⟨false, .d (encRows rs)⟩) (h2 : gt m "ring" = some ⟨false, .d (.list (R.map nI))⟩) (hl : Small rs) (hR : ∀ i ∈ R, i < rs.length) (hd : R.Nodup) :
    Wp (exs (n + 40) (cx "ring_text") (fdv "ring_text").body m) (fun fl _ => ∃ s : Str, fl = .ret (.d (.str s)) ∧ s.length ≤ 20000) False := by
  have hlen := hl.len
  have hRl : R.length ≤ rs.length := nodup_lt_len _ _ hd hR
  conv => arg 1; arg 3; whnf
  ((with_reducible apply wps_cons; apply wp_Return; apply wp_join); kernel_rfl; decide +kernel; (with_reducible apply wp_es_cons; apply wp_D; apply wp_LC); kernel_rfl; (with_reducible apply wp_eqok; apply e_nameF); kernel_rfl; (with_reducible assumption; apply wp_frzV))
  refine And.intro (fun _ h => nomatch h) ⟨_, rfl, ?_⟩
  refine wp_comp_idx (fun i acc m' => m' = m ∧ ∃ xs : List Str, acc = xs.map .str ∧ xs.length = i ∧ ∀ y ∈ xs, y.length ≤ 900) (by simp [lenMax]; lia) ⟨rfl, [], rfl, rfl, by simp⟩ (fun i hi acc m' ⟨q1, xs, q2, q3, q4⟩ => ?_) (fun acc m' ⟨q1, xs, q2, q3, q4⟩ => ?_)
  · have hi' : i < R.length := by simpa using hi
    have hRi := hR _ (List.getElem_mem hi')
    have hr := hl.row _ (List.getElem_mem hRi)
    subst q1
    have hsp : (" " : Str).length = 1 := by decide +kernel
    have hl1 : rs[R[i]].n.length + (" " : Str).length ≤ lenMax := by unfold lenMax; lia
    have hl2 : (rs[R[i]].n ++ (" " : Str)).length + rs[R[i]].s.length ≤ lenMax := by rw [Str.length_append]; unfold lenMax; lia
    rw [show (List.map SV.d (List.map nI R))[i] = .d (.int (R[i] : Int)) by simp]
    ((with_reducible apply Wp.bind; apply wp_eqok; exact eBs_nil; apply Wp.bind; apply wp_eqok; apply e_Dv; apply e_addS; apply e_addS; apply e_sub); rfl; (with_reducible apply e_sub); rfl; (with_reducible apply e_nameF); kernel_rfl; (with_reducible assumption; apply e_nameC); rfl; decide +kernel; kernel_rfl; (with_reducible exact get_v; exact get_v); exact item_rows (by assumption); (with_reducible exact e_int; exact get_v; exact get_v); rfl; (with_reducible apply e_str); decide +kernel; (with_reducible exact get_v; exact get_v); assumption; (with_reducible apply e_sub); rfl; (with_reducible apply e_sub); rfl; (with_reducible apply e_nameF); kernel_rfl; (with_reducible assumption; apply e_nameC); rfl; decide +kernel; kernel_rfl; (with_reducible exact get_v; exact get_v); exact item_rows (by assumption); (with_reducible exact e_int; exact get_v; exact get_v); rfl; (with_reducible exact get_v; exact get_v); assumption; (with_reducible apply wp_ok; apply rfl_and))
    refine ⟨xs ++ [rs[R[i]].n ++ (" " : Str) ++ rs[R[i]].s], by rw [q2]; simp, by simp [q3], fun y hy => ?_⟩
    rw [List.mem_append, List.mem_singleton] at hy
    rcases hy with hy | rfl
    · exact q4 y hy
    · rw [Str.length_append, Str.length_append]; lia
  · subst q1
    rw [List.length_map, List.length_map] at q3
    obtain ⟨s, e1, e2⟩ := joinD_ok (B := 0) (sep := ", ") (xs := xs) (by decide +kernel) (by lia) q4
    ((with_reducible apply wp_frzF; apply wp_asD; apply wp_eqok; exact e_es_nil))
    refine ⟨xs.map .str, s, by rw [q2], e1, ?_⟩
    ((with_reducible apply wp_frzV; apply seq_ret))
    exact ⟨s, rfl, by lia⟩

theorem wp_nameA {n : Nat} {c : Ctx} {m : M} {x : Prop} {Q : R → M → Prop} {y : Str} {v : SV} {ow : Bool} {p : Pos} (h : plainVar c y = true) (hl : m.lookup y = some ⟨ow, v⟩)
    (q : ∀ r : R, r.get m = some v → (∀ Q' : SV → M → Prop, (∀ m', (∀ z, (z == y) = false → m'.lookup z = m.lookup z) → m'.lookup y = some ⟨false, v⟩ → Q' v m') → Wp (r.frz m) Q' x) → Q r m) : Wp (ev (n + 1) c (.Name y p) m) Q x := by
  show Wp (match rdName c m y with | some r => .ok r m | none => .stuck) Q x
  rw [rd_plain h, hl]
  cases ow with
  | false => exact q (.v v) rfl fun Q' h => h m (fun _ _ => rfl) hl
  | true => exact q (.var y) (get_var hl) fun Q' h => wp_frzO hl (h _ (fun z hz => lk_skip hz rfl) lk_here)
theorem wp_cut {α : Type} {o : Out α} {x : Prop} {Q : α → M → Prop} (J : α → M → Prop) (h : Wp o J x) (hq : ∀ a m, J a m → Q a m) : Wp o Q x := h.mono hq id
theorem cmp_neN {i j : Nat} : cmp .NotEq (some (.d (.int (i : Int)))) (some (.d (.int (j : Int)))) = some (!decide (i = j)) := by
  show (if min (PyData.depth (.int i)) (PyData.depth (.int j)) ≤ 8 then some (!PyData.eqv (.int i) (.int j)) else none) = _
  have : PyData.depth (.int j) = 0 := rfl
  rw [this, if_pos (Nat.le_trans (Nat.min_le_right _ _) (by decide))]
  have e : ((i : Int) == (j : Int)) = decide (i = j) := by
    rw [Bool.eq_iff_iff, decide_eq_true_iff, beq_iff_eq]; lia
  simp only [PyData.eqv, e]

/-- may come next -/
noncomputable def ready (rs : List Row) (O : List Nat) (i : Nat) : Bool := match rs[i]? with
  | some r => ((needsOf rs r).filter fun j => !decide (j ∈ O)).isEmpty
  | none => false
noncomputable def run (rs : List Row) : Nat → List Nat → List Nat → List Nat × List Nat
  | 0, O, L => (O, L)
  | k + 1, O, L => match L.find? (ready rs O) with
    | none => (O, L)
    | some c => run rs k (O ++ [c]) (L.filter fun i => !decide (i = c))
noncomputable def ReachedL (rs : List Row) (main : Str) (L : List Nat) : Prop := L.Pairwise (· < ·) ∧ ∀ i, i ∈ L ↔ Reach rs (posOf rs [main, ("spec" : Str)]) i

theorem filter_ne_len {L : List Nat} {c : Nat} (hd : L.Nodup) (hc : c ∈ L) : (L.filter fun i => !decide (i = c)).length + 1 = L.length := by
  induction L with
  | nil => cases hc
  | cons a L ih =>
    obtain ⟨h1, h2⟩ := List.nodup_cons.mp hd
    rw [List.filter_cons]
    by_cases e : a = c
    · subst e
      have : (L.filter fun i => !decide (i = a)) = L := List.filter_eq_self.mpr fun i hi => by
        have : i ≠ a := fun e => h1 (e ▸ hi)
        simpa using this
      simp [this]
    · have hc' : c ∈ L := by
        rcases List.mem_cons.mp hc with q | q
        · exact absurd q.symm e
        · exact q
      simp only [e, decide_false, Bool.not_false, if_true, List.length_cons]
      have := ih h2 hc'
      lia

structure OInv (rs : List Row) (L O Lc : List Nat) : Prop where
  lc : Lc = L.filter fun i => !decide (i ∈ O)
  o : ∀ i ∈ O, i ∈ L
  nd : O.Nodup
  run : run rs Lc.length O Lc = Mine.run rs L.length [] L

theorem find_first {L : List Nat} {p : Nat → Bool} {i : Nat} (hi : i < L.length) (h : ∀ j ∈ L.take i, p j = false) (hp : p L[i] = true) : L.find? p = some L[i] := by
  have e : L = L.take i ++ L[i] :: L.drop (i + 1) := by rw [← List.drop_eq_getElem_cons hi, List.take_append_drop]
  have e2 : (L.take i ++ L[i] :: L.drop (i + 1)).find? p = some L[i] := by
    rw [List.find?_append, List.find?_eq_none.mpr (fun j hj => by rw [h j hj]; decide), List.find?_cons, hp]; rfl
  rwa [← e] at e2
theorem ready_eq {rs : List Row} {O : List Nat} {i : Nat} (h : i < rs.length) : ready rs O i = ((needsOf rs rs[i]).filter fun j => !decide (j ∈ O)).isEmpty := by
  unfold ready
  rw [List.getElem?_eq_getElem h]

inductive OrA (rs : List Row) (L : List Nat) (k : Nat) (m : M) : Prop
  | mk (O Lc : List Nat) (ow : Bool) (h0 : gt m "parts" = some ⟨false, .d (encRows rs)⟩) (h1 : gt m "needs" = some ⟨false, .d (.list ((allNeeds rs).map encL))⟩) (h2 : gt m "left" = some ⟨ow, .d (.list (Lc.map nI))⟩) (h3 : gt m "done" = some ⟨true, foundSV O⟩) (h4 : gt m "order" = some ⟨true, .d (.list (O.map nI))⟩) (h5 : OInv rs L O Lc) (h6 : Lc.length < k) : OrA rs L k m
inductive OrB (rs : List Row) (O Lc : List Nat) (f : Fl) (m : M) : Prop
  | mk (x0 : f = .next) (ch : Int) (h0 : gt m "parts" = some ⟨false, .d (encRows rs)⟩) (h1 : gt m "needs" = some ⟨false, .d (.list ((allNeeds rs).map encL))⟩) (h2 : gt m "left" = some ⟨false, .d (.list (Lc.map nI))⟩) (h3 : gt m "done" = some ⟨true, foundSV O⟩) (h4 : gt m "order" = some ⟨true, .d (.list (O.map nI))⟩) (h5 : gt m "chosen" = some ⟨false, .d (.int ch)⟩) (h6 : ((ch = -1 ∧ Lc.find? (ready rs O) = none) ∨ ∃ c : Nat, ch = c ∧ Lc.find? (ready rs O) = some c)) : OrB rs O Lc f m
inductive OrC (rs : List Row) (O Lc : List Nat) (i : Nat) (m : M) : Prop
  | mk (h0 : gt m "parts" = some ⟨false, .d (encRows rs)⟩) (h1 : gt m "needs" = some ⟨false, .d (.list ((allNeeds rs).map encL))⟩) (h2 : gt m "left" = some ⟨false, .d (.list (Lc.map nI))⟩) (h3 : gt m "done" = some ⟨true, foundSV O⟩) (h4 : gt m "order" = some ⟨true, .d (.list (O.map nI))⟩) (h5 : gt m "chosen" = some ⟨false, .d (.int (-1))⟩) (h6 : ∀ j ∈ Lc.take i, ready rs O j = false) : OrC rs O Lc i m
theorem order_body {n : Nat} {m : M} {rs : List Row} {main : Str} (h1 : gt m "parts" = some ⟨false, .d (encRows rs)⟩) (h3 : gt m "main" = some ⟨false, .d (.str main)⟩) (hl : Small rs) :
    Wp (exs (n + 75) (cx "order_parts") (fdv "order_parts").body m) (fun fl _ => ∃ L O : List Nat, fl = .ret (.d (encL O)) ∧ allOk rs ∧ [main, ("spec" : Str)] ∈ rs.map Row.key ∧ ReachedL rs main L ∧ run rs L.length [] L = (O, []))
      (¬ allOk rs ∨ [main, ("spec" : Str)] ∉ rs.map Row.key ∨ ∃ L, ReachedL rs main L ∧ (run rs L.length [] L).2 ≠ []) := by
  have hlen := hl.len
  conv => arg 1; arg 3; whnf
  ((with_reducible apply wps_cons; apply wp_AssignN); kernel_rfl; (with_reducible apply wp_callV); kernel_rfl; rfl; (exact funs_fdv (by kernel_rfl)); (with_reducible apply wp_eqok; apply e_rs_cons; apply e_nameF); kernel_rfl; (with_reducible assumption; exact e_rs_nil))
  refine callV_go1 (p₁ := "parts") (by kernel_rfl) fun m₀ k1 => ?_
  refine (all_body (n := n + 12) k1 hl).mono (fun fl _ h => ?_) (fun h => .inl h)
  obtain ⟨rfl, ok⟩ := h
  refine ⟨_, rfl, ?_⟩
  ((with_reducible apply wp_st_v; apply seq_next; apply wps_cons; apply wp_AssignN); kernel_rfl; (with_reducible apply wp_callV); kernel_rfl; rfl; (exact funs_fdv (by kernel_rfl)); (with_reducible apply wp_eqok; apply e_rs_cons; apply e_nameF); kernel_rfl; (with_reducible apply lk_skip); decide +kernel; (with_reducible assumption; apply e_rs_cons; apply e_nameF); kernel_rfl; (with_reducible exact lk_here; apply e_rs_cons; apply e_nameF); kernel_rfl; (with_reducible apply lk_skip); decide +kernel; (with_reducible assumption; exact e_rs_nil))
  refine callV_go3 (p₁ := "parts") (p₂ := "needs") (p₃ := "main") (by kernel_rfl) (by decide +kernel) fun m₀ k1 k2 k3 => ?_
  refine (reached_body (n := n + 11) k1 k2 k3 hl ok).mono (fun fl _ h => ?_) (fun h => .inr (.inl h))
  obtain ⟨L, rfl, hL1, hL2, hmain⟩ := h
  refine ⟨_, rfl, ?_⟩
  have hLn : ∀ i ∈ L, i < rs.length := fun i hi => ((hL2 i).mp hi).lt ok (posOf_lt hmain)
  have hLd : L.Nodup := hL1.imp fun h => Nat.ne_of_lt h
  have hLl := nodup_lt_len _ _ hLd hLn
  ((with_reducible apply wp_st_v; apply seq_next; apply wps_cons; apply wp_AssignN); kernel_rfl; (with_reducible apply wp_eqok; exact e_dict0; apply wp_st_f; apply seq_next; apply wps_cons; apply wp_AssignN); kernel_rfl; (with_reducible apply wp_eqok; apply e_list; exact e_es_nil); rfl; (with_reducible apply wp_st_f; apply seq_next; apply wps_cons))
  refine wp_While ?_
  refine wp_while (OrA rs L)
    ⟨[], L, false, (by (with_reducible apply lk_skip); decide +kernel; (with_reducible apply lk_skip); decide +kernel; (with_reducible apply lk_skip); decide +kernel; (with_reducible apply lk_skip); decide +kernel; (with_reducible assumption)), (by (with_reducible apply lk_skip); decide +kernel; (with_reducible apply lk_skip); decide +kernel; (with_reducible apply lk_skip); decide +kernel; (with_reducible exact lk_here)), (by (with_reducible apply lk_skip); decide +kernel; (with_reducible apply lk_skip); decide +kernel; (with_reducible exact lk_here)), lk_skip (by decide +kernel) lk_here, lk_here, ⟨(List.filter_eq_self.mpr (by simp)).symm, by simp, List.nodup_nil, rfl⟩, by unfold whileMax; lia⟩ (fun m ⟨_, _, _, _, _, _, _, _, _, h⟩ => by lia) (fun k m ⟨O, Lc, ow, e1, e2, e3, e4, e5, I, hk⟩ => ?_)
  ((with_reducible apply wpB_cmp; apply wp_cmp))
  refine wp_nameA (by kernel_rfl) e3 fun r hr _ => ?_
  ((with_reducible apply wp_eqok; apply e_list; exact e_es_nil); rfl; (with_reducible apply wp_cmp_ok; assumption; exact get_f); exact cmp_neNil; (with_reducible apply wp_truth; exact get_v))
  have hLcL : ∀ i ∈ Lc, i ∈ L := fun i hi => by rw [I.lc] at hi; exact (List.mem_filter.mp hi).1
  have hLcd : Lc.Nodup := by rw [I.lc]; exact (List.filter_sublist).nodup hLd
  have hLcl := nodup_lt_len _ _ hLcd fun i hi => hLn i (hLcL i hi)
  have hOl := nodup_lt_len _ _ I.nd fun i hi => hLn i (I.o i hi)
  refine ⟨fun hb => ?_, fun hb => ?_⟩
  · have hL0 : Lc = [] := by simpa using hb
    subst hL0
    ((with_reducible apply seq_next; apply wps_cons; apply wp_Return; apply wp_eqok; apply e_nameO); kernel_rfl; (with_reducible assumption; apply wp_frzO; assumption; apply seq_ret))
    exact ⟨L, O, rfl, ok, hmain, ⟨hL1, hL2⟩, I.run.symm⟩
  have hLne : Lc ≠ [] := fun e => by subst e; simp at hb
  ((with_reducible apply wps_cons; apply wp_AssignN); kernel_rfl; (with_reducible apply wp_negC; apply wp_st_v; apply seq_next; apply wps_cons; apply wp_For))
  refine wp_nameA (v := .d (.list (Lc.map nI))) (by kernel_rfl) (by (with_reducible apply lk_skip); decide +kernel; (with_reducible assumption)) fun r hr hf => ?_
  refine hf _ fun m₁ g1 g2 => ?_
  have f1 : gt m₁ "parts" = some ⟨false, .d (encRows rs)⟩ := (g1 _ (by decide +kernel)).trans (by (with_reducible apply lk_skip); decide +kernel; (with_reducible assumption))
  have f2 : gt m₁ "needs" = some ⟨false, .d (.list ((allNeeds rs).map encL))⟩ := (g1 _ (by decide +kernel)).trans (by (with_reducible apply lk_skip); decide +kernel; (with_reducible assumption))
  have f4 : gt m₁ "done" = some ⟨true, foundSV O⟩ := (g1 _ (by decide +kernel)).trans (by (with_reducible apply lk_skip); decide +kernel; (with_reducible assumption))
  have f5 : gt m₁ "order" = some ⟨true, .d (.list (O.map nI))⟩ := (g1 _ (by decide +kernel)).trans (by (with_reducible apply lk_skip); decide +kernel; (with_reducible assumption))
  have f6 : gt m₁ "chosen" = some ⟨false, .d (.int (-1))⟩ := (g1 _ (by decide +kernel)).trans lk_here
  refine ⟨_, rfl, ?_⟩
  refine wp_cut (OrB rs O Lc) ?_ ?_
  · refine wp_for_idx (OrC rs O Lc)
      ⟨f1, f2, g2, f4, f5, f6, by simp⟩ (fun i hi m ⟨a1, a2, a3, a4, a5, a6, a7⟩ => ?_) (fun m ⟨a1, a2, a3, a4, a5, a6, a7⟩ => ?_)
    · have hi' : i < Lc.length := by simpa using hi
      have hLi : Lc[i] < rs.length := hLn _ (hLcL _ (List.getElem_mem hi'))
      have hnl := needsOf_len (List.getElem_mem hLi) ok.1.2 (ok.2 _ (List.getElem_mem hLi))
      rw [show (List.map SV.d (List.map nI Lc))[i] = .d (.int (Lc[i] : Int)) by simp]
      ((with_reducible apply Wp.bind; apply wp_bindN); kernel_rfl; (with_reducible apply wps_cons; apply wp_If; apply wpB_cmp; apply wp_cmp; apply wp_LC); kernel_rfl; (with_reducible apply wp_eqok; apply e_sub); rfl; (with_reducible apply e_nameF); kernel_rfl; (with_reducible apply lk_skip); decide +kernel; (with_reducible assumption; apply e_nameF); kernel_rfl; (with_reducible exact lk_here; exact get_v; exact get_v); exact item_needs (by assumption); (with_reducible apply wp_frzV))
      refine And.intro (fun _ h => nomatch h) ⟨_, rfl, ?_⟩
      refine wp_comp_idx (fun t acc m' => m' = upd m "at" ⟨false, .d (.int (Lc[i] : Int))⟩ ∧ acc = (((needsOf rs rs[Lc[i]]).take t).filter (fun j => !decide (j ∈ O))).map nI) (by simp [lenMax]; lia) ⟨rfl, by simp⟩ (fun t ht acc m' ⟨q1, q2⟩ => ?_) (fun acc m' ⟨q1, q2⟩ => ?_)
      · have ht' : t < (needsOf rs rs[Lc[i]]).length := by simpa using ht
        subst q1
        rw [show (List.map SV.d (List.map nI (needsOf rs rs[Lc[i]])))[t] = .d (.int ((needsOf rs rs[Lc[i]])[t] : Int)) by simp]
        ((with_reducible apply Wp.bind; apply wp_eqok; apply eBs_one; apply eB_cmp; apply e_cmp; apply e_nameC); rfl; decide +kernel; kernel_rfl; (with_reducible apply e_nameO); kernel_rfl; (with_reducible apply lk_skip); decide +kernel; (with_reducible assumption; exact get_v; apply get_var; apply lk_skip); decide +kernel; (with_reducible assumption); exact cmp_notInF)
        cases hb : (!decide ((needsOf rs rs[Lc[i]])[t] ∈ O)) with
        | true =>
          ((with_reducible apply Wp.bind; apply wp_eqok; apply e_Dv; apply e_nameC); rfl; decide +kernel; kernel_rfl; (with_reducible apply wp_ok; apply rfl_and))
          rw [List.take_succ_eq_append_getElem ht', List.filter_append, q2]
          simp only [List.filter_cons, hb, if_true, List.filter_nil, List.map_append]; rfl
        | false =>
          ((with_reducible apply wp_ok; apply rfl_and))
          rw [List.take_succ_eq_append_getElem ht', List.filter_append, q2]
          simp only [List.filter_cons, hb, Bool.false_eq_true, if_false, List.filter_nil, List.append_nil]
      · subst q1
        rw [List.length_map, List.length_map, List.take_length] at q2
        have hre : acc.isEmpty = ready rs O Lc[i] := by rw [ready_eq hLi, q2, List.isEmpty_map]
        ((with_reducible apply wp_eqok; apply e_list; exact e_es_nil); rfl; (with_reducible apply wp_cmp_ok; exact get_f; exact get_f); exact cmp_eqNil; (with_reducible apply wp_truth; exact get_v))
        rw [hre]
        refine ⟨fun hc => ?_, fun hc => ?_⟩
        · ((with_reducible apply wps_cons; apply wp_AssignN); kernel_rfl; (with_reducible apply wp_eqok; apply e_nameF); kernel_rfl; (with_reducible exact lk_here; apply wp_st_v; apply seq_next; apply wps_cons; apply wp_Break; apply seq_brk; apply seq_brk; apply for_brk))
          exact ⟨rfl, _, (by (with_reducible apply lk_skip); decide +kernel; (with_reducible apply lk_skip); decide +kernel; (with_reducible assumption)), (by (with_reducible apply lk_skip); decide +kernel; (with_reducible apply lk_skip); decide +kernel; (with_reducible assumption)), (by (with_reducible apply lk_skip); decide +kernel; (with_reducible apply lk_skip); decide +kernel; (with_reducible assumption)), (by (with_reducible apply lk_skip); decide +kernel; (with_reducible apply lk_skip); decide +kernel; (with_reducible assumption)), (by (with_reducible apply lk_skip); decide +kernel; (with_reducible apply lk_skip); decide +kernel; (with_reducible assumption)), lk_here, .inr ⟨Lc[i], rfl, find_first hi' a7 hc⟩⟩
        · ((with_reducible apply wps_nil; apply seq_next; apply wps_nil; apply for_next))
          exact ⟨(by (with_reducible apply lk_skip); decide +kernel; (with_reducible assumption)), (by (with_reducible apply lk_skip); decide +kernel; (with_reducible assumption)), (by (with_reducible apply lk_skip); decide +kernel; (with_reducible assumption)), (by (with_reducible apply lk_skip); decide +kernel; (with_reducible assumption)), (by (with_reducible apply lk_skip); decide +kernel; (with_reducible assumption)), (by (with_reducible apply lk_skip); decide +kernel; (with_reducible assumption)), take_all hi' a7 hc⟩
    · have e0 : (List.map SV.d (List.map nI Lc)).length = Lc.length := by simp
      rw [e0, List.take_length] at a7
      refine ⟨rfl, -1, a1, a2, a3, a4, a5, a6, .inl ⟨rfl, List.find?_eq_none.mpr fun j hj => ?_⟩⟩
      rw [a7 j hj]; decide
  · rintro f m ⟨rfl, ch, a1, a2, a3, a4, a5, a6, a7⟩
    ((with_reducible apply seq_next; apply wps_cons; apply wp_If; apply wp_eqok; apply eB_cmp; apply e_cmp; apply e_nameF); kernel_rfl; (with_reducible assumption; exact e_int; exact get_v; exact get_v); rfl)
    refine ⟨fun hc => ?_, fun hc => ?_⟩
    · have hn : Lc.find? (ready rs O) = none := by
        rcases a7 with ⟨_, h⟩ | ⟨c, h, _⟩
        · exact h
        · have := of_decide_eq_true hc; lia
      have hp : ∀ i ∈ Lc, ∀ r, rs[i]? = some r → ∃ j ∈ needsOf rs r, j ∈ Lc := fun i hi r hr => by
        have h1 := List.find?_eq_none.mp hn i hi
        unfold ready at h1
        rw [hr] at h1
        have h2 : ((needsOf rs r).filter fun j => !decide (j ∈ O)) ≠ [] := fun e => by simp [e] at h1
        obtain ⟨j, hj⟩ := List.exists_mem_of_ne_nil _ h2
        obtain ⟨h3, h4⟩ := List.mem_filter.mp hj
        refine ⟨j, h3, ?_⟩
        rw [I.lc, List.mem_filter]
        exact ⟨(hL2 j).mpr (.step ((hL2 i).mp (hLcL i hi)) hr (List.mem_append_left _ h3)), h4⟩
      ((with_reducible apply wps_cons; apply wp_Raise); kernel_rfl; (with_reducible apply wp_es_cons; apply wp_eqok; apply e_Dv; exact e_int; apply wp_es_cons; apply wp_D; apply wp_bin; apply wp_eqok; apply e_str); decide +kernel; (with_reducible apply wp_callV); kernel_rfl; rfl; (exact funs_fdv (by kernel_rfl)); (with_reducible apply wp_rs_cons; apply wp_eqok; apply e_nameF); kernel_rfl; (with_reducible assumption; apply wp_rs_cons; apply wp_callV); kernel_rfl; rfl; (exact funs_fdv (by kernel_rfl)); (with_reducible apply wp_eqok; apply e_rs_cons; apply e_nameF); kernel_rfl; (with_reducible assumption; apply e_rs_cons; apply e_nameF); kernel_rfl; (with_reducible assumption; exact e_rs_nil))
      refine callV_go2 (p₁ := "needs") (p₂ := "left") (by kernel_rfl) (by decide +kernel) fun m₀ k1 k2 => ?_
      refine (ring_body k1 k2 hl (fun i hi => hLn i (hLcL i hi)) hLcd hLne ok hp).mono (fun fl _ h => ?_) (fun h => h.elim)
      obtain ⟨R, rfl, hR⟩ := h
      refine ⟨_, rfl, ?_⟩
      ((with_reducible apply wp_eqok; exact e_rs_nil))
      refine callV_go2 (p₁ := "parts") (p₂ := "ring") (by kernel_rfl) (by decide +kernel) fun m₀ k1 k2 => ?_
      refine (text_body k1 k2 hl (fun i hi => hLn i (hLcL i (hR.sub i hi))) hR.nd).mono (fun fl _ h => ?_) (fun h => h.elim)
      obtain ⟨s, rfl, hs⟩ := h
      refine ⟨_, rfl, ?_⟩
      have hsl : ("units that need one another: " : Str).length + s.length ≤ lenMax := by
        have : ("units that need one another: " : Str).length ≤ 100 := by decide +kernel
        unfold lenMax; lia
      ((with_reducible apply wp_addS; exact get_v; exact get_v); assumption; (with_reducible apply wp_frzV; apply wp_asD; apply wp_eqok; exact e_es_nil))
      refine ⟨⟨_, _, rfl⟩, .inr (.inr ⟨L, ⟨hL1, hL2⟩, ?_⟩)⟩
      rw [← I.run]
      cases q : Lc.length with
      | zero => exact absurd (List.length_eq_zero_iff.mp q) hLne
      | succ k' =>
        show (match Lc.find? (ready rs O) with | none => (O, Lc) | some c => _).2 ≠ []
        rw [hn]; exact hLne
    · obtain ⟨c, rfl, hfc⟩ : ∃ c : Nat, ch = c ∧ Lc.find? (ready rs O) = some c := by
        rcases a7 with ⟨h, _⟩ | h
        · rw [h] at hc; exact absurd hc (by decide)
        · exact h
      have hcm := List.mem_of_find?_eq_some hfc
      have hcO : c ∉ O := by
        have := hcm
        rw [I.lc, List.mem_filter] at this
        simpa using this.2
      have hOl2 : (O.map nI).length < lenMax := by rw [List.length_map]; unfold lenMax; lia
      ((with_reducible apply wps_nil; apply seq_next; apply wps_cons; apply wp_AssignSub); rfl; kernel_rfl; (with_reducible apply wp_eqok; apply e_Dv; exact e_true; apply own_and; assumption; apply wp_eqok; apply e_Dv; apply e_nameF); kernel_rfl; (with_reducible assumption))
      refine ⟨_, _, (by (with_reducible assumption)), put_found (by unfold lenMax; lia) hcO, ?_⟩
      ((with_reducible apply seq_next; apply wps_cons; apply wp_ExprS; apply wp_methL); kernel_rfl; kernel_rfl; (with_reducible apply lk_skip); decide +kernel; (with_reducible assumption); kernel_rfl; (with_reducible apply wp_eqok; apply e_es_cons; apply e_Dv; apply e_nameF); kernel_rfl; (with_reducible apply lk_skip); decide +kernel; (with_reducible assumption; exact e_es_nil; apply wp_append; apply lk_skip); decide +kernel; (with_reducible assumption); assumption; (with_reducible apply rfl_and; apply seq_next; apply wps_cons; apply wp_AssignN); kernel_rfl; (with_reducible apply wp_LC); kernel_rfl; (with_reducible apply wp_eqok; apply e_nameF); kernel_rfl; (with_reducible apply lk_skip); decide +kernel; (with_reducible apply lk_skip); decide +kernel; (with_reducible assumption; apply wp_frzV))
      refine And.intro (fun _ h => nomatch h) ⟨_, rfl, ?_⟩
      refine wp_comp_idx (fun i acc m => (gt m "parts" = some ⟨false, .d (encRows rs)⟩ ∧ gt m "needs" = some ⟨false, .d (.list ((allNeeds rs).map encL))⟩ ∧
        gt m "done" = some ⟨true, foundSV (O ++ [c])⟩ ∧ gt m "order" = some ⟨true, .d (.list (O.map nI ++ [nI c]))⟩ ∧ gt m "chosen" = some ⟨false, .d (.int (c : Int))⟩) ∧ acc = ((Lc.take i).filter (fun j => !decide (j = c))).map nI)
        (by simp [lenMax]; lia) ⟨⟨(by (with_reducible apply lk_skip); decide +kernel; (with_reducible apply lk_skip); decide +kernel; (with_reducible assumption)), (by (with_reducible apply lk_skip); decide +kernel; (with_reducible apply lk_skip); decide +kernel; (with_reducible assumption)), (by (with_reducible apply lk_skip); decide +kernel; (with_reducible exact lk_here)), lk_here, (by (with_reducible apply lk_skip); decide +kernel; (with_reducible apply lk_skip); decide +kernel; (with_reducible assumption))⟩, by simp⟩ (fun i hi acc m ⟨⟨b1, b2, b3, b4, b5⟩, b6⟩ => ?_) (fun acc m ⟨⟨b1, b2, b3, b4, b5⟩, b6⟩ => ?_)
      · have hi' : i < Lc.length := by simpa using hi
        rw [show (List.map SV.d (List.map nI Lc))[i] = .d (.int (Lc[i] : Int)) by simp]
        ((with_reducible apply Wp.bind; apply wp_eqok; apply eBs_one; apply eB_cmp; apply e_cmp; apply e_nameC); rfl; decide +kernel; kernel_rfl; (with_reducible apply e_nameF); kernel_rfl; (with_reducible assumption; exact get_v; exact get_v); exact cmp_neN)
        cases hb : (!decide (Lc[i] = c)) with
        | true =>
          ((with_reducible apply Wp.bind; apply wp_eqok; apply e_Dv; apply e_nameC); rfl; decide +kernel; kernel_rfl; (with_reducible apply wp_ok))
          refine ⟨⟨b1, b2, b3, b4, b5⟩, ?_⟩
          rw [List.take_succ_eq_append_getElem hi', List.filter_append, b6]
          simp only [List.filter_cons, hb, if_true, List.filter_nil, List.map_append]; rfl
        | false =>
          ((with_reducible apply wp_ok))
          refine ⟨⟨b1, b2, b3, b4, b5⟩, ?_⟩
          rw [List.take_succ_eq_append_getElem hi', List.filter_append, b6]
          simp only [List.filter_cons, hb, Bool.false_eq_true, if_false, List.filter_nil, List.append_nil]
      · rw [List.length_map, List.length_map, List.take_length] at b6
        ((with_reducible apply wp_st_f; apply seq_next; apply wps_nil; apply for_next))
        have hlen' := filter_ne_len hLcd hcm
        refine ⟨O ++ [c], Lc.filter fun i => !decide (i = c), true, (by (with_reducible apply lk_skip); decide +kernel; (with_reducible assumption)), (by (with_reducible apply lk_skip); decide +kernel; (with_reducible assumption)), ?_, (by (with_reducible apply lk_skip); decide +kernel; (with_reducible assumption)), ?_, ⟨?_, ?_, ?_, ?_⟩, by lia⟩
        · rw [← b6]; exact lk_here
        · rw [show (O ++ [c]).map nI = O.map nI ++ [nI c] by simp]; ((with_reducible apply lk_skip); decide +kernel; (with_reducible assumption))
        · rw [I.lc, List.filter_filter]
          refine List.filter_congr fun i _ => ?_
          by_cases e1 : i = c <;> by_cases e2 : i ∈ O <;> simp [e1, e2]
        · intro i hi
          rw [List.mem_append, List.mem_singleton] at hi
          rcases hi with hi | rfl
          · exact I.o i hi
          · exact hLcL _ hcm
        · rw [List.nodup_append]
          exact ⟨I.nd, by simp, fun a ha b hb e => by rw [List.mem_singleton] at hb; subst hb; subst e; exact hcO ha⟩
        · rw [← I.run, ← hlen']
          show _ = (match Lc.find? (ready rs O) with | none => (O, Lc) | some c => run rs _ (O ++ [c]) (Lc.filter fun i => !decide (i = c)))
          rw [hfc]

noncomputable def GoodO (rs : List Row) (main : Str) (L O : List Nat) : Prop := allOk rs ∧ [main, ("spec" : Str)] ∈ rs.map Row.key ∧ ReachedL rs main L ∧ run rs L.length [] L = (O, [])
noncomputable def BadO (rs : List Row) (main : Str) : Prop := ¬ allOk rs ∨ [main, ("spec" : Str)] ∉ rs.map Row.key ∨ ∃ L, ReachedL rs main L ∧ (run rs L.length [] L).2 ≠ []

theorem heard_body {n : Nat} {m : M} {rs : List Row} {main : Str} (h1 : gt m "rows" = some ⟨false, .d (encRows rs)⟩) (h3 : gt m "main" = some ⟨false, .d (.str main)⟩) (hl : Small rs) :
    Wp (exs (n + 80) (cx "_law_heard") (fdv "_law_heard").body m) (fun fl _ => (∃ L O : List Nat, fl = .ret (.d (encL O)) ∧ GoodO rs main L O) ∨ (fl = .ret (.d .none) ∧ BadO rs main)) False := by
  conv => arg 1; arg 3; whnf
  ((with_reducible apply wps_cons; apply wp_Try); kernel_rfl; (with_reducible apply wps_cons; apply wp_Return; apply wp_callV); kernel_rfl; rfl; (exact funs_fdv (by kernel_rfl)); (with_reducible apply wp_eqok; apply e_rs_cons; apply e_nameF); kernel_rfl; (with_reducible assumption; apply e_rs_cons; apply e_nameF); kernel_rfl; (with_reducible assumption; exact e_rs_nil))
  refine callV_go2 (p₁ := "parts") (p₂ := "main") (by kernel_rfl) (by decide +kernel) fun m₀ k1 k2 => ?_
  refine (order_body (n := n + 1) k1 k2 hl).mono (fun fl _ h => ?_) (fun h m' => .inr ⟨rfl, h⟩)
  obtain ⟨L, O, rfl, h⟩ := h
  refine ⟨_, rfl, ?_⟩
  ((with_reducible apply wp_frzV; apply seq_ret; apply seq_ret))
  exact .inl ⟨L, O, rfl, h⟩
theorem filterMap_all {β α : Type} {h : β → α} (xs : List β) : xs.filterMap (fun o => some (h o)) = xs.map h := by
  induction xs with
  | nil => rfl
  | cons a r ih => rw [List.filterMap_cons, ih]; rfl
theorem filterMap_if {β α : Type} {p : β → Bool} {h : β → α} : ∀ xs : List β, xs.filterMap (fun o => if p o then some (h o) else none) = (xs.filter p).map h
  | [] => rfl
  | a :: xs => by
    rw [List.filterMap_cons, List.filter_cons]
    cases p a with
    | true => simp [filterMap_if xs]
    | false => simp [filterMap_if xs]
theorem wp_comp_of {α β : Type} {m : M} {x : Prop} {Q : List α → M → Prop} {step : SV → M → Out (Option α)} {items : List SV} (xs : List β) (g : β → SV) (f : β → Option α) (hi : items = xs.map g) (hl : xs.length ≤ lenMax)
    (hs : ∀ b ∈ xs, ∀ Q' : Option α → M → Prop, Q' (f b) m → Wp (step (g b) m) Q' x) (q : Q (xs.filterMap f) m) : Wp (compLoop step items [] m) Q x := by
  subst hi
  refine wp_comp_idx (fun i acc m' => m' = m ∧ acc = (xs.take i).filterMap f) (by simpa using hl) ⟨rfl, by simp⟩ (fun i hi acc m' ⟨q1, q2⟩ => ?_) (fun acc m' ⟨q1, q2⟩ => ?_)
  · subst q1
    have hi' : i < xs.length := by simpa using hi
    rw [List.getElem_map]
    refine hs _ (List.getElem_mem hi') _ ?_
    rw [List.take_succ_eq_append_getElem hi', List.filterMap_append, q2]
    cases e : f xs[i] <;> simp [e]
  · subst q1
    rw [List.length_map, List.take_length] at q2
    rw [q2]; exact q
theorem eqv_strs : ∀ (a b : List Str), PyData.eqvAll (a.map .str) (b.map .str) = (a == b)
  | [], [] => rfl
  | [], _ :: _ => rfl
  | _ :: _, [] => rfl
  | x :: a, y :: b => by
    rw [List.map_cons, List.map_cons]
    show (PyData.eqv (.str x) (.str y) && PyData.eqvAll (a.map .str) (b.map .str)) = _
    rw [eqv_strs a b]
    show ((x == y) && (a == b)) = ((x :: a) == (y :: b))
    rw [List.cons_beq_cons]
theorem depth_strs (k : List Str) : PyData.depth (encK k) ≤ 1 := by
  have : PyData.depthAll (k.map .str) = 0 := by
    induction k with
    | nil => rfl
    | cons a k ih =>
      rw [List.map_cons]
      show max (PyData.depth (.str a)) (PyData.depthAll (k.map .str)) = 0
      rw [ih]; rfl
  show PyData.depthAll (k.map .str) + 1 ≤ 1
  lia
theorem any_key (k : List Str) (l : List (List Str)) : ((l.map encK).any fun y => PyData.eqv y (encK k)) = decide (k ∈ l) := by
  rw [Bool.eq_iff_iff, List.any_map, List.any_eq_true, decide_eq_true_iff]
  constructor
  · rintro ⟨y, h1, h2⟩
    have : PyData.eqvAll (y.map .str) (k.map .str) = true := h2
    rw [eqv_strs] at this
    rw [← eq_of_beq this]; exact h1
  · intro h
    exact ⟨k, h, by show PyData.eqvAll (k.map .str) (k.map .str) = true; rw [eqv_strs]; simp⟩
theorem cmp_inK {k : List Str} {l : List (List Str)} : cmp .In (some (.d (encK k))) (some (.d (.list (l.map encK)))) = some (decide (k ∈ l)) := by
  show (if PyData.depth (encK k) ≤ 8 then some ((l.map encK).any fun y => PyData.eqv y (encK k)) else none) = _
  rw [if_pos (Nat.le_trans (depth_strs k) (by decide)), any_key]
theorem cmp_notInK {k : List Str} {l : List (List Str)} : cmp .NotIn (some (.d (encK k))) (some (.d (.list (l.map encK)))) = some (!decide (k ∈ l)) := by
  show (if PyData.depth (encK k) ≤ 8 then some ((l.map encK).any fun y => PyData.eqv y (encK k)) else none).map (!·) = _
  rw [if_pos (Nat.le_trans (depth_strs k) (by decide)), any_key]; rfl
theorem cmp_inK2 {a b : Str} {l : List (List Str)} : cmp .In (some (.d (.tuple [.str a, .str b]))) (some (.d (.list (l.map encK)))) = some (decide ([a, b] ∈ l)) := cmp_inK (k := [a, b])
theorem cmp_notInK2 {a b : Str} {l : List (List Str)} : cmp .NotIn (some (.d (.tuple [.str a, .str b]))) (some (.d (.list (l.map encK)))) = some (!decide ([a, b] ∈ l)) := cmp_notInK (k := [a, b])

theorem if_joinR {α : Type} {b : Bool} {o₁ o₂ : Out α} {Q : α → M → Prop} {x : Prop} (J : α → M → Prop) (h1 : b = true → Wp o₁ J x) (h2 : b = false → Wp o₂ J x) (h : ∀ a m, J a m → Q a m) : (b = true → Wp o₁ Q x) ∧ (b = false → Wp o₂ Q x) :=
  ⟨fun e => (h1 e).mono h id, fun e => (h2 e).mono h id⟩
/-- the law's own table -/
noncomputable def tblKeys (rs : List Row) (r : Row) : List (List Str) :=
  r.ws.map (fun o => [o, ("spec" : Str)]) ++ ((r.es.filter fun o => decide ([o, ("body" : Str)] ∈ rs.map Row.key)).map fun o => [o, ("body" : Str)]) ++ (if r.s = "body" then [[r.n, ("spec" : Str)]] else [])
noncomputable def tabOf (all rs : List Row) : List (List Str × PyData) := rs.map fun r => (r.key, .list ((tblKeys all r).map encK))
theorem tabOf_keys (all rs : List Row) : (tabOf all rs).map (·.1) = rs.map Row.key := by unfold tabOf; simp
theorem tblKeys_len {rs : List Row} {r : Row} (hw : r.ws.length ≤ 1000) (he : r.es.length ≤ 1000) : (tblKeys rs r).length ≤ 2001 := by
  unfold tblKeys
  have := List.length_filter_le (fun o => decide ([o, ("body" : Str)] ∈ rs.map Row.key)) r.es
  have h2 : (if r.s = "body" then [[r.n, ("spec" : Str)]] else []).length ≤ 1 := by split <;> simp
  simp only [List.length_append, List.length_map]; lia

inductive LnA (rs : List Row) (i : Nat) (m : M) : Prop
  | mk (h0 : gt m "keys" = some ⟨true, .d (.list ((rs.map Row.key).map encK))⟩) (h1 : gt m "table" = some ⟨true, .dt (tabOf rs (rs.take i))⟩) : LnA rs i m
inductive LnK (rs : List Row) (i : Nat) (acc : List PyData) (m : M) : Prop
  | mk (h0 : gt m "rows" = some ⟨false, .d (encRows rs)⟩) (h1 : acc = ((rs.map Row.key).map encK).take i) : LnK rs i acc m
theorem lneeds_body {n : Nat} {m : M} {rs : List Row} (h1 : gt m "rows" = some ⟨false, .d (encRows rs)⟩) (hl : Small rs) (hk : (rs.map Row.key).Nodup) :
    Wp (exs (n + 40) (cx "_law_needs") (fdv "_law_needs").body m) (fun fl _ => fl = .ret (.dt (tabOf rs rs))) False := by
  have hlen := hl.len
  conv => arg 1; arg 3; whnf
  ((with_reducible apply wps_cons; apply wp_AssignN); kernel_rfl; (with_reducible apply wp_LC); kernel_rfl; (with_reducible apply wp_eqok; apply e_nameF); kernel_rfl; (with_reducible assumption; apply wp_frzV))
  refine And.intro (fun _ h => nomatch h) ⟨_, rfl, ?_⟩
  refine wp_comp_idx (LnK rs) (by simp [lenMax]; lia) ⟨h1, by simp⟩ (fun i hi acc m ⟨e1, e2⟩ => ?_) (fun acc m ⟨e1, e2⟩ => ?_)
  · have hi' : i < rs.length := by simpa using hi
    have hii : i < ((rs.map Row.key).map encK).length := by simpa using hi'
    rw [show (List.map SV.d (List.map Row.enc rs))[i] = .d (.tuple [.str rs[i].n, .str rs[i].s, .list (rs[i].ws.map .str), .list (rs[i].es.map .str)]) by simp; rfl]
    ((with_reducible apply Wp.bind; apply wp_eqok; exact eBs_nil; apply Wp.bind; apply wp_eqok; apply e_Dv; apply e_tuple; apply e_es_cons; apply e_Dv; apply e_sub); rfl; (with_reducible apply e_nameC); rfl; decide +kernel; kernel_rfl; (with_reducible exact e_int; exact get_v; exact get_v); rfl; (with_reducible apply e_es_cons; apply e_Dv; apply e_sub); rfl; (with_reducible apply e_nameC); rfl; decide +kernel; kernel_rfl; (with_reducible exact e_int; exact get_v; exact get_v); rfl; (with_reducible exact e_es_nil); rfl; (with_reducible apply wp_ok))
    refine ⟨e1, ?_⟩
    rw [e2, List.take_succ_eq_append_getElem hii]
    congr 2
    simp [Row.key]
  · rw [show (List.map SV.d (List.map Row.enc rs)).length = ((rs.map Row.key).map encK).length by simp, List.take_length] at e2
    subst e2
    ((with_reducible apply wp_st_f; apply seq_next; apply wps_cons; apply wp_AssignN); kernel_rfl; (with_reducible apply wp_eqok; exact e_dict0; apply wp_st_f; apply seq_next; apply wps_cons; apply wp_For; apply wp_eqok; apply e_nameF); kernel_rfl; (with_reducible apply lk_skip); decide +kernel; (with_reducible apply lk_skip); decide +kernel; (with_reducible assumption; apply wp_frzV))
    refine ⟨_, rfl, ?_⟩
    refine wp_for_idx (LnA rs) ⟨(by (with_reducible apply lk_skip); decide +kernel; (with_reducible exact lk_here)), lk_here⟩ (fun i hi m ⟨e1, e2⟩ => ?_) (fun m ⟨e1, e2⟩ => ?_)
    · have hi' : i < rs.length := by simpa using hi
      have hr := hl.row _ (List.getElem_mem hi')
      rw [show (List.map SV.d (List.map Row.enc rs))[i] = .d (.tuple [.str rs[i].n, .str rs[i].s, .list (rs[i].ws.map .str), .list (rs[i].es.map .str)]) by simp; rfl]
      ((with_reducible apply Wp.bind; apply wp_bindT); rfl; kernel_rfl; rfl; (with_reducible apply wps_cons; apply wp_AssignN); kernel_rfl; (with_reducible apply wp_LC); kernel_rfl; (with_reducible apply wp_eqok; apply e_nameF); kernel_rfl; (with_reducible apply lk_skip); decide +kernel; (with_reducible exact lk_here; apply wp_frzV))
      refine And.intro (fun _ h => nomatch h) ⟨_, rfl, ?_⟩
      refine wp_comp_of rs[i].ws (fun o => .d (.str o)) (fun o => some (encK [o, ("spec" : Str)])) (by simp) (by unfold lenMax; lia) (fun o _ Q' hQ => ?_) ?_
      · ((with_reducible apply Wp.bind; apply wp_eqok; exact eBs_nil; apply Wp.bind; apply wp_eqok; apply e_Dv; apply e_tuple; apply e_es_cons; apply e_Dv; apply e_nameC); rfl; decide +kernel; kernel_rfl; (with_reducible apply e_es_cons; apply e_Dv; apply e_str); decide +kernel; (with_reducible exact e_es_nil); rfl; (with_reducible apply wp_ok))
        exact hQ
      rw [filterMap_all]
      ((with_reducible apply wp_st_f; apply seq_next; apply wps_cons; apply wp_AugName); kernel_rfl; kernel_rfl; (with_reducible exact lk_here; apply wp_LC); kernel_rfl; (with_reducible apply wp_eqok; apply e_nameF); kernel_rfl; (with_reducible apply lk_skip); decide +kernel; (with_reducible exact lk_here; apply wp_frzV))
      refine And.intro (fun _ h => nomatch h) ⟨_, rfl, ?_⟩
      refine wp_comp_of rs[i].es (fun o => .d (.str o)) (fun o => if decide ([o, ("body" : Str)] ∈ rs.map Row.key) then some (encK [o, ("body" : Str)]) else none) (by simp) (by unfold lenMax; lia) (fun o _ Q' hQ => ?_) ?_
      · ((with_reducible apply Wp.bind; apply wp_eqok; apply eBs_one; apply eB_cmp; apply e_cmp; apply e_tuple; apply e_es_cons; apply e_Dv; apply e_nameC); rfl; decide +kernel; kernel_rfl; (with_reducible apply e_es_cons; apply e_Dv; apply e_str); decide +kernel; (with_reducible exact e_es_nil); rfl; (with_reducible apply e_nameO); kernel_rfl; (with_reducible apply lk_skip); decide +kernel; (with_reducible apply lk_skip); decide +kernel; (with_reducible apply lk_skip); decide +kernel; (with_reducible apply lk_skip); decide +kernel; (with_reducible apply lk_skip); decide +kernel; (with_reducible assumption; exact get_v; apply get_var; apply lk_skip); decide +kernel; (with_reducible apply lk_skip); decide +kernel; (with_reducible apply lk_skip); decide +kernel; (with_reducible apply lk_skip); decide +kernel; (with_reducible apply lk_skip); decide +kernel; (with_reducible assumption); exact cmp_inK2)
        cases hb : decide ([o, ("body" : Str)] ∈ rs.map Row.key) with
        | true =>
          rw [hb] at hQ
          ((with_reducible apply Wp.bind; apply wp_eqok; apply e_Dv; apply e_tuple; apply e_es_cons; apply e_Dv; apply e_nameC); rfl; decide +kernel; kernel_rfl; (with_reducible apply e_es_cons; apply e_Dv; apply e_str); decide +kernel; (with_reducible exact e_es_nil); rfl; (with_reducible apply wp_ok))
          exact hQ
        | false =>
          rw [hb] at hQ
          ((with_reducible apply wp_ok))
          exact hQ
      rw [filterMap_if]
      skip
      have hfl := List.length_filter_le (fun o => decide ([o, ("body" : Str)] ∈ rs.map Row.key)) rs[i].es
      refine ⟨_, _, (by (with_reducible exact lk_here)), (by (with_reducible exact get_f)), by simp only [List.length_map, lenMax]; lia, ?_⟩
      ((with_reducible apply seq_next; apply wps_cons; apply wp_AssignSub); rfl; kernel_rfl; (with_reducible apply wp_D; apply wp_bin; apply wp_eqok; apply e_nameO); kernel_rfl; (with_reducible exact lk_here; apply wp_IfExp; apply wp_eqok; apply eB_cmp; apply e_cmp; apply e_nameF); kernel_rfl; (with_reducible apply lk_skip); decide +kernel; (with_reducible apply lk_skip); decide +kernel; (with_reducible apply lk_skip); decide +kernel; (with_reducible apply lk_skip); decide +kernel; (with_reducible exact lk_here; apply e_str); decide +kernel; (with_reducible exact get_v; exact get_v); exact cmp_eqS)
      refine if_joinR (fun r m => (∀ m', r.get m' = some (.d (.list ((if rs[i].s = "body" then [[rs[i].n, ("spec" : Str)]] else []).map encK)))) ∧ gt m "keys" = some ⟨true, .d (.list ((rs.map Row.key).map encK))⟩ ∧ gt m "table" = some ⟨true, .dt (tabOf rs (rs.take i))⟩ ∧
        gt m "name" = some ⟨false, .d (.str rs[i].n)⟩ ∧ gt m "sort" = some ⟨false, .d (.str rs[i].s)⟩ ∧ gt m "ahead" = some ⟨true, .d (.list (rs[i].ws.map (fun o => encK [o, ("spec" : Str)]) ++ (rs[i].es.filter fun o => decide ([o, ("body" : Str)] ∈ rs.map Row.key)).map fun o => encK [o, ("body" : Str)]))⟩) (fun hb => ?_) (fun hb => ?_) (fun r m ⟨f0, f1, f2, f3, f4, f5⟩ => ?_)
      · ((with_reducible apply wp_eqok; apply e_list; apply e_es_cons; apply e_Dv; apply e_tuple; apply e_es_cons; apply e_Dv; apply e_nameF); kernel_rfl; (with_reducible apply lk_skip); decide +kernel; (with_reducible apply lk_skip); decide +kernel; (with_reducible apply lk_skip); decide +kernel; (with_reducible apply lk_skip); decide +kernel; (with_reducible apply lk_skip); decide +kernel; (with_reducible exact lk_here; apply e_es_cons; apply e_Dv; apply e_str); decide +kernel; (with_reducible exact e_es_nil); rfl; (with_reducible exact e_es_nil); rfl)
        refine ⟨fun _ => ?_, (by (with_reducible apply lk_skip); decide +kernel; (with_reducible apply lk_skip); decide +kernel; (with_reducible apply lk_skip); decide +kernel; (with_reducible apply lk_skip); decide +kernel; (with_reducible apply lk_skip); decide +kernel; (with_reducible apply lk_skip); decide +kernel; (with_reducible assumption)), (by (with_reducible apply lk_skip); decide +kernel; (with_reducible apply lk_skip); decide +kernel; (with_reducible apply lk_skip); decide +kernel; (with_reducible apply lk_skip); decide +kernel; (with_reducible apply lk_skip); decide +kernel; (with_reducible apply lk_skip); decide +kernel; (with_reducible assumption)), (by (with_reducible apply lk_skip); decide +kernel; (with_reducible apply lk_skip); decide +kernel; (with_reducible apply lk_skip); decide +kernel; (with_reducible apply lk_skip); decide +kernel; (with_reducible apply lk_skip); decide +kernel; (with_reducible exact lk_here)), (by (with_reducible apply lk_skip); decide +kernel; (with_reducible apply lk_skip); decide +kernel; (with_reducible apply lk_skip); decide +kernel; (with_reducible apply lk_skip); decide +kernel; (with_reducible exact lk_here)), lk_here⟩
        rw [if_pos (eq_of_beq hb)]; rfl
      · ((with_reducible apply wp_eqok; apply e_list; exact e_es_nil); rfl)
        refine ⟨fun _ => ?_, (by (with_reducible apply lk_skip); decide +kernel; (with_reducible apply lk_skip); decide +kernel; (with_reducible apply lk_skip); decide +kernel; (with_reducible apply lk_skip); decide +kernel; (with_reducible apply lk_skip); decide +kernel; (with_reducible apply lk_skip); decide +kernel; (with_reducible assumption)), (by (with_reducible apply lk_skip); decide +kernel; (with_reducible apply lk_skip); decide +kernel; (with_reducible apply lk_skip); decide +kernel; (with_reducible apply lk_skip); decide +kernel; (with_reducible apply lk_skip); decide +kernel; (with_reducible apply lk_skip); decide +kernel; (with_reducible assumption)), (by (with_reducible apply lk_skip); decide +kernel; (with_reducible apply lk_skip); decide +kernel; (with_reducible apply lk_skip); decide +kernel; (with_reducible apply lk_skip); decide +kernel; (with_reducible apply lk_skip); decide +kernel; (with_reducible exact lk_here)), (by (with_reducible apply lk_skip); decide +kernel; (with_reducible apply lk_skip); decide +kernel; (with_reducible apply lk_skip); decide +kernel; (with_reducible apply lk_skip); decide +kernel; (with_reducible exact lk_here)), lk_here⟩
        rw [if_neg (by simpa using hb)]; rfl
      have f0' := f0 m
      have hBl : (if rs[i].s = "body" then [[rs[i].n, ("spec" : Str)]] else []).length ≤ 1 := by split <;> simp
      have hlen1 : ((rs[i].ws.map (fun o => encK [o, ("spec" : Str)]) ++ (rs[i].es.filter fun o => decide ([o, ("body" : Str)] ∈ rs.map Row.key)).map fun o => encK [o, ("body" : Str)]) ++ (if rs[i].s = "body" then [[rs[i].n, ("spec" : Str)]] else []).map encK).length ≤ lenMax := by
        simp only [List.length_append, List.length_map, lenMax]; lia
      refine wp_addL (get_var f5) f0' hlen1 ?_
      ((with_reducible apply wp_frzF; apply wp_asD; apply own_and; assumption; apply wp_eqok; apply e_Dv; apply e_tuple; apply e_es_cons; apply e_Dv; apply e_nameF); kernel_rfl; (with_reducible assumption; apply e_es_cons; apply e_Dv; apply e_nameF); kernel_rfl; (with_reducible assumption; exact e_es_nil); rfl)
      have hnot : [rs[i].n, rs[i].s] ∉ (tabOf rs (rs.take i)).map (·.1) := fun h => by
        rw [tabOf_keys] at h
        have := ((List.take_sublist (i + 1) rs).map Row.key).nodup hk
        rw [List.take_succ_eq_append_getElem hi', List.map_append, List.nodup_append] at this
        exact this.2.2 _ h _ (List.mem_singleton.mpr rfl) rfl
      refine ⟨_, _, (by (with_reducible assumption)), put_dt tupKey2 (by unfold tabOf; rw [List.length_map, List.length_take]; unfold lenMax; lia), ?_⟩
      ((with_reducible apply seq_next; apply wps_nil; apply for_next))
      refine ⟨(by (with_reducible apply lk_skip); decide +kernel; (with_reducible assumption)), ?_⟩
      rw [putK_new hnot, List.take_succ_eq_append_getElem hi']
      have e : tabOf rs (rs.take i ++ [rs[i]]) = tabOf rs (rs.take i) ++ [([rs[i].n, rs[i].s], .list ((rs[i].ws.map (fun o => encK [o, ("spec" : Str)]) ++ (rs[i].es.filter fun o => decide ([o, ("body" : Str)] ∈ rs.map Row.key)).map fun o => encK [o, ("body" : Str)]) ++ (if rs[i].s = "body" then [[rs[i].n, ("spec" : Str)]] else []).map encK))] := by
        unfold tabOf tblKeys Row.key
        simp only [List.map_append, List.map_cons, List.map_nil, List.map_map]; rfl
      rw [e]
      exact lk_here
    · rw [show (List.map SV.d (List.map Row.enc rs)).length = rs.length by simp, List.take_length] at e2
      ((with_reducible apply seq_next; apply wps_cons; apply wp_Return; apply wp_eqok; apply e_nameO); kernel_rfl; (with_reducible assumption; apply wp_frzO; assumption; apply seq_ret))
      rfl

noncomputable abbrev foundK (F : List (List Str)) : SV := .dt (F.map fun k => (k, .bool true))
theorem lookup_fk {F : List (List Str)} {k : List Str} : ((F.map fun k => (k, PyData.bool true)).lookup k).isSome = decide (k ∈ F) := by
  rw [Bool.eq_iff_iff, lookup_some_iff, decide_eq_true_iff, List.map_map]
  show k ∈ F.map (fun k => k) ↔ _
  rw [List.map_id']
theorem isIn_dtK {kvs : List (List Str × PyData)} {k : List Str} : cmp .In (some (.d (encK k))) (some (.dt kvs)) = some ((kvs.lookup k).isSome) := by
  have h : cmp .In (some (.d (encK k))) (some (.dt kvs)) = (tupKey (encK k)).map fun k => (kvs.lookup k).isSome := by cases kvs <;> rfl
  rw [h, tupKey_enc]; rfl
theorem notIn_dtK {kvs : List (List Str × PyData)} {k : List Str} : cmp .NotIn (some (.d (encK k))) (some (.dt kvs)) = some (!(kvs.lookup k).isSome) := by
  have h : cmp .NotIn (some (.d (encK k))) (some (.dt kvs)) = ((tupKey (encK k)).map fun k => (kvs.lookup k).isSome).map (!·) := by cases kvs <;> rfl
  rw [h, tupKey_enc]; rfl
theorem cmp_inFk {F : List (List Str)} {k : List Str} : cmp .In (some (.d (encK k))) (some (foundK F)) = some (decide (k ∈ F)) := by rw [isIn_dtK, lookup_fk]
theorem cmp_inFk2 {F : List (List Str)} {a b : Str} : cmp .In (some (.d (.tuple [.str a, .str b]))) (some (foundK F)) = some (decide ([a, b] ∈ F)) := cmp_inFk (k := [a, b])
theorem cmp_notInFk {F : List (List Str)} {k : List Str} : cmp .NotIn (some (.d (encK k))) (some (foundK F)) = some (!decide (k ∈ F)) := by rw [notIn_dtK, lookup_fk]
theorem cmp_inTab {all rs : List Row} {k : List Str} : cmp .In (some (.d (encK k))) (some (.dt (tabOf all rs))) = some (decide (k ∈ rs.map Row.key)) := by
  rw [isIn_dtK]
  congr 1
  rw [Bool.eq_iff_iff, lookup_some_iff, tabOf_keys, decide_eq_true_iff]
theorem putK_old {l : List (List Str)} {k : List Str} (h : k ∈ l) : putK (l.map fun k => (k, PyData.bool true)) k (.bool true) = l.map fun k => (k, .bool true) := by
  induction l with
  | nil => cases h
  | cons a l ih =>
    show (if k == a then _ else _) = _
    by_cases e : k == a
    · rw [if_pos e]; rfl
    · rw [if_neg e, ih (by
        rcases List.mem_cons.mp h with q | q
        · subst q; simp at e
        · exact q)]; rfl
theorem put_fk {F : List (List Str)} {d : PyData} {k : List Str} (hd : tupKey d = some k) (hl : F.length < lenMax) : put (foundK F) d (.bool true) = some (foundK (if k ∈ F then F else F ++ [k])) := by
  rw [put_dt hd (by simpa using hl)]
  split
  · rename_i h; rw [putK_old h]
  · rename_i h
    rw [putK_new (by rw [List.map_map]; show k ∉ F.map (fun k => k); rw [List.map_id']; exact h)]
    show _ = some (SV.dt ((F ++ [k]).map fun k => (k, PyData.bool true)))
    rw [List.map_append]; rfl

theorem lookup_tab {all : List Row} : ∀ {rs : List Row}, (rs.map Row.key).Nodup → ∀ r ∈ rs, (tabOf all rs).lookup r.key = some (.list ((tblKeys all r).map encK))
  | [], _, _, h => nomatch h
  | a :: rs, hn, r, h => by
    rw [List.map_cons, List.nodup_cons] at hn
    show ((a.key, PyData.list ((tblKeys all a).map encK)) :: tabOf all rs).lookup r.key = _
    rw [List.lookup_cons]
    rcases List.mem_cons.mp h with rfl | h
    · simp
    · have : (r.key == a.key) = false := beq_eq_false_iff_ne.mpr fun e => hn.1 (by rw [← e]; exact List.mem_map_of_mem h)
      rw [this]; exact lookup_tab hn.2 r h
theorem item_tab2 {rs : List Row} {r : Row} (h : r ∈ rs ∧ (rs.map Row.key).Nodup) : item (some (.dt (tabOf rs rs))) (some (.d (.tuple [.str r.n, .str r.s]))) = some (.list ((tblKeys rs r).map encK)) := lookup_tab h.2 r h.1

theorem posOf_at {rs : List Row} {k : List Str} (h : k ∈ rs.map Row.key) : ∃ (hl : posOf rs k < rs.length), rs[posOf rs k].key = k := by
  refine ⟨posOf_lt h, ?_⟩
  have h2 := List.idxOf_lt_length_of_mem h
  have h3 : (rs.map Row.key)[(rs.map Row.key).idxOf k] = k := List.getElem_idxOf h2
  rw [List.getElem_map] at h3
  exact h3
theorem posOf_inj {rs : List Row} {k k' : List Str} (h : k ∈ rs.map Row.key) (h' : k' ∈ rs.map Row.key) (e : posOf rs k = posOf rs k') : k = k' := by
  obtain ⟨l1, e1⟩ := posOf_at h
  obtain ⟨l2, e2⟩ := posOf_at h'
  rw [← e1, ← e2]
  congr 2
theorem keys_len {rs : List Row} {F : List (List Str)} (hn : F.Nodup) (h : ∀ k ∈ F, k ∈ rs.map Row.key) : F.length ≤ rs.length := by
  have h1 : (F.map (posOf rs)).Nodup := by
    rw [List.Nodup, List.pairwise_map]
    refine hn.imp_of_mem fun {a b} ha hb hab e => hab (posOf_inj (h a ha) (h b hb) e)
  have := nodup_lt_len _ _ h1 fun j hj => by
    obtain ⟨k, hk, rfl⟩ := List.mem_map.mp hj
    exact posOf_lt (h k hk)
  simpa using this
noncomputable def rowAt (rs : List Row) (k : List Str) : Row := (rs[posOf rs k]?).getD ⟨"", "", [], []⟩
theorem rowAt_spec {rs : List Row} {k : List Str} (h : k ∈ rs.map Row.key) : rowAt rs k ∈ rs ∧ (rowAt rs k).key = k := by
  obtain ⟨l, e⟩ := posOf_at h
  have : rowAt rs k = rs[posOf rs k] := by unfold rowAt; rw [List.getElem?_eq_getElem l]; rfl
  rw [this]
  exact ⟨List.getElem_mem l, e⟩

noncomputable def addKy (rs : List Row) (F : List (List Str)) (k : List Str) : List (List Str) := if k ∈ rs.map Row.key ∧ k ∉ F then F ++ [k] else F
noncomputable def nxt (rs : List Row) (r : Row) : List (List Str) := tblKeys rs r ++ [[r.n, ("body" : Str)]]
noncomputable def round (rs : List Row) (F : List (List Str)) : List (List Str) := F.foldl (fun acc k => (nxt rs (rowAt rs k)).foldl (addKy rs) acc) F
noncomputable def rounds (rs : List Row) : Nat → List (List Str) → List (List Str)
  | 0, F => F
  | t + 1, F => round rs (rounds rs t F)
structure FOk (rs : List Row) (F : List (List Str)) : Prop where
  nd : F.Nodup
  sub : ∀ k ∈ F, k ∈ rs.map Row.key
theorem FOk.add {rs : List Row} {F : List (List Str)} (h : FOk rs F) (k : List Str) : FOk rs (addKy rs F k) := by
  unfold addKy
  split
  · rename_i hk
    refine ⟨?_, fun y hy => ?_⟩
    · rw [List.nodup_append]
      exact ⟨h.nd, by simp, fun a ha b hb e => by rw [List.mem_singleton] at hb; subst hb; subst e; exact hk.2 ha⟩
    · rw [List.mem_append, List.mem_singleton] at hy
      rcases hy with hy | rfl
      · exact h.sub y hy
      · exact hk.1
  · exact h
theorem FOk.adds {rs : List Row} (l : List (List Str)) : ∀ {F : List (List Str)}, FOk rs F → FOk rs (l.foldl (addKy rs) F) := by
  induction l with
  | nil => intro F h; exact h
  | cons k l ih => intro F h; exact ih (h.add k)
theorem FOk.len {rs : List Row} {F : List (List Str)} (h : FOk rs F) : F.length ≤ rs.length := keys_len h.nd h.sub
theorem FOk.rows {rs : List Row} (l : List (List Str)) : ∀ {F : List (List Str)}, FOk rs F → FOk rs (l.foldl (fun acc k => (nxt rs (rowAt rs k)).foldl (addKy rs) acc) F) := by
  induction l with
  | nil => intro F h; exact h
  | cons k l ih => intro F h; exact ih (h.adds _)
theorem FOk.round {rs : List Row} {F : List (List Str)} (h : FOk rs F) : FOk rs (round rs F) := h.rows F
theorem FOk.rounds {rs : List Row} {F : List (List Str)} (h : FOk rs F) : ∀ t, FOk rs (rounds rs t F)
  | 0 => h
  | t + 1 => (h.rounds t).round

inductive WaA (rs : List Row) (main : Str) (t : Nat) (m : M) : Prop
  | mk (h0 : gt m "table" = some ⟨false, .dt (tabOf rs rs)⟩) (h1 : gt m "found" = some ⟨true, foundK (rounds rs t [[main, ("spec" : Str)]])⟩) : WaA rs main t m
inductive WaB (rs : List Row) (F : List (List Str)) (i : Nat) (m : M) : Prop
  | mk (h0 : gt m "table" = some ⟨false, .dt (tabOf rs rs)⟩) (h1 : gt m "found" = some ⟨true, foundK ((F.take i).foldl (fun acc k => (nxt rs (rowAt rs k)).foldl (addKy rs) acc) F)⟩) : WaB rs F i m
inductive WaC (rs : List Row) (r : Row) (G : List (List Str)) (j : Nat) (m : M) : Prop
  | mk (h0 : gt m "table" = some ⟨false, .dt (tabOf rs rs)⟩) (h1 : gt m "found" = some ⟨true, foundK (((nxt rs r).take j).foldl (addKy rs) G)⟩) : WaC rs r G j m
theorem wanted_body {n : Nat} {m : M} {rs : List Row} {main : Str} (h1 : gt m "table" = some ⟨false, .dt (tabOf rs rs)⟩) (h2 : gt m "main" = some ⟨false, .d (.str main)⟩) (hl : Small rs) (hk : (rs.map Row.key).Nodup) (hm : [main, ("spec" : Str)] ∈ rs.map Row.key) :
    Wp (exs (n + 40) (cx "_law_wanted") (fdv "_law_wanted").body m) (fun fl _ => fl = .ret (foundK (rounds rs 14 [[main, ("spec" : Str)]]))) False := by
  have hlen := hl.len
  have ok0 : FOk rs [[main, ("spec" : Str)]] := ⟨by simp, by simpa using hm⟩
  conv => arg 1; arg 3; whnf
  ((with_reducible apply wps_cons; apply wp_AssignN); kernel_rfl; (with_reducible apply wp_dict1; apply wp_eqok; apply e_Dv; apply e_tuple; apply e_es_cons; apply e_Dv; apply e_nameF); kernel_rfl; (with_reducible assumption; apply e_es_cons; apply e_Dv; apply e_str); decide +kernel; (with_reducible exact e_es_nil); rfl; (with_reducible apply wp_eqok; apply e_Dv; exact e_true))
  refine ⟨_, tupKey2, ?_⟩
  ((with_reducible apply wp_st_f; apply seq_next; apply wps_cons; apply wp_For; apply wp_eqok; apply e_range); kernel_rfl; rfl; (with_reducible exact e_int; exact get_v); (exact rng_ok (by first | assumption | (simp only [List.length_map]; lia))); (with_reducible apply wp_frzV))
  refine ⟨_, rfl, ?_⟩
  refine wp_for_idx (WaA rs main) ⟨(by (with_reducible apply lk_skip); decide +kernel; (with_reducible assumption)), lk_here⟩ (fun t ht m ⟨e1, e2⟩ => ?_) (fun m ⟨e1, e2⟩ => ?_)
  · have okt := ok0.rounds t
    generalize hF : rounds rs t [[main, ("spec" : Str)]] = F at *
    have hFl := okt.len
    rw [show (List.map (fun (i : Nat) => SV.d (.int (Int.ofNat i))) (List.range (14 : Int).toNat))[t] = .d (.int (t : Int)) by simp]
    ((with_reducible apply Wp.bind; apply wp_bindN); kernel_rfl; (with_reducible apply wps_cons; apply wp_For; apply wp_built); kernel_rfl; rfl; kernel_rfl; decide +kernel; (with_reducible apply wp_eqok; apply e_nameO); kernel_rfl; (with_reducible apply lk_skip); decide +kernel; (with_reducible assumption))
    refine wp_listB (kvs := F.map fun k => (k, PyData.bool true)) (get_var (e := ⟨true, foundK F⟩) (by (with_reducible apply lk_skip); decide +kernel; (with_reducible assumption))) (by rw [List.length_map]; unfold lenMax; lia) ?_
    ((with_reducible apply wp_frzF))
    refine ⟨_, rfl, ?_⟩
    refine wp_for_idx (WaB rs F) ⟨(by (with_reducible apply lk_skip); decide +kernel; (with_reducible assumption)), (show gt _ "found" = some ⟨true, foundK F⟩ from (by (with_reducible apply lk_skip); decide +kernel; (with_reducible assumption)))⟩ (fun i hi m ⟨e1, e2⟩ => ?_) (fun m ⟨e1, e2⟩ => ?_)
    · have hi' : i < F.length := by simpa using hi
      obtain ⟨hr, hrk⟩ := rowAt_spec (okt.sub _ (List.getElem_mem hi'))
      have okg := okt.rows (F.take i)
      generalize hG : (F.take i).foldl (fun acc k => (nxt rs (rowAt rs k)).foldl (addKy rs) acc) F = G at *
      generalize hR : rowAt rs F[i] = r at *
      have hrow := hl.row r hr
      have hrr : r ∈ rs ∧ (rs.map Row.key).Nodup := ⟨hr, hk⟩
      have htl := tblKeys_len (rs := rs) hrow.1 hrow.2.1
      rw [show (List.map SV.d (List.map (fun p => keyTup p.1) (F.map fun k => (k, PyData.bool true))))[i]'hi = .d (.tuple [.str r.n, .str r.s]) by
        have : F[i] = [r.n, r.s] := by rw [← hrk]; rfl
        simp [keyTup, this]]
      have hlen1 : ((tblKeys rs r).map encK ++ [PyData.tuple [.str r.n, .str ("body" : Str)]]).length ≤ lenMax := by
        simp only [List.length_append, List.length_map, List.length_singleton, lenMax]; lia
      ((with_reducible apply Wp.bind; apply wp_bindN); kernel_rfl; (with_reducible apply wps_cons; apply wp_For; apply wp_eqok; apply e_addL; apply e_sub); rfl; (with_reducible apply e_nameF); kernel_rfl; (with_reducible apply lk_skip); decide +kernel; (with_reducible assumption; apply e_nameF); kernel_rfl; (with_reducible exact lk_here; exact get_v; exact get_v); exact item_tab2 (by assumption); (with_reducible apply e_list; apply e_es_cons; apply e_Dv; apply e_tuple; apply e_es_cons; apply e_Dv; apply e_sub); rfl; (with_reducible apply e_nameF); kernel_rfl; (with_reducible exact lk_here; exact e_int; exact get_v; exact get_v); rfl; (with_reducible apply e_es_cons; apply e_Dv; apply e_str); decide +kernel; (with_reducible exact e_es_nil); rfl; (with_reducible exact e_es_nil); rfl; (with_reducible exact get_v; exact get_f); assumption; (with_reducible apply wp_frzF))
      have e : (tblKeys rs r).map encK ++ [PyData.tuple [.str r.n, .str ("body" : Str)]] = (nxt rs r).map encK := by unfold nxt; rw [List.map_append]; rfl
      refine ⟨(nxt rs r).map fun k => .d (encK k), by rw [e]; show some (List.map _ (List.map _ _)) = _; rw [List.map_map]; rfl, ?_⟩
      refine wp_for_idx (WaC rs r G) ⟨(by (with_reducible apply lk_skip); decide +kernel; (with_reducible assumption)), (show gt _ "found" = some ⟨true, foundK G⟩ from (by (with_reducible apply lk_skip); decide +kernel; (with_reducible assumption)))⟩ (fun j hj m ⟨e1, e2⟩ => ?_) (fun m ⟨e1, e2⟩ => ?_)
      · have hj' : j < (nxt rs r).length := by simpa using hj
        have okh := okg.adds ((nxt rs r).take j)
        generalize hH : ((nxt rs r).take j).foldl (addKy rs) G = H at *
        have hHl := okh.len
        rw [List.getElem_map]
        have hnx : ((nxt rs r).take (j + 1)).foldl (addKy rs) G = addKy rs H (nxt rs r)[j] := by
          rw [List.take_succ_eq_append_getElem hj', List.foldl_append, hH]; rfl
        ((with_reducible apply Wp.bind; apply wp_bindN); kernel_rfl; (with_reducible apply wps_cons; apply wp_If; apply wp_eqok; apply eB_cmp; apply e_cmp; apply e_nameF); kernel_rfl; (with_reducible exact lk_here; apply e_nameF); kernel_rfl; (with_reducible apply lk_skip); decide +kernel; (with_reducible assumption; exact get_v; exact get_v); exact cmp_inTab)
        refine ⟨fun hb => ?_, fun hb => ?_⟩
        · have hb' : (nxt rs r)[j] ∈ rs.map Row.key := by simpa using hb
          ((with_reducible apply wps_cons; apply wp_AssignSub); rfl; kernel_rfl; (with_reducible apply wp_eqok; apply e_Dv; exact e_true; apply own_and; apply lk_skip); decide +kernel; (with_reducible assumption; apply wp_eqok; apply e_Dv; apply e_nameF); kernel_rfl; (with_reducible exact lk_here))
          refine ⟨_, _, (by (with_reducible apply lk_skip); decide +kernel; (with_reducible assumption)), put_fk (tupKey_enc _) (by unfold lenMax; lia), ?_⟩
          ((with_reducible apply seq_next; apply wps_nil; apply seq_next; apply wps_nil; apply for_next))
          refine ⟨(by (with_reducible apply lk_skip); decide +kernel; (with_reducible apply lk_skip); decide +kernel; (with_reducible assumption)), ?_⟩
          rw [hnx]
          have : addKy rs H (nxt rs r)[j] = if (nxt rs r)[j] ∈ H then H else H ++ [(nxt rs r)[j]] := by
            unfold addKy
            by_cases q : (nxt rs r)[j] ∈ H
            · rw [if_neg (fun t => t.2 q), if_pos q]
            · rw [if_pos ⟨hb', q⟩, if_neg q]
          rw [this]
          exact lk_here
        · have hb' : ¬ (nxt rs r)[j] ∈ rs.map Row.key := by simpa using hb
          ((with_reducible apply wps_nil; apply seq_next; apply wps_nil; apply for_next))
          refine ⟨(by (with_reducible apply lk_skip); decide +kernel; (with_reducible assumption)), ?_⟩
          rw [hnx]
          have : addKy rs H (nxt rs r)[j] = H := by
            unfold addKy
            rw [if_neg (fun t => hb' t.1)]
          rw [this]
          ((with_reducible apply lk_skip); decide +kernel; (with_reducible assumption))
      · rw [List.length_map, List.take_length] at e2
        ((with_reducible apply seq_next; apply wps_nil; apply for_next))
        refine ⟨e1, ?_⟩
        rw [List.take_succ_eq_append_getElem hi', List.foldl_append, hG]
        show gt m "found" = some ⟨true, foundK ((nxt rs (rowAt rs F[i])).foldl (addKy rs) G)⟩
        rw [hR]; exact e2
    · rw [show (List.map SV.d (List.map (fun p => keyTup p.1) (F.map fun k => (k, PyData.bool true)))).length = F.length by simp, List.take_length] at e2
      ((with_reducible apply seq_next; apply wps_nil; apply for_next))
      refine ⟨e1, ?_⟩
      show gt m "found" = some ⟨true, foundK (round rs (rounds rs t [[main, ("spec" : Str)]]))⟩
      rw [hF]; exact e2
  · ((with_reducible apply seq_next; apply wps_cons; apply wp_Return; apply wp_eqok; apply e_nameO); kernel_rfl; (with_reducible assumption; apply wp_frzO; assumption; apply seq_ret))
    rfl

noncomputable def rowI (rs : List Row) (i : Nat) : Row := (rs[i]?).getD ⟨"", "", [], []⟩
theorem rowI_eq {rs : List Row} {i : Nat} (h : i < rs.length) : rowI rs i = rs[i] := by unfold rowI; rw [List.getElem?_eq_getElem h]; rfl
noncomputable abbrev keyI (rs : List Row) (i : Nat) : List Str := (rowI rs i).key
noncomputable def rdyL (rs : List Row) (W : List (List Str)) (O : List Nat) (i : Nat) : Bool :=
  decide (keyI rs i ∈ W) && (!decide (i ∈ O) && ((tblKeys rs (rowI rs i)).filter fun k => !decide (k ∈ O.map (keyI rs))).isEmpty)
noncomputable def leftL (rs : List Row) (W : List (List Str)) (O : List Nat) : List Nat := (List.range rs.length).filter fun i => decide (keyI rs i ∈ W) && !decide (i ∈ O)
noncomputable def drun (rs : List Row) (W : List (List Str)) : Nat → List Nat → List Nat × List Nat
  | 0, O => (O, [])
  | t + 1, O => match (List.range rs.length).filter (rdyL rs W O) with
    | [] => (O, leftL rs W O)
    | c :: _ => drun rs W t (O ++ [c])

theorem keyI_inj {rs : List Row} (hk : (rs.map Row.key).Nodup) {i j : Nat} (hi : i < rs.length) (hj : j < rs.length) (e : keyI rs i = keyI rs j) : i = j := by
  unfold keyI at e
  rw [rowI_eq hi, rowI_eq hj] at e
  have h1 : (rs.map Row.key)[i]'(by simpa using hi) = (rs.map Row.key)[j]'(by simpa using hj) := by simpa using e
  exact (List.getElem_inj hk).mp h1
inductive DoA (rs : List Row) (W : List (List Str)) (t : Nat) (m : M) : Prop
  | mk (O : List Nat) (h0 : gt m "rows" = some ⟨false, .d (encRows rs)⟩) (h1 : gt m "table" = some ⟨false, .dt (tabOf rs rs)⟩) (h2 : gt m "wanted" = some ⟨false, foundK W⟩) (h3 : gt m "order" = some ⟨true, .d (.list (O.map nI))⟩) (h4 : gt m "came" = some ⟨true, foundK (O.map (keyI rs))⟩) (h5 : O.Nodup) (h6 : (∀ i ∈ O, i < rs.length)) (h7 : drun rs W W.length [] = drun rs W (W.length - t) O) : DoA rs W t m
theorem done_body {n : Nat} {m : M} {rs : List Row} {W : List (List Str)} (h1 : gt m "rows" = some ⟨false, .d (encRows rs)⟩) (h2 : gt m "table" = some ⟨false, .dt (tabOf rs rs)⟩) (h3 : gt m "wanted" = some ⟨false, foundK W⟩) (hl : Small rs) (hk : (rs.map Row.key).Nodup) (hW : W.length ≤ 20) :
    Wp (exs (n + 50) (cx "_law_done") (fdv "_law_done").body m) (fun fl _ => fl = .ret (.d (.tuple [encL (drun rs W W.length []).1, encL (drun rs W W.length []).2]))) False := by
  have hlen := hl.len
  conv => arg 1; arg 3; whnf
  ((with_reducible apply wps_cons; apply wp_Assign2); kernel_rfl; (with_reducible apply wp_eqok; apply e_rs_cons; apply e_list; exact e_es_nil); rfl; (with_reducible apply e_rs_cons; exact e_dict0; exact e_rs_nil))
  refine ⟨_, _, rfl, ?_⟩
  ((with_reducible apply wp_sf_f; apply wp_sf_f; apply seq_next; apply wps_cons; apply wp_For; apply wp_eqok; apply e_range); kernel_rfl; rfl; (with_reducible apply e_len); kernel_rfl; rfl; (with_reducible apply e_nameF); kernel_rfl; (with_reducible apply lk_skip); decide +kernel; (with_reducible apply lk_skip); decide +kernel; (with_reducible assumption; exact get_v); rfl; (with_reducible exact get_v); (exact rng_ok (by first | assumption | (simp only [List.length_map]; lia))); (with_reducible apply wp_frzV))
  refine ⟨_, rfl, ?_⟩
  refine wp_for_idx (DoA rs W)
    ⟨[], (by (with_reducible apply lk_skip); decide +kernel; (with_reducible apply lk_skip); decide +kernel; (with_reducible assumption)), (by (with_reducible apply lk_skip); decide +kernel; (with_reducible apply lk_skip); decide +kernel; (with_reducible assumption)), (by (with_reducible apply lk_skip); decide +kernel; (with_reducible apply lk_skip); decide +kernel; (with_reducible assumption)), lk_skip (by decide +kernel) lk_here, lk_here, List.nodup_nil, by simp, rfl⟩ (fun t ht m ⟨O, e1, e2, e3, e4, e5, e6, e7, e8⟩ => ?_) (fun m ⟨O, e1, e2, e3, e4, e5, e6, e7, e8⟩ => ?_)
  · have ht' : t < W.length := by simpa using ht
    have hOl := nodup_lt_len _ _ e6 e7
    rw [show (List.map (fun (i : Nat) => SV.d (.int (Int.ofNat i))) (List.range (((W.map fun k => (k, PyData.bool true)).length : Nat) : Int).toNat))[t]'ht = .d (.int (t : Int)) by simp]
    ((with_reducible apply Wp.bind; apply wp_bindN); kernel_rfl; (with_reducible apply wps_cons; apply wp_AssignN); kernel_rfl; (with_reducible apply wp_LC); kernel_rfl; (with_reducible apply wp_eqok; apply e_range); kernel_rfl; rfl; (with_reducible apply e_len); kernel_rfl; rfl; (with_reducible apply e_nameF); kernel_rfl; (with_reducible apply lk_skip); decide +kernel; (with_reducible assumption; exact get_v); rfl; (with_reducible exact get_v); (exact rng_ok (by first | assumption | (simp only [List.length_map]; lia))); (with_reducible apply wp_frzV))
    refine And.intro (fun _ h => nomatch h) ⟨_, rfl, ?_⟩
    refine wp_comp_of (List.range rs.length) (fun i => .d (.int (i : Int))) (fun i => if rdyL rs W O i then some (nI i) else none) (by simp) (by rw [List.length_range]; unfold lenMax; lia) (fun b hb Q' hQ => ?_) ?_
    · have hb' : b < rs.length := List.mem_range.mp hb
      have hrr : rs[b] ∈ rs ∧ (rs.map Row.key).Nodup := ⟨List.getElem_mem hb', hk⟩
      have hrow := hl.row _ hrr.1
      have htl := tblKeys_len (rs := rs) hrow.1 hrow.2.1
      have hrd : rdyL rs W O b = (decide ([rs[b].n, rs[b].s] ∈ W) && (!decide (b ∈ O) && ((tblKeys rs rs[b]).filter fun k => !decide (k ∈ O.map (keyI rs))).isEmpty)) := by
        unfold rdyL keyI; rw [rowI_eq hb']; rfl
      rw [hrd] at hQ
      ((with_reducible apply Wp.bind; apply wpBs_one; apply wpB_bo; apply wpBo_and; apply wp_eqok; apply eB_cmp; apply e_cmp; apply e_tuple; apply e_es_cons; apply e_Dv; apply e_sub); rfl; (with_reducible apply e_sub); rfl; (with_reducible apply e_nameF); kernel_rfl; (with_reducible apply lk_skip); decide +kernel; (with_reducible assumption; apply e_nameC); rfl; decide +kernel; kernel_rfl; (with_reducible exact get_v; exact get_v); exact item_rows (by assumption); (with_reducible exact e_int; exact get_v; exact get_v); rfl; (with_reducible apply e_es_cons; apply e_Dv; apply e_sub); rfl; (with_reducible apply e_sub); rfl; (with_reducible apply e_nameF); kernel_rfl; (with_reducible apply lk_skip); decide +kernel; (with_reducible assumption; apply e_nameC); rfl; decide +kernel; kernel_rfl; (with_reducible exact get_v; exact get_v); exact item_rows (by assumption); (with_reducible exact e_int; exact get_v; exact get_v); rfl; (with_reducible exact e_es_nil); rfl; (with_reducible apply e_nameF); kernel_rfl; (with_reducible apply lk_skip); decide +kernel; (with_reducible assumption; exact get_v; exact get_v); exact cmp_inFk2)
      refine ⟨fun hc => ?_, fun hc => ?_⟩
      · rw [hc] at hQ
        ((with_reducible apply wp_ok))
        exact hQ
      rw [hc] at hQ
      ((with_reducible apply wpBo_and; apply wp_eqok; apply eB_cmp; apply e_cmp; apply e_nameC); rfl; decide +kernel; kernel_rfl; (with_reducible apply e_nameO); kernel_rfl; (with_reducible apply lk_skip); decide +kernel; (with_reducible assumption; exact get_v; apply get_var; apply lk_skip); decide +kernel; (with_reducible assumption); exact cmp_notInN)
      refine ⟨fun hd => ?_, fun hd => ?_⟩
      · rw [hd] at hQ
        ((with_reducible apply wp_ok))
        exact hQ
      rw [hd] at hQ
      ((with_reducible apply wpBo_and; apply wpB_cmp; apply wp_cmp; apply wp_LC); kernel_rfl; (with_reducible apply wp_eqok; apply e_sub); rfl; (with_reducible apply e_nameF); kernel_rfl; (with_reducible apply lk_skip); decide +kernel; (with_reducible assumption; apply e_tuple; apply e_es_cons; apply e_Dv; apply e_sub); rfl; (with_reducible apply e_sub); rfl; (with_reducible apply e_nameF); kernel_rfl; (with_reducible apply lk_skip); decide +kernel; (with_reducible assumption; apply e_nameC); rfl; decide +kernel; kernel_rfl; (with_reducible exact get_v; exact get_v); exact item_rows (by assumption); (with_reducible exact e_int; exact get_v; exact get_v); rfl; (with_reducible apply e_es_cons; apply e_Dv; apply e_sub); rfl; (with_reducible apply e_sub); rfl; (with_reducible apply e_nameF); kernel_rfl; (with_reducible apply lk_skip); decide +kernel; (with_reducible assumption; apply e_nameC); rfl; decide +kernel; kernel_rfl; (with_reducible exact get_v; exact get_v); exact item_rows (by assumption); (with_reducible exact e_int; exact get_v; exact get_v); rfl; (with_reducible exact e_es_nil); rfl; (with_reducible exact get_v; exact get_v); exact item_tab2 (by assumption); (with_reducible apply wp_frzV))
      refine And.intro (fun _ h => nomatch h) ⟨_, rfl, ?_⟩
      refine wp_comp_of (tblKeys rs rs[b]) (fun k => .d (encK k)) (fun k => if !decide (k ∈ O.map (keyI rs)) then some (encK k) else none) (by simp) (by unfold lenMax; lia) (fun k _ Q' hQ => ?_) ?_
      · ((with_reducible apply Wp.bind; apply wp_eqok; apply eBs_one; apply eB_cmp; apply e_cmp; apply e_nameC); rfl; decide +kernel; kernel_rfl; (with_reducible apply e_nameO); kernel_rfl; (with_reducible apply lk_skip); decide +kernel; (with_reducible assumption; exact get_v; apply get_var; apply lk_skip); decide +kernel; (with_reducible assumption); exact cmp_notInFk)
        cases hb : (!decide (k ∈ O.map (keyI rs))) with
        | true =>
          rw [hb] at hQ
          ((with_reducible apply Wp.bind; apply wp_eqok; apply e_Dv; apply e_nameC); rfl; decide +kernel; kernel_rfl; (with_reducible apply wp_ok))
          exact hQ
        | false =>
          rw [hb] at hQ
          ((with_reducible apply wp_ok))
          exact hQ
      rw [filterMap_if]
      ((with_reducible apply wp_eqok; apply e_list; exact e_es_nil); rfl; (with_reducible apply wp_cmp_ok; exact get_f; exact get_f); exact cmp_eqNil; (with_reducible apply wp_truth; exact get_v))
      rw [List.isEmpty_map]
      cases he : ((tblKeys rs rs[b]).filter fun k => !decide (k ∈ O.map (keyI rs))).isEmpty with
      | true =>
        rw [he] at hQ
        ((with_reducible apply br4; apply wpBo_nilA; apply Wp.bind; apply wp_eqok; apply e_Dv; apply e_nameC); rfl; decide +kernel; kernel_rfl; (with_reducible apply wp_ok))
        exact hQ
      | false =>
        rw [he] at hQ
        ((with_reducible apply br3; apply wp_ok))
        exact hQ
    rw [filterMap_if]
    ((with_reducible apply wp_st_f; apply seq_next; apply wps_cons; apply wp_If; apply wp_eqok; apply eB_cmp; apply e_cmp; apply e_nameO); kernel_rfl; (with_reducible exact lk_here; apply e_list; exact e_es_nil); rfl; (with_reducible apply get_var; exact lk_here; exact get_f); exact cmp_eqNil)
    have hdr : drun rs W (W.length - t) O = match (List.range rs.length).filter (rdyL rs W O) with
      | [] => (O, leftL rs W O)
      | c :: _ => drun rs W (W.length - (t + 1)) (O ++ [c]) := by
      rw [show W.length - t = (W.length - (t + 1)) + 1 by lia]; rfl
    cases hfil : (List.range rs.length).filter (rdyL rs W O) with
    | nil =>
      rw [hfil] at hdr
      rw [show (List.map nI ([] : List Nat)).isEmpty = true from rfl]
      ((with_reducible apply br1; apply wps_cons; apply wp_Return; apply wp_tuple; apply wp_es_cons; apply wp_eqok; apply e_Do; apply e_nameO); kernel_rfl; (with_reducible apply lk_skip); decide +kernel; (with_reducible apply lk_skip); decide +kernel; (with_reducible assumption; apply lk_skip); decide +kernel; (with_reducible apply lk_skip); decide +kernel; (with_reducible assumption; apply wp_es_cons; apply wp_D; apply wp_LC); kernel_rfl; (with_reducible apply wp_eqok; apply e_range); kernel_rfl; rfl; (with_reducible apply e_len); kernel_rfl; rfl; (with_reducible apply e_nameF); kernel_rfl; (with_reducible apply lk_skip); decide +kernel; (with_reducible apply lk_skip); decide +kernel; (with_reducible apply lk_skip); decide +kernel; (with_reducible assumption; exact get_v); rfl; (with_reducible exact get_v); (exact rng_ok (by first | assumption | (simp only [List.length_map]; lia))); (with_reducible apply wp_frzV))
      refine And.intro (fun _ h => nomatch h) ⟨_, rfl, ?_⟩
      refine wp_comp_of (List.range rs.length) (fun i => .d (.int (i : Int))) (fun i => if decide (keyI rs i ∈ W) && !decide (i ∈ O) then some (nI i) else none) (by simp) (by rw [List.length_range]; unfold lenMax; lia) (fun b hb Q' hQ => ?_) ?_
      · have hb' : b < rs.length := List.mem_range.mp hb
        have hki : keyI rs b = [rs[b].n, rs[b].s] := by unfold keyI; rw [rowI_eq hb']; rfl
        rw [hki] at hQ
        ((with_reducible apply Wp.bind; apply wpBs_one; apply wpB_bo; apply wpBo_and; apply wp_eqok; apply eB_cmp; apply e_cmp; apply e_tuple; apply e_es_cons; apply e_Dv; apply e_sub); rfl; (with_reducible apply e_sub); rfl; (with_reducible apply e_nameF); kernel_rfl; (with_reducible apply lk_skip); decide +kernel; (with_reducible apply lk_skip); decide +kernel; (with_reducible apply lk_skip); decide +kernel; (with_reducible assumption; apply e_nameC); rfl; decide +kernel; kernel_rfl; (with_reducible exact get_v; exact get_v); exact item_rows (by assumption); (with_reducible exact e_int; exact get_v; exact get_v); rfl; (with_reducible apply e_es_cons; apply e_Dv; apply e_sub); rfl; (with_reducible apply e_sub); rfl; (with_reducible apply e_nameF); kernel_rfl; (with_reducible apply lk_skip); decide +kernel; (with_reducible apply lk_skip); decide +kernel; (with_reducible apply lk_skip); decide +kernel; (with_reducible assumption; apply e_nameC); rfl; decide +kernel; kernel_rfl; (with_reducible exact get_v; exact get_v); exact item_rows (by assumption); (with_reducible exact e_int; exact get_v; exact get_v); rfl; (with_reducible exact e_es_nil); rfl; (with_reducible apply e_nameF); kernel_rfl; (with_reducible apply lk_skip); decide +kernel; (with_reducible apply lk_skip); decide +kernel; (with_reducible apply lk_skip); decide +kernel; (with_reducible assumption; exact get_v; exact get_v); exact cmp_inFk2)
        refine ⟨fun hc => ?_, fun hc => ?_⟩
        · rw [hc] at hQ
          ((with_reducible apply wp_ok))
          exact hQ
        rw [hc] at hQ
        ((with_reducible apply wpBo_and; apply wp_eqok; apply eB_cmp; apply e_cmp; apply e_nameC); rfl; decide +kernel; kernel_rfl; (with_reducible apply e_nameF); kernel_rfl; (with_reducible exact lk_here; exact get_v; exact get_v); exact cmp_notInN)
        refine ⟨fun hd => ?_, fun hd => ?_⟩
        · rw [hd] at hQ
          ((with_reducible apply wp_ok))
          exact hQ
        · rw [hd] at hQ
          ((with_reducible apply wpBo_nilA; apply Wp.bind; apply wp_eqok; apply e_Dv; apply e_nameC); rfl; decide +kernel; kernel_rfl; (with_reducible apply wp_ok))
          exact hQ
      rw [filterMap_if]
      ((with_reducible apply wp_frzF; apply wp_asD; apply wp_eqok; exact e_es_nil; apply len_ok); rfl; (with_reducible apply wp_frzV; apply seq_ret; apply seq_ret; apply for_ret; apply seq_ret))
      rw [e8, hdr]; rfl
    | cons c tl =>
      rw [hfil] at hdr
      have hcm : c ∈ (List.range rs.length).filter (rdyL rs W O) := by rw [hfil]; simp
      obtain ⟨hc1, hc2⟩ := List.mem_filter.mp hcm
      have hcn : c < rs.length := List.mem_range.mp hc1
      have hcO : c ∉ O := by
        unfold rdyL at hc2
        simp only [Bool.and_eq_true] at hc2
        simpa using hc2.2.1
      have hki : keyI rs c = [rs[c].n, rs[c].s] := by unfold keyI; rw [rowI_eq hcn]; rfl
      have hkO : [rs[c].n, rs[c].s] ∉ O.map (keyI rs) := fun h => by
        obtain ⟨j, hj, e⟩ := List.mem_map.mp h
        rw [← hki] at e
        exact hcO (keyI_inj hk (e7 j hj) hcn e ▸ hj)
      rw [show (List.map nI (c :: tl)).isEmpty = false from rfl, List.map_cons]
      have hOl2 : (O.map nI).length < lenMax := by rw [List.length_map]; unfold lenMax; lia
      ((with_reducible apply br2; apply wps_nil; apply seq_next; apply wps_cons; apply wp_ExprS; apply wp_methL); kernel_rfl; kernel_rfl; (with_reducible apply lk_skip); decide +kernel; (with_reducible apply lk_skip); decide +kernel; (with_reducible assumption); kernel_rfl; (with_reducible apply wp_eqok; apply e_es_cons; apply e_Dv; apply e_sub); rfl; (with_reducible apply e_nameO); kernel_rfl; (with_reducible exact lk_here; exact e_int; apply get_var; exact lk_here; exact get_v); exact item_at (by first | assumption | (simp <;> lia)); (with_reducible exact e_es_nil; apply wp_append; apply lk_skip); decide +kernel; (with_reducible apply lk_skip); decide +kernel; (with_reducible assumption); assumption; (with_reducible apply rfl_and; apply seq_next; apply wps_cons; apply wp_AssignSub); rfl; kernel_rfl; (with_reducible apply wp_eqok; apply e_Dv; exact e_true; apply own_and; apply lk_skip); decide +kernel; (with_reducible apply lk_skip); decide +kernel; (with_reducible apply lk_skip); decide +kernel; (with_reducible assumption; apply wp_eqok; apply e_Dv; apply e_tuple; apply e_es_cons; apply e_Dv; apply e_sub); rfl; (with_reducible apply e_sub); rfl; (with_reducible apply e_nameF); kernel_rfl; (with_reducible apply lk_skip); decide +kernel; (with_reducible apply lk_skip); decide +kernel; (with_reducible apply lk_skip); decide +kernel; (with_reducible assumption; apply e_sub); rfl; (with_reducible apply e_nameO); kernel_rfl; (with_reducible apply lk_skip); decide +kernel; (with_reducible exact lk_here; exact e_int; apply get_var; apply lk_skip); decide +kernel; (with_reducible exact lk_here; exact get_v); exact item_at (by first | assumption | (simp <;> lia)); (with_reducible exact get_v; exact get_v); exact item_rows (by assumption); (with_reducible exact e_int; exact get_v; exact get_v); rfl; (with_reducible apply e_es_cons; apply e_Dv; apply e_sub); rfl; (with_reducible apply e_sub); rfl; (with_reducible apply e_nameF); kernel_rfl; (with_reducible apply lk_skip); decide +kernel; (with_reducible apply lk_skip); decide +kernel; (with_reducible apply lk_skip); decide +kernel; (with_reducible assumption; apply e_sub); rfl; (with_reducible apply e_nameO); kernel_rfl; (with_reducible apply lk_skip); decide +kernel; (with_reducible exact lk_here; exact e_int; apply get_var; apply lk_skip); decide +kernel; (with_reducible exact lk_here; exact get_v); exact item_at (by first | assumption | (simp <;> lia)); (with_reducible exact get_v; exact get_v); exact item_rows (by assumption); (with_reducible exact e_int; exact get_v; exact get_v); rfl; (with_reducible exact e_es_nil); rfl)
      refine ⟨_, _, (by (with_reducible apply lk_skip); decide +kernel; (with_reducible apply lk_skip); decide +kernel; (with_reducible apply lk_skip); decide +kernel; (with_reducible assumption)), put_fk (F := O.map (keyI rs)) tupKey2 (by rw [List.length_map]; unfold lenMax; lia), ?_⟩
      ((with_reducible apply seq_next; apply wps_nil; apply for_next))
      refine ⟨O ++ [c], (by (with_reducible apply lk_skip); decide +kernel; (with_reducible apply lk_skip); decide +kernel; (with_reducible apply lk_skip); decide +kernel; (with_reducible apply lk_skip); decide +kernel; (with_reducible assumption)), (by (with_reducible apply lk_skip); decide +kernel; (with_reducible apply lk_skip); decide +kernel; (with_reducible apply lk_skip); decide +kernel; (with_reducible apply lk_skip); decide +kernel; (with_reducible assumption)), (by (with_reducible apply lk_skip); decide +kernel; (with_reducible apply lk_skip); decide +kernel; (with_reducible apply lk_skip); decide +kernel; (with_reducible apply lk_skip); decide +kernel; (with_reducible assumption)), ?_, ?_, ?_, ?_, ?_⟩
      · rw [List.map_append]
        exact lk_skip (by decide +kernel) lk_here
      · rw [if_neg hkO, ← hki, List.map_append]
        exact lk_here
      · rw [List.nodup_append]
        exact ⟨e6, by simp, fun a ha b hb e => by rw [List.mem_singleton] at hb; subst hb; subst e; exact hcO ha⟩
      · intro i hi
        rw [List.mem_append, List.mem_singleton] at hi
        rcases hi with hi | rfl
        · exact e7 i hi
        · exact hcn
      · rw [e8, hdr]
  · have e0 : (List.map (fun (i : Nat) => SV.d (.int (Int.ofNat i))) (List.range (((W.map fun k => (k, PyData.bool true)).length : Nat) : Int).toNat)).length = W.length := by simp
    rw [e0, Nat.sub_self] at e8
    ((with_reducible apply seq_next; apply wps_cons; apply wp_Return; apply wp_eqok; apply e_tuple; apply e_es_cons; apply e_Do; apply e_nameO); kernel_rfl; (with_reducible assumption; assumption; apply e_es_cons; apply e_Df; apply e_list; exact e_es_nil); rfl; (with_reducible exact e_es_nil); rfl; (with_reducible apply wp_frzV; apply seq_ret))
    rw [e8]; rfl

theorem wp_DC2 {n : Nat} {c : Ctx} {m : M} {x : Prop} {Q : R → M → Prop} {iter : Expr} {y : Str} {u : Nat} {sc : Scope} {p p' q : Pos} {bx : Pos} (hc : (compOk c ⟨.Name y p, iter, [], 0⟩ sc y && y == y && ([] : List Expr).isEmpty && y != "__debug__") = true)
    (h : Wp (ev n c iter m) (fun r m => Wp (r.frz m) (fun s m => ∃ is : List Int, s = .d (.list (is.map .int)) ∧ is.length ≤ lenMax ∧ Q (.fresh (.di (is.foldl addK []))) m) x) x) :
    Wp (ev (n + 1) c (.DictComp (.Name y p') (.Constant (.bool true) u bx) [⟨.Name y p, iter, [], 0⟩] sc q) m) Q x := wp_DC (k := p) hc h
theorem mem_tbl {rs : List Row} {r : Row} {y : List Str} : y ∈ tblKeys rs r ↔ y ∈ needKeys rs r := by
  unfold tblKeys needKeys
  simp only [List.mem_append]
  constructor
  · rintro ((h | h) | h)
    · exact .inl (.inr h)
    · exact .inr h
    · exact .inl (.inl h)
  · rintro ((h | h) | h)
    · exact .inr h
    · exact .inl (.inl h)
    · exact .inl (.inr h)
theorem item_nats {l : List Nat} {k : Nat} (h : k < l.length) : item (some (.d (.list (l.map nI)))) (some (.d (.int (k : Int)))) = some (.int (l[k] : Int)) := by
  have h' : k < (l.map nI).length := by simpa using h
  have := item_at h'
  rw [this]; simp
theorem foldl_addK {l : List Nat} : ∀ {acc : List Nat}, (acc ++ l).Nodup → (l.map fun (j : Nat) => (j : Int)).foldl addK (acc.map fun (j : Nat) => (j : Int)) = (acc ++ l).map fun (j : Nat) => (j : Int) := by
  induction l with
  | nil => intro acc _; simp
  | cons a l ih =>
    intro acc h
    rw [List.map_cons, List.foldl_cons]
    have hn : a ∉ acc := fun t => by
      rw [List.nodup_append] at h
      exact h.2.2 a t a (.head _) rfl
    have e : addK (acc.map fun (j : Nat) => (j : Int)) (a : Int) = (acc ++ [a]).map fun (j : Nat) => (j : Int) := by
      unfold addK
      rw [map_contains, if_neg (by simpa using hn)]; simp
    rw [e, ih (by simpa using h)]; simp

inductive IrA (rs : List Row) (R : List Nat) (t : Nat) (m : M) : Prop
  | mk (h0 : gt m "rows" = some ⟨false, .d (encRows rs)⟩) (h1 : gt m "table" = some ⟨false, .dt (tabOf rs rs)⟩) (h2 : gt m "ring" = some ⟨false, .d (.list (R.map nI))⟩) : IrA rs R t m
theorem isring_body {n : Nat} {m : M} {rs : List Row} {L : List Nat} (h1 : gt m "rows" = some ⟨false, .d (encRows rs)⟩) (h2 : gt m "table" = some ⟨false, .dt (tabOf rs rs)⟩) (h3 : gt m "left" = some ⟨false, .d (.list (L.map nI))⟩) (hl : Small rs) (hL : ∀ i ∈ L, i < rs.length) (hd : L.Nodup) (hne : L ≠ []) (ok : allOk rs)
    (hp : ∀ i ∈ L, ∀ r, rs[i]? = some r → ∃ j ∈ needsOf rs r, j ∈ L) :
    Wp (exs (n + 70) (cx "_law_is_ring") (fdv "_law_is_ring").body m) (fun fl _ => fl = .ret (.d (.bool true))) False := by
  have hlen := hl.len
  conv => arg 1; arg 3; whnf
  ((with_reducible apply wps_cons; apply wp_AssignN); kernel_rfl; (with_reducible apply wp_callV); kernel_rfl; rfl; (exact funs_fdv (by kernel_rfl)); (with_reducible apply wp_rs_cons; apply wp_callV); kernel_rfl; rfl; (exact funs_fdv (by kernel_rfl)); (with_reducible apply wp_eqok; apply e_rs_cons; apply e_nameF); kernel_rfl; (with_reducible assumption; exact e_rs_nil))
  refine callV_go1 (p₁ := "parts") (by kernel_rfl) fun m₀ k1 => ?_
  refine (all_body (n := n + 6) k1 hl).mono (fun fl _ h => ?_) (fun h => h ok)
  obtain ⟨rfl, _⟩ := h
  refine ⟨_, rfl, ?_⟩
  ((with_reducible apply wp_eqok; apply e_rs_cons; apply e_nameF); kernel_rfl; (with_reducible assumption; exact e_rs_nil))
  refine callV_go2 (p₁ := "needs") (p₂ := "left") (by kernel_rfl) (by decide +kernel) fun m₀ k1 k2 => ?_
  refine (ring_body k1 k2 hl hL hd hne ok hp).mono (fun fl _ h => ?_) (fun h => h.elim)
  obtain ⟨R, rfl, hR⟩ := h
  refine ⟨_, rfl, ?_⟩
  have hRl := nodup_lt_len _ _ hR.nd fun i hi => hL i (hR.sub i hi)
  have hRe : (R.map nI).isEmpty = false := by
    cases h : R with
    | nil => exact absurd h hR.ne
    | cons a r => rfl
  ((with_reducible apply wp_st_v; apply seq_next; apply wps_cons; apply wp_If; apply wpB_bo; apply wpBo_or; apply wp_eqok; apply eB_cmp; apply e_cmp; apply e_nameF); kernel_rfl; (with_reducible exact lk_here; apply e_list; exact e_es_nil); rfl; (with_reducible exact get_v; exact get_f); exact cmp_eqNil)
  rw [hRe]
  ((with_reducible apply br2; apply wpBo_or; apply wpB_cmp; apply wp_cmp; apply wp_LC); kernel_rfl; (with_reducible apply wp_eqok; apply e_nameF); kernel_rfl; (with_reducible exact lk_here; apply wp_frzV))
  refine And.intro (fun _ h => nomatch h) ⟨_, rfl, ?_⟩
  refine wp_comp_of R (fun i => .d (.int (i : Int))) (fun i => if !decide (i ∈ L) then some (nI i) else none) (by simp) (by unfold lenMax; lia) (fun b hb Q' hQ => ?_) ?_
  · have hbL := hR.sub b hb
    rw [show decide (b ∈ L) = true by simpa using hbL] at hQ
    ((with_reducible apply Wp.bind; apply wp_eqok; apply eBs_one; apply eB_cmp; apply e_cmp; apply e_nameC); rfl; decide +kernel; kernel_rfl; (with_reducible apply e_nameF); kernel_rfl; (with_reducible apply lk_skip); decide +kernel; (with_reducible assumption; exact get_v; exact get_v); exact cmp_notInN)
    rw [show decide (b ∈ L) = true by simpa using hbL]
    skip
    exact hQ
  have hfn : R.filter (fun i => !decide (i ∈ L)) = [] := List.filter_eq_nil_iff.mpr fun i hi => by simpa using hR.sub i hi
  rw [filterMap_if, hfn]
  ((with_reducible apply wp_eqok; apply e_list; exact e_es_nil); rfl; (with_reducible apply wp_cmp_ok; exact get_f; exact get_f); exact cmp_neNil; (with_reducible apply wp_truth; exact get_v))
  rw [show (List.map nI ([] : List Nat)).isEmpty = true from rfl]
  ((with_reducible apply br5; apply wpBo_or; apply wpB_cmp; apply wp_cmp; apply wp_eqok; apply e_len); kernel_rfl; rfl; (with_reducible apply e_nameF); kernel_rfl; (with_reducible exact lk_here; exact get_v); rfl; (with_reducible apply wp_built); kernel_rfl; rfl; kernel_rfl; decide +kernel; (with_reducible apply wp_DC2); kernel_rfl; (with_reducible apply wp_eqok; apply e_nameF); kernel_rfl; (with_reducible exact lk_here; apply wp_frzV))
  refine ⟨R.map fun (j : Nat) => (j : Int), by rw [List.map_map]; rfl, by rw [List.length_map]; unfold lenMax; lia, ?_⟩
  have hfa : (R.map fun (j : Nat) => (j : Int)).foldl addK [] = R.map fun (j : Nat) => (j : Int) := foldl_addK (acc := []) (by simpa using hR.nd)
  rw [hfa]
  ((with_reducible apply wp_len; exact get_f); rfl; (with_reducible apply wp_cmp_ok; exact get_v; exact get_v); exact cmp_neN; (with_reducible apply wp_truth; exact get_v))
  rw [show decide ((List.map nI R).length = (R.map fun (j : Nat) => (j : Int)).length) = true by simp]
  ((with_reducible apply br5; apply wpBo_nilO; apply br2; apply wps_nil; apply seq_next; apply wps_cons; apply wp_For; apply wp_eqok; apply e_range); kernel_rfl; rfl; (with_reducible apply e_len); kernel_rfl; rfl; (with_reducible apply e_nameF); kernel_rfl; (with_reducible exact lk_here; exact get_v); rfl; (with_reducible exact get_v); (exact rng_ok (by first | assumption | (simp only [List.length_map]; lia))); (with_reducible apply wp_frzV))
  refine ⟨_, rfl, ?_⟩
  refine wp_for_idx (IrA rs R) ⟨(by (with_reducible apply lk_skip); decide +kernel; (with_reducible assumption)), (by (with_reducible apply lk_skip); decide +kernel; (with_reducible assumption)), (by (with_reducible exact lk_here))⟩ (fun t ht m ⟨e1, e2, e3⟩ => ?_) (fun m ⟨e1, e2, e3⟩ => ?_)
  · have ht' : t < R.length := by simpa using ht
    have hR1 : R[t] < rs.length := hL _ (hR.sub _ (List.getElem_mem ht'))
    have hmod : (t + 1) % R.length < R.length := Nat.mod_lt _ (by lia)
    have hR2 : R[(t + 1) % R.length] < rs.length := hL _ (hR.sub _ (List.getElem_mem hmod))
    have hrr : rs[R[t]] ∈ rs ∧ (rs.map Row.key).Nodup := ⟨List.getElem_mem hR1, ok.1.1⟩
    rw [show (List.map (fun (i : Nat) => SV.d (.int (Int.ofNat i))) (List.range ((List.map nI R).length : Int).toNat))[t]'ht = .d (.int (t : Int)) by simp]
    ((with_reducible apply Wp.bind; apply wp_bindN); kernel_rfl; (with_reducible apply wps_cons; apply wp_Assign2); kernel_rfl; (with_reducible apply wp_rs_cons; apply wp_eqok; apply e_sub); rfl; (with_reducible apply e_nameF); kernel_rfl; (with_reducible apply lk_skip); decide +kernel; (with_reducible assumption; apply e_sub); rfl; (with_reducible apply e_nameF); kernel_rfl; (with_reducible apply lk_skip); decide +kernel; (with_reducible assumption; apply e_nameF); kernel_rfl; (with_reducible exact lk_here; exact get_v; exact get_v); exact item_nats (by assumption); (with_reducible exact get_v; exact get_v); exact item_rows (by assumption); (with_reducible apply wp_rs_cons; apply wp_sub); rfl; (with_reducible apply wp_eqok; apply e_nameF); kernel_rfl; (with_reducible apply lk_skip); decide +kernel; (with_reducible assumption; apply wp_sub); rfl; (with_reducible apply wp_eqok; apply e_nameF); kernel_rfl; (with_reducible apply lk_skip); decide +kernel; (with_reducible assumption; apply wp_bin; apply wp_eqok; apply e_bin; apply e_nameF); kernel_rfl; (with_reducible exact lk_here; exact e_int; exact get_v; exact get_v); rfl; (with_reducible apply wp_eqok; apply e_len); kernel_rfl; rfl; (with_reducible apply e_nameF); kernel_rfl; (with_reducible apply lk_skip); decide +kernel; (with_reducible assumption; exact get_v); rfl)
    refine wp_mod get_v get_v (by rw [List.length_map]; lia) ?_
    rw [show ((t : Int) + 1).fmod ((List.map nI R).length : Int) = (((t + 1) % R.length : Nat) : Int) by
      rw [List.length_map, Int.fmod_eq_emod_of_nonneg _ (by lia)]; simp]
    ((with_reducible apply wp_item_ok; exact get_v; exact get_v); exact item_nats (by assumption); (with_reducible apply wp_item_ok; exact get_v; exact get_v); exact item_rows (by assumption); (with_reducible apply wp_eqok; exact e_rs_nil))
    refine ⟨_, _, rfl, ?_⟩
    ((with_reducible apply wp_sf_v; apply wp_sf_v; apply seq_next; apply wps_cons; apply wp_If; apply wp_eqok; apply eB_cmp; apply e_cmp; apply e_tuple; apply e_es_cons; apply e_Dv; apply e_sub); rfl; (with_reducible apply e_nameF); kernel_rfl; (with_reducible exact lk_here; exact e_int; exact get_v; exact get_v); rfl; (with_reducible apply e_es_cons; apply e_Dv; apply e_sub); rfl; (with_reducible apply e_nameF); kernel_rfl; (with_reducible exact lk_here; exact e_int; exact get_v; exact get_v); rfl; (with_reducible exact e_es_nil); rfl; (with_reducible apply e_sub); rfl; (with_reducible apply e_nameF); kernel_rfl; (with_reducible apply lk_skip); decide +kernel; (with_reducible apply lk_skip); decide +kernel; (with_reducible apply lk_skip); decide +kernel; (with_reducible assumption; apply e_tuple; apply e_es_cons; apply e_Dv; apply e_sub); rfl; (with_reducible apply e_nameF); kernel_rfl; (with_reducible apply lk_skip); decide +kernel; (with_reducible exact lk_here; exact e_int; exact get_v; exact get_v); rfl; (with_reducible apply e_es_cons; apply e_Dv; apply e_sub); rfl; (with_reducible apply e_nameF); kernel_rfl; (with_reducible apply lk_skip); decide +kernel; (with_reducible exact lk_here; exact e_int; exact get_v; exact get_v); rfl; (with_reducible exact e_es_nil); rfl; (with_reducible exact get_v; exact get_v); exact item_tab2 (by assumption); (with_reducible exact get_v; exact get_v); exact cmp_notInK2)
    obtain ⟨r, hr1, hr2⟩ := hR.ch t ht'
    rw [List.getElem?_eq_getElem hR1] at hr1
    cases hr1
    obtain ⟨y, hy1, hy2⟩ := mem_needsOf.mp hr2
    obtain ⟨l1, l2⟩ := posOf_at (needKeys_has (List.getElem_mem hR1) ok.1.2 (ok.2 _ (List.getElem_mem hR1)) y hy1)
    have hin : [rs[R[(t + 1) % R.length]].n, rs[R[(t + 1) % R.length]].s] ∈ tblKeys rs rs[R[t]] := by
      rw [mem_tbl]
      have : [rs[R[(t + 1) % R.length]].n, rs[R[(t + 1) % R.length]].s] = y := by
        rw [← l2]
        show (rs[R[(t + 1) % R.length]]).key = _
        congr 2
        exact hy2.symm
      rw [this]; exact hy1
    rw [show decide ([rs[R[(t + 1) % R.length]].n, rs[R[(t + 1) % R.length]].s] ∈ tblKeys rs rs[R[t]]) = true by simpa using hin]
    ((with_reducible apply br5; apply wps_nil; apply seq_next; apply wps_nil; apply for_next))
    exact ⟨(by (with_reducible apply lk_skip); decide +kernel; (with_reducible apply lk_skip); decide +kernel; (with_reducible apply lk_skip); decide +kernel; (with_reducible assumption)), (by (with_reducible apply lk_skip); decide +kernel; (with_reducible apply lk_skip); decide +kernel; (with_reducible apply lk_skip); decide +kernel; (with_reducible assumption)), (by (with_reducible apply lk_skip); decide +kernel; (with_reducible apply lk_skip); decide +kernel; (with_reducible apply lk_skip); decide +kernel; (with_reducible assumption))⟩
  · ((with_reducible apply seq_next; apply wps_cons; apply wp_Return; apply wp_eqok; exact e_true; apply wp_frzV; apply seq_ret))
    rfl

theorem wp_die {n : Nat} {c : Ctx} {m : M} {x : Prop} {Q : R → M → Prop} {p p1 q : Pos} {e : Expr} {L : List Int} {k : Int} (hg : (c.sc.names.lookup ("_law_die" : Str) == some .globalImplicit && ("_law_die" : Str) != "__debug__") = true) (hc : plainVar c "cup" = true) (hs : noStar [.Name "cup" p1, e] = true)
    (hl : m.lookup ("cup" : Str) = some (cupE L k)) (hk : 0 ≤ k ∧ k ≤ 2 ^ 18)
    (h : Wp (ev (n + 25) c e m) (fun r m' => m' = m ∧ ∃ s, r = .v (.d (.int s)) ∧ 0 < s ∧ ∀ v : Nat, (v : Int) < s → Q (.v (.d (.int (v : Int)))) (upd m "cup" (cupE L (k + 1)))) x) :
    Wp (ev (n + 28) c (.Call (.Name "_law_die" p) [.Name "cup" p1, e] [] q) m) Q x := by
  refine wp_call (n := n + 27) hg hs (funs_fdv (by kernel_rfl)) ?_
  refine wp_rs_cons (n := n + 26) (wp_nameO (n := n + 25) hc hl (wp_rs_cons (n := n + 25) (h.mono (fun r m' h => ?_) id)))
  obtain ⟨rfl, s, rfl, hs0, h⟩ := h
  refine wp_rs_nil (n := n + 24) ⟨by simp [varsOf], ?_⟩
  have hps : (fdv "_law_die").ps = [("cup" : Str), ("sides" : Str)] := by kernel_rfl
  rw [hps]
  have hb : bindP [("cup" : Str), ("sides" : Str)] [.var "cup", .v (.d (.int s))] m' = some [(("cup" : Str), cupE L k), (("sides" : Str), ⟨false, .d (.int s)⟩)] := by
    show (((m'.lookup ("cup" : Str)).bind fun e => if e.own then some e else none).bind _ : Option M) = _
    rw [hl]; rfl
  refine ⟨_, hb, ?_⟩
  generalize hm₀ : ([(("cup" : Str), cupE L k), (("sides" : Str), ⟨false, .d (.int s)⟩)] : M) = m₀
  have g1 : gt m₀ "cup" = some (cupE L k) := by rw [← hm₀]; rfl
  have g2 : gt m₀ "sides" = some ⟨false, .d (.int s)⟩ := by
    rw [← hm₀]
    show List.lookup ("sides" : Str) [(("cup" : Str), cupE L k), ("sides", ⟨false, .d (.int s)⟩)] = _
    rw [List.lookup_cons, show (("sides" : Str) == "cup") = false by decide +kernel]; simp
  have := die_body (n := n + 7) g1 g2 hs0 hk
  rw [← hps]
  refine this.mono (fun fl m₁ h1 => ?_) (fun h => h.elim)
  obtain ⟨v, rfl, v0, v1, v2⟩ := h1
  rw [hps]
  refine ⟨_, rfl, upd m' "cup" (cupE L (k + 1)), ?_, ?_⟩
  · show (match List.lookup ("cup" : Str) m₁ with | some e => back [("sides" : Str)] [.v (.d (.int s))] m₁ (upd m' "cup" e) | none => none) = _
    rw [show List.lookup ("cup" : Str) m₁ = some (cupE L (k + 1)) from v2]; rfl
  · have := h v.toNat (by lia)
    rw [show ((v.toNat : Nat) : Int) = v by lia] at this
    exact this

noncomputable def uN (i : Nat) : Str := ("u" : Str) ++ Str.ofString (toString (i : Int))
theorem uN_inj {i j : Nat} (hi : i < 8) (hj : j < 8) (e : uN i = uN j) : i = j := by
  have key : ∀ i, i < 8 → ∀ j, j < 8 → uN i = uN j → i = j := by decide +kernel
  exact key i hi j hj e
theorem uN_len {i : Nat} (hi : i < 8) : (uN i).length ≤ 10 := by
  have key : ∀ i, i < 8 → (uN i).length ≤ 10 := by decide +kernel
  exact key i hi
theorem uN_str {i : Nat} (hi : i < 8) : (Str.ofString (toString (i : Int))).length ≤ 10 := by
  have key : ∀ i : Nat, i < 8 → (Str.ofString (toString (i : Int))).length ≤ 10 := by decide +kernel
  exact key i hi
theorem uN_ne {i : Nat} (hi : i < 8) : uN i ≠ "nowhere" ∧ uN i ≠ "v" ∧ uN i ≠ "w" := by
  have key : ∀ i, i < 8 → uN i ≠ "nowhere" ∧ uN i ≠ "v" ∧ uN i ≠ "w" := by decide +kernel
  exact key i hi

/-- rows as the law's text makes them -/
structure GoodRows (rs : List Row) (cnt : Nat) : Prop where
  c1 : 1 ≤ cnt ∧ cnt ≤ 6
  len : rs.length ≤ 12
  nd : (rs.map Row.key).Nodup
  row : ∀ r ∈ rs, (∃ i, i < cnt ∧ r.n = uN i) ∧ (r.s = "spec" ∨ r.s = "body") ∧ (∀ o ∈ r.ws, ∃ j, j < cnt ∧ o = uN j) ∧ r.ws.length ≤ 2 ∧ r.es.length ≤ 2 ∧ ∀ o ∈ r.es, o ∈ r.ws
  spec : ∀ i, i < cnt → [uN i, ("spec" : Str)] ∈ rs.map Row.key

/-- rows while they are made: units below t are done, of unit t the first j -/
structure RowsAt (rs : List Row) (cnt t j : Nat) : Prop where
  len : rs.length ≤ 2 * t + j
  nd : (rs.map Row.key).Nodup
  row : ∀ r ∈ rs, (∃ i, i < cnt ∧ r.n = uN i ∧ (i < t ∨ (i = t ∧ ((1 ≤ j ∧ r.s = "spec") ∨ 2 ≤ j)))) ∧ (r.s = "spec" ∨ r.s = "body") ∧ (∀ o ∈ r.ws, ∃ j, j < cnt ∧ o = uN j) ∧ r.ws.length ≤ 2 ∧ r.es.length ≤ 2 ∧ ∀ o ∈ r.es, o ∈ r.ws
  spec : ∀ i, i < t ∨ (i = t ∧ 1 ≤ j) → [uN i, ("spec" : Str)] ∈ rs.map Row.key
noncomputable def sortS (j : Nat) : Str := if j = 0 then "spec" else "body"

theorem cmp_eqN {i j : Int} : cmp .Eq (some (.d (.int i))) (some (.d (.int j))) = some (decide (i = j)) := by
  show (if min (PyData.depth (.int i)) (PyData.depth (.int j)) ≤ 8 then some (PyData.eqv (.int i) (.int j)) else none) = _
  have : PyData.depth (.int j) = 0 := rfl
  rw [this, if_pos (Nat.le_trans (Nat.min_le_right _ _) (by decide))]
  have e : (i == j) = decide (i = j) := by
    rw [Bool.eq_iff_iff, decide_eq_true_iff, beq_iff_eq]
  simp only [PyData.eqv, e]
theorem cmp_neS {a b : Str} : cmp .NotEq (some (.d (.str a))) (some (.d (.str b))) = some (!(a == b)) := by
  rfl
theorem RowsAt.skip {rs : List Row} {cnt t : Nat} (h : RowsAt rs cnt t 1) : RowsAt rs cnt t 2 where
  len := by have := h.len; lia
  nd := h.nd
  row := fun r hr => by
    obtain ⟨⟨i, h1, h2, h3⟩, h4⟩ := h.row r hr
    exact ⟨⟨i, h1, h2, h3.imp id fun ⟨q1, q2⟩ => ⟨q1, .inr (Nat.le_refl _)⟩⟩, h4⟩
  spec := fun i hi => h.spec i (hi.imp id fun ⟨q, _⟩ => ⟨q, Nat.le_refl _⟩)
theorem RowsAt.next {rs : List Row} {cnt t : Nat} (h : RowsAt rs cnt t 2) : RowsAt rs cnt (t + 1) 0 where
  len := by have := h.len; lia
  nd := h.nd
  row := fun r hr => by
    obtain ⟨⟨i, h1, h2, h3⟩, h4⟩ := h.row r hr
    exact ⟨⟨i, h1, h2, .inl (by lia)⟩, h4⟩
  spec := fun i hi => h.spec i (by lia)
theorem RowsAt.insert {rs : List Row} {cnt t j : Nat} {r : Row} {p : Nat} (h : RowsAt rs cnt t j) (hj : j < 2) (ht : t < cnt) (hc : cnt ≤ 6) (hn : r.n = uN t) (hs : r.s = sortS j) (hw : ∀ o ∈ r.ws, ∃ j, j < cnt ∧ o = uN j) (hwl : r.ws.length ≤ 2) (hel : r.es.length ≤ 2) (he : ∀ o ∈ r.es, o ∈ r.ws) :
    RowsAt (rs.take p ++ r :: rs.drop p) cnt t (j + 1) := by
  have hp : (rs.take p ++ r :: rs.drop p).Perm (r :: rs) := by
    have := List.perm_middle (a := r) (l₁ := rs.take p) (l₂ := rs.drop p)
    rwa [List.take_append_drop] at this
  have hss : r.s = "spec" ∨ r.s = "body" := by rw [hs]; unfold sortS; split <;> simp
  have hmem : ∀ y, y ∈ rs.take p ++ r :: rs.drop p ↔ y ∈ r :: rs := fun y => hp.mem_iff
  have hkm : ∀ y, y ∈ (rs.take p ++ r :: rs.drop p).map Row.key ↔ y ∈ (r :: rs).map Row.key := fun y => (hp.map Row.key).mem_iff
  refine ⟨?_, ?_, fun y hy => ?_, fun i hi => ?_⟩
  · rw [hp.length_eq, List.length_cons]; have := h.len; lia
  · rw [(hp.map Row.key).nodup_iff, List.map_cons, List.nodup_cons]
    refine ⟨fun hm => ?_, h.nd⟩
    obtain ⟨y, hy, e⟩ := List.mem_map.mp hm
    obtain ⟨⟨i, h1, h2, h3⟩, _⟩ := h.row y hy
    have e1 : y.n = r.n ∧ y.s = r.s := by
      unfold Row.key at e
      simp only [List.cons.injEq, and_true] at e
      exact e
    have hit : i = t := uN_inj (by lia) (by lia) (by rw [← h2, e1.1, hn])
    rcases h3 with h3 | ⟨_, h3 | h3⟩
    · lia
    · have : sortS j = "spec" := by rw [← hs, ← e1.2]; exact h3.2
      have hj1 : j = 1 := by lia
      subst hj1
      exact absurd this (by decide +kernel)
    · lia
  · rw [hmem] at hy
    rcases List.mem_cons.mp hy with rfl | hy
    · refine ⟨⟨t, ht, hn, .inr ⟨rfl, ?_⟩⟩, hss, hw, hwl, hel, he⟩
      rcases Nat.eq_zero_or_pos j with q | q
      · subst q; exact .inl ⟨Nat.le_refl _, hs⟩
      · exact .inr (by lia)
    · obtain ⟨⟨i, h1, h2, h3⟩, h4⟩ := h.row y hy
      refine ⟨⟨i, h1, h2, h3.imp id fun ⟨q1, q2⟩ => ⟨q1, ?_⟩⟩, h4⟩
      rcases q2 with q2 | q2
      · exact .inl ⟨by lia, q2.2⟩
      · exact .inr (by lia)
  · rw [hkm, List.map_cons, List.mem_cons]
    rcases hi with hi | ⟨hi, _⟩
    · exact .inr (h.spec i (.inl hi))
    · rcases Nat.eq_zero_or_pos j with q | q
      · subst q
        left
        unfold Row.key
        rw [hn, hs, hi]; rfl
      · exact .inr (h.spec i (.inr ⟨hi, q⟩))
theorem RowsAt.good {rs : List Row} {cnt : Nat} (h : RowsAt rs cnt cnt 0) (hc : 1 ≤ cnt ∧ cnt ≤ 6) : GoodRows rs cnt where
  c1 := hc
  len := by have := h.len; lia
  nd := h.nd
  row := fun r hr => by
    obtain ⟨⟨i, h1, h2, h3⟩, h4⟩ := h.row r hr
    exact ⟨⟨i, h1, h2⟩, h4⟩
  spec := fun i hi => h.spec i (.inl hi)

inductive LtA (L : List Int) (k : Int) (v : Nat) (t : Nat) (m : M) : Prop
  | mk (rs : List Row) (kk : Int) (h0 : gt m "cup" = some (cupE L kk)) (h1 : (k ≤ kk ∧ kk ≤ k + 1 + 100 * (t : Int))) (h2 : gt m "count" = some ⟨false, .d (.int ((v + 1 : Nat) : Int))⟩) (h3 : gt m "rows" = some ⟨true, .d (.list (rs.map Row.enc))⟩) (h4 : RowsAt rs (v + 1) t 0) : LtA L k v t m
inductive LtB (L : List Int) (k : Int) (v : Nat) (t : Nat) (j : Nat) (m : M) : Prop
  | mk (rs : List Row) (kk : Int) (h0 : gt m "cup" = some (cupE L kk)) (h1 : (k ≤ kk ∧ kk ≤ k + 1 + 100 * (t : Int) + 30 * (j : Int))) (h2 : gt m "count" = some ⟨false, .d (.int ((v + 1 : Nat) : Int))⟩) (h3 : gt m "rows" = some ⟨true, .d (.list (rs.map Row.enc))⟩) (h4 : gt m "here" = some ⟨false, .d (.int (t : Int))⟩) (h5 : RowsAt rs (v + 1) t j) : LtB L k v t j m
inductive LtC (L : List Int) (kk : Int) (v t j : Nat) (rs : List Row) (f : Fl) (m : M) : Prop
  | mk (x0 : (f = .next ∨ (f = .cont ∧ sortS j = "body"))) (k1 : Int) (h0 : gt m "cup" = some (cupE L k1)) (h1 : (kk ≤ k1 ∧ k1 ≤ kk + 1)) (h2 : gt m "count" = some ⟨false, .d (.int ((v + 1 : Nat) : Int))⟩) (h3 : gt m "rows" = some ⟨true, .d (.list (rs.map Row.enc))⟩) (h4 : gt m "here" = some ⟨false, .d (.int (t : Int))⟩) (h5 : gt m "sort" = some ⟨false, .d (.str (sortS j))⟩) : LtC L kk v t j rs f m
inductive LtD (L : List Int) (k1 : Int) (v t j : Nat) (rs : List Row) (f : Fl) (m : M) : Prop
  | mk (x0 : f = .next) (ws : List Str) (k2 : Int) (h0 : gt m "cup" = some (cupE L k2)) (h1 : (k1 + 1 ≤ k2 ∧ k2 ≤ k1 + 1 + 2)) (h2 : gt m "count" = some ⟨false, .d (.int ((v + 1 : Nat) : Int))⟩) (h3 : gt m "rows" = some ⟨true, .d (.list (rs.map Row.enc))⟩) (h4 : gt m "here" = some ⟨false, .d (.int (t : Int))⟩) (h5 : gt m "sort" = some ⟨false, .d (.str (sortS j))⟩) (h6 : gt m "withs" = some ⟨true, .d (.list (ws.map .str))⟩) (h7 : ws.length ≤ 2) (h8 : ∀ o ∈ ws, ∃ j, j < v + 1 ∧ o = uN j) : LtD L k1 v t j rs f m
inductive LtE (L : List Int) (k1 : Int) (v t j : Nat) (rs : List Row) (i : Nat) (m : M) : Prop
  | mk (ws : List Str) (k2 : Int) (h0 : gt m "cup" = some (cupE L k2)) (h1 : (k1 + 1 ≤ k2 ∧ k2 ≤ k1 + 1 + (i : Int))) (h2 : gt m "count" = some ⟨false, .d (.int ((v + 1 : Nat) : Int))⟩) (h3 : gt m "rows" = some ⟨true, .d (.list (rs.map Row.enc))⟩) (h4 : gt m "here" = some ⟨false, .d (.int (t : Int))⟩) (h5 : gt m "sort" = some ⟨false, .d (.str (sortS j))⟩) (h6 : gt m "withs" = some ⟨true, .d (.list (ws.map .str))⟩) (h7 : ws.length ≤ i) (h8 : ∀ o ∈ ws, ∃ j, j < v + 1 ∧ o = uN j) : LtE L k1 v t j rs i m
inductive LtF (L : List Int) (k2 : Int) (v t : Nat) (rs : List Row) (ws : List Str) (i : Nat) (acc : List PyData) (m : M) : Prop
  | mk (es : List Str) (k3 : Int) (h0 : gt m "cup" = some (cupE L k3)) (h1 : (k2 ≤ k3 ∧ k3 ≤ k2 + (i : Int))) (h2 : gt m "count" = some ⟨false, .d (.int ((v + 1 : Nat) : Int))⟩) (h3 : gt m "rows" = some ⟨true, .d (.list (rs.map Row.enc))⟩) (h4 : gt m "here" = some ⟨false, .d (.int (t : Int))⟩) (h5 : acc = es.map .str) (h6 : es.length ≤ i) (h7 : ∀ o ∈ es, o ∈ ws) : LtF L k2 v t rs ws i acc m
theorem ltext_body {n : Nat} {m : M} {L : List Int} {k : Int} (h1 : gt m "cup" = some (cupE L k)) (hk : 0 ≤ k ∧ k ≤ 1000) :
    Wp (exs (n + 70) (cx "_law_text") (fdv "_law_text").body m) (fun fl m' => ∃ rs cnt k', fl = .ret (.d (encRows rs)) ∧ GoodRows rs cnt ∧ gt m' "cup" = some (cupE L k') ∧ 0 ≤ k' ∧ k' ≤ k + 1000) False := by
  have hk0 : 0 ≤ k ∧ k ≤ 2 ^ 18 := by
    have : (2 : Int) ^ 18 = 262144 := by decide +kernel
    lia
  conv => arg 1; arg 3; whnf
  ((with_reducible apply wps_cons; apply wp_AssignN); kernel_rfl; (with_reducible apply wp_bin; apply wp_eqok; exact e_int; apply wp_die); kernel_rfl; kernel_rfl; rfl; (with_reducible assumption); assumption; (with_reducible apply wp_eqok; exact e_int; apply rfl_and))
  refine ⟨_, rfl, by decide, fun v hv => ?_⟩
  have hv' : v < 6 := by lia
  ((with_reducible apply wp_bin_ok; exact get_v; exact get_v); rfl; (with_reducible apply wp_st_v; apply seq_next; apply wps_cons; apply wp_AssignN); kernel_rfl; (with_reducible apply wp_eqok; apply e_list; exact e_es_nil); rfl; (with_reducible apply wp_st_f; apply seq_next; apply wps_cons; apply wp_For; apply wp_eqok; apply e_range); kernel_rfl; rfl; (with_reducible apply e_nameF); kernel_rfl; (with_reducible apply lk_skip); decide +kernel; (with_reducible exact lk_here; exact get_v); (exact rng_ok (by first | assumption | (simp only [List.length_map]; lia))); (with_reducible apply wp_frzV))
  rw [show (1 : Int) + (v : Int) = ((v + 1 : Nat) : Int) by lia]
  skip
  refine ⟨_, rfl, ?_⟩
  have ul : ("u" : Str).length = 1 := by decide +kernel
  refine wp_for_idx (LtA L k v)
    ⟨[], k + 1, (by (with_reducible apply lk_skip); decide +kernel; (with_reducible apply lk_skip); decide +kernel; (with_reducible exact lk_here)), by lia, (by (with_reducible apply lk_skip); decide +kernel; (with_reducible exact lk_here)), lk_here, ⟨by simp, by simp, by simp, fun i hi => by lia⟩⟩ (fun t ht m ⟨rs, kk, e1, e2, e3, e4, e5⟩ => ?_) (fun m ⟨rs, kk, e1, e2, e3, e4, e5⟩ => ?_)
  · have ht' : t < v + 1 := by
      rw [show (List.map (fun (i : Nat) => SV.d (.int (Int.ofNat i))) (List.range ((v + 1 : Nat) : Int).toNat)).length = v + 1 by simp] at ht
      exact ht
    rw [show (List.map (fun (i : Nat) => SV.d (.int (Int.ofNat i))) (List.range ((v + 1 : Nat) : Int).toNat))[t]'ht = .d (.int (t : Int)) by simp]
    ((with_reducible apply Wp.bind; apply wp_bindN); kernel_rfl; (with_reducible apply wps_cons; apply wp_For; apply wp_eqok; apply e_tuple; apply e_es_cons; apply e_Dv; apply e_str); decide +kernel; (with_reducible apply e_es_cons; apply e_Dv; apply e_str); decide +kernel; (with_reducible exact e_es_nil); rfl; (with_reducible apply wp_frzV))
    refine ⟨_, rfl, ?_⟩
    refine wp_for_idx (LtB L k v t)
      ⟨rs, kk, (by (with_reducible apply lk_skip); decide +kernel; (with_reducible assumption)), by lia, (by (with_reducible apply lk_skip); decide +kernel; (with_reducible assumption)), (by (with_reducible apply lk_skip); decide +kernel; (with_reducible assumption)), (by (with_reducible exact lk_here)), e5⟩ (fun j hj m ⟨rs, kk, e1, e2, e3, e4, e5, e6⟩ => ?_) (fun m ⟨rs, kk, e1, e2, e3, e4, e5, e6⟩ => ?_)
    · have hj' : j < 2 := by simpa using hj
      rw [show (List.map SV.d [PyData.str ("spec" : Str), .str ("body" : Str)])[j]'hj = .d (.str (sortS j)) by
        match j, hj' with
        | 0, _ => rfl
        | 1, _ => rfl]
      have hk1 : 0 ≤ kk ∧ kk ≤ 2 ^ 18 := by
        have : (2 : Int) ^ 18 = 262144 := by decide +kernel
        lia
      refine Wp.bind (wp_bindN (by kernel_rfl) (wps_cons ?_))
      refine wp_cut (LtC L kk v t j rs) ?_ ?_
      · ((with_reducible apply wp_If; apply wpB_bo; apply wpBo_and; apply wp_eqok; apply eB_cmp; apply e_cmp; apply e_nameF); kernel_rfl; (with_reducible exact lk_here; apply e_str); decide +kernel; (with_reducible exact get_v; exact get_v); exact cmp_eqS)
        refine ⟨fun hb => ?_, fun hb => ?_⟩
        · ((with_reducible apply br2; apply wps_nil))
          exact ⟨.inl rfl, kk, (by (with_reducible apply lk_skip); decide +kernel; (with_reducible assumption)), by lia, (by (with_reducible apply lk_skip); decide +kernel; (with_reducible assumption)), (by (with_reducible apply lk_skip); decide +kernel; (with_reducible assumption)), (by (with_reducible apply lk_skip); decide +kernel; (with_reducible assumption)), (by (with_reducible exact lk_here))⟩
        · ((with_reducible apply wpBo_and; apply wpB_cmp; apply wp_cmp; apply wp_die); kernel_rfl; kernel_rfl; rfl; (with_reducible apply lk_skip); decide +kernel; (with_reducible assumption); assumption; (with_reducible apply wp_eqok; exact e_int; apply rfl_and))
          refine ⟨_, rfl, by decide, fun w hw => ?_⟩
          ((with_reducible apply wp_eqok; exact e_int; apply wp_cmp_ok; exact get_v; exact get_v); exact cmp_eqN; (with_reducible apply wp_truth; exact get_v))
          refine ⟨fun hc => ?_, fun hc => ?_⟩
          · ((with_reducible apply br2; apply wps_nil))
            exact ⟨.inl rfl, kk + 1, (by (with_reducible exact lk_here)), by lia, (by (with_reducible apply lk_skip); decide +kernel; (with_reducible apply lk_skip); decide +kernel; (with_reducible assumption)), (by (with_reducible apply lk_skip); decide +kernel; (with_reducible apply lk_skip); decide +kernel; (with_reducible assumption)), (by (with_reducible apply lk_skip); decide +kernel; (with_reducible apply lk_skip); decide +kernel; (with_reducible assumption)), (by (with_reducible apply lk_skip); decide +kernel; (with_reducible exact lk_here))⟩
          · ((with_reducible apply wpBo_nilA; apply br1; apply wps_cons; apply wp_Continue; apply seq_cont))
            exact ⟨.inr ⟨rfl, eq_of_beq hb⟩, kk + 1, (by (with_reducible exact lk_here)), by lia, (by (with_reducible apply lk_skip); decide +kernel; (with_reducible apply lk_skip); decide +kernel; (with_reducible assumption)), (by (with_reducible apply lk_skip); decide +kernel; (with_reducible apply lk_skip); decide +kernel; (with_reducible assumption)), (by (with_reducible apply lk_skip); decide +kernel; (with_reducible apply lk_skip); decide +kernel; (with_reducible assumption)), (by (with_reducible apply lk_skip); decide +kernel; (with_reducible exact lk_here))⟩
      · rintro f m ⟨rfl | ⟨rfl, hsb⟩, k1, f1, f2, f3, f4, f5, f6⟩
        · have hk2 : 0 ≤ k1 ∧ k1 ≤ 2 ^ 18 := by
            have : (2 : Int) ^ 18 = 262144 := by decide +kernel
            lia
          ((with_reducible apply seq_next; apply wps_cons; apply wp_AssignN); kernel_rfl; (with_reducible apply wp_eqok; apply e_list; exact e_es_nil); rfl; (with_reducible apply wp_st_f; apply seq_next; apply wps_cons; apply wp_For; apply wp_built); kernel_rfl; rfl; kernel_rfl; decide +kernel; (with_reducible apply wp_die); kernel_rfl; kernel_rfl; rfl; (with_reducible apply lk_skip); decide +kernel; (with_reducible assumption); assumption; (with_reducible apply wp_eqok; exact e_int; apply rfl_and))
          refine ⟨_, rfl, by decide, fun w hw => ?_⟩
          have hw1 : w ≤ 1000 := by lia
          ((with_reducible refine wp_range get_v ?_ ?_); (exact rng_ok (by first | assumption | (simp only [List.length_map]; lia))); (with_reducible apply wp_frzV))
          refine ⟨_, rfl, ?_⟩
          have ul2 : ("u" : Str).length + (Str.ofString (toString (t : Int))).length ≤ lenMax := by
            have := uN_str (i := t) (by lia)
            unfold lenMax; lia
          refine wp_cut (LtD L k1 v t j rs) ?_ ?_
          · refine wp_for_idx (LtE L k1 v t j rs)
              ⟨[], k1 + 1, (by (with_reducible exact lk_here)), by lia, (by (with_reducible apply lk_skip); decide +kernel; (with_reducible apply lk_skip); decide +kernel; (with_reducible assumption)), (by (with_reducible apply lk_skip); decide +kernel; (with_reducible apply lk_skip); decide +kernel; (with_reducible assumption)), (by (with_reducible apply lk_skip); decide +kernel; (with_reducible apply lk_skip); decide +kernel; (with_reducible assumption)), (by (with_reducible apply lk_skip); decide +kernel; (with_reducible apply lk_skip); decide +kernel; (with_reducible assumption)), lk_skip (by decide +kernel) lk_here, by simp, by simp⟩ (fun i hi m ⟨ws, k2, g1, g2, g3, g4, g5, g6, g7, g8, g9⟩ => ?_) (fun m ⟨ws, k2, g1, g2, g3, g4, g5, g6, g7, g8, g9⟩ => ?_)
            · have hi' : i < w := by simpa using hi
              have hk3 : 0 ≤ k2 ∧ k2 ≤ 2 ^ 18 := by
                have : (2 : Int) ^ 18 = 262144 := by decide +kernel
                lia
              rw [show (List.map (fun (i : Nat) => SV.d (.int (Int.ofNat i))) (List.range (w : Int).toNat))[i]'hi = .d (.int (i : Int)) by simp]
              ((with_reducible apply Wp.bind; apply wp_bindN); kernel_rfl; (with_reducible apply wps_cons; apply wp_AssignN); kernel_rfl; (with_reducible apply wp_bin; apply wp_eqok; apply e_str); decide +kernel; (with_reducible apply wp_built); kernel_rfl; rfl; kernel_rfl; decide +kernel; (with_reducible apply wp_die); kernel_rfl; kernel_rfl; rfl; (with_reducible apply lk_skip); decide +kernel; (with_reducible assumption); assumption; (with_reducible apply wp_eqok; apply e_nameF); kernel_rfl; (with_reducible apply lk_skip); decide +kernel; (with_reducible assumption; apply rfl_and))
              refine ⟨_, rfl, by lia, fun z hz => ?_⟩
              have hz1 : z < v + 1 := by lia
              have hz2 : (z : Int).natAbs ≤ 1000 := by lia
              have ul3 : ("u" : Str).length + (Str.ofString (toString (z : Int))).length ≤ lenMax := by
                have := uN_str (i := z) (by lia)
                unfold lenMax; lia
              have hwl : (ws.map PyData.str).length < lenMax := by rw [List.length_map]; unfold lenMax; lia
              ((with_reducible apply wp_strB; exact get_v); lia; (with_reducible apply wp_addS; exact get_v; exact get_v); assumption; (with_reducible apply wp_st_v; apply seq_next; apply wps_cons; apply wp_If; apply wpB_bo; apply wpBo_and; apply wp_eqok; apply eB_cmp; apply e_cmp; apply e_nameF); kernel_rfl; (with_reducible exact lk_here; apply e_nameO); kernel_rfl; (with_reducible apply lk_skip); decide +kernel; (with_reducible apply lk_skip); decide +kernel; (with_reducible apply lk_skip); decide +kernel; (with_reducible assumption; exact get_v; apply get_var; apply lk_skip); decide +kernel; (with_reducible apply lk_skip); decide +kernel; (with_reducible apply lk_skip); decide +kernel; (with_reducible assumption); exact cmp_notInS)
              refine ⟨fun hb => ?_, fun hb => ?_⟩
              · ((with_reducible apply br2; apply wps_nil; apply seq_next; apply wps_nil; apply for_next))
                exact ⟨ws, k2 + 1, (by (with_reducible apply lk_skip); decide +kernel; (with_reducible exact lk_here)), by lia, (by (with_reducible apply lk_skip); decide +kernel; (with_reducible apply lk_skip); decide +kernel; (with_reducible apply lk_skip); decide +kernel; (with_reducible assumption)), (by (with_reducible apply lk_skip); decide +kernel; (with_reducible apply lk_skip); decide +kernel; (with_reducible apply lk_skip); decide +kernel; (with_reducible assumption)), (by (with_reducible apply lk_skip); decide +kernel; (with_reducible apply lk_skip); decide +kernel; (with_reducible apply lk_skip); decide +kernel; (with_reducible assumption)), (by (with_reducible apply lk_skip); decide +kernel; (with_reducible apply lk_skip); decide +kernel; (with_reducible apply lk_skip); decide +kernel; (with_reducible assumption)), (by (with_reducible apply lk_skip); decide +kernel; (with_reducible apply lk_skip); decide +kernel; (with_reducible apply lk_skip); decide +kernel; (with_reducible assumption)), by lia, g9⟩
              · ((with_reducible apply wpBo_and; apply wp_eqok; apply eB_cmp; apply e_cmp; apply e_nameF); kernel_rfl; (with_reducible exact lk_here; apply e_addS; apply e_str); decide +kernel; (with_reducible apply e_strB); kernel_rfl; rfl; (with_reducible apply e_nameF); kernel_rfl; (with_reducible apply lk_skip); decide +kernel; (with_reducible apply lk_skip); decide +kernel; (with_reducible apply lk_skip); decide +kernel; (with_reducible assumption; exact get_v); lia; (with_reducible exact get_v; exact get_v); assumption; (with_reducible exact get_v; exact get_v); exact cmp_neS)
                refine ⟨fun hc => ?_, fun hc => ?_⟩
                · ((with_reducible apply br2; apply wps_nil; apply seq_next; apply wps_nil; apply for_next))
                  exact ⟨ws, k2 + 1, (by (with_reducible apply lk_skip); decide +kernel; (with_reducible exact lk_here)), by lia, (by (with_reducible apply lk_skip); decide +kernel; (with_reducible apply lk_skip); decide +kernel; (with_reducible apply lk_skip); decide +kernel; (with_reducible assumption)), (by (with_reducible apply lk_skip); decide +kernel; (with_reducible apply lk_skip); decide +kernel; (with_reducible apply lk_skip); decide +kernel; (with_reducible assumption)), (by (with_reducible apply lk_skip); decide +kernel; (with_reducible apply lk_skip); decide +kernel; (with_reducible apply lk_skip); decide +kernel; (with_reducible assumption)), (by (with_reducible apply lk_skip); decide +kernel; (with_reducible apply lk_skip); decide +kernel; (with_reducible apply lk_skip); decide +kernel; (with_reducible assumption)), (by (with_reducible apply lk_skip); decide +kernel; (with_reducible apply lk_skip); decide +kernel; (with_reducible apply lk_skip); decide +kernel; (with_reducible assumption)), by lia, g9⟩
                · ((with_reducible apply wpBo_nilA; apply br1; apply wps_cons; apply wp_ExprS; apply wp_methL); kernel_rfl; kernel_rfl; (with_reducible apply lk_skip); decide +kernel; (with_reducible apply lk_skip); decide +kernel; (with_reducible apply lk_skip); decide +kernel; (with_reducible assumption); kernel_rfl; (with_reducible apply wp_eqok; apply e_es_cons; apply e_Dv; apply e_nameF); kernel_rfl; (with_reducible exact lk_here; exact e_es_nil; apply wp_append; apply lk_skip); decide +kernel; (with_reducible apply lk_skip); decide +kernel; (with_reducible apply lk_skip); decide +kernel; (with_reducible assumption); assumption; (with_reducible apply rfl_and; apply seq_next; apply wps_nil; apply seq_next; apply wps_nil; apply for_next))
                  refine ⟨ws ++ [uN z], k2 + 1, (by (with_reducible apply lk_skip); decide +kernel; (with_reducible apply lk_skip); decide +kernel; (with_reducible exact lk_here)), by lia, (by (with_reducible apply lk_skip); decide +kernel; (with_reducible apply lk_skip); decide +kernel; (with_reducible apply lk_skip); decide +kernel; (with_reducible apply lk_skip); decide +kernel; (with_reducible assumption)), (by (with_reducible apply lk_skip); decide +kernel; (with_reducible apply lk_skip); decide +kernel; (with_reducible apply lk_skip); decide +kernel; (with_reducible apply lk_skip); decide +kernel; (with_reducible assumption)), (by (with_reducible apply lk_skip); decide +kernel; (with_reducible apply lk_skip); decide +kernel; (with_reducible apply lk_skip); decide +kernel; (with_reducible apply lk_skip); decide +kernel; (with_reducible assumption)), (by (with_reducible apply lk_skip); decide +kernel; (with_reducible apply lk_skip); decide +kernel; (with_reducible apply lk_skip); decide +kernel; (with_reducible apply lk_skip); decide +kernel; (with_reducible assumption)), ?_, by rw [List.length_append, List.length_singleton]; lia, fun o ho => ?_⟩
                  · rw [List.map_append]
                    exact lk_here
                  · rw [List.mem_append, List.mem_singleton] at ho
                    rcases ho with ho | rfl
                    · exact g9 o ho
                    · exact ⟨z, hz1, rfl⟩
            · rw [show (List.map (fun (i : Nat) => SV.d (.int (Int.ofNat i))) (List.range (w : Int).toNat)).length = w by simp] at g2 g8
              exact ⟨rfl, ws, k2, g1, by lia, g3, g4, g5, g6, g7, by lia, g9⟩
          · rintro f m ⟨rfl, ws, k2, g1, g2, g3, g4, g5, g6, g7, g8, g9⟩
            ((with_reducible apply seq_next; apply wps_cons; apply wp_AssignN); kernel_rfl; (with_reducible apply wp_tuple; apply wp_es_cons; apply wp_eqok; apply e_Dv; apply e_addS; apply e_str); decide +kernel; (with_reducible apply e_strB); kernel_rfl; rfl; (with_reducible apply e_nameF); kernel_rfl; (with_reducible assumption; exact get_v); lia; (with_reducible exact get_v; exact get_v); assumption; (with_reducible apply wp_es_cons; apply wp_eqok; apply e_Dv; apply e_nameF); kernel_rfl; (with_reducible assumption; apply wp_es_cons; apply wp_eqok; apply e_Do; apply e_nameO); kernel_rfl; (with_reducible assumption; assumption; apply wp_es_cons; apply wp_D; apply wp_LC); kernel_rfl; (with_reducible apply wp_eqok; apply e_nameF); kernel_rfl; (with_reducible exact lk_here; apply wp_frzV))
            refine And.intro (fun _ h => nomatch h) ⟨_, rfl, ?_⟩
            refine wp_comp_idx (LtF L k2 v t rs ws) (by simp [lenMax]; lia) ⟨[], k2, (by (with_reducible apply lk_skip); decide +kernel; (with_reducible assumption)), by lia, (by (with_reducible apply lk_skip); decide +kernel; (with_reducible assumption)), (by (with_reducible apply lk_skip); decide +kernel; (with_reducible assumption)), (by (with_reducible apply lk_skip); decide +kernel; (with_reducible assumption)), rfl, by simp, by simp⟩ (fun i hi acc m ⟨es, k3, q1, q2, q3, q4, q5, q6, q7, q8⟩ => ?_) (fun acc m ⟨es, k3, q1, q2, q3, q4, q5, q6, q7, q8⟩ => ?_)
            · have hi' : i < ws.length := by simpa using hi
              have hk4 : 0 ≤ k3 ∧ k3 ≤ 2 ^ 18 := by
                have : (2 : Int) ^ 18 = 262144 := by decide +kernel
                lia
              rw [show (List.map SV.d (List.map PyData.str ws))[i] = .d (.str ws[i]) by simp]
              ((with_reducible apply Wp.bind; apply wpBs_one; apply wpB_cmp; apply wp_cmp; apply wp_die); kernel_rfl; kernel_rfl; rfl; (with_reducible assumption); assumption; (with_reducible apply wp_eqok; exact e_int; apply rfl_and))
              refine ⟨_, rfl, by decide, fun z hz => ?_⟩
              ((with_reducible apply wp_eqok; exact e_int; apply wp_cmp_ok; exact get_v; exact get_v); exact cmp_eqN; (with_reducible apply wp_truth; exact get_v))
              cases hb : decide ((z : Int) = 1) with
              | true =>
                ((with_reducible apply Wp.bind; apply wp_eqok; apply e_Dv; apply e_nameC); rfl; decide +kernel; kernel_rfl; (with_reducible apply wp_ok))
                refine ⟨es ++ [ws[i]], k3 + 1, (by (with_reducible exact lk_here)), by lia, (by (with_reducible apply lk_skip); decide +kernel; (with_reducible assumption)), (by (with_reducible apply lk_skip); decide +kernel; (with_reducible assumption)), (by (with_reducible apply lk_skip); decide +kernel; (with_reducible assumption)), by rw [q6]; simp, by rw [List.length_append, List.length_singleton]; lia, fun o ho => ?_⟩
                rw [List.mem_append, List.mem_singleton] at ho
                rcases ho with ho | rfl
                · exact q8 o ho
                · exact List.getElem_mem hi'
              | false =>
                ((with_reducible apply wp_ok))
                exact ⟨es, k3 + 1, (by (with_reducible exact lk_here)), by lia, (by (with_reducible apply lk_skip); decide +kernel; (with_reducible assumption)), (by (with_reducible apply lk_skip); decide +kernel; (with_reducible assumption)), (by (with_reducible apply lk_skip); decide +kernel; (with_reducible assumption)), q6, by lia, q8⟩
            · rw [show (List.map SV.d (List.map PyData.str ws)).length = ws.length by simp] at q2 q7
              have hk4 : 0 ≤ k3 ∧ k3 ≤ 2 ^ 18 := by
                have : (2 : Int) ^ 18 = 262144 := by decide +kernel
                lia
              ((with_reducible apply wp_frzF; apply wp_asD; apply wp_eqok; exact e_es_nil; apply len_ok); rfl; (with_reducible apply wp_st_v; apply seq_next; apply wps_cons; apply wp_ExprS; apply wp_methL); kernel_rfl; kernel_rfl; (with_reducible apply lk_skip); decide +kernel; (with_reducible assumption); kernel_rfl; (with_reducible apply wp_es_cons; apply wp_D; apply wp_die); kernel_rfl; kernel_rfl; rfl; (with_reducible apply lk_skip); decide +kernel; (with_reducible assumption); assumption; (with_reducible apply wp_eqok; apply e_bin; apply e_len); kernel_rfl; rfl; (with_reducible apply e_nameO); kernel_rfl; (with_reducible apply lk_skip); decide +kernel; (with_reducible assumption; apply get_var; apply lk_skip); decide +kernel; (with_reducible assumption); rfl; (with_reducible exact e_int; exact get_v; exact get_v); rfl; (with_reducible apply rfl_and))
              have hrl := e6.len
              refine ⟨_, rfl, by lia, fun z hz => ?_⟩
              rw [List.length_map] at hz
              ((with_reducible apply wp_frzV; apply wp_asD; apply wp_eqok; apply e_es_cons; apply e_Dv; apply e_nameF); kernel_rfl; (with_reducible apply lk_skip); decide +kernel; (with_reducible exact lk_here; exact e_es_nil))
              refine wp_insert (i := (z : Int)) (by (with_reducible apply lk_skip); decide +kernel; (with_reducible apply lk_skip); decide +kernel; (with_reducible assumption)) ⟨by rw [List.length_map]; unfold lenMax; lia, by lia, by rw [List.length_map]; lia⟩ ?_
              ((with_reducible apply rfl_and; apply seq_next; apply wps_nil; apply for_next))
              refine ⟨rs.take z ++ ⟨uN t, sortS j, ws, es⟩ :: rs.drop z, k3 + 1, (by (with_reducible apply lk_skip); decide +kernel; (with_reducible exact lk_here)), by lia, (by (with_reducible apply lk_skip); decide +kernel; (with_reducible apply lk_skip); decide +kernel; (with_reducible apply lk_skip); decide +kernel; (with_reducible assumption)), ?_, (by (with_reducible apply lk_skip); decide +kernel; (with_reducible apply lk_skip); decide +kernel; (with_reducible apply lk_skip); decide +kernel; (with_reducible assumption)), e6.insert hj' ht' (by lia) rfl rfl g9 g8 (by show es.length ≤ 2; lia) q8⟩
              rw [List.map_append, List.map_cons, List.map_take, List.map_drop]
              subst q6
              exact lk_here
        · have hj1 : j = 1 := by
            rcases Nat.eq_zero_or_pos j with q | q
            · subst q; exact absurd hsb (by decide +kernel)
            · lia
          subst hj1
          exact ⟨rs, k1, f1, by lia, f3, f4, f5, e6.skip⟩
    · exact ⟨rs, kk, e1, by simp at e2; lia, e3, e4, e6.next⟩
  · rw [show (List.map (fun (i : Nat) => SV.d (.int (Int.ofNat i))) (List.range ((v + 1 : Nat) : Int).toNat)).length = v + 1 by simp] at e2 e5
    ((with_reducible apply seq_next; apply wps_cons; apply wp_Return; apply wp_eqok; apply e_nameO); kernel_rfl; (with_reducible assumption; apply wp_frzO; assumption; apply seq_ret))
    exact ⟨rs, v + 1, kk, rfl, e5.good ⟨by lia, by lia⟩, (by (with_reducible apply lk_skip); decide +kernel; (with_reducible assumption)), by lia, by lia⟩

theorem sort_len {s : Str} (h : s = "spec" ∨ s = "body") : s.length ≤ 10 := by
  rcases h with rfl | rfl <;> decide +kernel
theorem GoodRows.small {rs : List Row} {cnt : Nat} (g : GoodRows rs cnt) : Small rs where
  len := by have := g.len; lia
  row := fun r hr => by
    obtain ⟨⟨i, h1, h2⟩, h3, _, h4, h5, _⟩ := g.row r hr
    have := uN_len (i := i) (by have := g.c1; lia)
    have := sort_len h3
    rw [h2]
    lia
theorem GoodRows.ok {rs : List Row} {cnt : Nat} (g : GoodRows rs cnt) : allOk rs := by
  refine ⟨⟨g.nd, fun r hr _ => ?_⟩, fun r hr => ⟨fun o ho => ?_, (g.row r hr).2.2.2.2.2⟩⟩
  · obtain ⟨⟨i, h1, h2⟩, _⟩ := g.row r hr
    rw [h2]; exact g.spec i h1
  · obtain ⟨j, h1, rfl⟩ := (g.row r hr).2.2.1 o ho
    exact g.spec j h1
theorem sliceL_to {xs : List PyData} {j : Nat} (h : j < 1000) : sliceL xs none (some (.int (j : Int))) = some (xs.take j) := by
  have e : bnd xs.length xs.length (some (.int (j : Int))) = some (min j xs.length) := by
    have h2 : (1000 : Int) ≤ 2 ^ 60 := by decide +kernel
    have hb : (decide (0 ≤ (j : Int)) && decide ((j : Int) < 2 ^ 60)) = true := by
      rw [Bool.and_eq_true]
      exact ⟨decide_eq_true (Int.natCast_nonneg j), decide_eq_true (Int.lt_of_lt_of_le (Int.ofNat_lt.mpr h) h2)⟩
    rw [bnd_int, if_pos hb, Int.toNat_natCast]
  unfold sliceL
  rw [e, bnd_none, Option.bind_some, Option.map_some]
  refine congrArg some ?_
  rw [List.drop_zero, Nat.sub_zero]
  rcases Nat.le_total j xs.length with h | h
  · rw [Nat.min_eq_left h]
  · rw [Nat.min_eq_right h, List.take_length, List.take_of_length_le h]

theorem sliceL_from1 {xs : List PyData} {j : Nat} (h : j < 900) : sliceL xs (some (.int ((j : Int) + 1))) none = some (xs.drop (j + 1)) := by
  rw [show ((j : Int) + 1) = ((j + 1 : Nat) : Int) by lia]
  exact sliceL_from (by lia)
theorem hurt0 {rs : List Row} {s : Nat} (hs : s < rs.length) : ¬ allOk (rs ++ [rs[s]]) := fun h => by
  have := h.1.1
  rw [List.map_append, List.nodup_append] at this
  exact this.2.2 _ (List.mem_map_of_mem (List.getElem_mem hs)) _ (by simp) rfl
theorem names_not {rs : List Row} {cnt : Nat} (g : GoodRows rs cnt) {s : Nat} (hs : s < rs.length) {r : Row} (hn : r.n = rs[s].n) {x : Str} (hx : ∀ i, i < 8 → uN i ≠ x) (so : Str) : [x, so] ∉ (rs.take s ++ [r] ++ rs.drop (s + 1)).map Row.key := fun h => by
  obtain ⟨y, hy, e⟩ := List.mem_map.mp h
  have hyn : ∃ i, i < cnt ∧ y.n = uN i := by
    rw [List.mem_append, List.mem_append, List.mem_singleton] at hy
    rcases hy with (hy | rfl) | hy
    · exact (g.row y (List.mem_of_mem_take hy)).1
    · rw [hn]; exact (g.row _ (List.getElem_mem hs)).1
    · exact (g.row y (List.mem_of_mem_drop hy)).1
  obtain ⟨i, h1, h2⟩ := hyn
  unfold Row.key at e
  simp only [List.cons.injEq, and_true] at e
  exact hx i (by have := g.c1; lia) (by rw [← h2, e.1])
theorem hurt1 {rs : List Row} {cnt : Nat} (g : GoodRows rs cnt) {s : Nat} (hs : s < rs.length) : ¬ allOk (rs.take s ++ [⟨rs[s].n, rs[s].s, rs[s].ws ++ [("nowhere" : Str)], rs[s].es⟩] ++ rs.drop (s + 1)) := fun h => by
  have h2 := (h.2 ⟨rs[s].n, rs[s].s, rs[s].ws ++ [("nowhere" : Str)], rs[s].es⟩ (by simp)).1 "nowhere" (by simp)
  exact names_not g hs (r := ⟨rs[s].n, rs[s].s, rs[s].ws ++ [("nowhere" : Str)], rs[s].es⟩) rfl (fun i hi => (uN_ne hi).1) _ h2
theorem hurt2 {rs : List Row} {cnt : Nat} (g : GoodRows rs cnt) {s : Nat} (hs : s < rs.length) : ¬ allOk (rs.take s ++ [⟨rs[s].n, rs[s].s, rs[s].ws, rs[s].es ++ [("v" : Str)]⟩] ++ rs.drop (s + 1)) := fun h => by
  have h2 := (h.2 ⟨rs[s].n, rs[s].s, rs[s].ws, rs[s].es ++ [("v" : Str)]⟩ (by simp)).2 "v" (by simp)
  obtain ⟨j, h3, h4⟩ := (g.row _ (List.getElem_mem hs)).2.2.1 _ h2
  exact (uN_ne (i := j) (by have := g.c1; lia)).2.1 h4.symm
theorem hurt3 {rs : List Row} {cnt : Nat} (g : GoodRows rs cnt) : ¬ allOk (rs ++ [⟨"w", "body", [], []⟩]) := fun h => by
  have h2 := h.1.2 ⟨"w", "body", [], []⟩ (by simp) rfl
  obtain ⟨y, hy, e⟩ := List.mem_map.mp h2
  unfold Row.key at e
  simp only [List.cons.injEq, and_true] at e
  rw [List.mem_append, List.mem_singleton] at hy
  rcases hy with hy | rfl
  · obtain ⟨⟨i, h1, h3⟩, _⟩ := g.row y hy
    exact (uN_ne (i := i) (by have := g.c1; lia)).2.2 (by rw [← h3, e.1])
  · exact absurd e.2 (by decide +kernel)
theorem small_app {rs : List Row} {r : Row} (hl : rs.length ≤ 12) (h : Small rs) (hr : r.ws.length ≤ 1000 ∧ r.es.length ≤ 1000 ∧ r.n.length ≤ 400 ∧ r.s.length ≤ 400) : Small (rs ++ [r]) where
  len := by rw [List.length_append, List.length_singleton]; lia
  row := fun y hy => by
    rw [List.mem_append, List.mem_singleton] at hy
    rcases hy with hy | rfl
    · exact h.row y hy
    · exact hr
theorem small_set {rs : List Row} {r : Row} {s : Nat} (hl : rs.length ≤ 12) (h : Small rs) (hr : r.ws.length ≤ 1000 ∧ r.es.length ≤ 1000 ∧ r.n.length ≤ 400 ∧ r.s.length ≤ 400) : Small (rs.take s ++ [r] ++ rs.drop (s + 1)) where
  len := by
    rw [List.length_append, List.length_append, List.length_singleton, List.length_take, List.length_drop]; lia
  row := fun y hy => by
    rw [List.mem_append, List.mem_append, List.mem_singleton] at hy
    rcases hy with (hy | rfl) | hy
    · exact h.row y (List.mem_of_mem_take hy)
    · exact hr
    · exact h.row y (List.mem_of_mem_drop hy)

theorem hurt_body {n : Nat} {m : M} {L : List Int} {k : Int} {rs : List Row} {cnt : Nat} (h1 : gt m "cup" = some (cupE L k)) (h2 : gt m "rows" = some ⟨false, .d (.list (rs.map Row.enc))⟩) (hk : 0 ≤ k ∧ k ≤ 5000) (g : GoodRows rs cnt) :
    Wp (exs (n + 60) (cx "_law_hurt") (fdv "_law_hurt").body m) (fun fl m' => ∃ rs' b k', fl = .ret (.d (.tuple [encRows rs', .bool b])) ∧ Small rs' ∧ (b = false → rs' = rs) ∧ (b = true → ¬ allOk rs') ∧ gt m' "cup" = some (cupE L k') ∧ 0 ≤ k' ∧ k' ≤ 6000) False := by
  have hk0 : 0 ≤ k ∧ k ≤ 2 ^ 18 := by
    have : (2 : Int) ^ 18 = 262144 := by decide +kernel
    lia
  have hk1 : 0 ≤ k + 1 ∧ k + 1 ≤ 2 ^ 18 := by
    have : (2 : Int) ^ 18 = 262144 := by decide +kernel
    lia
  have hlen := g.len
  have hpos : 0 < rs.length := by
    have := g.spec 0 (by have := g.c1; lia)
    rw [List.mem_map] at this
    obtain ⟨r, hr, _⟩ := this
    exact List.length_pos_of_mem hr
  conv => arg 1; arg 3; whnf
  ((with_reducible apply wps_cons; apply wp_AssignN); kernel_rfl; (with_reducible apply wp_die); kernel_rfl; kernel_rfl; rfl; (with_reducible assumption); assumption; (with_reducible apply wp_eqok; exact e_int; apply rfl_and))
  refine ⟨_, rfl, by decide, fun v hv => ?_⟩
  ((with_reducible apply wp_st_v; apply seq_next; apply wps_cons; apply wp_If; apply wp_eqok; apply eB_cmp; apply e_cmp; apply e_nameF); kernel_rfl; (with_reducible exact lk_here; exact e_int; exact get_v; exact get_v); rfl)
  refine ⟨fun hb => ?_, fun hb => ?_⟩
  · ((with_reducible apply wps_cons; apply wp_Return; apply wp_eqok; apply e_tuple; apply e_es_cons; apply e_Dv; apply e_nameF); kernel_rfl; (with_reducible apply lk_skip); decide +kernel; (with_reducible apply lk_skip); decide +kernel; (with_reducible assumption; apply e_es_cons; apply e_Dv; exact e_false; exact e_es_nil); rfl; (with_reducible apply wp_frzV; apply seq_ret; apply seq_ret))
    exact ⟨rs, false, k + 1, rfl, g.small, fun _ => rfl, fun h => (by cases h), (by (with_reducible apply lk_skip); decide +kernel; (with_reducible exact lk_here)), by lia, by lia⟩
  ((with_reducible apply wps_nil; apply seq_next; apply wps_cons; apply wp_AssignN); kernel_rfl; (with_reducible apply wp_die); kernel_rfl; kernel_rfl; rfl; (with_reducible apply lk_skip); decide +kernel; (with_reducible exact lk_here); assumption; (with_reducible apply wp_eqok; apply e_len); kernel_rfl; rfl; (with_reducible apply e_nameF); kernel_rfl; (with_reducible apply lk_skip); decide +kernel; (with_reducible apply lk_skip); decide +kernel; (with_reducible assumption; exact get_v); rfl; (with_reducible apply rfl_and))
  refine ⟨_, rfl, by rw [List.length_map]; lia, fun s hs => ?_⟩
  rw [List.length_map] at hs
  have hs' : s < rs.length := by lia
  have hrow := g.small.row _ (List.getElem_mem hs')
  have hrow2 := g.row _ (List.getElem_mem hs')
  ((with_reducible apply wp_st_v; apply seq_next; apply wps_cons; apply wp_AssignT); rfl; (with_reducible apply wp_eqok; apply e_sub); rfl; (with_reducible apply e_nameF); kernel_rfl; (with_reducible apply lk_skip); decide +kernel; (with_reducible apply lk_skip); decide +kernel; (with_reducible apply lk_skip); decide +kernel; (with_reducible apply lk_skip); decide +kernel; (with_reducible assumption; apply e_nameF); kernel_rfl; (with_reducible exact lk_here; exact get_v; exact get_v); exact item_rows (by assumption); (with_reducible apply wp_frzV; apply wp_bindT); rfl; kernel_rfl; rfl; (with_reducible apply seq_next; apply wps_cons; apply wp_If; apply wp_eqok; apply eB_cmp; apply e_cmp; apply e_nameF); kernel_rfl; (with_reducible apply lk_skip); decide +kernel; (with_reducible apply lk_skip); decide +kernel; (with_reducible apply lk_skip); decide +kernel; (with_reducible apply lk_skip); decide +kernel; (with_reducible apply lk_skip); decide +kernel; (with_reducible apply lk_skip); decide +kernel; (with_reducible exact lk_here; exact e_int; exact get_v; exact get_v); exact cmp_eqN)
  refine ⟨fun hc => ?_, fun hc => ?_⟩
  · have hl1 : (List.map Row.enc rs ++ [PyData.tuple [.str rs[s].n, .str rs[s].s, .list (rs[s].ws.map .str), .list (rs[s].es.map .str)]]).length ≤ lenMax := by
      rw [List.length_append, List.length_map, List.length_singleton]; unfold lenMax; lia
    ((with_reducible apply wps_cons; apply wp_Return; apply wp_eqok; apply e_tuple; apply e_es_cons; apply e_Df; apply e_addL; apply e_nameF); kernel_rfl; (with_reducible apply lk_skip); decide +kernel; (with_reducible apply lk_skip); decide +kernel; (with_reducible apply lk_skip); decide +kernel; (with_reducible apply lk_skip); decide +kernel; (with_reducible apply lk_skip); decide +kernel; (with_reducible apply lk_skip); decide +kernel; (with_reducible apply lk_skip); decide +kernel; (with_reducible apply lk_skip); decide +kernel; (with_reducible assumption; apply e_list; apply e_es_cons; apply e_Dv; apply e_sub); rfl; (with_reducible apply e_nameF); kernel_rfl; (with_reducible apply lk_skip); decide +kernel; (with_reducible apply lk_skip); decide +kernel; (with_reducible apply lk_skip); decide +kernel; (with_reducible apply lk_skip); decide +kernel; (with_reducible apply lk_skip); decide +kernel; (with_reducible apply lk_skip); decide +kernel; (with_reducible apply lk_skip); decide +kernel; (with_reducible apply lk_skip); decide +kernel; (with_reducible assumption; apply e_nameF); kernel_rfl; (with_reducible apply lk_skip); decide +kernel; (with_reducible apply lk_skip); decide +kernel; (with_reducible apply lk_skip); decide +kernel; (with_reducible apply lk_skip); decide +kernel; (with_reducible exact lk_here; exact get_v; exact get_v); exact item_rows (by assumption); (with_reducible exact e_es_nil); rfl; (with_reducible exact get_v; exact get_f); assumption; (with_reducible apply e_es_cons; apply e_Dv; exact e_true; exact e_es_nil); rfl; (with_reducible apply wp_frzV; apply seq_ret; apply seq_ret))
    refine ⟨rs ++ [rs[s]], true, k + 1 + 1, ?_, small_app hlen g.small hrow, fun h => (by cases h), fun _ => hurt0 hs', (by (with_reducible apply lk_skip); decide +kernel; (with_reducible apply lk_skip); decide +kernel; (with_reducible apply lk_skip); decide +kernel; (with_reducible apply lk_skip); decide +kernel; (with_reducible apply lk_skip); decide +kernel; (with_reducible exact lk_here)), by lia, by lia⟩
    unfold encRows
    rw [List.map_append]; rfl
  ((with_reducible apply wps_nil; apply seq_next; apply wps_cons; apply wp_If; apply wp_eqok; apply eB_cmp; apply e_cmp; apply e_nameF); kernel_rfl; (with_reducible apply lk_skip); decide +kernel; (with_reducible apply lk_skip); decide +kernel; (with_reducible apply lk_skip); decide +kernel; (with_reducible apply lk_skip); decide +kernel; (with_reducible apply lk_skip); decide +kernel; (with_reducible apply lk_skip); decide +kernel; (with_reducible exact lk_here; exact e_int; exact get_v; exact get_v); exact cmp_eqN)
  refine ⟨fun hd => ?_, fun hd => ?_⟩
  · ((with_reducible apply wps_cons; apply wp_Return; apply wp_tuple; apply wp_es_cons; apply wp_D; apply wp_bin; apply wp_bin; apply wp_slice; apply wp_eqok; apply e_nameF); kernel_rfl; (with_reducible apply lk_skip); decide +kernel; (with_reducible apply lk_skip); decide +kernel; (with_reducible apply lk_skip); decide +kernel; (with_reducible apply lk_skip); decide +kernel; (with_reducible apply lk_skip); decide +kernel; (with_reducible apply lk_skip); decide +kernel; (with_reducible apply lk_skip); decide +kernel; (with_reducible apply lk_skip); decide +kernel; (with_reducible assumption; apply wp_eqok; exact e_O_none; apply wp_eqok; apply e_O_some; apply e_Dv; apply e_nameF); kernel_rfl; (with_reducible apply lk_skip); decide +kernel; (with_reducible apply lk_skip); decide +kernel; (with_reducible apply lk_skip); decide +kernel; (with_reducible apply lk_skip); decide +kernel; (with_reducible exact lk_here))
    have hl1 : ((rs[s].ws.map PyData.str) ++ [PyData.str ("nowhere" : Str)]).length ≤ lenMax := by
      rw [List.length_append, List.length_map, List.length_singleton]; unfold lenMax; lia
    have hl2 : ((List.map Row.enc rs).take s ++ [PyData.tuple [.str rs[s].n, .str rs[s].s, .list (rs[s].ws.map .str ++ [.str ("nowhere" : Str)]), .list (rs[s].es.map .str)]]).length ≤ lenMax := by
      rw [List.length_append, List.length_take, List.length_map, List.length_singleton]; unfold lenMax; lia
    have hl3 : ((List.map Row.enc rs).take s ++ [PyData.tuple [.str rs[s].n, .str rs[s].s, .list (rs[s].ws.map .str ++ [.str ("nowhere" : Str)]), .list (rs[s].es.map .str)]] ++ (List.map Row.enc rs).drop (s + 1)).length ≤ lenMax := by
      rw [List.length_append, List.length_append, List.length_take, List.length_map, List.length_drop, List.length_map, List.length_singleton]; unfold lenMax; lia
    refine ⟨_, _, get_v, sliceL_to (by lia), by rw [List.length_take, List.length_map]; unfold lenMax; lia, ?_⟩
    ((with_reducible apply wp_eqok; apply e_list; apply e_es_cons; apply e_Dv; apply e_tuple; apply e_es_cons; apply e_Dv; apply e_nameF); kernel_rfl; (with_reducible apply lk_skip); decide +kernel; (with_reducible apply lk_skip); decide +kernel; (with_reducible apply lk_skip); decide +kernel; (with_reducible exact lk_here; apply e_es_cons; apply e_Dv; apply e_nameF); kernel_rfl; (with_reducible apply lk_skip); decide +kernel; (with_reducible apply lk_skip); decide +kernel; (with_reducible exact lk_here; apply e_es_cons; apply e_Df; apply e_addL; apply e_nameF); kernel_rfl; (with_reducible apply lk_skip); decide +kernel; (with_reducible exact lk_here; apply e_list; apply e_es_cons; apply e_Dv; apply e_str); decide +kernel; (with_reducible exact e_es_nil); rfl; (with_reducible exact get_v; exact get_f); assumption; (with_reducible apply e_es_cons; apply e_Dv; apply e_nameF); kernel_rfl; (with_reducible exact lk_here; exact e_es_nil); rfl; (with_reducible exact e_es_nil); rfl; (with_reducible apply wp_addL; exact get_f; exact get_f); assumption; (with_reducible apply wp_slice; apply wp_eqok; apply e_nameF); kernel_rfl; (with_reducible apply lk_skip); decide +kernel; (with_reducible apply lk_skip); decide +kernel; (with_reducible apply lk_skip); decide +kernel; (with_reducible apply lk_skip); decide +kernel; (with_reducible apply lk_skip); decide +kernel; (with_reducible apply lk_skip); decide +kernel; (with_reducible apply lk_skip); decide +kernel; (with_reducible apply lk_skip); decide +kernel; (with_reducible assumption; apply wp_eqok; apply e_O_some; apply e_Dv; apply e_bin; apply e_nameF); kernel_rfl; (with_reducible apply lk_skip); decide +kernel; (with_reducible apply lk_skip); decide +kernel; (with_reducible apply lk_skip); decide +kernel; (with_reducible apply lk_skip); decide +kernel; (with_reducible exact lk_here; exact e_int; exact get_v; exact get_v); rfl; (with_reducible apply wp_eqok; exact e_O_none))
    refine ⟨_, _, get_v, sliceL_from1 (by lia), by rw [List.length_drop, List.length_map]; unfold lenMax; lia, ?_⟩
    ((with_reducible apply wp_addL; exact get_f; exact get_f); assumption; (with_reducible apply wp_frzF; apply wp_asD; apply wp_eqok; apply e_es_cons; apply e_Dv; exact e_true; exact e_es_nil; apply len_ok); rfl; (with_reducible apply wp_frzV; apply seq_ret; apply seq_ret))
    refine ⟨rs.take s ++ [⟨rs[s].n, rs[s].s, rs[s].ws ++ [("nowhere" : Str)], rs[s].es⟩] ++ rs.drop (s + 1), true, k + 1 + 1, ?_, small_set hlen g.small (by simp only [List.length_append, List.length_singleton]; lia), fun h => (by cases h), fun _ => hurt1 g hs', (by (with_reducible apply lk_skip); decide +kernel; (with_reducible apply lk_skip); decide +kernel; (with_reducible apply lk_skip); decide +kernel; (with_reducible apply lk_skip); decide +kernel; (with_reducible apply lk_skip); decide +kernel; (with_reducible exact lk_here)), by lia, by lia⟩
    unfold encRows
    rw [List.map_append, List.map_append, List.map_take, List.map_drop, List.map_cons, List.map_nil]
    show _ = Fl.ret (SV.d (PyData.tuple [.list (_ ++ [PyData.tuple [.str rs[s].n, .str rs[s].s, .list ((rs[s].ws ++ [("nowhere" : Str)]).map .str), .list (rs[s].es.map .str)]] ++ _), _]))
    rw [List.map_append]; rfl
  ((with_reducible apply wps_nil; apply seq_next; apply wps_cons; apply wp_If; apply wp_eqok; apply eB_cmp; apply e_cmp; apply e_nameF); kernel_rfl; (with_reducible apply lk_skip); decide +kernel; (with_reducible apply lk_skip); decide +kernel; (with_reducible apply lk_skip); decide +kernel; (with_reducible apply lk_skip); decide +kernel; (with_reducible apply lk_skip); decide +kernel; (with_reducible apply lk_skip); decide +kernel; (with_reducible exact lk_here; exact e_int; exact get_v; exact get_v); exact cmp_eqN)
  refine ⟨fun he => ?_, fun he => ?_⟩
  · ((with_reducible apply wps_cons; apply wp_Return; apply wp_tuple; apply wp_es_cons; apply wp_D; apply wp_bin; apply wp_bin; apply wp_slice; apply wp_eqok; apply e_nameF); kernel_rfl; (with_reducible apply lk_skip); decide +kernel; (with_reducible apply lk_skip); decide +kernel; (with_reducible apply lk_skip); decide +kernel; (with_reducible apply lk_skip); decide +kernel; (with_reducible apply lk_skip); decide +kernel; (with_reducible apply lk_skip); decide +kernel; (with_reducible apply lk_skip); decide +kernel; (with_reducible apply lk_skip); decide +kernel; (with_reducible assumption; apply wp_eqok; exact e_O_none; apply wp_eqok; apply e_O_some; apply e_Dv; apply e_nameF); kernel_rfl; (with_reducible apply lk_skip); decide +kernel; (with_reducible apply lk_skip); decide +kernel; (with_reducible apply lk_skip); decide +kernel; (with_reducible apply lk_skip); decide +kernel; (with_reducible exact lk_here))
    have hl1 : ((rs[s].es.map PyData.str) ++ [PyData.str ("v" : Str)]).length ≤ lenMax := by
      rw [List.length_append, List.length_map, List.length_singleton]; unfold lenMax; lia
    have hl2 : ((List.map Row.enc rs).take s ++ [PyData.tuple [.str rs[s].n, .str rs[s].s, .list (rs[s].ws.map .str), .list (rs[s].es.map .str ++ [.str ("v" : Str)])]]).length ≤ lenMax := by
      rw [List.length_append, List.length_take, List.length_map, List.length_singleton]; unfold lenMax; lia
    have hl3 : ((List.map Row.enc rs).take s ++ [PyData.tuple [.str rs[s].n, .str rs[s].s, .list (rs[s].ws.map .str), .list (rs[s].es.map .str ++ [.str ("v" : Str)])]] ++ (List.map Row.enc rs).drop (s + 1)).length ≤ lenMax := by
      rw [List.length_append, List.length_append, List.length_take, List.length_map, List.length_drop, List.length_map, List.length_singleton]; unfold lenMax; lia
    refine ⟨_, _, get_v, sliceL_to (by lia), by rw [List.length_take, List.length_map]; unfold lenMax; lia, ?_⟩
    ((with_reducible apply wp_eqok; apply e_list; apply e_es_cons; apply e_Dv; apply e_tuple; apply e_es_cons; apply e_Dv; apply e_nameF); kernel_rfl; (with_reducible apply lk_skip); decide +kernel; (with_reducible apply lk_skip); decide +kernel; (with_reducible apply lk_skip); decide +kernel; (with_reducible exact lk_here; apply e_es_cons; apply e_Dv; apply e_nameF); kernel_rfl; (with_reducible apply lk_skip); decide +kernel; (with_reducible apply lk_skip); decide +kernel; (with_reducible exact lk_here; apply e_es_cons; apply e_Dv; apply e_nameF); kernel_rfl; (with_reducible apply lk_skip); decide +kernel; (with_reducible exact lk_here; apply e_es_cons; apply e_Df; apply e_addL; apply e_nameF); kernel_rfl; (with_reducible exact lk_here; apply e_list; apply e_es_cons; apply e_Dv; apply e_str); decide +kernel; (with_reducible exact e_es_nil); rfl; (with_reducible exact get_v; exact get_f); assumption; (with_reducible exact e_es_nil); rfl; (with_reducible exact e_es_nil); rfl; (with_reducible apply wp_addL; exact get_f; exact get_f); assumption; (with_reducible apply wp_slice; apply wp_eqok; apply e_nameF); kernel_rfl; (with_reducible apply lk_skip); decide +kernel; (with_reducible apply lk_skip); decide +kernel; (with_reducible apply lk_skip); decide +kernel; (with_reducible apply lk_skip); decide +kernel; (with_reducible apply lk_skip); decide +kernel; (with_reducible apply lk_skip); decide +kernel; (with_reducible apply lk_skip); decide +kernel; (with_reducible apply lk_skip); decide +kernel; (with_reducible assumption; apply wp_eqok; apply e_O_some; apply e_Dv; apply e_bin; apply e_nameF); kernel_rfl; (with_reducible apply lk_skip); decide +kernel; (with_reducible apply lk_skip); decide +kernel; (with_reducible apply lk_skip); decide +kernel; (with_reducible apply lk_skip); decide +kernel; (with_reducible exact lk_here; exact e_int; exact get_v; exact get_v); rfl; (with_reducible apply wp_eqok; exact e_O_none))
    refine ⟨_, _, get_v, sliceL_from1 (by lia), by rw [List.length_drop, List.length_map]; unfold lenMax; lia, ?_⟩
    ((with_reducible apply wp_addL; exact get_f; exact get_f); assumption; (with_reducible apply wp_frzF; apply wp_asD; apply wp_eqok; apply e_es_cons; apply e_Dv; exact e_true; exact e_es_nil; apply len_ok); rfl; (with_reducible apply wp_frzV; apply seq_ret; apply seq_ret))
    refine ⟨rs.take s ++ [⟨rs[s].n, rs[s].s, rs[s].ws, rs[s].es ++ [("v" : Str)]⟩] ++ rs.drop (s + 1), true, k + 1 + 1, ?_, small_set hlen g.small (by simp only [List.length_append, List.length_singleton]; lia), fun h => (by cases h), fun _ => hurt2 g hs', (by (with_reducible apply lk_skip); decide +kernel; (with_reducible apply lk_skip); decide +kernel; (with_reducible apply lk_skip); decide +kernel; (with_reducible apply lk_skip); decide +kernel; (with_reducible apply lk_skip); decide +kernel; (with_reducible exact lk_here)), by lia, by lia⟩
    unfold encRows
    rw [List.map_append, List.map_append, List.map_take, List.map_drop, List.map_cons, List.map_nil]
    show _ = Fl.ret (SV.d (PyData.tuple [.list (_ ++ [PyData.tuple [.str rs[s].n, .str rs[s].s, .list (rs[s].ws.map .str), .list ((rs[s].es ++ [("v" : Str)]).map .str)]] ++ _), _]))
    rw [List.map_append]; rfl
  have hl1 : (List.map Row.enc rs ++ [PyData.tuple [.str ("w" : Str), .str ("body" : Str), .list [], .list []]]).length ≤ lenMax := by
    rw [List.length_append, List.length_map, List.length_singleton]; unfold lenMax; lia
  ((with_reducible apply wps_nil; apply seq_next; apply wps_cons; apply wp_Return; apply wp_eqok; apply e_tuple; apply e_es_cons; apply e_Df; apply e_addL; apply e_nameF); kernel_rfl; (with_reducible apply lk_skip); decide +kernel; (with_reducible apply lk_skip); decide +kernel; (with_reducible apply lk_skip); decide +kernel; (with_reducible apply lk_skip); decide +kernel; (with_reducible apply lk_skip); decide +kernel; (with_reducible apply lk_skip); decide +kernel; (with_reducible apply lk_skip); decide +kernel; (with_reducible apply lk_skip); decide +kernel; (with_reducible assumption; apply e_list; apply e_es_cons; apply e_Dv; apply e_tuple; apply e_es_cons; apply e_Dv; apply e_str); decide +kernel; (with_reducible apply e_es_cons; apply e_Dv; apply e_str); decide +kernel; (with_reducible apply e_es_cons; apply e_Df; apply e_list; exact e_es_nil); rfl; (with_reducible apply e_es_cons; apply e_Df; apply e_list; exact e_es_nil); rfl; (with_reducible exact e_es_nil); rfl; (with_reducible exact e_es_nil); rfl; (with_reducible exact get_v; exact get_f); assumption; (with_reducible apply e_es_cons; apply e_Dv; exact e_true; exact e_es_nil); rfl; (with_reducible apply wp_frzV; apply seq_ret))
  refine ⟨rs ++ [⟨"w", "body", [], []⟩], true, k + 1 + 1, ?_, small_app hlen g.small (by decide +kernel), fun h => (by cases h), fun _ => hurt3 g, (by (with_reducible apply lk_skip); decide +kernel; (with_reducible apply lk_skip); decide +kernel; (with_reducible apply lk_skip); decide +kernel; (with_reducible apply lk_skip); decide +kernel; (with_reducible apply lk_skip); decide +kernel; (with_reducible exact lk_here)), by lia, by lia⟩
  unfold encRows
  rw [List.map_append]; rfl
/-! the plain law -/
theorem mem_addKy {rs : List Row} {F : List (List Str)} {y k : List Str} : k ∈ addKy rs F y ↔ k ∈ F ∨ (k = y ∧ y ∈ rs.map Row.key) := by
  unfold addKy
  split
  · rename_i h
    rw [List.mem_append, List.mem_singleton]
    exact ⟨fun q => q.imp id fun e => ⟨e, h.1⟩, fun q => q.imp id fun e => e.1⟩
  · rename_i h
    refine ⟨.inl, fun q => q.elim id fun ⟨e1, e2⟩ => ?_⟩
    rw [e1]
    by_cases hy : y ∈ F
    · exact hy
    · exact absurd ⟨e2, hy⟩ h
theorem mem_adds {rs : List Row} {k : List Str} (l : List (List Str)) : ∀ {F : List (List Str)}, k ∈ l.foldl (addKy rs) F ↔ k ∈ F ∨ (k ∈ l ∧ k ∈ rs.map Row.key) := by
  induction l with
  | nil => intro F; simp
  | cons y l ih =>
    intro F
    rw [List.foldl_cons, ih, mem_addKy, List.mem_cons]
    constructor
    · rintro ((h | ⟨rfl, h⟩) | ⟨h1, h2⟩)
      · exact .inl h
      · exact .inr ⟨.inl rfl, h⟩
      · exact .inr ⟨.inr h1, h2⟩
    · rintro (h | ⟨rfl | h1, h2⟩)
      · exact .inl (.inl h)
      · exact .inl (.inr ⟨rfl, h2⟩)
      · exact .inr ⟨h1, h2⟩
theorem mem_rows {rs : List Row} {k : List Str} (l : List (List Str)) : ∀ {F : List (List Str)}, k ∈ l.foldl (fun acc y => (nxt rs (rowAt rs y)).foldl (addKy rs) acc) F ↔ k ∈ F ∨ ∃ y ∈ l, k ∈ nxt rs (rowAt rs y) ∧ k ∈ rs.map Row.key := by
  induction l with
  | nil => intro F; simp
  | cons y l ih =>
    intro F
    rw [List.foldl_cons, ih, mem_adds]
    constructor
    · rintro ((h | ⟨h1, h2⟩) | ⟨z, hz, h⟩)
      · exact .inl h
      · exact .inr ⟨y, .head _, h1, h2⟩
      · exact .inr ⟨z, .tail _ hz, h⟩
    · rintro (h | ⟨z, hz, h⟩)
      · exact .inl (.inl h)
      · rcases List.mem_cons.mp hz with rfl | hz
        · exact .inl (.inr h)
        · exact .inr ⟨z, hz, h⟩
theorem mem_round {rs : List Row} {F : List (List Str)} {k : List Str} : k ∈ round rs F ↔ k ∈ F ∨ ∃ y ∈ F, k ∈ nxt rs (rowAt rs y) ∧ k ∈ rs.map Row.key := mem_rows F

theorem ext_addKy (rs : List Row) (F : List (List Str)) (y : List Str) : ∃ e, addKy rs F y = F ++ e := by
  unfold addKy
  split
  · exact ⟨[y], rfl⟩
  · exact ⟨[], by simp⟩
theorem ext_adds (rs : List Row) (l : List (List Str)) : ∀ F : List (List Str), ∃ e, l.foldl (addKy rs) F = F ++ e := by
  induction l with
  | nil => intro F; exact ⟨[], by simp⟩
  | cons y l ih =>
    intro F
    obtain ⟨e1, h1⟩ := ext_addKy rs F y
    obtain ⟨e2, h2⟩ := ih (addKy rs F y)
    exact ⟨e1 ++ e2, by rw [List.foldl_cons, h2, h1, List.append_assoc]⟩
theorem ext_rows (rs : List Row) (l : List (List Str)) : ∀ F : List (List Str), ∃ e, l.foldl (fun acc y => (nxt rs (rowAt rs y)).foldl (addKy rs) acc) F = F ++ e := by
  induction l with
  | nil => intro F; exact ⟨[], by simp⟩
  | cons y l ih =>
    intro F
    obtain ⟨e1, h1⟩ := ext_adds rs (nxt rs (rowAt rs y)) F
    obtain ⟨e2, h2⟩ := ih ((nxt rs (rowAt rs y)).foldl (addKy rs) F)
    exact ⟨e1 ++ e2, by rw [List.foldl_cons, h2, h1, List.append_assoc]⟩
noncomputable def Closed (rs : List Row) (F : List (List Str)) : Prop := ∀ y ∈ F, ∀ k ∈ nxt rs (rowAt rs y), k ∈ rs.map Row.key → k ∈ F
theorem closed_or (rs : List Row) (F : List (List Str)) : Closed rs F ∨ F.length + 1 ≤ (round rs F).length := by
  obtain ⟨e, h⟩ := ext_rows rs F F
  cases e with
  | nil =>
    left
    intro y hy k hk hkk
    have : k ∈ round rs F := mem_round.mpr (.inr ⟨y, hy, hk, hkk⟩)
    unfold round at this
    rwa [h, List.append_nil] at this
  | cons a e =>
    right
    unfold round
    rw [h, List.length_append, List.length_cons]; lia
theorem closed_round {rs : List Row} {F : List (List Str)} (h : Closed rs F) : Closed rs (round rs F) := by
  have hm : ∀ k, k ∈ round rs F → k ∈ F := fun k hk => by
    rcases mem_round.mp hk with q | ⟨y, hy, h1, h2⟩
    · exact q
    · exact h y hy k h1 h2
  intro y hy k hk hkk
  exact mem_round.mpr (.inl (h y (hm y hy) k hk hkk))
theorem rounds_closed {rs : List Row} {F : List (List Str)} (ok : FOk rs F) (hF : 1 ≤ F.length) (hl : rs.length ≤ 13) : Closed rs (rounds rs 14 F) := by
  have key : ∀ t, Closed rs (rounds rs t F) ∨ t + 1 ≤ (rounds rs t F).length := by
    intro t
    induction t with
    | zero => exact .inr hF
    | succ t ih =>
      rcases ih with h | h
      · exact .inl (closed_round h)
      · rcases closed_or rs (rounds rs t F) with q | q
        · exact .inl (closed_round q)
        · exact .inr (by show t + 1 + 1 ≤ (round rs (rounds rs t F)).length; lia)
  rcases key 14 with h | h
  · exact h
  · have := (ok.rounds 14).len
    lia

theorem rowAt_pos {rs : List Row} {k : List Str} (h : k ∈ rs.map Row.key) : rs[posOf rs k]? = some (rowAt rs k) := by
  obtain ⟨l, e⟩ := posOf_at h
  unfold rowAt
  rw [List.getElem?_eq_getElem l]; rfl
theorem succ_of_nxt {rs : List Row} {r : Row} {k : List Str} (hk : k ∈ nxt rs r) (hkk : k ∈ rs.map Row.key) : posOf rs k ∈ succR rs r := by
  unfold nxt at hk
  rw [List.mem_append, List.mem_singleton] at hk
  unfold succR
  rw [List.mem_append]
  rcases hk with hk | rfl
  · exact .inl (mem_needsOf.mpr ⟨k, mem_tbl.mp hk, rfl⟩)
  · rw [if_pos hkk]; exact .inr (by simp)
theorem nxt_of_succ {rs : List Row} {r : Row} {j : Nat} (hr : r ∈ rs) (ok : allOk rs) (hj : j ∈ succR rs r) : ∃ k ∈ nxt rs r, k ∈ rs.map Row.key ∧ posOf rs k = j := by
  unfold succR at hj
  rw [List.mem_append] at hj
  unfold nxt
  rcases hj with hj | hj
  · obtain ⟨y, h1, h2⟩ := mem_needsOf.mp hj
    exact ⟨y, List.mem_append_left _ (mem_tbl.mpr h1), needKeys_has hr ok.1.2 (ok.2 r hr) y h1, h2⟩
  · split at hj
    · rename_i hb
      rw [List.mem_singleton] at hj
      exact ⟨_, List.mem_append_right _ (by simp), hb, hj.symm⟩
    · cases hj
theorem rounds_reach {rs : List Row} {main : Str} (hm : [main, ("spec" : Str)] ∈ rs.map Row.key) : ∀ t, ∀ k ∈ rounds rs t [[main, ("spec" : Str)]], k ∈ rs.map Row.key ∧ Reach rs (posOf rs [main, ("spec" : Str)]) (posOf rs k)
  | 0, k, hk => by
    have : k = [main, ("spec" : Str)] := by simpa [rounds] using hk
    subst this; exact ⟨hm, .start⟩
  | t + 1, k, hk => by
    rcases mem_round.mp hk with q | ⟨y, hy, h1, h2⟩
    · exact rounds_reach hm t k q
    · obtain ⟨hy1, hy2⟩ := rounds_reach hm t y hy
      exact ⟨h2, .step hy2 (rowAt_pos hy1) (succ_of_nxt h1 h2)⟩
theorem start_in {rs : List Row} {k : List Str} : ∀ t, k ∈ rounds rs t [k]
  | 0 => by simp [rounds]
  | t + 1 => mem_round.mpr (.inl (start_in t))
theorem wanted_iff {rs : List Row} {main : Str} (hm : [main, ("spec" : Str)] ∈ rs.map Row.key) (ok : allOk rs) (hl : rs.length ≤ 13) {k : List Str} :
    k ∈ rounds rs 14 [[main, ("spec" : Str)]] ↔ k ∈ rs.map Row.key ∧ Reach rs (posOf rs [main, ("spec" : Str)]) (posOf rs k) := by
  refine ⟨rounds_reach hm 14 k, fun ⟨hk, hr⟩ => ?_⟩
  have cl := rounds_closed (rs := rs) (F := [[main, ("spec" : Str)]]) ⟨by simp, by simpa using hm⟩ (by simp) hl
  have all : ∀ i, Reach rs (posOf rs [main, ("spec" : Str)]) i → ∃ k ∈ rounds rs 14 [[main, ("spec" : Str)]], posOf rs k = i := by
    intro i h
    induction h with
    | start => exact ⟨_, start_in 14, rfl⟩
    | step _ hr hj ih =>
      obtain ⟨y, hy, rfl⟩ := ih
      have hyk := (rounds_reach hm 14 y hy).1
      rw [rowAt_pos hyk] at hr
      cases hr
      obtain ⟨z, h1, h2, h3⟩ := nxt_of_succ (rowAt_spec hyk).1 ok hj
      exact ⟨z, cl y hy z h1 h2, h3⟩
  obtain ⟨z, h1, h2⟩ := all _ hr
  have := posOf_inj (rounds_reach hm 14 z h1).1 hk h2
  rw [← this]; exact h1

theorem nodup_sub_len {α : Type} [DecidableEq α] : ∀ {l l' : List α}, l.Nodup → (∀ a ∈ l, a ∈ l') → l.length ≤ l'.length
  | [], _, _, _ => Nat.zero_le _
  | a :: l, l', hn, h => by
    obtain ⟨h1, h2⟩ := List.nodup_cons.mp hn
    have ha := h a (.head _)
    have := nodup_sub_len (l := l) (l' := l'.erase a) h2 fun b hb => by
      have hne : b ≠ a := fun e => h1 (e ▸ hb)
      exact (List.mem_erase_of_ne hne).mpr (h b (.tail _ hb))
    rw [List.length_erase_of_mem ha] at this
    have : 0 < l'.length := List.length_pos_of_mem ha
    simp only [List.length_cons]; lia
theorem pos_keyI {rs : List Row} (hk : (rs.map Row.key).Nodup) {i : Nat} (hi : i < rs.length) : keyI rs i ∈ rs.map Row.key ∧ posOf rs (keyI rs i) = i := by
  have h1 : keyI rs i ∈ rs.map Row.key := by unfold keyI; rw [rowI_eq hi]; exact List.mem_map_of_mem (List.getElem_mem hi)
  refine ⟨h1, ?_⟩
  obtain ⟨l, e⟩ := posOf_at h1
  refine keyI_inj hk l hi ?_
  have : keyI rs (posOf rs (keyI rs i)) = rs[posOf rs (keyI rs i)].key := congrArg Row.key (rowI_eq l)
  exact this.trans e
theorem eq_of_sorted : ∀ {l l' : List Nat}, l.Pairwise (· < ·) → l'.Pairwise (· < ·) → (∀ a, a ∈ l ↔ a ∈ l') → l = l'
  | [], [], _, _, _ => rfl
  | [], b :: _, _, _, h => by have := (h b).mpr (.head _); cases this
  | a :: _, [], _, _, h => by have := (h a).mp (.head _); cases this
  | a :: l, b :: l', h1, h2, h => by
    obtain ⟨h3, h4⟩ := List.pairwise_cons.mp h1
    obtain ⟨h5, h6⟩ := List.pairwise_cons.mp h2
    have hab : a = b := by
      have q1 := (h a).mp (.head _)
      have q2 := (h b).mpr (.head _)
      rcases List.mem_cons.mp q1 with q | q
      · exact q
      · rcases List.mem_cons.mp q2 with q' | q'
        · exact q'.symm
        · have := h5 a q; have := h3 b q'; lia
    subst hab
    congr 1
    refine eq_of_sorted h4 h6 fun c => ?_
    constructor
    · intro hc
      have := (h c).mp (.tail _ hc)
      rcases List.mem_cons.mp this with q | q
      · subst q; exact absurd (h3 c hc) (Nat.lt_irrefl _)
      · exact q
    · intro hc
      have := (h c).mpr (.tail _ hc)
      rcases List.mem_cons.mp this with q | q
      · subst q; exact absurd (h5 c hc) (Nat.lt_irrefl _)
      · exact q

section
variable {rs : List Row} {main : Str} {L : List Nat}
noncomputable abbrev wantedK (rs : List Row) (main : Str) : List (List Str) := rounds rs 14 [[main, ("spec" : Str)]]

theorem keyI_in (hm : [main, ("spec" : Str)] ∈ rs.map Row.key) (ok : allOk rs) (hl : rs.length ≤ 13) (hL : ReachedL rs main L) {i : Nat} (hi : i < rs.length) : keyI rs i ∈ wantedK rs main ↔ i ∈ L := by
  obtain ⟨h1, h2⟩ := pos_keyI ok.1.1 hi
  rw [wanted_iff hm ok hl, h2, hL.2]
  exact ⟨fun h => h.2, fun h => ⟨h1, h⟩⟩
theorem L_lt (hm : [main, ("spec" : Str)] ∈ rs.map Row.key) (ok : allOk rs) (hL : ReachedL rs main L) : ∀ i ∈ L, i < rs.length := fun i hi => ((hL.2 i).mp hi).lt ok (posOf_lt hm)
theorem L_nd (hL : ReachedL rs main L) : L.Nodup := hL.1.imp fun h => Nat.ne_of_lt h
theorem wanted_len (hm : [main, ("spec" : Str)] ∈ rs.map Row.key) (ok : allOk rs) (hl : rs.length ≤ 13) (hL : ReachedL rs main L) : (wantedK rs main).length = L.length := by
  have okW : FOk rs (wantedK rs main) := FOk.rounds ⟨by simp, by simpa using hm⟩ 14
  refine Nat.le_antisymm ?_ ?_
  · have h1 : ((wantedK rs main).map (posOf rs)).Nodup := by
      rw [List.Nodup, List.pairwise_map]
      exact okW.nd.imp_of_mem fun {a b} ha hb hab e => hab (posOf_inj (okW.sub a ha) (okW.sub b hb) e)
    have := nodup_sub_len h1 (l' := L) fun j hj => by
      obtain ⟨k, hk, rfl⟩ := List.mem_map.mp hj
      exact (hL.2 _).mpr ((wanted_iff hm ok hl).mp hk).2
    simpa using this
  · have h1 : (L.map (keyI rs)).Nodup := by
      rw [List.Nodup, List.pairwise_map]
      exact (L_nd hL).imp_of_mem fun {a b} ha hb hab e => hab (keyI_inj ok.1.1 (L_lt hm ok hL a ha) (L_lt hm ok hL b hb) e)
    have := nodup_sub_len h1 (l' := wantedK rs main) fun k hk => by
      obtain ⟨j, hj, rfl⟩ := List.mem_map.mp hk
      exact (keyI_in hm ok hl hL (L_lt hm ok hL j hj)).mpr hj
    simpa using this
theorem range_sorted (n : Nat) : (List.range n).Pairwise (· < ·) := List.pairwise_lt_range
theorem leftL_eq (hm : [main, ("spec" : Str)] ∈ rs.map Row.key) (ok : allOk rs) (hl : rs.length ≤ 13) (hL : ReachedL rs main L) (O : List Nat) : leftL rs (wantedK rs main) O = L.filter fun i => !decide (i ∈ O) := by
  refine eq_of_sorted ((range_sorted _).filter _) (hL.1.filter _) fun a => ?_
  unfold leftL
  rw [List.mem_filter, List.mem_filter, List.mem_range]
  constructor
  · rintro ⟨h1, h2⟩
    rw [Bool.and_eq_true] at h2
    exact ⟨(keyI_in hm ok hl hL h1).mp (of_decide_eq_true h2.1), h2.2⟩
  · rintro ⟨h1, h2⟩
    have hlt := L_lt hm ok hL a h1
    exact ⟨hlt, by rw [Bool.and_eq_true]; exact ⟨decide_eq_true ((keyI_in hm ok hl hL hlt).mpr h1), h2⟩⟩
theorem ready_tbl (ok : allOk rs) {O : List Nat} (hO : ∀ i ∈ O, i < rs.length) {i : Nat} (hi : i < rs.length) : ((tblKeys rs (rowI rs i)).filter fun k => !decide (k ∈ O.map (keyI rs))).isEmpty = ready rs O i := by
  rw [ready_eq hi, rowI_eq hi, Bool.eq_iff_iff, List.isEmpty_iff, List.isEmpty_iff, List.filter_eq_nil_iff, List.filter_eq_nil_iff]
  have hmem := List.getElem_mem hi
  have inO : ∀ k, k ∈ rs.map Row.key → (k ∈ O.map (keyI rs) ↔ posOf rs k ∈ O) := fun k hk => by
    rw [List.mem_map]
    constructor
    · rintro ⟨j, hj, rfl⟩
      rw [(pos_keyI ok.1.1 (hO j hj)).2]; exact hj
    · intro h
      refine ⟨posOf rs k, h, ?_⟩
      obtain ⟨l, e⟩ := posOf_at hk
      exact (congrArg Row.key (rowI_eq l)).trans e
  constructor
  · intro h j hj
    obtain ⟨k, hk, rfl⟩ := mem_needsOf.mp hj
    have := h k (mem_tbl.mpr hk)
    have hkk := needKeys_has hmem ok.1.2 (ok.2 _ hmem) k hk
    simp only [Bool.not_eq_true', decide_eq_false_iff_not, Decidable.not_not] at this ⊢
    exact (inO k hkk).mp this
  · intro h k hk
    have hk' := mem_tbl.mp hk
    have hkk := needKeys_has hmem ok.1.2 (ok.2 _ hmem) k hk'
    have := h (posOf rs k) (mem_needsOf.mpr ⟨k, hk', rfl⟩)
    simp only [Bool.not_eq_true', decide_eq_false_iff_not, Decidable.not_not] at this ⊢
    exact (inO k hkk).mpr this
theorem rdyL_eq (hm : [main, ("spec" : Str)] ∈ rs.map Row.key) (ok : allOk rs) (hl : rs.length ≤ 13) (hL : ReachedL rs main L) {O : List Nat} (hO : ∀ i ∈ O, i < rs.length) :
    (List.range rs.length).filter (rdyL rs (wantedK rs main) O) = (L.filter fun i => !decide (i ∈ O)).filter (ready rs O) := by
  refine eq_of_sorted ((range_sorted _).filter _) ((hL.1.filter _).filter _) fun a => ?_
  rw [List.mem_filter, List.mem_filter, List.mem_filter, List.mem_range]
  unfold rdyL
  constructor
  · rintro ⟨h1, h2⟩
    rw [Bool.and_eq_true, Bool.and_eq_true, ready_tbl ok hO h1] at h2
    exact ⟨⟨(keyI_in hm ok hl hL h1).mp (of_decide_eq_true h2.1), h2.2.1⟩, h2.2.2⟩
  · rintro ⟨⟨h1, h2⟩, h3⟩
    have hlt := L_lt hm ok hL a h1
    refine ⟨hlt, ?_⟩
    rw [Bool.and_eq_true, Bool.and_eq_true, ready_tbl ok hO hlt]
    exact ⟨decide_eq_true ((keyI_in hm ok hl hL hlt).mpr h1), h2, h3⟩
theorem find_filter {p : Nat → Bool} : ∀ l : List Nat, l.find? p = (l.filter p).head?
  | [] => rfl
  | a :: l => by
    rw [List.find?_cons, List.filter_cons]
    cases p a with
    | true => rfl
    | false => exact find_filter l
theorem filter_snoc (L O : List Nat) (c : Nat) : ((L.filter fun i => !decide (i ∈ O)).filter fun i => !decide (i = c)) = L.filter fun i => !decide (i ∈ O ++ [c]) := by
  rw [List.filter_filter]
  refine List.filter_congr fun i _ => ?_
  by_cases e1 : i = c <;> by_cases e2 : i ∈ O <;> simp [e1, e2]
theorem drun_eq (hm : [main, ("spec" : Str)] ∈ rs.map Row.key) (ok : allOk rs) (hl : rs.length ≤ 13) (hL : ReachedL rs main L) : ∀ (t : Nat) (O : List Nat), (∀ i ∈ O, i < rs.length) → (L.filter fun i => !decide (i ∈ O)).length = t →
    drun rs (wantedK rs main) t O = run rs t O (L.filter fun i => !decide (i ∈ O))
  | 0, O, _, ht => by
    have : (L.filter fun i => !decide (i ∈ O)) = [] := List.length_eq_zero_iff.mp ht
    rw [this]; rfl
  | t + 1, O, hO, ht => by
    have hnd := (L_nd hL).filter fun i => !decide (i ∈ O)
    show (match (List.range rs.length).filter (rdyL rs (wantedK rs main) O) with | [] => (O, leftL rs (wantedK rs main) O) | c :: _ => drun rs (wantedK rs main) t (O ++ [c])) = (match (L.filter fun i => !decide (i ∈ O)).find? (ready rs O) with | none => (O, L.filter fun i => !decide (i ∈ O)) | some c => run rs t (O ++ [c]) ((L.filter fun i => !decide (i ∈ O)).filter fun i => !decide (i = c)))
    rw [find_filter, rdyL_eq hm ok hl hL hO, leftL_eq hm ok hl hL]
    cases hf : (L.filter fun i => !decide (i ∈ O)).filter (ready rs O) with
    | nil => rfl
    | cons c tl =>
      have hc : c ∈ (L.filter fun i => !decide (i ∈ O)).filter (ready rs O) := by rw [hf]; simp
      have hcL := (List.mem_filter.mp hc).1
      have hlt := L_lt hm ok hL c (List.mem_filter.mp hcL).1
      simp only [List.head?_cons]
      rw [filter_snoc]
      refine drun_eq hm ok hl hL t (O ++ [c]) (fun i hi => ?_) ?_
      · rw [List.mem_append, List.mem_singleton] at hi
        rcases hi with hi | rfl
        · exact hO i hi
        · exact hlt
      · have := filter_ne_len hnd hcL
        rw [filter_snoc] at this
        lia
theorem run_left (hL : ReachedL rs main L) : ∀ (t : Nat) (O : List Nat), (L.filter fun i => !decide (i ∈ O)).length = t →
    (run rs t O (L.filter fun i => !decide (i ∈ O))).2 = (L.filter fun i => !decide (i ∈ (run rs t O (L.filter fun i => !decide (i ∈ O))).1)) ∧
    ((run rs t O (L.filter fun i => !decide (i ∈ O))).2 = [] ∨ (run rs t O (L.filter fun i => !decide (i ∈ O))).2.find? (ready rs (run rs t O (L.filter fun i => !decide (i ∈ O))).1) = none)
  | 0, O, ht => by
    have : (L.filter fun i => !decide (i ∈ O)) = [] := List.length_eq_zero_iff.mp ht
    exact ⟨rfl, .inl this⟩
  | t + 1, O, ht => by
    have hnd := (L_nd hL).filter fun i => !decide (i ∈ O)
    cases hf : (L.filter fun i => !decide (i ∈ O)).find? (ready rs O) with
    | none =>
      have e : run rs (t + 1) O (L.filter fun i => !decide (i ∈ O)) = (O, L.filter fun i => !decide (i ∈ O)) := by
        show (match (L.filter fun i => !decide (i ∈ O)).find? (ready rs O) with | none => _ | some c => _) = _
        rw [hf]
      rw [e]
      exact ⟨rfl, .inr hf⟩
    | some c =>
      have hcL := List.mem_of_find?_eq_some hf
      have e : run rs (t + 1) O (L.filter fun i => !decide (i ∈ O)) = run rs t (O ++ [c]) (L.filter fun i => !decide (i ∈ O ++ [c])) := by
        show (match (L.filter fun i => !decide (i ∈ O)).find? (ready rs O) with | none => _ | some c => _) = _
        rw [hf]
        simp only
        rw [filter_snoc]
      rw [e]
      refine run_left hL t (O ++ [c]) ?_
      have := filter_ne_len hnd hcL
      rw [filter_snoc] at this
      lia
theorem filter_nil_eq (L : List Nat) : (L.filter fun i => !decide (i ∈ ([] : List Nat))) = L := List.filter_eq_self.mpr (by simp)
theorem drun_run (hm : [main, ("spec" : Str)] ∈ rs.map Row.key) (ok : allOk rs) (hl : rs.length ≤ 13) (hL : ReachedL rs main L) : drun rs (wantedK rs main) (wantedK rs main).length [] = run rs L.length [] L := by
  rw [wanted_len hm ok hl hL]
  have := drun_eq hm ok hl hL L.length [] (by simp) (by rw [filter_nil_eq])
  rw [filter_nil_eq] at this
  exact this
/-- what is left over, if anything, is a set of units that need one another -/
theorem run_stuck (hm : [main, ("spec" : Str)] ∈ rs.map Row.key) (ok : allOk rs) (hL : ReachedL rs main L) (hne : (run rs L.length [] L).2 ≠ []) :
    (∀ i ∈ (run rs L.length [] L).2, i < rs.length) ∧ (run rs L.length [] L).2.Nodup ∧ ∀ i ∈ (run rs L.length [] L).2, ∀ r, rs[i]? = some r → ∃ j ∈ needsOf rs r, j ∈ (run rs L.length [] L).2 := by
  have h := run_left (rs := rs) hL L.length [] (by rw [filter_nil_eq])
  rw [filter_nil_eq] at h
  generalize run rs L.length [] L = z at *
  obtain ⟨h1, h2⟩ := h
  have hsub : ∀ i ∈ z.2, i ∈ L := fun i hi => by rw [h1] at hi; exact (List.mem_filter.mp hi).1
  refine ⟨fun i hi => L_lt hm ok hL i (hsub i hi), by rw [h1]; exact (L_nd hL).filter _, fun i hi r hr => ?_⟩
  have hn := h2.resolve_left hne
  have h3 := List.find?_eq_none.mp hn i hi
  unfold ready at h3
  rw [hr] at h3
  have h4 : ((needsOf rs r).filter fun j => !decide (j ∈ z.1)) ≠ [] := fun e => by simp [e] at h3
  obtain ⟨j, hj⟩ := List.exists_mem_of_ne_nil _ h4
  obtain ⟨h5, h6⟩ := List.mem_filter.mp hj
  refine ⟨j, h5, ?_⟩
  rw [h1, List.mem_filter]
  exact ⟨(hL.2 j).mpr (.step ((hL.2 i).mp (hsub i hi)) hr (List.mem_append_left _ h5)), h6⟩
end

theorem wp_textC {n : Nat} {c : Ctx} {m : M} {x : Prop} {Q : R → M → Prop} {p p1 q : Pos} {L : List Int} {k : Int} (hg : (c.sc.names.lookup ("_law_text" : Str) == some .globalImplicit && ("_law_text" : Str) != "__debug__") = true) (hc : plainVar c "cup" = true) (hs : noStar [.Name "cup" p1] = true)
    (hl : m.lookup ("cup" : Str) = some (cupE L k)) (hk : 0 ≤ k ∧ k ≤ 1000)
    (h : ∀ rs cnt k', GoodRows rs cnt → 0 ≤ k' → k' ≤ k + 1000 → Q (.v (.d (encRows rs))) (upd m "cup" (cupE L k'))) :
    Wp (ev (n + 78) c (.Call (.Name "_law_text" p) [.Name "cup" p1] [] q) m) Q x := by
  refine wp_call (n := n + 77) hg hs (funs_fdv (by kernel_rfl)) ?_
  refine wp_rs_cons (n := n + 76) (wp_nameO (n := n + 75) hc hl (wp_rs_nil (n := n + 75) ⟨by simp [varsOf], ?_⟩))
  have hps : (fdv "_law_text").ps = [("cup" : Str)] := by kernel_rfl
  rw [hps]
  have hb : bindP [("cup" : Str)] [.var "cup"] m = some [(("cup" : Str), cupE L k)] := by
    show (((m.lookup ("cup" : Str)).bind fun e => if e.own then some e else none).bind _ : Option M) = _
    rw [hl]; rfl
  refine ⟨_, hb, ?_⟩
  generalize hm₀ : ([(("cup" : Str), cupE L k)] : M) = m₀
  have g1 : gt m₀ "cup" = some (cupE L k) := by rw [← hm₀]; rfl
  have := ltext_body (n := n + 7) g1 hk
  rw [← hps]
  refine this.mono (fun fl m₁ h1 => ?_) (fun h => h.elim)
  obtain ⟨rs, cnt, k', rfl, g, v2, v3, v4⟩ := h1
  rw [hps]
  refine ⟨_, rfl, upd m "cup" (cupE L k'), ?_, h rs cnt k' g v3 v4⟩
  show (match List.lookup ("cup" : Str) m₁ with | some e => back [] [] m₁ (upd m "cup" e) | none => none) = _
  rw [show List.lookup ("cup" : Str) m₁ = some (cupE L k') from v2]; rfl

theorem wp_hurtC {n : Nat} {c : Ctx} {m : M} {x : Prop} {Q : R → M → Prop} {p p1 q : Pos} {e : Expr} {L : List Int} {k : Int} (hg : (c.sc.names.lookup ("_law_hurt" : Str) == some .globalImplicit && ("_law_hurt" : Str) != "__debug__") = true) (hc : plainVar c "cup" = true) (hs : noStar [.Name "cup" p1, e] = true)
    (hl : m.lookup ("cup" : Str) = some (cupE L k))
    (h : Wp (ev (n + 65) c e m) (fun r m' => ∃ rs cnt k, r = .v (.d (encRows rs)) ∧ GoodRows rs cnt ∧ m'.lookup ("cup" : Str) = some (cupE L k) ∧ (0 ≤ k ∧ k ≤ 5000) ∧
      ∀ rs' b k', Small rs' → (b = false → rs' = rs) → (b = true → ¬ allOk rs') → 0 ≤ k' → k' ≤ 6000 → Q (.v (.d (.tuple [encRows rs', .bool b]))) (upd m' "cup" (cupE L k'))) x) :
    Wp (ev (n + 68) c (.Call (.Name "_law_hurt" p) [.Name "cup" p1, e] [] q) m) Q x := by
  refine wp_call (n := n + 67) hg hs (funs_fdv (by kernel_rfl)) ?_
  refine wp_rs_cons (n := n + 66) (wp_nameO (n := n + 65) hc hl (wp_rs_cons (n := n + 65) (h.mono (fun r m' h => ?_) id)))
  obtain ⟨rs, cnt, k, rfl, g, hl', hk, h⟩ := h
  refine wp_rs_nil (n := n + 64) ⟨by simp [varsOf], ?_⟩
  have hps : (fdv "_law_hurt").ps = [("cup" : Str), ("rows" : Str)] := by kernel_rfl
  rw [hps]
  have hb : bindP [("cup" : Str), ("rows" : Str)] [.var "cup", .v (.d (encRows rs))] m' = some [(("cup" : Str), cupE L k), (("rows" : Str), ⟨false, .d (encRows rs)⟩)] := by
    show (((m'.lookup ("cup" : Str)).bind fun e => if e.own then some e else none).bind _ : Option M) = _
    rw [hl']; rfl
  refine ⟨_, hb, ?_⟩
  generalize hm₀ : ([(("cup" : Str), cupE L k), (("rows" : Str), ⟨false, .d (encRows rs)⟩)] : M) = m₀
  have g1 : gt m₀ "cup" = some (cupE L k) := by rw [← hm₀]; rfl
  have g2 : gt m₀ "rows" = some ⟨false, .d (.list (rs.map Row.enc))⟩ := by
    rw [← hm₀]
    show List.lookup ("rows" : Str) [(("cup" : Str), cupE L k), ("rows", ⟨false, .d (encRows rs)⟩)] = _
    rw [List.lookup_cons, show (("rows" : Str) == "cup") = false by decide +kernel]; simp [encRows]
  have := hurt_body (n := n + 7) g1 g2 hk g
  rw [← hps]
  refine this.mono (fun fl m₁ h1 => ?_) (fun h => h.elim)
  obtain ⟨rs', b, k', rfl, v1, v2, v3, v4, v5, v6⟩ := h1
  rw [hps]
  refine ⟨_, rfl, upd m' "cup" (cupE L k'), ?_, h rs' b k' v1 v2 v3 v5 v6⟩
  show (match List.lookup ("cup" : Str) m₁ with | some e => back [("rows" : Str)] [.v (.d (encRows rs))] m₁ (upd m' "cup" e) | none => none) = _
  rw [show List.lookup ("cup" : Str) m₁ = some (cupE L k') from v4]; rfl

theorem eqv_nats (l : List Nat) : PyData.eqvAll (l.map nI) (l.map nI) = true := by
  induction l with
  | nil => rfl
  | cons a l ih =>
    rw [List.map_cons]
    show (PyData.eqv (nI a) (nI a) && PyData.eqvAll (l.map nI) (l.map nI)) = true
    rw [ih]; simp [PyData.eqv]
theorem depth_nats (l : List Nat) : PyData.depth (encL l) ≤ 1 := by
  have : PyData.depthAll (l.map nI) = 0 := by
    induction l with
    | nil => rfl
    | cons a k ih =>
      rw [List.map_cons]
      show max (PyData.depth (nI a)) (PyData.depthAll (k.map nI)) = 0
      rw [ih]; rfl
  show PyData.depthAll (l.map nI) + 1 ≤ 1
  lia
theorem cmp_eqSelf {l : List Nat} : cmp .Eq (some (.d (encL l))) (some (.d (encL l))) = some true := by
  show (if min (PyData.depth (encL l)) (PyData.depth (encL l)) ≤ 8 then some (PyData.eqv (encL l) (encL l)) else none) = _
  have := depth_nats l
  rw [if_pos (Nat.le_trans (Nat.min_le_right _ _) (by lia))]
  show some (PyData.eqvAll (l.map nI) (l.map nI)) = _
  rw [eqv_nats]

theorem law_body {m : M} {script : List Int} (h1 : gt m "script" = some ⟨false, .d (.list (script.map .int))⟩) (hl : script.length ≤ 1000) :
    Wp (exs 100 (cx "law") (fdv "law").body m) (fun fl _ => fl = .ret (.d (.bool true))) False := by
  conv => arg 1; arg 3; whnf
  refine wps_cons ?_
  refine wp_cut (fun f m => f = .next ∧ gt m "cup" = some (cupE (script.take 60) 0)) ?_ ?_
  · ((with_reducible apply wp_AssignN); kernel_rfl; (with_reducible apply wp_list; apply wp_es_cons; apply wp_D; apply wp_slice; apply wp_eqok; apply e_nameF); kernel_rfl; (with_reducible assumption; apply wp_eqok; exact e_O_none; apply wp_eqok; apply e_O_some; apply e_Dv; exact e_int))
    refine ⟨_, _, get_v, sliceL_to (j := 60) (by lia), by rw [List.length_take, List.length_map]; unfold lenMax; lia, ?_⟩
    ((with_reducible apply wp_frzF; apply wp_asD; apply wp_eqok; apply e_es_cons; apply e_Dv; exact e_int; exact e_es_nil; apply len_ok); rfl; (with_reducible apply wp_st_f; apply rfl_and))
    unfold cupE
    rw [List.map_take]
    exact lk_here
  rintro f m ⟨rfl, h1⟩
  have hk0 : (0 : Int) ≤ 0 ∧ (0 : Int) ≤ 1000 := by decide
  ((with_reducible apply seq_next; apply wps_cons; apply wp_AssignT); rfl; (with_reducible apply wp_hurtC); kernel_rfl; kernel_rfl; rfl; (with_reducible assumption; apply wp_textC); kernel_rfl; kernel_rfl; rfl; (with_reducible assumption); assumption)
  intro rs cnt k g k1 k2
  skip
  refine ⟨rs, cnt, k, rfl, g, (by (with_reducible exact lk_here)), ⟨k1, by lia⟩, fun rs' b k' sm hb1 hb2 k3 k4 => ?_⟩
  have hk5 : 0 ≤ k' ∧ k' ≤ 2 ^ 18 := by
    have : (2 : Int) ^ 18 = 262144 := by decide +kernel
    lia
  ((with_reducible apply wp_frzV; apply wp_bindT); rfl; kernel_rfl; rfl; (with_reducible apply seq_next; apply wps_cons; apply wp_AssignN); kernel_rfl; (with_reducible apply wp_bin; apply wp_eqok; apply e_str); decide +kernel; (with_reducible apply wp_built); kernel_rfl; rfl; kernel_rfl; decide +kernel; (with_reducible apply wp_die); kernel_rfl; kernel_rfl; rfl; (with_reducible apply lk_skip); decide +kernel; (with_reducible apply lk_skip); decide +kernel; (with_reducible exact lk_here); assumption; (with_reducible apply wp_eqok; exact e_int; apply rfl_and))
  refine ⟨_, rfl, by decide, fun v hv => ?_⟩
  have ul : ("u" : Str).length = 1 := by decide +kernel
  have hv2 : (v : Int).natAbs ≤ 1000 := by lia
  have ul3 : ("u" : Str).length + (Str.ofString (toString (v : Int))).length ≤ lenMax := by
    have := uN_str (i := v) (by lia)
    unfold lenMax; lia
  ((with_reducible apply wp_strB; exact get_v); lia; (with_reducible apply wp_addS; exact get_v; exact get_v); assumption; (with_reducible apply wp_st_v; apply seq_next; apply wps_cons; apply wp_AssignN); kernel_rfl; (with_reducible apply wp_callV); kernel_rfl; rfl; (exact funs_fdv (by kernel_rfl)); (with_reducible apply wp_eqok; apply e_rs_cons; apply e_nameF); kernel_rfl; (with_reducible apply lk_skip); decide +kernel; (with_reducible apply lk_skip); decide +kernel; (with_reducible apply lk_skip); decide +kernel; (with_reducible exact lk_here; apply e_rs_cons; apply e_nameF); kernel_rfl; (with_reducible exact lk_here; exact e_rs_nil))
  rw [show ("u" : Str) ++ Str.ofString (toString (v : Int)) = uN v from rfl]
  generalize uN v = main
  refine callV_go2 (p₁ := "rows") (p₂ := "main") (by kernel_rfl) (by decide +kernel) fun m₀ k1 k2 => ?_
  refine (heard_body k1 k2 sm).mono (fun fl _ h => ?_) (fun h => h.elim)
  have hH : ∃ hv : PyData, fl = .ret (.d hv) ∧ ((∃ L O : List Nat, hv = encL O ∧ GoodO rs' main L O) ∨ (hv = .none ∧ BadO rs' main)) := by
    rcases h with ⟨L, O, h1, h2⟩ | ⟨h1, h2⟩
    · exact ⟨_, h1, .inl ⟨L, O, rfl, h2⟩⟩
    · exact ⟨_, h1, .inr ⟨rfl, h2⟩⟩
  clear h
  obtain ⟨hv, rfl, hH⟩ := hH
  refine ⟨_, rfl, ?_⟩
  ((with_reducible apply wp_st_v; apply seq_next; apply wps_cons; apply wp_If; apply wpB_bo; apply wpBo_or; apply wp_eqok; apply eB_name; apply e_nameF); kernel_rfl; (with_reducible apply lk_skip); decide +kernel; (with_reducible apply lk_skip); decide +kernel; (with_reducible apply lk_skip); decide +kernel; (with_reducible exact lk_here))
  refine ⟨fun hb => ?_, fun hb => ?_⟩
  · have hn : hv = .none := by
      rcases hH with ⟨L, O, _, h⟩ | ⟨h, _⟩
      · exact absurd h.1 (hb2 hb)
      · exact h
    subst hn
    ((with_reducible apply br1; apply wps_cons; apply wp_Return; apply wp_eqok; apply e_cmp; apply e_nameF); kernel_rfl; (with_reducible exact lk_here; exact e_none; exact get_v; exact get_v); rfl; (with_reducible apply wp_frzV; apply seq_ret; apply seq_ret))
    rfl
  obtain rfl := hb1 hb
  have ok := g.ok
  have hlen := g.len
  ((with_reducible apply wpBo_or; apply wpB_cmp; apply wp_cmp; apply wp_eqok; apply e_tuple; apply e_es_cons; apply e_Dv; apply e_nameF); kernel_rfl; (with_reducible apply lk_skip); decide +kernel; (with_reducible exact lk_here; apply e_es_cons; apply e_Dv; apply e_str); decide +kernel; (with_reducible exact e_es_nil); rfl; (with_reducible apply wp_LC); kernel_rfl; (with_reducible apply wp_eqok; apply e_nameF); kernel_rfl; (with_reducible apply lk_skip); decide +kernel; (with_reducible apply lk_skip); decide +kernel; (with_reducible apply lk_skip); decide +kernel; (with_reducible apply lk_skip); decide +kernel; (with_reducible exact lk_here; apply wp_frzV))
  refine And.intro (fun _ h => nomatch h) ⟨_, rfl, ?_⟩
  refine wp_comp_of rs' (fun r => .d (.tuple [.str r.n, .str r.s, .list (r.ws.map .str), .list (r.es.map .str)])) (fun r => some (encK r.key)) (by rw [List.map_map]; rfl) (by unfold lenMax; lia) (fun r _ Q' hQ => ?_) ?_
  · ((with_reducible apply Wp.bind; apply wp_eqok; exact eBs_nil; apply Wp.bind; apply wp_eqok; apply e_Dv; apply e_tuple; apply e_es_cons; apply e_Dv; apply e_sub); rfl; (with_reducible apply e_nameC); rfl; decide +kernel; kernel_rfl; (with_reducible exact e_int; exact get_v; exact get_v); rfl; (with_reducible apply e_es_cons; apply e_Dv; apply e_sub); rfl; (with_reducible apply e_nameC); rfl; decide +kernel; kernel_rfl; (with_reducible exact e_int; exact get_v; exact get_v); rfl; (with_reducible exact e_es_nil); rfl; (with_reducible apply wp_ok))
    exact hQ
  rw [filterMap_all, show (rs'.map fun r => encK r.key) = (rs'.map Row.key).map encK by rw [List.map_map]; rfl]
  ((with_reducible apply wp_cmp_ok; exact get_v; exact get_f); exact cmp_notInK2; (with_reducible apply wp_truth; exact get_v))
  refine ⟨fun hc => ?_, fun hc => ?_⟩
  · have hn : hv = .none := by
      rcases hH with ⟨L, O, _, h⟩ | ⟨h, _⟩
      · have := h.2.1
        simp [this] at hc
      · exact h
    subst hn
    ((with_reducible apply br1; apply wps_cons; apply wp_Return; apply wp_eqok; apply e_cmp; apply e_nameF); kernel_rfl; (with_reducible exact lk_here; exact e_none; exact get_v; exact get_v); rfl; (with_reducible apply wp_frzV; apply seq_ret; apply seq_ret))
    rfl
  have hm : [main, ("spec" : Str)] ∈ rs'.map Row.key := by simpa using hc
  have hL : ∃ L, ReachedL rs' main L ∧ ((∃ O, hv = encL O ∧ run rs' L.length [] L = (O, [])) ∨ (hv = .none ∧ (run rs' L.length [] L).2 ≠ [])) := by
    rcases hH with ⟨L, O, h1, h⟩ | ⟨h1, h⟩
    · exact ⟨L, h.2.2.1, .inl ⟨O, h1, h.2.2.2⟩⟩
    · rcases h with h | h | ⟨L, h2, h3⟩
      · exact absurd ok h
      · exact absurd hm h
      · exact ⟨L, h2, .inr ⟨h1, h3⟩⟩
  obtain ⟨L, hL, hH'⟩ := hL
  have hdr := drun_run hm ok (by lia) hL
  have hWl : (wantedK rs' main).length ≤ 20 := by
    have := (FOk.rounds (rs := rs') (F := [[main, ("spec" : Str)]]) ⟨by simp, by simpa using hm⟩ 14).len
    show (rounds rs' 14 [[main, ("spec" : Str)]]).length ≤ 20
    lia
  ((with_reducible apply wpBo_nilO; apply br2; apply wps_nil; apply seq_next; apply wps_cons; apply wp_AssignN); kernel_rfl; (with_reducible apply wp_callV); kernel_rfl; rfl; (exact funs_fdv (by kernel_rfl)); (with_reducible apply wp_eqok; apply e_rs_cons; apply e_nameF); kernel_rfl; (with_reducible apply lk_skip); decide +kernel; (with_reducible apply lk_skip); decide +kernel; (with_reducible apply lk_skip); decide +kernel; (with_reducible apply lk_skip); decide +kernel; (with_reducible exact lk_here; exact e_rs_nil))
  refine callV_go1 (p₁ := "rows") (by kernel_rfl) fun m₀ k1 => ?_
  refine (lneeds_body k1 sm ok.1.1).mono (fun fl _ h => ?_) (fun h => h.elim)
  subst h
  refine ⟨_, rfl, ?_⟩
  ((with_reducible apply wp_st_v; apply seq_next; apply wps_cons; apply wp_AssignT); rfl; (with_reducible apply wp_callV); kernel_rfl; rfl; (exact funs_fdv (by kernel_rfl)); (with_reducible apply wp_rs_cons; apply wp_eqok; apply e_nameF); kernel_rfl; (with_reducible apply lk_skip); decide +kernel; (with_reducible apply lk_skip); decide +kernel; (with_reducible apply lk_skip); decide +kernel; (with_reducible apply lk_skip); decide +kernel; (with_reducible apply lk_skip); decide +kernel; (with_reducible exact lk_here; apply wp_rs_cons; apply wp_eqok; apply e_nameF); kernel_rfl; (with_reducible exact lk_here; apply wp_rs_cons; apply wp_callV); kernel_rfl; rfl; (exact funs_fdv (by kernel_rfl)); (with_reducible apply wp_eqok; apply e_rs_cons; apply e_nameF); kernel_rfl; (with_reducible exact lk_here; apply e_rs_cons; apply e_nameF); kernel_rfl; (with_reducible apply lk_skip); decide +kernel; (with_reducible apply lk_skip); decide +kernel; (with_reducible exact lk_here; exact e_rs_nil))
  refine callV_go2 (p₁ := "table") (p₂ := "main") (by kernel_rfl) (by decide +kernel) fun m₀ k1 k2 => ?_
  refine (wanted_body k1 k2 sm ok.1.1 hm).mono (fun fl _ h => ?_) (fun h => h.elim)
  subst h
  refine ⟨_, rfl, ?_⟩
  ((with_reducible apply wp_eqok; exact e_rs_nil))
  refine callV_go3 (p₁ := "rows") (p₂ := "table") (p₃ := "wanted") (by kernel_rfl) (by decide +kernel) fun m₀ k1 k2 k3 => ?_
  refine (done_body k1 k2 k3 sm ok.1.1 hWl).mono (fun fl _ h => ?_) (fun h => h.elim)
  subst h
  refine ⟨_, rfl, ?_⟩
  rw [hdr]
  rcases hH' with ⟨O, rfl, hr⟩ | ⟨rfl, hr⟩
  · rw [hr]
    ((with_reducible apply wp_frzV; apply wp_bindT); rfl; kernel_rfl; rfl; (with_reducible apply seq_next; apply wps_cons; apply wp_If; apply wp_eqok; apply eB_cmp; apply e_cmp; apply e_nameF); kernel_rfl; (with_reducible exact lk_here; apply e_list; exact e_es_nil); rfl; (with_reducible exact get_v; exact get_f); exact cmp_eqNil)
    rw [show (List.map nI (O, ([] : List Nat)).2).isEmpty = true from rfl]
    ((with_reducible apply br1; apply wps_cons; apply wp_Return; apply wp_cmp; apply wp_eqok; apply e_nameF); kernel_rfl; (with_reducible apply lk_skip); decide +kernel; (with_reducible apply lk_skip); decide +kernel; (with_reducible apply lk_skip); decide +kernel; (with_reducible exact lk_here; apply wp_eqok; apply e_nameF); kernel_rfl; (with_reducible apply lk_skip); decide +kernel; (with_reducible exact lk_here))
    refine wp_cmp_ok get_v get_v cmp_eqSelf ?_
    ((with_reducible apply wp_frzV; apply seq_ret; apply seq_ret))
    rfl
  · obtain ⟨s1, s2, s3⟩ := run_stuck hm ok hL hr
    generalize run rs' L.length [] L = z at *
    ((with_reducible apply wp_frzV; apply wp_bindT); rfl; kernel_rfl; rfl; (with_reducible apply seq_next; apply wps_cons; apply wp_If; apply wp_eqok; apply eB_cmp; apply e_cmp; apply e_nameF); kernel_rfl; (with_reducible exact lk_here; apply e_list; exact e_es_nil); rfl; (with_reducible exact get_v; exact get_f); exact cmp_eqNil)
    have he : (List.map nI z.2).isEmpty = false := by
      rw [List.isEmpty_map]
      cases q : z.2 with
      | nil => exact absurd q hr
      | cons a r => rfl
    rw [he]
    ((with_reducible apply br2; apply wps_nil; apply seq_next; apply wps_cons; apply wp_Return))
    refine wp_and ?_
    ((with_reducible apply wp_eqok; apply e_cmp; apply e_nameF); kernel_rfl; (with_reducible apply lk_skip); decide +kernel; (with_reducible apply lk_skip); decide +kernel; (with_reducible apply lk_skip); decide +kernel; (with_reducible exact lk_here; exact e_none; exact get_v; exact get_v); rfl)
    refine ⟨true, rfl, fun h => (by cases h), fun _ => ?_⟩
    ((with_reducible apply wp_callV); kernel_rfl; rfl; (exact funs_fdv (by kernel_rfl)); (with_reducible apply wp_eqok; apply e_rs_cons; apply e_nameF); kernel_rfl; (with_reducible apply lk_skip); decide +kernel; (with_reducible apply lk_skip); decide +kernel; (with_reducible apply lk_skip); decide +kernel; (with_reducible apply lk_skip); decide +kernel; (with_reducible apply lk_skip); decide +kernel; (with_reducible apply lk_skip); decide +kernel; (with_reducible apply lk_skip); decide +kernel; (with_reducible exact lk_here; apply e_rs_cons; apply e_nameF); kernel_rfl; (with_reducible apply lk_skip); decide +kernel; (with_reducible apply lk_skip); decide +kernel; (with_reducible exact lk_here; apply e_rs_cons; apply e_nameF); kernel_rfl; (with_reducible exact lk_here; exact e_rs_nil))
    refine callV_go3 (p₁ := "rows") (p₂ := "table") (p₃ := "left") (by kernel_rfl) (by decide +kernel) fun m₀ k1 k2 k3 => ?_
    refine (isring_body k1 k2 k3 sm s1 s2 hr ok s3).mono (fun fl _ h => ?_) (fun h => h.elim)
    subst h
    refine ⟨_, rfl, ?_⟩
    ((with_reducible apply wp_frzV; apply seq_ret))
    rfl

end
section
open PySem PySem.W PyProof.Rows PySem.Calls
theorem fz_ints {O : AP} {h : Heap} : ∀ {vs : List Value} {is : List Int}, IntsAre vs is → FzAll O h vs (is.map .int)
  | _, _, .nil => .nil
  | _, _, .cons _ _ r => .cons (Fz.int _ _) (fz_ints r)

theorem fun_law : funs "law" = some (fdv "law") := funs_fdv (by kernel_rfl)
theorem law_names : (fdv "law").scope.names.all (fun p => p.2 != .cell) = true := by decide +kernel
theorem law_script : (fdv "law").scope.names.lookup ("script" : Str) = some .local := by kernel_rfl

theorem law_run {w : World} {B h₁ : Heap} {s : Shared} {CF : Addr} (gb : GB w B CF) {name : Str} {scope : Scope} {body : List Stmt} {fa a : Addr} {cd : Value} {vs : List Value} {ns : List Int} {m : Str → Option Value}
    (hsc : scope = (fdv "law").scope) (hbd : body = (fdv "law").body) (F : Fr B B.objs.size h₁ m) (hm : m "script" = some (.ref a)) (hL : B.IsList a vs.toArray) (hI : IntsAre vs ns) (hlen : ns.length ≤ 63) (hs : s.heap = h₁)
    {Q : Flow → Shared → Prop} {E : Value → Shared → Prop} (hq : ∀ h' tk, (∀ b o, B.get? b = some o → h'.get? b = some o) → Q (.ret (.bool true)) { s with heap := h', toks := tk }) :
    wpAny (model P w) (callerA.deeper (envOf name scope B.objs.size fa cd)) (execs body (envOf name scope B.objs.size fa cd)) Q E s := by
  subst hsc hbd hs
  have ok := funs_ok _ _ fun_law
  obtain ⟨q1, q2, q3, q4, q5, q6, q7⟩ := scopeOk_co ok
  generalize henv : envOf name (fdv "law").scope B.objs.size fa cd = env
  have e1 : env.scope = (fdv "law").scope := by rw [← henv]; rfl
  have e2 : env.locals = B.objs.size := by rw [← henv]; rfl
  have e3 : env.cells = [] := by rw [← henv]; rfl
  have e4 : env.frame = some B.objs.size := by rw [← henv]; rfl
  have e5 : env.globals = mainGlobals := by rw [← henv]; rfl
  have e6 : env.builtins = builtinsNs := by rw [← henv]; rfl
  have nocell : ∀ y, env.kindOf y ≠ some .cell := fun y h => by
    unfold Env.kindOf at h
    rw [e1] at h
    have hm := mem_of_lookup h
    have := List.all_eq_true.mp law_names _ hm
    simp at this
  let K : Cfg := { w := w, B := B, fr := [env], c := cx "law", env₀ := env, env := env, pv := m }
  have H : EnvOk K.c K.env₀ K.env :=
    { s0 := e1
      k0 := (by show env.scope.kind = _; rw [e1]; exact q1)
      g0 := e5
      b0 := e6
      f0 := (by show env.frame = some env.locals; rw [e4, e2])
      kind := (by show env.scope.kind = _; rw [e1]; exact q1)
      g1 := e5
      b1 := e6
      f1 := (by show env.frame = some env.locals; rw [e4, e2])
      fn := fun _ => ⟨rfl, rfl⟩
      loc := fun y hy => (by show env.scope.names.lookup y = _; rw [e1]; exact hy)
      free := fun y hc => (by cases hc)
      gl := fun y hy => (by show env.scope.names.lookup y = _; rw [e1]; exact hy)
      ci := fun y z a h1 => (by rw [show K.env₀.cells = [] from e3] at h1; cases h1)
      cL := fun y a h1 => (by rw [show K.env₀.cells = [] from e3] at h1; cases h1) }
  have G : Go CF K (callerA.deeper env) 100 :=
    { H := H, hh := rfl, dep := by show 1 + claimMargin + 1 + 100 + 20 < 1000; decide +kernel, un := by show 4 + 3 + 10 * 100 + 200 < cLine; decide +kernel,
      af := Around.frames_deeper (A := callerA) rfl, fr := ⟨[], rfl⟩, gb := gb }
  have hnone : B.get? B.objs.size = none := Heap.get?_none_of_le (Nat.le_refl _)
  have hSF : ∀ a, SF [env] a → a = B.objs.size := fun a h => by
    unfold SF at h
    simp only [List.filterMap_cons, e4, List.filterMap_nil, List.mem_singleton] at h
    exact h
  have live : Live s.heap B.objs.size := by
    obtain ⟨o, es, ep, h1, _⟩ := F.ns
    exact ⟨o, h1⟩
  have ka : a ≠ B.objs.size := fun e => by
    obtain ⟨o, ho, _⟩ := hL
    rw [e, hnone] at ho; cases ho
  have R : Rel K ⟨fun b => b = B.objs.size, fun b => b = B.objs.size, m⟩ [(("script" : Str), (⟨false, .d (.list (ns.map .int))⟩ : Ent))] s.heap :=
    { base := F.keep
      ob := fun b hb => by rw [hb]; exact hnone
      olt := fun b hb => by rw [hb]; exact live
      xo := fun b hb => hb
      so := fun b hb => hSF b hb
      sx := fun b hb => .inl ((hSF b hb).trans e2.symm)
      xL := e2
      xC := fun y b h1 => by rw [show K.env₀.cells = [] from e3] at h1; cases h1
      cc := fun y hy => (nocell y hy).elim
      ns := ⟨m, by show s.heap.Ns env.locals m; rw [e2]; exact F.ns, fun _ _ => rfl⟩
      vk := fun y e h1 => by
        have : y = "script" := by
          rw [List.lookup_cons] at h1
          split at h1
          · rename_i hb; exact eq_of_beq hb
          · cases h1
        subst this
        exact .inl (by show env.scope.names.lookup _ = _; rw [e1]; exact law_script)
      vv := fun y e h1 => by
        have : y = "script" ∧ e = ⟨false, .d (.list (ns.map .int))⟩ := by
          rw [List.lookup_cons] at h1
          split at h1
          · rename_i hb; exact ⟨eq_of_beq hb, by cases h1; rfl⟩
          · cases h1
        obtain ⟨rfl, rfl⟩ := this
        refine ⟨.ref a, hm, fun _ => ?_, fun h => (by cases h)⟩
        refine Fz.list (vs := vs.toArray) (fun h => ka h) ?_ (by rw [List.length_map]; unfold lenMax; lia) (by simpa using fz_ints hI)
        obtain ⟨o, h1, h2⟩ := hL
        exact ⟨o, F.keep _ _ h1, h2⟩
      inj := fun y z e f b hy hz he hf => by
        rw [List.lookup_cons] at hy
        split at hy
        · cases hy; cases he
        · cases hy
      comp := fun y sv h => by cases h
      ff := Heap.FunFrames.cons (by rw [e1, q1]; decide) e4 F.ns hnone trivial
      pp := fun _ _ => rfl }
  have L := law_body (m := [(("script" : Str), (⟨false, .d (.list (ns.map .int))⟩ : Ent))]) (script := ns) (by simp) (by lia)
  have S := (all_fuel CF 100).xs K (callerA.deeper env) _ _ (fdv "law").body s G rfl R
  cases e : exs 100 (cx "law") (fdv "law").body [(("script" : Str), (⟨false, .d (.list (ns.map .int))⟩ : Ent))] with
  | stuck => rw [e] at L; exact L.elim
  | exc m' => rw [e] at L; exact L.elim
  | ok fl m' =>
    rw [e] at L
    obtain rfl : fl = .ret (.d (.bool true)) := L
    rw [show exs 100 K.c (fdv "law").body [(("script" : Str), (⟨false, .d (.list (ns.map .int))⟩ : Ent))] = _ from e] at S
    refine wpAny_mono S (fun f s' ⟨g', sm, R', _, fr⟩ => ?_) fun _ _ x => x.elim
    obtain ⟨h', tk, rfl⟩ := sm
    cases f with
    | ret v =>
      have hv : v = .bool true := by
        have : Fz g'.O h' v (.bool true) := fr
        cases this; rfl
      subst hv
      exact hq h' tk R'.base
    | next => exact fr.elim
    | brk => exact fr.elim
    | cont => exact fr.elim
end
section
open PySem PySem.W PyProof.Rows PySem.Calls
theorem good_true {c : ClaimW} {cl : Str → Option Addr} {mean : ExcName → Option Value} {args : List WData} {s₁ s' : Shared} (hk : ∀ b o, s₁.heap.get? b = some o → s'.heap.get? b = some o) (hg : s'.gens = #[]) (hn : ∀ cls, c.raises args cls = false)
    (hp : c.post args (.bool true) args = true) (hos : s'.os = s₁.os) : GoodW c cl mean args s₁ (.ok (.ret (.bool true))) s' :=
  ⟨.inl ⟨.bool true, .bool true, [], rfl, hn, .bool true, hp, unshared_nil⟩, hk, hos, hg⟩

theorem ns_at {K : Frag} {h : Heap} {a : Addr} {m : Str → Option Value} (n : h.Ns a m) (X : K.In h) {o : Obj} {es : Array DictEntry} {ep : Nat} (e : K.lookup a = some o) (ed : o.data = .dict es ep) (x : Str) : m x = nsFind es x := by
  obtain ⟨o', es', ep', h1, h2, h3, h4⟩ := n
  have := X _ _ e
  rw [h1] at this; cases this
  rw [h2] at ed; cases ed
  exact (h4 x).symm

noncomputable def freeIn (p : Program) (loose : List Str) (x : Str) : Bool := !startupNames.contains x && !loose.contains x && !((recsOf p).map (·.name)).contains x && !((litsOf p).map (·.1)).contains x && !((clssOf p loose).map (·.name)).contains x

theorem gb_k {p : Program} {loose : List Str} {mean : ExcName → Option Value} {mg mb : Str → Option Value} {B : Heap} {K : Frag} {CF D fA fC : Addr} (T : Top p loose mean mg mb B) (KX : K.In B) {o : Obj} {es : Array DictEntry} {ep : Nat}
    (eo : K.lookup mainGlobals = some o) (ed : o.data = .dict es ep) (eA : nsFind es "AdaError" = some (.ref D)) (eC : nsFind es "CheckFault" = some (.ref CF)) (cls : ClsK K CF D) (fa : InitFn K fA ["self", "text"] "Exception" "text" "text") (fc : InitFn K fC ["self", "line", "text"] "AdaError" "line" "line")
    (ft : findIn K (.ref CF) "text" = some none) (fl : findIn K (.ref CF) "line" = some none) (fi : findIn K (.ref CF) "__init__" = some (some (.ref fC))) (sp : specialIn K (.ref D) "__getattribute__" = some (some (.builtin "type.__getattribute__")))
    (rd : readsIn K D (.type "type") = true) (fD : findCls K (.ref D) (.type "type") "__init__" = some (.val (.ref fA))) (fE : findCls K (.type "Exception") (.type "type") "__init__" = some (.val (.builtin "Exception.__init__")))
    (hfree : (["Exception", "len", "range", "str", "sorted", "list"] : List Str).all (freeIn p loose) = true)
    (hv : PySem.Challenge.pw_pb0003_01.main.body.filterMap fdOf = (recsOf p).map fun d => (d.name, ⟨d.params.args.map (·.arg), d.body, d.scope⟩)) (hp : (recsOf p).all (fun d => plainPs d.params) = true) (w : World) : GB w B CF := by
  have free : ∀ x ∈ (["Exception", "len", "range", "str", "sorted", "list"] : List Str), mg x = none := fun x hx => by
    have h := List.all_eq_true.mp hfree x hx
    unfold freeIn at h
    simp only [Bool.and_eq_true, Bool.not_eq_true', List.contains_eq_mem, decide_eq_false_iff_not] at h
    exact T.free x h.1.1.1.1 h.1.1.1.2 h.1.1.2 h.1.2 h.2
  have bE : mb "Exception" = some (.type "Exception") := (T.builtins _ (by decide)).trans (by rfl)
  refine gb_top T KX (fA := fA) (fC := fC) (D := D) ⟨cls, fa, fc, (ns_at T.g KX eo ed _).trans eA, free _ (.head _), bE, ft, fl, fi, sp, rd, fD, fE⟩ ((ns_at T.g KX eo ed _).trans eC) hv hp fun f hf => free f ?_
  exact List.mem_cons_of_mem _ hf
end
section
open PySem PySem.W PyProof.Rows PySem.Calls
/-- the objects of the top that the raise reads: the names, the two classes, their tables and their __init__ (printed by a program from what the head lays) -/
noncomputable def kf (P0 : Params) : Frag := [
  (2, ({ cls := Value.none, data := Data.dict #[{ hash := PyData.keyHash P0 (Str.ofString "type.__subclasses__.Exception.0"), key := Value.str (Str.ofString "type.__subclasses__.Exception.0") 214, val := Value.int 31 0 }, { hash := PyData.keyHash P0 (Str.ofString "type.__subclasses__.Exception.n"), key := Value.str (Str.ofString "type.__subclasses__.Exception.n") 215, val := Value.int 1 0 }] 2 } : Obj)),
  (3, ({ cls := Value.type "dict", data := Data.dict #[{ hash := PyData.keyHash P0 (Str.ofString "__name__"), key := Value.str (Str.ofString "__name__") 165, val := Value.str (Str.ofString "law_pb0003_01") 312 }, { hash := PyData.keyHash P0 (Str.ofString "__doc__"), key := Value.str (Str.ofString "__doc__") 166, val := Value.none }, { hash := PyData.keyHash P0 (Str.ofString "__package__"), key := Value.str (Str.ofString "__package__") 167, val := Value.none }, { hash := PyData.keyHash P0 (Str.ofString "__loader__"), key := Value.str (Str.ofString "__loader__") 168, val := Value.builtin "__main__.__loader__#opaque" }, { hash := PyData.keyHash P0 (Str.ofString "__spec__"), key := Value.str (Str.ofString "__spec__") 169, val := Value.none }, { hash := PyData.keyHash P0 (Str.ofString "__annotations__"), key := Value.str (Str.ofString "__annotations__") 170, val := Value.ref 6 }, { hash := PyData.keyHash P0 (Str.ofString "__builtins__"), key := Value.str (Str.ofString "__builtins__") 171, val := Value.ref 4 }, { hash := PyData.keyHash P0 (Str.ofString "__file__"), key := Value.str (Str.ofString "__file__") 173, val := Value.str (Str.ofString "/claim/cut.py") 172 }, { hash := PyData.keyHash P0 (Str.ofString "__cached__"), key := Value.str (Str.ofString "__cached__") 174, val := Value.none }, { hash := PyData.keyHash P0 (Str.ofString "AdaError"), key := Value.str (Str.ofString "AdaError") 217, val := Value.ref 31 }, { hash := PyData.keyHash P0 (Str.ofString "CheckFault"), key := Value.str (Str.ofString "CheckFault") 243, val := Value.ref 51 }, { hash := PyData.keyHash P0 (Str.ofString "places_of"), key := Value.str (Str.ofString "places_of") 257, val := Value.ref 60 }, { hash := PyData.keyHash P0 (Str.ofString "needs_of"), key := Value.str (Str.ofString "needs_of") 274, val := Value.ref 67 }, { hash := PyData.keyHash P0 (Str.ofString "all_needs"), key := Value.str (Str.ofString "all_needs") 280, val := Value.ref 72 }, { hash := PyData.keyHash P0 (Str.ofString "reached_parts"), key := Value.str (Str.ofString "reached_parts") 293, val := Value.ref 79 }, { hash := PyData.keyHash P0 (Str.ofString "ring_of"), key := Value.str (Str.ofString "ring_of") 299, val := Value.ref 84 }, { hash := PyData.keyHash P0 (Str.ofString "order_parts"), key := Value.str (Str.ofString "order_parts") 305, val := Value.ref 89 }, { hash := PyData.keyHash P0 (Str.ofString "ring_text"), key := Value.str (Str.ofString "ring_text") 311, val := Value.ref 94 }, { hash := PyData.keyHash P0 (Str.ofString "_law_die"), key := Value.str (Str.ofString "_law_die") 321, val := Value.ref 101 }, { hash := PyData.keyHash P0 (Str.ofString "_law_text"), key := Value.str (Str.ofString "_law_text") 327, val := Value.ref 106 }, { hash := PyData.keyHash P0 (Str.ofString "_law_hurt"), key := Value.str (Str.ofString "_law_hurt") 341, val := Value.ref 113 }, { hash := PyData.keyHash P0 (Str.ofString "_law_needs"), key := Value.str (Str.ofString "_law_needs") 347, val := Value.ref 118 }, { hash := PyData.keyHash P0 (Str.ofString "_law_wanted"), key := Value.str (Str.ofString "_law_wanted") 359, val := Value.ref 125 }, { hash := PyData.keyHash P0 (Str.ofString "_law_done"), key := Value.str (Str.ofString "_law_done") 365, val := Value.ref 130 }, { hash := PyData.keyHash P0 (Str.ofString "_law_is_ring"), key := Value.str (Str.ofString "_law_is_ring") 371, val := Value.ref 135 }, { hash := PyData.keyHash P0 (Str.ofString "_law_heard"), key := Value.str (Str.ofString "_law_heard") 379, val := Value.ref 142 }, { hash := PyData.keyHash P0 (Str.ofString "law"), key := Value.str (Str.ofString "law") 385, val := Value.ref 147 }] 27 } : Obj)),
  (27, ({ cls := Value.type "code", data := Data.fields #[Value.str (Str.ofString "__init__") 201, Value.str (Str.ofString "AdaError.__init__") 202, Value.str (Str.ofString "/claim/cut.py") 203, Value.int 4 0, Value.int 2 0, Value.int 0 0, Value.int 0 0, Value.int 3 0, Value.ref 22, Value.bool true, Value.int 181 0, Value.ref 23, Value.none, Value.ref 24, Value.ref 25, Value.ref 26, Value.int 206 0, Value.int 4 0, Value.str (Str.ofString "/claim/cut.py") 207] } : Obj)),
  (28, ({ cls := Value.type "function", data := Data.func { name := Str.ofString "__init__", qualname := Str.ofString "AdaError.__init__", params := { posonlyargs := [], args := [{ arg := Str.ofString "self", annotation := none, pos := { line := 4, col := 17, endLine := 4, endCol := 21 } }, { arg := Str.ofString "text", annotation := none, pos := { line := 4, col := 23, endLine := 4, endCol := 27 } }], vararg := none, kwonlyargs := [], kw_defaults := [], kwarg := none, defaults := [] }, body := FuncBody.stmts [Stmt.Expr (((Expr.Name (Str.ofString "Exception") { line := 5, col := 8, endLine := 5, endCol := 17 }).Attribute (Str.ofString "__init__") { line := 5, col := 8, endLine := 5, endCol := 26 }).Call [Expr.Name (Str.ofString "self") { line := 5, col := 27, endLine := 5, endCol := 31 }, Expr.Name (Str.ofString "text") { line := 5, col := 33, endLine := 5, endCol := 37 }] [] { line := 5, col := 8, endLine := 5, endCol := 38 }) { line := 5, col := 8, endLine := 5, endCol := 38 }, Stmt.Assign [(Expr.Name (Str.ofString "self") { line := 6, col := 8, endLine := 6, endCol := 12 }).Attribute (Str.ofString "text") { line := 6, col := 8, endLine := 6, endCol := 17 }] (Expr.Name (Str.ofString "text") { line := 6, col := 20, endLine := 6, endCol := 24 }) { line := 6, col := 8, endLine := 6, endCol := 24 }], scope := { kind := ScopeKind.function, names := [(Str.ofString "self", NameKind.local), (Str.ofString "text", NameKind.local), (Str.ofString "Exception", NameKind.globalImplicit)], isGenerator := false, isCoroutine := false }, globals := 3, closure := [], defaults := Value.none, kwdefaults := Value.none, pyModule := Value.str (Str.ofString "adacore.errors") 187, code := Value.ref 27 } } : Obj)),
  (30, ({ cls := Value.type "dict", data := Data.dict #[{ hash := PyData.keyHash P0 (Str.ofString "__module__"), key := Value.str (Str.ofString "__module__") 196, val := Value.str (Str.ofString "adacore.errors") 187 }, { hash := PyData.keyHash P0 (Str.ofString "__firstlineno__"), key := Value.str (Str.ofString "__firstlineno__") 200, val := Value.int 2 199 }, { hash := PyData.keyHash P0 (Str.ofString "__init__"), key := Value.str (Str.ofString "__init__") 208, val := Value.ref 28 }, { hash := PyData.keyHash P0 (Str.ofString "__static_attributes__"), key := Value.str (Str.ofString "__static_attributes__") 210, val := Value.ref 29 }, { hash := PyData.keyHash P0 (Str.ofString "__weakref__"), key := Value.str (Str.ofString "__weakref__") 212, val := Value.ref 32 }, { hash := PyData.keyHash P0 (Str.ofString "__doc__"), key := Value.str (Str.ofString "__doc__") 213, val := Value.none }] 3 } : Obj)),
  (31, ({ cls := Value.type "type", data := Data.cls { name := Str.ofString "AdaError", bases := [Value.type "Exception"], mro := [Value.ref 31, Value.type "Exception", Value.type "BaseException", Value.type "object"], ns := 30, qualname := Str.ofString "AdaError", subclasses := [Value.ref 51] }, slots := #[some (Value.ref 15), none, some (Value.str (Str.ofString "AdaError") 189), some (Value.str (Str.ofString "AdaError") 197), some (Value.builtin "Exception.__new__"), some (Value.bool true)] } : Obj)),
  (47, ({ cls := Value.type "code", data := Data.fields #[Value.str (Str.ofString "__init__") 230, Value.str (Str.ofString "CheckFault.__init__") 231, Value.str (Str.ofString "/claim/cut.py") 232, Value.int 9 0, Value.int 3 0, Value.int 0 0, Value.int 0 0, Value.int 3 0, Value.ref 42, Value.bool true, Value.int 181 0, Value.ref 43, Value.none, Value.ref 44, Value.ref 45, Value.ref 46, Value.int 236 0, Value.int 9 0, Value.str (Str.ofString "/claim/cut.py") 237] } : Obj)),
  (48, ({ cls := Value.type "function", data := Data.func { name := Str.ofString "__init__", qualname := Str.ofString "CheckFault.__init__", params := { posonlyargs := [], args := [{ arg := Str.ofString "self", annotation := none, pos := { line := 9, col := 17, endLine := 9, endCol := 21 } }, { arg := Str.ofString "line", annotation := none, pos := { line := 9, col := 23, endLine := 9, endCol := 27 } }, { arg := Str.ofString "text", annotation := none, pos := { line := 9, col := 29, endLine := 9, endCol := 33 } }], vararg := none, kwonlyargs := [], kw_defaults := [], kwarg := none, defaults := [] }, body := FuncBody.stmts [Stmt.Expr (((Expr.Name (Str.ofString "AdaError") { line := 10, col := 8, endLine := 10, endCol := 16 }).Attribute (Str.ofString "__init__") { line := 10, col := 8, endLine := 10, endCol := 25 }).Call [Expr.Name (Str.ofString "self") { line := 10, col := 26, endLine := 10, endCol := 30 }, Expr.Name (Str.ofString "text") { line := 10, col := 32, endLine := 10, endCol := 36 }] [] { line := 10, col := 8, endLine := 10, endCol := 37 }) { line := 10, col := 8, endLine := 10, endCol := 37 }, Stmt.Assign [(Expr.Name (Str.ofString "self") { line := 11, col := 8, endLine := 11, endCol := 12 }).Attribute (Str.ofString "line") { line := 11, col := 8, endLine := 11, endCol := 17 }] (Expr.Name (Str.ofString "line") { line := 11, col := 20, endLine := 11, endCol := 24 }) { line := 11, col := 8, endLine := 11, endCol := 24 }], scope := { kind := ScopeKind.function, names := [(Str.ofString "self", NameKind.local), (Str.ofString "line", NameKind.local), (Str.ofString "text", NameKind.local), (Str.ofString "AdaError", NameKind.globalImplicit)], isGenerator := false, isCoroutine := false }, globals := 3, closure := [], defaults := Value.none, kwdefaults := Value.none, pyModule := Value.str (Str.ofString "adacore.errors") 187, code := Value.ref 47 } } : Obj)),
  (50, ({ cls := Value.type "dict", data := Data.dict #[{ hash := PyData.keyHash P0 (Str.ofString "__module__"), key := Value.str (Str.ofString "__module__") 225, val := Value.str (Str.ofString "adacore.errors") 187 }, { hash := PyData.keyHash P0 (Str.ofString "__firstlineno__"), key := Value.str (Str.ofString "__firstlineno__") 229, val := Value.int 7 228 }, { hash := PyData.keyHash P0 (Str.ofString "__init__"), key := Value.str (Str.ofString "__init__") 238, val := Value.ref 48 }, { hash := PyData.keyHash P0 (Str.ofString "__static_attributes__"), key := Value.str (Str.ofString "__static_attributes__") 240, val := Value.ref 49 }, { hash := PyData.keyHash P0 (Str.ofString "__doc__"), key := Value.str (Str.ofString "__doc__") 241, val := Value.none }] 2 } : Obj)),
  (51, ({ cls := Value.type "type", data := Data.cls { name := Str.ofString "CheckFault", bases := [Value.ref 31], mro := [Value.ref 51, Value.ref 31, Value.type "Exception", Value.type "BaseException", Value.type "object"], ns := 50, qualname := Str.ofString "CheckFault" }, slots := #[some (Value.ref 35), none, some (Value.str (Str.ofString "CheckFault") 218), some (Value.str (Str.ofString "CheckFault") 226), some (Value.builtin "Exception.__new__"), some (Value.bool true)] } : Obj))]
noncomputable def vw : Program := view PySem.Challenge.pw_pb0003_01 [1, 2, 4, 5, 6, 7, 8, 9, 10, 12, 13, 14, 15, 16, 17, 18, 19, 20]
noncomputable def hook0 : Hook := kHook kf [2, 3, 27, 28, 30, 31, 47, 48, 50, 51] (fun _ => by kernel_rfl)
theorem ws : PySem.Challenge.rw_pb0003_01.wellSaid = true := (congrFun PySem.W.Fast.te9446332074065402090 _).trans (by kernel_rfl)
theorem left0 : LeftO PySem.Challenge.pw_pb0003_01 vw [] (fun s => xlAt vw [] s && recOk [] s) (Hook.obs hook0) (Hook.val hook0) 2072 := fun w => by
  unfold openEnds fencedOpening topFrom
  rw [PySem.W.Fast.te14082659384304107361, PySem.W.Fast.te4187177175401517315, PySem.W.Fast.te1435165496053646825, PySem.W.Fast.te14364793385576792824, PySem.W.Fast.te14289696077712309145, PySem.W.Fast.te10274390034422433532]
  kernel_rfl
end
end Mine
open PySem PySem.W PyProof.Rows PySem.Calls
theorem PySem.Challenge.cw_pb0003_01_holds : PySem.Challenge.rw_pb0003_01.Holds := by
  w_on
  refine holds_law Mine.ws fun said => ?_
  refine PySem.W.holds_open (q := Mine.vw) (loose := []) (Xt := fun s => xlAt Mine.vw [] s && recOk [] s) (XP := XL Mine.vw []) (Yf := Hook.obs Mine.hook0) (Ya := Hook.val Mine.hook0) (YP := Hook.says Mine.hook0) (N := 2072) Mine.left0 (Hook.of Mine.hook0) (Hook.keeps Mine.hook0) (fun s e => xl_of s (Bool.and_eq_true_iff.mp e).1) XL.keeps (by rfl) (by rfl) (by rfl) (fun s e => recFacts_of (Bool.and_eq_true_iff.mp e).2) (by rfl) said (by decide +kernel) ⟨rfl, rfl, rfl, rfl, rfl, by decide +kernel⟩ ?hw ?hc
  case hw => w_witness2
  case hc =>
    w_strict (
      intro w s₀ s₁ mg mb G Y fa o pm cd doc dV kV ho hd hcd hD hmg hg args vals as hpre hlay hrd hwl hlo
      have KX := kIn_of Y
      refine Ground.open G ?_
      intro T B D TE TW
      obtain ⟨_, _, M⟩ := bmod_of_top T
      have TA := at_of_top T
      try (obtain ⟨_, _, he, B0⟩ := based_of_top T rfl hmg ho hd; have he' : cd = _ := he; subst he'; clear he)
      clear hmg B D TE TW M
      wrow_args hpre hlay hrd hwl hlo
      refine PySem.W.enter_call ?_
      w_top on
      try refine codeAny_mono ?_ (fun _ _ g => GoodW.toG g)
      w_call any ho hd hcd hD T F
      clear hd TA
      rename Frag.In _ _ => KX
      rename Top _ _ _ _ _ _ => T
      rename Fr _ _ _ _ => F
      rename Heap.IsList _ _ _ => hL
      rename IntsAre _ _ => hI
      rename ¬ _ < _ => hcond
      rename _ = #[] => hg
      have gb := Mine.gb_k (CF := 51) (D := 31) (fA := 28) (fC := 48) T KX (by rfl) (by rfl) (by rfl) (by rfl)
        ⟨⟨_, _, _, _, _, _, _, _, _, _, _, _, _, _, by rfl⟩, by kernel_rfl⟩
        ⟨⟨_, _, _, _, _, _, _, _, _, _, _, _, by rfl, by rfl, by rfl, by rfl, by rfl, by rfl, by rfl, by rfl, by decide +kernel, by decide +kernel, by decide +kernel, by decide +kernel, by decide +kernel,
          fun h X => ⟨_, _, _, _, by rfl, X _ _ (by rfl), by rfl, by rfl⟩, fun vs h => by
            rcases vs with _ | ⟨a, _ | ⟨b, _ | ⟨c, r⟩⟩⟩ <;> first | rfl | cases h⟩⟩
        ⟨⟨_, _, _, _, _, _, _, _, _, _, _, _, by rfl, by rfl, by rfl, by rfl, by rfl, by rfl, by rfl, by rfl, by decide +kernel, by decide +kernel, by decide +kernel, by decide +kernel, by decide +kernel,
          fun h X => ⟨_, _, _, _, by rfl, X _ _ (by rfl), by rfl, by rfl⟩, fun vs h => by
            rcases vs with _ | ⟨a, _ | ⟨b, _ | ⟨c, _ | ⟨d, r⟩⟩⟩⟩ <;> first | rfl | cases h⟩⟩
        (by kernel_rfl) (by kernel_rfl) (by kernel_rfl) (by kernel_rfl) (by kernel_rfl) (by kernel_rfl) (by kernel_rfl) (by decide +kernel) (by kernel_rfl) (by decide +kernel)
      refine Mine.law_run (gb _) (by kernel_rfl) (by kernel_rfl) F (by rfl) hL hI (by omega) rfl fun h' tk hk => ?_
      refine Mine.good_true hk hg (raisesW_false ?_) ?_ rfl
      · wrow_none_raised
      · wrow_post)
