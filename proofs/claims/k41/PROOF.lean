import PyProof.Rows.All
import Wide.All
import OpenK.AllK
import Wide.FinOn
import KE.KStateDown
import HandS.ForMost
import HandS.TupAny
import HandS.TupMul
import HandS.Wide
import HandS.Deep
import HandS.Style
import HandS.IsInst
import HandS.NoneIn
import HandS.Conv
import HandS.Defaults
import HandS.Zip
import HandS.Flow
import PyProof.ReprReads
import KE.SortData
import HandS.HeadHook1
import KE.KRevSl
import HandS.Strs
import HandS.RaiseMore
import HandS.Replace
import HandS.Rev
import HandS.Zip0
import HandS.More
import KE.DataFind
import HandS.Small
import HandS.Words
import HandS.Ends
import HandS.Head0
import HandS.Head1
import HandS.Head2
import HandS.HeadHook2
import PySem.Challenge.RW_callwishes_k41_broken_tales
set_option Elab.async false
set_option linter.all false
set_option maxRecDepth 100000
set_option maxHeartbeats 0
set_option autoImplicit false
/-! Pz1: the pure side. Values are PyData; a mutable object that is passed about is a numbered place in a small heap; an evaluator of one subset of Python over these. -/
namespace Pz
open PySem

abbrev D := PyData
/-- a reference to the i-th object of the small heap (no Python dict has a list as its key) -/
def mkRef (i : Nat) : D := .dict [(.list [], .int (i : Int))]
def refOf? : D → Option Nat
  | .dict [(.list [], .int (.ofNat i))] => some i
  | _ => none
/-- what may stand as a key of a frozen dict -/
def keyLike : D → Bool
  | .list _ => false
  | .dict _ => false
  | _ => true
mutual
/-- no reference within -/
def noRef : D → Bool
  | .list xs => noRefs xs
  | .tuple xs => noRefs xs
  | .dict kvs => noRefKv kvs
  | _ => true
def noRefs : List D → Bool
  | [] => true
  | x :: xs => noRef x && noRefs xs
def noRefKv : List (D × D) → Bool
  | [] => true
  | (k, v) :: r => keyLike k && noRef k && noRef v && noRefKv r
end
mutual
/-- the same data, kind by kind -/
def same : D → D → Bool
  | .none, .none => true
  | .bool a, .bool b => a == b
  | .int a, .int b => a == b
  | .str a, .str b => a == b
  | .list a, .list b => sames a b
  | .tuple a, .tuple b => sames a b
  | .dict a, .dict b => sameKv a b
  | _, _ => false
def sames : List D → List D → Bool
  | [], [] => true
  | x :: xs, y :: ys => same x y && sames xs ys
  | _, _ => false
def sameKv : List (D × D) → List (D × D) → Bool
  | [], [] => true
  | (k, v) :: r, (k', v') :: r' => same k k' && same v v' && sameKv r r'
  | _, _ => false
end

/-- what a name holds: a value that stays, or a list (a dict) that this def alone knows -/
inductive SV where
  | frz (d : D)
  | own (d : D)
  | fn (g : Str)
abbrev Env := List (Option SV)
/-- an object of the small heap: the script, a list, a dict, an instance -/
inductive MO where
  | scr (ns : List Int)
  | lst (xs : List D)
  | dct (kvs : List (D × D))
  | ins (c : Str) (fs : List (Str × D))
abbrev S := List MO
abbrev M (α : Type) := S → Option (α × S)
def ret {α : Type} (a : α) : M α := fun st => some (a, st)
def fail {α : Type} : M α := fun _ => none
def bnd {α β : Type} (m : M α) (f : α → M β) : M β := fun st => match m st with
  | some (a, st1) => f a st1
  | none => none
def lift {α : Type} : Option α → M α
  | some a => ret a
  | none => fail
def need (b : Bool) : M Unit := if b = true then ret () else fail

/-- an operand: a value, or the name that holds its own list -/
inductive Op where
  | v (d : D)
  | o (j : Nat)
def viewRef (st : S) (i : Nat) : Option D := match st[i]? with
  | some (.scr ns) => some (.list (ns.map .int))
  | some (.lst xs) => some (.list xs)
  | some (.dct kvs) => some (.dict kvs)
  | _ => none
/-- what an operand is by now -/
def view (env : Env) (st : S) : Op → Option D
  | .v d => (match refOf? d with
    | none => some d
    | some i => viewRef st i)
  | .o j => (match env[j]? with
    | some (some (.own d)) => some d
    | _ => none)
def vw (env : Env) (p : Op) : M D := fun st => match view env st p with
  | some d => some (d, st)
  | none => none
/-- not the script (its list may not be joined to another) -/
def noScr (st : S) : Op → Bool
  | .v d => (match refOf? d with
    | none => true
    | some i => (match st[i]? with
      | some (.scr _) => false
      | _ => true))
  | .o _ => true

def line : Nat := 16777216
/-- a dict's key: an int, a text -/
def keyOf : D → Option L2.Key
  | .int i => some (.inl i)
  | .str x => some (.inr x)
  | _ => none
def dval (kvs : List (D × D)) (k : L2.Key) : Option D := (kvs.find? fun p => decide (keyOf p.1 = some k)).map (·.2)
/-- in its place, or at the end -/
def dput (kvs : List (D × D)) (q : D) (k : L2.Key) (v : D) : List (D × D) :=
  if (kvs.any fun p => decide (keyOf p.1 = some k)) = true then kvs.map (fun p => if keyOf p.1 = some k then (p.1, v) else p) else kvs ++ [(q, v)]
def keysOk (kvs : List (D × D)) : Bool := kvs.all fun p => (keyOf p.1).isSome
def dmerge (kvs more : List (D × D)) : List (D × D) := more.foldl (fun acc p => (match keyOf p.1 with
  | some k => dput acc p.1 k p.2
  | none => acc)) kvs
/-- a value's truth -/
def truth : D → Option Bool
  | .none => some false
  | .bool b => some b
  | .int i => some (i != 0)
  | .str y => if y.length ≤ line then some ((y.length : Int) != 0) else none
  | .list xs => some (!xs.isEmpty)
  | .tuple xs => some (!xs.isEmpty)
  | .dict _ => none
def shapedB (d : D) : Bool := SeqAt.shaped d
/-- the smaller of two that multiply is below 2^64, or both together are below a million bits -/
def mulOk (a b : Int) : Bool := decide (a.natAbs.log2 + b.natAbs.log2 < 1000000)
/-- two-place operators; true: a new list -/
def arith : Operator → D → D → Option (D × Bool)
  | .Add, .int a, .int b => some (.int (a + b), false)
  | .Add, .str a, .str b => if a.length + b.length ≤ line then some (.str (a ++ b), false) else none
  | .Add, .tuple a, .tuple b => if a.length + b.length ≤ line then some (.tuple (a ++ b), false) else none
  | .Add, .list a, .list b => if a.length + b.length ≤ line then some (.list (a ++ b), true) else none
  | .Sub, .int a, .int b => some (.int (a - b), false)
  | .Mult, .int a, .int b => if mulOk a b then some (.int (a * b), false) else none
  | .Mult, .tuple a, .int b => if -1000 ≤ b ∧ b ≤ 1000 ∧ a.length ≤ 1000 then some (.tuple (List.replicate b.toNat a).flatten, false) else none
  | .Mult, .list a, .int b => if -1000 ≤ b ∧ b ≤ 1000 ∧ a.length ≤ 1000 then some (.list (List.replicate b.toNat a).flatten, true) else none
  | .FloorDiv, .int a, .int b => if 0 < b ∧ b.natAbs.log2 < 9000 then some (.int (a / b), false) else none
  | .Mod, .int a, .int b => if 0 < b then some (.int (a % b), false) else none
  | .Pow, .int a, .int b => if 0 ≤ b ∧ b ≤ 1000000 ∧ a.natAbs < 2 ^ 64 then some (.int (a ^ b.toNat), false) else none
  | _, _, _ => none
def inAny (x : D) (ys : List D) : Bool := ys.any fun z => PyData.eqv z x
/-- comparisons -/
def cmp : CmpOp → D → D → Option Bool
  | .Eq, x, y => if shapedB x && shapedB y then some (PyData.eqv x y) else none
  | .NotEq, x, y => if shapedB x && shapedB y then some (!PyData.eqv x y) else none
  | .Lt, .int a, .int b => some (decide (a < b))
  | .LtE, .int a, .int b => some (decide (a ≤ b))
  | .Gt, .int a, .int b => some (decide (b < a))
  | .GtE, .int a, .int b => some (decide (b ≤ a))
  | .In, x, .list ys => if shapedB x && shapedB (.list ys) then some (inAny x ys) else none
  | .In, x, .tuple ys => if shapedB x && shapedB (.list ys) then some (inAny x ys) else none
  | .In, x, .dict kvs => (keyOf x).map fun k => (dval kvs k).isSome
  | .NotIn, x, .dict kvs => (keyOf x).map fun k => !(dval kvs k).isSome
  | .In, .str x, .str y => some (!(Builtin.Str.occurrences y x 0 y.length 1).isEmpty)
  | .NotIn, x, .list ys => if shapedB x && shapedB (.list ys) then some (!inAny x ys) else none
  | .NotIn, x, .tuple ys => if shapedB x && shapedB (.list ys) then some (!inAny x ys) else none
  | .NotIn, .str x, .str y => some (!!(Builtin.Str.occurrences y x 0 y.length 1).isEmpty)
  | .Is, x, .none => some (match x with | .none => true | _ => false)
  | .IsNot, x, .none => some (match x with | .none => false | _ => true)
  | .Is, .bool a, .bool b => some (decide (a = b))
  | .IsNot, .bool a, .bool b => some (!decide (a = b))
  | _, _, _ => none
/-- d[i] of a list, a tuple, a text -/
def item : D → D → Option D
  | .list xs, .int i => L2.atI xs i
  | .tuple xs, .int i => L2.atI xs i
  | .str z, .int i => if z.length ≤ line then (L2.atI z.cps.toList i).map fun c => .str ⟨#[c]⟩ else none
  | .dict kvs, q => (keyOf q).bind fun k => dval kvs k
  | _, _ => none
def cut {α : Type} (xs : List α) (lo hi : Option Int) : List α := (xs.drop (HT.sIx xs.length 0 lo)).take (HT.sIx xs.length xs.length hi - HT.sIx xs.length 0 lo)
/-- d[lo:hi] -/
def slice : D → Option Int → Option Int → Option (D × Bool)
  | .list xs, lo, hi => some (.list (cut xs lo hi), true)
  | .tuple xs, lo, hi => some (.tuple (cut xs lo hi), false)
  | .str z, lo, hi => if z.length ≤ line then some (.str (L2.cutS z lo hi), false) else none
  | _, _, _ => none
def tyName : D → Option String
  | .none => some "NoneType"
  | .bool _ => some "bool"
  | .int _ => some "int"
  | .str _ => some "str"
  | .list _ => some "list"
  | .tuple _ => some "tuple"
  | .dict _ => some "dict"
def tyNames : List String := ["NoneType", "bool", "int", "str", "list", "tuple", "dict"]
def isA (t c : String) : Option Bool :=
  if tyNames.contains t && ["bool", "int", "str", "list", "tuple", "dict"].contains c then some (t == c || (t == "bool" && c == "int")) else none
def allBools : List D → Option (List Bool)
  | [] => some []
  | .bool b :: r => (allBools r).map (b :: ·)
  | _ :: _ => none
def allStrs : List D → Option (List Str)
  | [] => some []
  | .str b :: r => (allStrs r).map (b :: ·)
  | _ :: _ => none
def allInts : List D → Option (List Int)
  | [] => some []
  | .int b :: r => (allInts r).map (b :: ·)
  | _ :: _ => none
/-- the first place of an equal one -/
def indexOf (x : D) : List D → Nat → Option Nat
  | [], _ => none
  | y :: r, n => if PyData.eqv y x then some n else indexOf x r (n + 1)

/-! built-in functions of values -/
def bLen : List D → Option (D × Bool)
  | [.list xs] => some (.int xs.length, false)
  | [.tuple xs] => some (.int xs.length, false)
  | [.str z] => if z.length ≤ line then some (.int z.length, false) else none
  | [.dict kvs] => some (.int kvs.length, false)
  | _ => none
def bAbs : List D → Option (D × Bool)
  | [.int i] => some (.int (if i < 0 then -i else i), false)
  | _ => none
def bMin : List D → Option (D × Bool)
  | [.int i, .int j] => some (.int (if j < i then j else i), false)
  | _ => none
def bMax : List D → Option (D × Bool)
  | [.int i, .int j] => some (.int (if j > i then j else i), false)
  | _ => none
def bInt : List D → Option (D × Bool)
  | [.int i] => some (.int i, false)
  | [.bool k] => some (.int (if k then 1 else 0), false)
  | _ => none
def bBool : List D → Option (D × Bool)
  | [.int i] => some (.bool (i != 0), false)
  | [.bool k] => some (.bool k, false)
  | _ => none
def bAll : List D → Option (D × Bool)
  | [.list xs] => (allBools xs).map fun bs => (.bool (bs.all id), false)
  | _ => none
def bAny : List D → Option (D × Bool)
  | [.list xs] => (allBools xs).map fun bs => (.bool (bs.any id), false)
  | _ => none
def bTuple : List D → Option (D × Bool)
  | [.list xs] => some (.tuple xs, false)
  | [.tuple xs] => some (.tuple xs, false)
  | _ => none
def bList : List D → Option (D × Bool)
  | [.list xs] => some (.list xs, true)
  | [.tuple xs] => some (.list xs, true)
  | _ => none
/-- what repr serves -/
def reprOk (d : D) : Bool := d.showable && decide (d.shown.length ≤ line) && decide (d.depth ≤ 64) && noRef d && (match d with | .dict [] => true | d => !d.hasDict)
def bRepr : List D → Option (D × Bool)
  | [d] => if reprOk d = true then some (.str d.shown, false) else none
  | _ => none
/-- what sorted serves: alike data, all rows with an item or none a row -/
def sortOk (xs : List D) : Bool := xs.length ≤ line && (xs.all fun d => xs.all fun e => PySem.W.alike d e) && ((xs.all fun d => match d with | .tuple (_ :: _) => true | _ => false) || xs.all fun d => match d with | .none => false | .tuple _ => false | _ => true) &&
  xs.all fun d => decide (d.depth ≤ 60) && !d.hasDict
def bSorted : List D → Option (D × Bool)
  | [.list xs] => if sortOk xs = true then some (.list (xs.mergeSort (PySem.W.dataLe false id)), true) else none
  | [.tuple xs] => if sortOk xs = true then some (.list (xs.mergeSort (PySem.W.dataLe false id)), true) else none
  | _ => none
def builtin (f : Str) (as : List D) : Option (D × Bool) :=
  if f = ("len" : Str) then bLen as
  else if f = ("abs" : Str) then bAbs as
  else if f = ("min" : Str) then bMin as
  else if f = ("max" : Str) then bMax as
  else if f = ("int" : Str) then bInt as
  else if f = ("bool" : Str) then bBool as
  else if f = ("all" : Str) then bAll as
  else if f = ("any" : Str) then bAny as
  else if f = ("tuple" : Str) then bTuple as
  else if f = ("list" : Str) then bList as
  else if f = ("repr" : Str) then bRepr as
  else if f = ("sorted" : Str) then bSorted as
  else none
def builtins : List Str := ["len", "abs", "min", "max", "int", "bool", "all", "any", "tuple", "list", "repr", "sorted"]

/-! methods of values that change nothing -/
def mIndex : D → List D → Option (D × Bool)
  | .list ys, [x] => if shapedB x && shapedB (.list ys) then (indexOf x ys 0).map fun (j : Nat) => (PyData.int (j : Int), false) else none
  | .tuple ys, [x] => if shapedB x && shapedB (.list ys) then (indexOf x ys 0).map fun (j : Nat) => (PyData.int (j : Int), false) else none
  | .str a, [.str b] => (match Builtin.Str.occurrences a b 0 a.length 1 with
    | i :: _ => some (.int (i : Nat), false)
    | [] => none)
  | _, _ => none
def mJoin : D → List D → Option (D × Bool)
  | .str a, [.list xs] => (allStrs xs).bind fun ys => if (ys.map (·.length)).sum + ys.length * a.length ≤ line then some (.str (Txt.join a ys), false) else none
  | .str a, [.tuple xs] => (allStrs xs).bind fun ys => if (ys.map (·.length)).sum + ys.length * a.length ≤ line then some (.str (Txt.join a ys), false) else none
  | _, _ => none
/-- d.get(k), d.get(k, x): x no list, no dict -/
def plainD : D → Bool
  | .list _ => false
  | .dict _ => false
  | _ => true
def mGet : D → List D → Option (D × Bool)
  | .dict kvs, [q] => (keyOf q).map fun k => ((dval kvs k).getD .none, false)
  | .dict kvs, [q, z] => if plainD z = true then (keyOf q).map fun k => ((dval kvs k).getD z, false) else none
  | _, _ => none
def method (m : Str) (o : D) (as : List D) : Option (D × Bool) :=
  if m = ("index" : Str) then mIndex o as
  else if m = ("join" : Str) then mJoin o as
  else if m = ("get" : Str) then mGet o as
  else none
end Pz

/-! Pz2: the evaluator: expressions, statements, defs. -/
namespace Pz
open PySem

/-- a def of the text: parameters, names by slot (parameters first), scope, body, the names that hold lists of their own -/
structure FD where
  ps : List Str
  N : List Str
  sc : Scope
  body : List Stmt
  own : List Str
  hp : List Str
structure Cfg where
  N : List Str
  consts : List (Str × D)
  funs : List (Str × FD)
  call : Str → List D → M (D × Bool)
  own : List Str
  hp : List Str
def place (x : Str) : List Str → Nat → Option Nat
  | [], _ => none
  | y :: r, n => if y = x then some n else place x r (n + 1)
def slotOf (c : Cfg) (sc : Scope) (x : Str) : Option Nat := match sc.names.lookup x with
  | some .local | some .cell | some .free => if x = ("__debug__" : Str) ∨ x = ("__classdict__" : Str) then none else place x c.N 0
  | _ => none
/-- a name that may be stored -/
def locOf (c : Cfg) (sc : Scope) (x : Str) : Option Nat := match sc.names.lookup x with
  | some .local | some .cell => place x c.N 0
  | _ => none
/-- the class of the text: its name, its attributes, its methods' names among the defs -/
def wCls : Str := "Walk"
def wFlds : List Str := ["house", "calls", "night", "minds", "tales", "events"]
def wPre : List Nat := [87, 97, 108, 107, 46]
def mName (m : Str) : Str := ⟨(wPre ++ m.cps.toList).toArray⟩
def isM (x : Str) : Bool := x.cps.toList.take 5 == wPre
def isGl (sc : Scope) (x : Str) : Bool := decide (sc.names.lookup x = some .globalImplicit) && decide (x ≠ ("__debug__" : Str)) && decide (x ≠ ("__name__" : Str)) && !isM x
def isStar : Expr → Bool
  | .Starred .. => true
  | _ => false
def plainIx : Expr → Bool
  | .Slice .. => false
  | _ => true
/-- not of the form f() (super()) -/
def plainBase : Expr → Bool
  | .Call (.Name _ _) [] [] _ => false
  | _ => true
def isSet : Expr → Bool
  | .Set .. => true
  | _ => false

/-- one level of the evaluator: values, operands, tests -/
structure Lv where
  x : Scope → Expr → Env → M (D × Bool)
  o : Scope → Expr → Env → M Op
  t : Scope → Expr → Env → M Bool

section
variable (c : Cfg) (L : Lv)
def argsX (sc : Scope) : List Expr → Env → M (List D)
  | [], _ => ret []
  | e :: r, env => if isStar e then fail else bnd (L.x sc e env) fun p => bnd (argsX sc r env) fun ps => ret (p.1 :: ps)
def argsO (sc : Scope) : List Expr → Env → M (List Op)
  | [], _ => ret []
  | e :: r, env => if isStar e then fail else bnd (L.o sc e env) fun p => bnd (argsO sc r env) fun ps => ret (p :: ps)
def views (env : Env) : List Op → M (List D)
  | [] => ret []
  | p :: r => bnd (vw env p) fun d => bnd (views env r) fun ds => ret (d :: ds)
def arithM (env : Env) (op : Operator) (p q : Op) : M (D × Bool) := fun st => match view env st p, view env st q with
  | some x, some y => if noScr st p && noScr st q then (match arith op x y with
    | some r => some (r, st)
    | none => none) else none
  | _, _ => none
def cmpM (env : Env) (op : CmpOp) (p q : Op) : M Bool := fun st => match view env st p, view env st q with
  | some x, some y => (match cmp op x y with
    | some b => some (b, st)
    | none => none)
  | _, _ => none
def boolX (sc : Scope) (op : BoolOp) : List Expr → Env → M (D × Bool)
  | [], _ => fail
  | [a], env => L.x sc a env
  | a :: r, env => bnd (L.x sc a env) fun p => bnd (lift (truth p.1)) fun b => (match op with
    | .And => if b = true then boolX sc op r env else ret p
    | .Or => if b = true then ret p else boolX sc op r env)
def boolT (sc : Scope) (op : BoolOp) : List Expr → Env → M Bool
  | [], _ => fail
  | [a], env => L.t sc a env
  | a :: r, env => bnd (L.t sc a env) fun b => (match op with
    | .And => if b = true then boolT sc op r env else ret false
    | .Or => if b = true then ret true else boolT sc op r env)
def part (sc : Scope) : Option Expr → Env → M (Option Int)
  | none, _ => ret none
  | some e, env => bnd (L.x sc e env) fun p => (match p.1 with
    | .int i => ret (some i)
    | _ => fail)
def isTup : Expr → Bool
  | .Tuple .. => true
  | _ => false
def isName : Expr → Option Str
  | .Name x _ => some x
  | _ => none
/-- the slots of a target: a name, or a row of names -/
def tgNames (sc : Scope) : List Expr → Option (List Nat)
  | [] => some []
  | e :: r => (match isName e with
    | some x => (match locOf c sc x, tgNames sc r with
      | some j, some js => some (j :: js)
      | _, _ => none)
    | none => none)
def tgSlots (sc : Scope) : Expr → Option (List Nat)
  | .Name x _ => (locOf c sc x).map fun j => [j]
  | .Tuple es _ _ => tgNames c sc es
  | _ => none
def setE : Env → List Nat → List D → Option Env
  | env, [], [] => some env
  | env, j :: js, d :: ds => setE (env.set j (some (.frz d))) js ds
  | _, _, _ => none
def asg (tp : Bool) (js : List Nat) (d : D) (env : Env) : Option Env := if tp = true then (match d with
    | .tuple ds => setE env js ds
    | _ => none)
  else (match js with
    | [j] => some (env.set j (some (.frz d)))
    | _ => none)
/-- what a loop walks: its items, and what must stay as it is -/
structure Src where
  items : List D
  deps : List (Op × D)
def Src.ok (s : Src) (env : Env) (st : S) : Bool := s.deps.all fun p => match view env st p.1 with
  | some d => same d p.2
  | none => false
def enumD (xs : List D) : List D := xs.zipIdx.map fun p => .tuple [.int p.2, p.1]
def zipD (xs ys : List D) : List D := (xs.zip ys).map fun p => .tuple [p.1, p.2]
def signsD (z : Str) : List D := z.cps.toList.map fun k => .str ⟨#[k]⟩
def small (i : Int) : Bool := decide (-(2 ^ 62) ≤ i) && decide (i < 2 ^ 62)
def seqOf : D → Option (List D)
  | .list xs => some xs
  | .tuple xs => some xs
  | _ => none
inductive IK where
  | range1 (a : Expr) | range2 (a b : Expr) | enum (a : Expr) | zip (a b : Expr) | rev (a : Expr) | plain
def ikOf (sc : Scope) : Expr → IK
  | .Call (.Name f _) [a] [] _ => if isGl sc f then (if f = ("range" : Str) then .range1 a else if f = ("enumerate" : Str) then .enum a else if f = ("reversed" : Str) then .rev a else .plain) else .plain
  | .Call (.Name f _) [a, b] [] _ => if isGl sc f then (if f = ("range" : Str) then .range2 a b else if f = ("zip" : Str) then .zip a b else .plain) else .plain
  | _ => .plain
def srcOf (sc : Scope) (tg iter : Expr) (env : Env) : M Src := match ikOf sc iter with
  | .range1 a => if isStar a then fail else bnd (L.x sc a env) fun p => (match p.1 with
    | .int n => if small n then ret ⟨(List.range n.toNat).map fun (i : Nat) => PyData.int (0 + (i : Int)), []⟩ else fail
    | _ => fail)
  | .range2 a b => if isStar a || isStar b then fail else bnd (L.x sc a env) fun p => bnd (L.x sc b env) fun q => (match p.1, q.1 with
    | .int i, .int j => if small i && small j then ret ⟨(List.range (j - i).toNat).map fun (k : Nat) => PyData.int (i + (k : Int)), []⟩ else fail
    | _, _ => fail)
  | .enum a => if isStar a || !isTup tg then fail else bnd (L.o sc a env) fun p => bnd (vw env p) fun d => (match d with
    | .list xs => ret ⟨enumD xs, [(p, d)]⟩
    | .tuple xs => ret ⟨enumD xs, [(p, d)]⟩
    | _ => fail)
  | .zip a b => if isStar a || isStar b || !isTup tg then fail else bnd (L.o sc a env) fun p => bnd (L.o sc b env) fun q => bnd (vw env p) fun d => bnd (vw env q) fun e => (match d, e with
    | .list xs, .list ys => ret ⟨zipD xs ys, [(p, d), (q, e)]⟩
    | .tuple xs, .tuple ys => ret ⟨zipD xs ys, [(p, d), (q, e)]⟩
    | _, _ => fail)
  | .rev a => fail
  | .plain => if isSet iter then fail else bnd (L.o sc iter env) fun p => bnd (vw env p) fun d => (match d with
    | .list xs => ret ⟨xs, [(p, d)]⟩
    | .tuple xs => ret ⟨xs, [(p, d)]⟩
    | .str z => ret ⟨signsD z, [(p, d)]⟩
    | _ => fail)
/-- a comprehension's own names by their slots -/
def ownOf (scope : Scope) : List (Str × Nat) := scope.names.filterMap fun y => match y.2 with
  | .local | .cell => (place y.1 c.N 0).map fun j => (y.1, j)
  | _ => none
def wipeE (env : Env) : List Nat → Env
  | [] => env
  | j :: r => (wipeE env r).set j none
def compLoop (s : Src) (env : Env) (asgn : D → Option Env) (test : Env → M Bool) (elt : Env → M (D × Bool)) : List D → List D → M (List D)
  | [], acc => fun st => if s.ok env st = true then some (acc, st) else none
  | d :: r, acc => fun st => if s.ok env st = true then (match asgn d with
    | some env1 => (match test env1 st with
      | some (true, st1) => if acc.length < line then (match elt env1 st1 with
        | some (p, st2) => compLoop s env asgn test elt r (acc ++ [p.1]) st2
        | none => none) else none
      | some (false, st1) => compLoop s env asgn test elt r acc st1
      | none => none)
    | none => none) else none
def testsM (sc : Scope) : List Expr → Env → M Bool
  | [], _ => ret true
  | [e], env => L.t sc e env
  | _, _ => fail
def compX1 (sc : Scope) (elt tg iter : Expr) (ifs : List Expr) (scope : Scope) (env : Env) : M (D × Bool) :=
  if L2.blkC c.N sc scope (ownOf c scope) = true then bnd (srcOf L sc tg iter env) fun s =>
    (match tgSlots c scope tg with
    | some vs => if vs.all (fun j => (ownOf c scope).any fun p => p.2 == j) = true then
        bnd (compLoop s (wipeE env ((ownOf c scope).map (·.2))) (fun d => asg (isTup tg) vs d (wipeE env ((ownOf c scope).map (·.2)))) (testsM L (L2.relS scope sc) ifs) (L.x (L2.relS scope sc) elt) s.items []) fun ds => ret (.list ds, true)
      else fail
    | none => fail)
  else fail
/-- a new list in a display goes to the small heap, where the def's row says so -/
def hpD (c : Cfg) (p : D × Bool) : M D := if (c.hp.contains ("{}" : Str) && p.2) = true then (match p.1 with
  | .list xs => fun st => some (mkRef st.length, st ++ [.lst xs])
  | _ => fail)
  else ret p.1
/-- a display's pairs -/
def pairsX (sc : Scope) : List (Option Expr) → List Expr → Env → M (List (D × D))
  | [], [], _ => ret []
  | some k :: ks, v :: vs, env => bnd (L.x sc k env) fun p => bnd (L.x sc v env) fun q => if (keyOf p.1).isSome = true then bnd (hpD c q) fun d => bnd (pairsX sc ks vs env) fun r => ret ((p.1, d) :: r) else fail
  | _, _, _ => fail
/-- the classes of isinstance's second place -/
def clsNames (sc : Scope) : Expr → Option (List String)
  | .Name x _ => if isGl sc x then (["bool", "int", "str", "list", "tuple", "dict"].find? fun n => x = Str.ofString n).map fun n => [n] else none
  | _ => none
def isinstX (sc : Scope) (args : List Expr) (env : Env) : M (D × Bool) := match args with
  | [a, b] => if isStar a then fail else (match clsNames sc b with
    | some [n] => bnd (L.o sc a env) fun p => bnd (vw env p) fun d => (match (tyName d).bind fun t => isA t n with
      | some k => ret (.bool k, false)
      | none => fail)
    | _ => fail)
  | _ => fail
/-- the name of an own dict that the def walks (in the row's own and in its hp) -/
def walked (c : Cfg) : Expr → Option Str
  | .Name x _ => if (c.own.contains x && c.hp.contains x) = true then some x else none
  | _ => none
/-- all([..]) over the keys of an own dict -/
def allWalk (c : Cfg) (sc : Scope) (f : Str) : List Expr → Option (Expr × Expr × Str × List Expr × Scope)
  | [.ListComp elt [⟨tg, iter, ifs, 0⟩] scope _] => if (isGl sc f && (decide (f = ("all" : Str)) && (c.funs.lookup f).isNone)) = true then (walked c iter).map fun x => (elt, tg, x, ifs, scope) else none
  | _ => none
def allW (sc : Scope) (elt tg : Expr) (x : Str) (ifs : List Expr) (scope : Scope) (env : Env) : M (D × Bool) :=
  if L2.blkC c.N sc scope (ownOf c scope) = true then (match tgSlots c scope tg, slotOf c sc x with
    | some vs, some j => if vs.all (fun j => (ownOf c scope).any fun p => p.2 == j) = true then (match env[j]? with
      | some (some (.own (.dict kvs))) => bnd (compLoop ⟨kvs.map (·.1), []⟩ (wipeE (env.set j (some (.frz (.dict kvs)))) ((ownOf c scope).map (·.2))) (fun d => asg (isTup tg) vs d (wipeE (env.set j (some (.frz (.dict kvs)))) ((ownOf c scope).map (·.2)))) (testsM L (L2.relS scope sc) ifs) (L.x (L2.relS scope sc) elt) (kvs.map (·.1)) []) fun ds st =>
        if st.isEmpty = true then lift (builtin "all" [.list ds]) st else none
      | _ => fail) else fail
    | _, _ => fail)
  else fail
/-- tuple(range(a)) -/
def tupRg (sc : Scope) (f : Str) : List Expr → Option Expr
  | [.Call (.Name g _) [a] [] _] => if (isGl sc g && decide (f = ("tuple" : Str)) && decide (g = ("range" : Str)) && !isStar a) = true then some a else none
  | _ => none
/-- len(set(a)) -/
def lenSet (sc : Scope) (f : Str) : List Expr → Option Expr
  | [.Call (.Name g _) [a] [] _] => if (isGl sc g && decide (f = ("len" : Str)) && decide (g = ("set" : Str)) && !isStar a) = true then some a else none
  | _ => none
/-- of a list of unlike numbers -/
def lenSetD : D → Option D
  | .list xs => (allInts xs).bind fun ns => if ns.Nodup ∧ ns.length ≤ 4000 then some (.int ns.length) else none
  | _ => none
/-- tuple(reversed(a)) of a tuple -/
def revTup (sc : Scope) (f : Str) : List Expr → Option Expr
  | [.Call (.Name g _) [a] [] _] => if (isGl sc g && decide (f = ("tuple" : Str)) && decide (g = ("reversed" : Str)) && !isStar a) = true then some a else none
  | _ => none
def revTupD : D → Option D
  | .tuple xs => some (.tuple xs.reverse)
  | _ => none
/-- the call of a local name that holds a def -/
def callL (sc : Scope) (j : Nat) (args : List Expr) (env : Env) : M (D × Bool) := match env[j]? with
  | some (some (.fn g)) => (match c.funs.lookup g with
    | some _ => if (args.isEmpty || !args.all fun e => !isStar e) = true then fail else if isM g = true then fail else bnd (argsX L sc args env) fun ds => c.call g ds
    | none => fail)
  | _ => fail
/-- an instance's attribute -/
def fldM (f : Str) (d : D) : M (D × Bool) := match refOf? d with
  | some i => fun st => (match st[i]? with
    | some (.ins _ fs) => (match fs.lookup f with
      | some x => some ((x, false), st)
      | none => none)
    | _ => none)
  | none => fail
/-- .. written -/
def putFD (f : Str) (d : D) : List (Str × D) → List (Str × D)
  | [] => [(f, d)]
  | (g, x) :: r => if g = f then (g, d) :: r else (g, x) :: putFD f d r
def setM (f : Str) (x : D) (d : D) : M Unit := match refOf? d with
  | some i => fun st => (match st[i]? with
    | some (.ins c fs) => if fs.length < 1000 then some ((), st.set i (.ins c (putFD f x fs))) else none
    | _ => none)
  | none => fail
/-- a new list goes to the small heap -/
def heapD (p : D × Bool) : M D := if p.2 = true then (match p.1 with
  | .list xs => fun st => some (mkRef st.length, st ++ [.lst xs])
  | _ => fail)
  else ret p.1
/-- an instance that has no attribute of the name -/
def isInsM (m : Str) (d : D) : M Unit := match refOf? d with
  | some i => fun st => (match st[i]? with
    | some (.ins _ fs) => if (fs.lookup m).isNone = true then some ((), st) else none
    | _ => none)
  | none => fail
def isW (c : Cfg) : Bool := (c.funs.lookup (mName "__init__")).isSome
/-- o.m(args), m a method of the text's class -/
def methX (sc : Scope) (o : Expr) (m : Str) (args : List Expr) (env : Env) : M (D × Bool) := bnd (L.x sc o env) fun p => bnd (isInsM m p.1) fun _ => bnd (argsX L sc args env) fun ds => c.call (mName m) (p.1 :: ds)
/-- the class called -/
def makeX (sc : Scope) (args : List Expr) (env : Env) : M (D × Bool) := bnd (argsX L sc args env) fun ds st => (match c.call (mName "__init__") (mkRef st.length :: ds) (st ++ [.ins wCls []]) with
  | some ((.none, false), st') => some ((mkRef st.length, false), st')
  | _ => none)
def callX (sc : Scope) (f : Str) (args : List Expr) (env : Env) : M (D × Bool) :=
  if isGl sc f = true then
    (match c.funs.lookup f with
    | some _ => bnd (argsX L sc args env) fun ds => c.call f ds
    | none => if f = ("isinstance" : Str) then isinstX L sc args env
      else match tupRg sc f args with
      | some a => bnd (L.x sc a env) fun p => (match p.1 with
        | .int n => if 0 ≤ n ∧ n ≤ 1000000 then ret (.tuple ((List.range n.toNat).map fun (i : Nat) => PyData.int (i : Int)), false) else fail
        | _ => fail)
      | none => match lenSet sc f args with
        | some a => bnd (L.o sc a env) fun p => bnd (vw env p) fun d => bnd (lift (lenSetD d)) fun r => ret (r, false)
        | none => match revTup sc f args with
          | some a => bnd (L.o sc a env) fun p => bnd (vw env p) fun d => bnd (lift (revTupD d)) fun r => ret (r, false)
          | none => if builtins.contains f = true then bnd (argsO L sc args env) fun ps => bnd (views env ps) fun ds => lift (builtin f ds)
      else fail)
  else (match slotOf c sc f with
    | some j => callL c L sc j args env
    | none => fail)
/-- the class called, where the name is the class's -/
def isMake (c : Cfg) (sc : Scope) (f : Str) (args : List Expr) : Bool := isGl sc f && decide (f = wCls) && isW c && !args.isEmpty && args.all fun e => !isStar e
/-- d.get(k, z) of a list z that is nobody's -/
def getF (m : Str) (d : D) (ds : List D) (ps : List Op) : Option D := if m = ("get" : Str) then (match d, ds, ps with
  | .dict kvs, [q, .list zs], [_, .v z] => if (refOf? z).isNone = true then (keyOf q).map fun k => (dval kvs k).getD (.list zs) else none
  | _, _, _ => none) else none
def compX (sc : Scope) (e : Expr) : Env → M (D × Bool) := match e with
  | .Constant (.int i) _ _ => fun env => ret (.int i, false)
  | .Constant (.str z) _ _ => fun env => ret (.str z, false)
  | .Constant (.bool b) _ _ => fun env => ret (.bool b, false)
  | .Constant .none _ _ => fun env => ret (.none, false)
  | .Name x _ => fun env => (match slotOf c sc x with
    | some j => (match env[j]? with
      | some (some (.frz d)) => ret (d, false)
      | _ => fail)
    | none => if isGl sc x = true then (match c.consts.lookup x with
      | some d => ret (d, false)
      | none => fail) else fail)
  | .BinOp a op b _ => fun env => bnd (L.o sc a env) fun p => bnd (L.o sc b env) fun q => arithM env op p q
  | .UnaryOp .USub a _ => fun env => bnd (L.x sc a env) fun p => (match p.1 with
    | .int i => ret (.int (-i), false)
    | _ => fail)
  | .UnaryOp .Not a _ => fun env => bnd (L.o sc a env) fun p => bnd (vw env p) fun d => bnd (lift (truth d)) fun b => ret (.bool (!b), false)
  | .BoolOp op vs _ => fun env => boolX L sc op vs env
  | .Compare l [op] [r] _ => fun env => if isSet r then fail else bnd (L.o sc l env) fun p => bnd (L.o sc r env) fun q => bnd (cmpM env op p q) fun b => ret (.bool b, false)
  | .Compare l [op, op'] [m, r] _ => fun env => if isSet r then fail else bnd (L.o sc l env) fun p => bnd (L.o sc m env) fun q => bnd (cmpM env op p q) fun b =>
      if b = true then bnd (L.o sc r env) fun q' => bnd (cmpM env op' q q') fun b' => ret (.bool b', false) else ret (.bool false, false)
  | .IfExp t a b _ => fun env => bnd (L.t sc t env) fun k => if k = true then L.x sc a env else L.x sc b env
  | .Subscript a (.Slice none none (some (.UnaryOp .USub (.Constant (.int 1) _ _) _)) _) _ => fun env => bnd (L.o sc a env) fun p => bnd (vw env p) fun d => (match d with
    | .list xs => ret (.list xs.reverse, true)
    | .tuple xs => ret (.tuple xs.reverse, false)
    | _ => fail)
  | .Subscript a (.Slice lo hi none _) _ => fun env => bnd (L.o sc a env) fun p => bnd (part L sc lo env) fun l => bnd (part L sc hi env) fun u => bnd (vw env p) fun d => lift (slice d l u)
  | .Subscript a i _ => fun env => if plainIx i then bnd (L.o sc a env) fun p => bnd (L.o sc i env) fun q => bnd (vw env p) fun d => bnd (vw env q) fun k => bnd (lift (item d k)) fun r => ret (r, false) else fail
  | .Tuple es _ _ => fun env => bnd (argsX L sc es env) fun ds => if ds.length ≤ line then ret (.tuple ds, false) else fail
  | .List es _ => fun env => bnd (argsX L sc es env) fun ds => if ds.length ≤ line then ret (.list ds, true) else fail
  | .Dict [] [] _ => fun env => ret (.dict [], true)
  | .Dict (k :: ks) vs _ => fun env => if (k :: ks).length ≤ 15 then bnd (pairsX c L sc (k :: ks) vs env) fun kvs => ret (.dict (dmerge [] kvs), true) else fail
  | .ListComp elt [⟨tg, iter, ifs, 0⟩] scope _ => fun env => compX1 c L sc elt tg iter ifs scope env
  | .Call (.Name f _) args [] _ => match allWalk c sc f args with
    | some q => fun env => allW c L sc q.1 q.2.1 q.2.2.1 q.2.2.2.1 q.2.2.2.2 env
    | none => if isMake c sc f args = true then makeX c L sc args else fun env => callX c L sc f args env
  | .Attribute o f _ => if (wFlds.contains f && plainBase o && isW c) = true then fun env => bnd (L.x sc o env) fun p => fldM f p.1 else fun _ => fail
  | .Call (.Attribute o m ap) args [] cp => if (isW c && (c.funs.lookup (mName m)).isSome) = true then (if (plainBase o && (args.all fun e => !isStar e) && decide (args.length < 20) && (ap.endLine == cp.line)) = true then methX c L sc o m args else fun _ => fail) else fun env => if (ap.endLine == cp.line) && decide (args.length < 20) && !args.isEmpty && plainBase o then bnd (L.o sc o env) fun p => bnd (vw env p) fun d0 => bnd (argsO L sc args env) fun ps => bnd (vw env p) fun d => bnd (views env ps) fun ds =>
      if tyName d0 = tyName d then (match getF m d ds ps with | some r => ret (r, false) | none => lift (method m d ds)) else fail else fail
  | _ => fun env => fail
def compO (sc : Scope) (e : Expr) : Env → M Op := match e with
  | .Name x _ => fun env => (match slotOf c sc x with
    | some j => (match env[j]? with
      | some (some (.own _)) => ret (.o j)
      | some (some (.frz d)) => ret (.v d)
      | _ => fail)
    | none => bnd (compX c L sc e env) fun p => ret (.v p.1))
  | e => fun env => bnd (compX c L sc e env) fun p => ret (.v p.1)
def compT (sc : Scope) (e : Expr) : Env → M Bool := match e with
  | .UnaryOp .Not a _ => fun env => bnd (L.t sc a env) fun b => ret (!b)
  | .BoolOp op vs _ => fun env => boolT L sc op vs env
  | .Compare l [op] [r] _ => fun env => if isSet r then fail else bnd (L.o sc l env) fun p => bnd (L.o sc r env) fun q => cmpM env op p q
  | .Compare l [op, op'] [m, r] _ => fun env => if isSet r then fail else bnd (L.o sc l env) fun p => bnd (L.o sc m env) fun q => bnd (cmpM env op p q) fun b =>
      if b = true then bnd (L.o sc r env) fun q' => cmpM env op' q q' else ret false
  | .Compare .. => fun env => fail
  | .IfExp t a b _ => fun env => bnd (L.t sc t env) fun k => if k = true then L.t sc a env else L.t sc b env
  | e => fun env => bnd (compO c L sc e env) fun p => bnd (vw env p) fun d => lift (truth d)
end
def lv (c : Cfg) : Nat → Lv
  | 0 => ⟨fun _ _ _ => fail, fun _ _ _ => fail, fun _ _ _ => fail⟩
  | n + 1 => ⟨compX c (lv c n), compO c (lv c n), compT c (lv c n)⟩

/-- how a statement ends -/
inductive Fl where
  | next (env : Env)
  | ret (d : D) (fl : Bool)
  | brk (env : Env)
  | cont (env : Env)
def isComp : Expr → Bool
  | .ListComp .. => true
  | .SetComp .. => true
  | .DictComp .. => true
  | _ => false
/-- the stores of a, b = x, y go from the right (plain names on one line, not all constants) -/
def nmOf (sc : Scope) (l : Nat) : Expr → Option Str
  | .Name x p => if sc.names.lookup x = some .local ∧ p.line = l then some x else none
  | _ => none
def lnOf : List Expr → Nat
  | [] => 0
  | e :: _ => e.pos.line
def swOk (sc : Scope) (ts vs : List Expr) : Bool :=
  (ts.length == 2 || ts.length == 3) && vs.length == ts.length && vs.all (fun e => !isStar e) && ts.all (fun t => (nmOf sc (lnOf ts) t).isSome) && decide ((ts.filterMap (nmOf sc (lnOf ts))).Nodup) && !vs.all (foldedForSure 8) && !vs.all (constantsAlone 8)
/-- .. or from the left (some name is captured, or stands on another line) -/
def swNo (sc : Scope) (ts vs : List Expr) : Bool := vs.all (fun e => !isStar e) && (decide ((ts.filterMap (nmOf sc (lnOf ts))).length ≠ ts.length) || vs.all (foldedForSure 8))

section
variable (c : Cfg) (L : Lv) (R : Scope → Stmt → Env → M Fl)
def blk (sc : Scope) : List Stmt → Env → M Fl
  | [], env => ret (.next env)
  | s :: r, env => bnd (R sc s env) fun f => (match f with
    | .next env1 => blk sc r env1
    | .ret d fl => ret (.ret d fl)
    | .brk env1 => ret (.brk env1)
    | .cont env1 => ret (.cont env1))
/-- a name stored -/
def store (sc : Scope) (x : Str) (p : D × Bool) (env : Env) : M Env := match locOf c sc x with
  | some j => if (p.2 && c.own.contains x) = true then ret (env.set j (some (.own p.1)))
    else if (p.2 && c.hp.contains x) = true then (match p.1 with
      | .list xs => fun st => some (env.set j (some (.frz (mkRef st.length))), st ++ [.lst xs])
      | _ => fail)
    else ret (env.set j (some (.frz p.1)))
  | none => fail
/-- a name that holds its own list -/
def ownName (sc : Scope) (e : Expr) (env : Env) : Option D := match e with
  | .Name x _ => (match slotOf c sc x with
    | some j => (match env[j]? with
      | some (some (.own d)) => some d
      | _ => none)
    | none => none)
  | _ => none
/-- a list changed: the name's own, or one of the small heap -/
def putOp (env : Env) (p : Op) (new : List D) : M Env := match p with
  | .o j => ret (env.set j (some (.own (.list new))))
  | .v d => (match refOf? d with
    | some i => fun st => (match st[i]? with
      | some (.lst _) => some (env, st.set i (.lst new))
      | _ => none)
    | none => fail)
/-- a dict changed: a name's own -/
def putD (env : Env) (p : Op) (new : List (D × D)) : M Env := match p with
  | .o j => ret (env.set j (some (.own (.dict new))))
  | .v _ => fail
/-- a frozen value (so no object that a name or the small heap holds) -/
def frzOp : Op → Bool
  | .v d => (refOf? d).isNone
  | .o _ => false
def forLoop (s : Src) (asgn : D → Env → Option Env) (body : Env → M Fl) : List D → Env → M Fl
  | [], env => fun st => if s.ok env st = true then some (.next env, st) else none
  | d :: r, env => fun st => if s.ok env st = true then (match asgn d env with
    | some env1 => (match body env1 st with
      | some (.next env2, st2) => forLoop s asgn body r env2 st2
      | some (.cont env2, st2) => forLoop s asgn body r env2 st2
      | some (.brk env2, st2) => some (.next env2, st2)
      | some (.ret d fl, st2) => some (.ret d fl, st2)
      | none => none)
    | none => none) else none
/-- defs' names, one behind the other -/
def fnNames (c : Cfg) (sc : Scope) : List Expr → Option (List Str)
  | [] => some []
  | .Name g _ :: r => if (isGl sc g && (c.funs.lookup g).isSome) = true then (fnNames c sc r).map (g :: ·) else none
  | _ => none
def fnsOf (c : Cfg) (sc : Scope) (tg : Expr) : Expr → Option (Nat × List Str)
  | .Tuple (e :: es) _ _ => (match tg with
    | .Name x _ => (locOf c sc x).bind fun j => (fnNames c sc (e :: es)).bind fun gs => if gs.length ≤ 1000 then some (j, gs) else none
    | _ => none)
  | _ => none
/-- a loop over defs -/
def walkF (body : Env → M Fl) (j : Nat) : List Str → Env → M Fl
  | [], env => ret (.next env)
  | g :: r, env => bnd (body (env.set j (some (.fn g)))) fun f => (match f with
    | .next e => walkF body j r e
    | .cont e => walkF body j r e
    | .brk e => ret (.next e)
    | .ret d fl => ret (.ret d fl))
def fnPairs (c : Cfg) (sc : Scope) : List Expr → Option (List (Str × Expr))
  | [] => some []
  | .Tuple [.Name g _, e] _ _ :: r => if (isGl sc g && (c.funs.lookup g).isSome && !isStar e) = true then (fnPairs c sc r).map ((g, e) :: ·) else none
  | _ => none
def fnsOf2 (c : Cfg) (sc : Scope) (tg : Expr) : Expr → Option (Nat × Nat × List (Str × Expr))
  | .Tuple (e :: es) _ _ => (match tg with
    | .Tuple [.Name x _, .Name y _] _ _ => (locOf c sc x).bind fun j => (locOf c sc y).bind fun i => (fnPairs c sc (e :: es)).bind fun qs => if qs.length ≤ 1000 then some (j, i, qs) else none
    | _ => none)
  | _ => none
/-- a loop over rows of a def and a value -/
def walkF2 (body : Env → M Fl) (j i : Nat) : List (Str × D) → Env → M Fl
  | [], env => ret (.next env)
  | (g, d) :: r, env => bnd (body ((env.set j (some (.fn g))).set i (some (.frz d)))) fun f => (match f with
    | .next e => walkF2 body j i r e
    | .cont e => walkF2 body j i r e
    | .brk e => ret (.next e)
    | .ret d fl => ret (.ret d fl))
/-- a walk through an own dict: it is given up -/
def walkD (asgn : D → Env → Option Env) (body : Env → M Fl) (j : Nat) (env : Env) : M Fl := match env[j]? with
  | some (some (.own (.dict kvs))) => forLoop ⟨kvs.map (·.1), []⟩ asgn body (kvs.map (·.1)) (env.set j (some (.frz (.dict kvs))))
  | _ => fail
def whileLoop (test : Env → M Bool) (body : Env → M Fl) : Nat → Env → M Fl
  | 0, _ => fail
  | n + 1, env => bnd (test env) fun b => if b = true then bnd (body env) fun f => (match f with
      | .next env2 => whileLoop test body n env2
      | .cont env2 => whileLoop test body n env2
      | .brk env2 => ret (.next env2)
      | .ret d fl => ret (.ret d fl))
    else ret (.next env)
/-- own lists that a loop walks are given up -/
def freezeE (env : Env) : List (Op × D) → Env
  | [] => env
  | (.o j, d) :: r => freezeE (env.set j (some (.frz d))) r
  | (.v _, _) :: r => freezeE env r
def freezeD : List (Op × D) → List (Op × D)
  | [] => []
  | (.o _, d) :: r => (.v d, d) :: freezeD r
  | (.v e, d) :: r => (.v e, d) :: freezeD r
/-- methods that change a list -/
def muts : List Str := ["append", "extend", "pop", "update", "insert", "remove"]
/-- o.m(args), with the names behind it -/
def mutX (sc : Scope) (o : Expr) (m : Str) (args : List Expr) (env : Env) : M (D × Env) := match args with
  | [a] => if isStar a = true then fail else bnd (L.o sc o env) fun p => bnd (vw env p) fun d0 => (match d0 with
    | .list _ =>
      if m = ("append" : Str) then bnd (L.x sc a env) fun q => bnd (vw env p) fun d => (match d with
        | .list xs => if xs.length < line then bnd (putOp env p (xs ++ [q.1])) fun env1 => ret (.none, env1) else fail
        | _ => fail)
      else if m = ("extend" : Str) then bnd (L.o sc a env) fun q => bnd (vw env p) fun d => bnd (vw env q) fun e => (match d, e with
        | .list xs, .list ys => fun st => if noScr st q = true ∧ xs.length + ys.length ≤ line then bnd (putOp env p (xs ++ ys)) (fun env1 => ret (.none, env1)) st else none
        | .list xs, .tuple ys => fun st => if noScr st q = true ∧ xs.length + ys.length ≤ line then bnd (putOp env p (xs ++ ys)) (fun env1 => ret (.none, env1)) st else none
        | _, _ => fail)
      else if m = ("pop" : Str) then bnd (L.x sc a env) fun q => bnd (vw env p) fun d => (match d, q.1 with
        | .list xs, .int i => if xs.length ≤ line then (match L2.ixN xs.length i with
          | some k => (match xs[k]? with
            | some y => bnd (putOp env p (xs.eraseIdx k)) fun env1 => ret (y, env1)
            | none => fail)
          | none => fail) else fail
        | _, _ => fail)
      else if m = ("remove" : Str) then bnd (L.x sc a env) fun q => bnd (vw env p) fun d => (match d with
        | .list xs => if (xs.length ≤ line && shapedB q.1 && shapedB (.list xs)) = true then (match indexOf q.1 xs 0 with
          | some k => bnd (putOp env p (xs.eraseIdx k)) fun env1 => ret (.none, env1)
          | none => fail) else fail
        | _ => fail)
      else fail
    | .dict _ => if m = ("update" : Str) then bnd (L.o sc a env) fun q => bnd (vw env p) fun d => bnd (vw env q) fun e => (match d, e with
        | .dict xs, .dict ys => if (frzOp q && decide (xs.length + ys.length ≤ line)) = true then bnd (putD env p (dmerge xs ys)) fun env1 => ret (.none, env1) else fail
        | _, _ => fail)
      else fail
    | _ => fail)
  | [b, a] => if (isStar b || isStar a || !decide (m = ("insert" : Str))) = true then fail else bnd (L.o sc o env) fun p => bnd (vw env p) fun d0 => (match d0 with
    | .list _ => bnd (L.x sc b env) fun q1 => bnd (L.x sc a env) fun q => bnd (vw env p) fun d => (match d, q1.1 with
      | .list xs, .int i => if xs.length < line ∧ 0 ≤ i ∧ i ≤ xs.length then bnd (putOp env p (xs.take i.toNat ++ [q.1] ++ xs.drop i.toNat)) fun env1 => ret (.none, env1) else fail
      | _, _ => fail)
    | _ => fail)
  | _ => fail
/-- a row of targets: names, attributes -/
inductive TgI where
  | nm (j : Nat)
  | at_ (o : Expr) (f : Str)
def isAttr : Expr → Bool
  | .Attribute .. => true
  | _ => false
def tgItem (c : Cfg) (sc : Scope) : Expr → Option TgI
  | .Name x _ => (locOf c sc x).map .nm
  | .Attribute o f _ => if (wFlds.contains f && plainBase o && isW c) = true then some (.at_ o f) else none
  | _ => none
def tgItems (c : Cfg) (sc : Scope) : List Expr → Option (List TgI)
  | [] => some []
  | e :: r => (tgItem c sc e).bind fun t => (tgItems c sc r).map (t :: ·)
def asgA (sc : Scope) : List TgI → List D → Env → M Env
  | [], [], env => ret env
  | .nm j :: r, d :: ds, env => asgA sc r ds (env.set j (some (.frz d)))
  | .at_ o f :: r, d :: ds, env => bnd (L.x sc o env) fun q => bnd (setM f d q.1) fun _ => asgA sc r ds env
  | _, _, _ => fail
def mutOk (ap cp : Pos) (m : Str) (o : Expr) : Bool := (ap.endLine == cp.line) && muts.contains m && plainBase o
def compS (sc : Scope) (s : Stmt) : Env → M Fl := match s with
  | .Pass _ => fun env => ret (.next env)
  | .Break _ => fun env => ret (.brk env)
  | .Continue _ => fun env => ret (.cont env)
  | .Return none _ => fun env => ret (.ret .none false)
  | .Return (some e) _ => fun env => (match ownName c sc e env with
    | some d => ret (.ret d true)
    | none => bnd (compX c L sc e env) fun p => ret (.ret p.1 p.2))
  | .If t a b _ => fun env => bnd (L.t sc t env) fun k => if k = true then blk R sc a env else blk R sc b env
  | .While t body [] _ => fun env => whileLoop (L.t sc t) (blk R sc body) (2 ^ 64) env
  | .For tg iter body [] _ => match fnsOf c sc tg iter with
    | some q => walkF (blk R sc body) q.1 q.2
    | none => match fnsOf2 c sc tg iter with
    | some q => fun env => bnd (argsX L sc (q.2.2.map (·.2)) env) fun ds => walkF2 (blk R sc body) q.1 q.2.1 ((q.2.2.map (·.1)).zip ds) env
    | none => match walked c iter with
    | some x => fun env => (match tgSlots c sc tg, slotOf c sc x with
      | some js, some j => walkD (asg (isTup tg) js) (blk R sc body) j env
      | _, _ => fail)
    | none => fun env => (match tgSlots c sc tg with
      | some js => bnd (srcOf L sc tg iter env) fun s => forLoop ⟨s.items, freezeD s.deps⟩ (asg (isTup tg) js) (blk R sc body) s.items (freezeE env s.deps)
      | none => fail)
  | .Assign [.Name x _] (.Call (.Attribute o m ap) args [] cp) _ => fun env => if mutOk ap cp m o = true then (match locOf c sc x with
      | some j => bnd (mutX L sc o m args env) fun p => ret (.next (p.2.set j (some (.frz p.1))))
      | none => fail)
    else bnd (compX c L sc (.Call (.Attribute o m ap) args [] cp) env) fun p => bnd (store c sc x p env) fun env1 => ret (.next env1)
  | .Assign [.Name x _] e _ => fun env => bnd (compX c L sc e env) fun p => bnd (store c sc x p env) fun env1 => ret (.next env1)
  | .Assign [.Tuple ts k tp] (.Tuple vs k2 p2) _ => fun env => if swOk sc ts vs = true then (match tgSlots c sc (.Tuple ts k tp) with
      | some js => bnd (argsX L sc vs env) fun ds => (match setE env js ds with
        | some env1 => ret (.next env1)
        | none => fail)
      | none => fail) else if swNo sc ts vs = true then (match tgSlots c sc (.Tuple ts k tp) with
      | some js => bnd (compX c L sc (.Tuple vs k2 p2) env) fun p => (match asg true js p.1 env with
        | some env1 => ret (.next env1)
        | none => fail)
      | none => fail) else fail
  | .Assign [.Attribute o f _] e _ => if (wFlds.contains f && plainBase o && isW c && !isComp e && !isTup e) = true then fun env => bnd (compX c L sc e env) fun p => bnd (heapD p) fun d => bnd (L.x sc o env) fun q => bnd (setM f d q.1) fun _ => ret (.next env) else fun _ => fail
  | .Assign [.Tuple ts k tp] e _ => if ts.any isAttr = true then (if isTup e = true then fun _ => fail else match tgItems c sc ts with
      | some js => fun env => bnd (compX c L sc e env) fun p => (match p.1 with
        | .tuple ds => bnd (asgA L sc js ds env) fun env1 => ret (.next env1)
        | _ => fail)
      | none => fun _ => fail) else fun env => if isTup e = true then fail else (match tgSlots c sc (.Tuple ts k tp) with
      | some js => bnd (compX c L sc e env) fun p => (match asg true js p.1 env with
        | some env1 => ret (.next env1)
        | none => fail)
      | none => fail)
  | .Assign [.Subscript o i _] e _ => fun env => if plainIx i = true ∧ isTup e = false then bnd (compX c L sc e env) fun q => bnd (L.o sc o env) fun p => bnd (L.x sc i env) fun k => bnd (vw env p) fun d => (match d, k.1 with
      | .list xs, .int n => (match L2.ixN xs.length n with
        | some j => bnd (putOp env p (xs.set j q.1)) fun env1 => ret (.next env1)
        | none => fail)
      | .dict kvs, n => (match keyOf n with
        | some j => if kvs.length < line then bnd (putD env p (dput kvs n j q.1)) fun env1 => ret (.next env1) else fail
        | none => fail)
      | _, _ => fail) else fail
  | .Expr (.Constant (.str _) _ _) _ => fun env => ret (.next env)
  | .Expr (.Call (.Attribute o m ap) args [] cp) _ => if mutOk ap cp m o = true then fun env => bnd (mutX L sc o m args env) fun p => ret (.next p.2) else fun env => bnd (compX c L sc (.Call (.Attribute o m ap) args [] cp) env) fun _ => ret (.next env)
  | .Expr (.Call f args ks p) _ => fun env => bnd (compX c L sc (.Call f args ks p) env) fun _ => ret (.next env)
  | _ => fun env => fail
end
def sv (c : Cfg) (n : Nat) : Nat → Scope → Stmt → Env → M Fl
  | 0 => fun _ _ _ => fail
  | m + 1 => compS c (lv c n) (sv c n m)
/-- a def's body run -/
def runBody (c : Cfg) (n m : Nat) (fd : FD) (ds : List D) : M (D × Bool) := bnd (blk (sv c n m) fd.sc fd.body (ds.map (fun d => some (.frz d)) ++ List.replicate (fd.N.length - ds.length) none)) fun f => (match f with
  | .ret d fl => ret (d, fl)
  | .next _ => ret (.none, false)
  | _ => fail)
/-- the defs of a text, to a depth -/
def callF (funs : List (Str × FD)) (consts : List (Str × D)) (n m : Nat) : Nat → Str → List D → M (D × Bool)
  | 0, _, _ => fail
  | k + 1, f, ds => (match funs.lookup f with
    | none => fail
    | some fd => if ds.length = fd.ps.length then
        (if (ds.all noRef && !fd.hp.contains ("{}" : Str)) = true then fun st => (match runBody ⟨fd.N, consts, funs, callF funs consts n m k, fd.own, fd.hp⟩ n m fd ds [] with
          | some (r, _) => if noRef r.1 = true then some (r, st) else none
          | none => none)
        else runBody ⟨fd.N, consts, funs, callF funs consts n m k, fd.own, fd.hp⟩ n m fd ds)
      else fail)
end Pz

/-! Pz3: how the evaluator's values stand for the layer's. -/
namespace Pz
open PySem PySem.Spec PyProof.Rows L2

abbrev Sg := L2.St
abbrev Fz := Addr → Prop
abbrev Mu := Nat → Option Addr

/-- a tuple that is known to its object, which bears no dict (made here, or of the module) -/
def TupN (K : PySem.W.Frag) (H : Hp) (a : Addr) (xs : List V) : Prop :=
  (∃ o, H a = some (.frz o (.tup xs)) ∧ o.dict = none) ∨ ∃ (o : Obj) (its : Array Value) (n : Nat), K.lookup a = some o ∧ o.cls = .type "tuple" ∧ o.dict = none ∧ o.data = .seq its n ∧ its.size ≤ sizeLine ∧ Vals xs its.toList
theorem TupN.seq {K : PySem.W.Frag} {H : Hp} {a : Addr} {xs : List V} (h : TupN K H a xs) : SqT K H a xs := by
  rcases h with ⟨o, h, _⟩ | ⟨o, its, n, h1, h2, _, h3⟩
  · exact .inl (.inr ⟨o, h⟩)
  · exact .inr ⟨o, its, n, h1, h2, h3⟩

mutual
/-- the data d stands at v: its lists at frozen addresses (F), its references by μ (objects of the small heap) or ν (the script) -/
inductive Rp (K : PySem.W.Frag) (ν : Mu) (F : Fz) (μ : Mu) (H : Hp) : D → V → Prop
  | non : Rp K ν F μ H .none .non
  | bl (b : Bool) : Rp K ν F μ H (.bool b) (.bl b)
  | int (i : Int) : Rp K ν F μ H (.int i) (.int i)
  | str (x : Str) : Rp K ν F μ H (.str x) (.str x)
  | tup {a : Addr} {xs : List V} {ds : List D} : TupN K H a xs → RpAll K ν F μ H ds xs → Rp K ν F μ H (.tuple ds) (.ref a)
  | lst {a : Addr} {xs : List V} {ds : List D} : F a → H a = some (.lst xs) → RpAll K ν F μ H ds xs → Rp K ν F μ H (.list ds) (.ref a)
  | ref {i : Nat} {a : Addr} : μ i = some a ∨ ν i = some a → Rp K ν F μ H (mkRef i) (.ref a)
  | dct {a : Addr} {kvs : List (D × D)} {vs : List (Key × V)} : F a → Rd H a (.dK vs) → KvAll K ν F μ H kvs vs → Rp K ν F μ H (.dict kvs) (.ref a)
inductive RpAll (K : PySem.W.Frag) (ν : Mu) (F : Fz) (μ : Mu) (H : Hp) : List D → List V → Prop
  | nil : RpAll K ν F μ H [] []
  | cons {d : D} {v : V} {ds : List D} {vs : List V} : Rp K ν F μ H d v → RpAll K ν F μ H ds vs → RpAll K ν F μ H (d :: ds) (v :: vs)
inductive KvAll (K : PySem.W.Frag) (ν : Mu) (F : Fz) (μ : Mu) (H : Hp) : List (D × D) → List (Key × V) → Prop
  | nil : KvAll K ν F μ H [] []
  | cons {q d : D} {k : Key} {v : V} {ds : List (D × D)} {vs : List (Key × V)} : keyOf q = some k → Rp K ν F μ H d v → KvAll K ν F μ H ds vs → KvAll K ν F μ H ((q, d) :: ds) ((k, v) :: vs)
end

/-- what stays -/
structure Keep (F : Fz) (μ : Mu) (H : Hp) (F' : Fz) (μ' : Mu) (H' : Hp) : Prop where
  f : ∀ a, F a → F' a
  m : ∀ i a, μ i = some a → μ' i = some a
  z : ∀ a o u, H a = some (.frz o u) → H' a = some (.frz o u)
  k : ∀ a, F a → H' a = H a
theorem Keep.refl (F : Fz) (μ : Mu) (H : Hp) : Keep F μ H F μ H := ⟨fun _ h => h, fun _ _ h => h, fun _ _ _ h => h, fun _ _ => rfl⟩
theorem Keep.trans {F F1 F2 : Fz} {μ μ1 μ2 : Mu} {H H1 H2 : Hp} (a : Keep F μ H F1 μ1 H1) (b : Keep F1 μ1 H1 F2 μ2 H2) : Keep F μ H F2 μ2 H2 :=
  ⟨fun x h => b.f x (a.f x h), fun i x h => b.m i x (a.m i x h), fun x y u h => b.z x y u (a.z x y u h), fun x h => (b.k x (a.f x h)).trans (a.k x h)⟩

section
variable {K : PySem.W.Frag} {ν : Mu} {F F' : Fz} {μ μ' : Mu} {H H' : Hp}
theorem Keep.tup (k : Keep F μ H F' μ' H') {a : Addr} {xs : List V} (h : TupN K H a xs) : TupN K H' a xs := by
  rcases h with ⟨o, h, e⟩ | h
  · exact .inl ⟨o, k.z _ _ _ h, e⟩
  · exact .inr h
mutual
theorem Rp.keep (k : Keep F μ H F' μ' H') : ∀ {d : D} {v : V}, Rp K ν F μ H d v → Rp K ν F' μ' H' d v
  | _, _, .non => .non
  | _, _, .bl b => .bl b
  | _, _, .int i => .int i
  | _, _, .str x => .str x
  | _, _, .tup h r => .tup (k.tup h) (RpAll.keep k r)
  | _, _, .lst h e r => .lst (k.f _ h) ((k.k _ h).trans e) (RpAll.keep k r)
  | _, _, .ref h => .ref (h.imp (k.m _ _) id)
  | _, _, .dct h e r => .dct (k.f _ h) (e.imp (fun e => (k.k _ h).trans e) fun ⟨o, e⟩ => ⟨o, (k.k _ h).trans e⟩) (KvAll.keep k r)
theorem RpAll.keep (k : Keep F μ H F' μ' H') : ∀ {ds : List D} {vs : List V}, RpAll K ν F μ H ds vs → RpAll K ν F' μ' H' ds vs
  | _, _, .nil => .nil
  | _, _, .cons h r => .cons (Rp.keep k h) (RpAll.keep k r)
theorem KvAll.keep (k : Keep F μ H F' μ' H') : ∀ {ds : List (D × D)} {vs : List (Key × V)}, KvAll K ν F μ H ds vs → KvAll K ν F' μ' H' ds vs
  | _, _, .nil => .nil
  | _, _, .cons q h r => .cons q (Rp.keep k h) (KvAll.keep k r)
end
theorem KvAll.length : ∀ {ds : List (D × D)} {vs : List (Key × V)}, KvAll K ν F μ H ds vs → ds.length = vs.length
  | _, _, .nil => rfl
  | _, _, .cons _ _ r => congrArg (· + 1) (KvAll.length r)
theorem KvAll.val (k : Key) : ∀ {ds : List (D × D)} {vs : List (Key × V)}, KvAll K ν F μ H ds vs → (match dval ds k with
    | some d => ∃ v, valV vs k = some v ∧ Rp K ν F μ H d v
    | none => valV vs k = none)
  | _, _, .nil => rfl
  | _, _, .cons (q := q) (d := d) (k := k') (v := v) (ds := ds) hq h r => by
    by_cases e : k' = k
    · subst e
      have : dval ((q, d) :: ds) k' = some d := by simp [dval, List.find?_cons, hq]
      rw [this]
      exact ⟨v, valV_pos rfl, h⟩
    · have e1 : dval ((q, d) :: ds) k = dval ds k := by
        have : ¬ (keyOf q = some k) := fun z => by rw [hq] at z; cases z; exact e rfl
        simp [dval, List.find?_cons, this]
      have ih := KvAll.val k r
      rw [e1]
      cases hd : dval ds k with
      | none =>
        rw [hd] at ih
        exact (valV_neg e).trans ih
      | some d' =>
        rw [hd] at ih
        obtain ⟨v', g1, g2⟩ := ih
        exact ⟨v', (valV_neg e).trans g1, g2⟩
theorem KvAll.any (k : Key) : ∀ {ds : List (D × D)} {vs : List (Key × V)}, KvAll K ν F μ H ds vs → (ds.any fun p => decide (keyOf p.1 = some k)) = vs.any fun p => decide (p.1 = k)
  | _, _, .nil => rfl
  | _, _, .cons hq h r => by
    rw [List.any_cons, List.any_cons, KvAll.any k r]
    simp [hq]
theorem KvAll.append : ∀ {ds es : List (D × D)} {vs ws : List (Key × V)}, KvAll K ν F μ H ds vs → KvAll K ν F μ H es ws → KvAll K ν F μ H (ds ++ es) (vs ++ ws)
  | _, _, _, _, .nil, s => s
  | _, _, _, _, .cons q h r, s => .cons q h (KvAll.append r s)
theorem KvAll.repl {k : Key} {d : D} {v : V} (h : Rp K ν F μ H d v) : ∀ {ds : List (D × D)} {vs : List (Key × V)}, KvAll K ν F μ H ds vs →
    KvAll K ν F μ H (ds.map fun p => if keyOf p.1 = some k then (p.1, d) else p) (vs.map fun p => if p.1 = k then (p.1, v) else p)
  | _, _, .nil => .nil
  | _, _, .cons (k := k') hq g r => by
    rw [List.map_cons, List.map_cons]
    by_cases e : k' = k
    · subst e
      simp only [hq, if_true]
      exact .cons hq h (KvAll.repl h r)
    · have n1 : ¬ (some k' = some k) := fun z => e (Option.some.inj z)
      simp only [hq, if_neg n1, if_neg e]
      exact .cons hq g (KvAll.repl h r)
theorem KvAll.put {q d : D} {k : Key} {v : V} (hq : keyOf q = some k) (h : Rp K ν F μ H d v) {ds : List (D × D)} {vs : List (Key × V)} (r : KvAll K ν F μ H ds vs) : KvAll K ν F μ H (dput ds q k d) (putK vs k v) := by
  unfold dput putK
  rw [← r.any k]
  by_cases e : (ds.any fun p => decide (keyOf p.1 = some k)) = true
  · rw [if_pos e, if_pos e]; exact KvAll.repl h r
  · rw [if_neg e, if_neg e]; exact r.append (.cons hq h .nil)
theorem KvAll.merge : ∀ {es : List (D × D)} {ws : List (Key × V)} {ds : List (D × D)} {vs : List (Key × V)}, KvAll K ν F μ H es ws → KvAll K ν F μ H ds vs → KvAll K ν F μ H (dmerge ds es) (mergeK vs ws)
  | _, _, _, _, .nil, r => r
  | _, _, ds, vs, .cons (q := q) (d := d) (k := k) (v := v) (ds := es) (vs := ws) hq h t, r => by
    have e1 : dmerge ds ((q, d) :: es) = dmerge (dput ds q k d) es := by simp [dmerge, hq]
    have e2 : mergeK vs ((k, v) :: ws) = mergeK (putK vs k v) ws := rfl
    rw [e1, e2]
    exact KvAll.merge t (KvAll.put hq h r)
theorem RpAll.length : ∀ {ds : List D} {vs : List V}, RpAll K ν F μ H ds vs → ds.length = vs.length
  | _, _, .nil => rfl
  | _, _, .cons _ r => congrArg (· + 1) (RpAll.length r)
theorem RpAll.get : ∀ {ds : List D} {vs : List V} {i : Nat} {d : D}, RpAll K ν F μ H ds vs → ds[i]? = some d → ∃ v, vs[i]? = some v ∧ Rp K ν F μ H d v
  | _, _, _, _, .nil, e => by simp at e
  | _, _, 0, _, .cons h _, e => by simp at e; subst e; exact ⟨_, rfl, h⟩
  | _, _, i + 1, d, .cons _ r, e => by
    obtain ⟨v, h1, h2⟩ := RpAll.get (i := i) r (by simpa using e)
    exact ⟨v, by simpa using h1, h2⟩
theorem RpAll.append : ∀ {ds es : List D} {vs ws : List V}, RpAll K ν F μ H ds vs → RpAll K ν F μ H es ws → RpAll K ν F μ H (ds ++ es) (vs ++ ws)
  | _, _, _, _, .nil, s => s
  | _, _, _, _, .cons h r, s => .cons h (RpAll.append r s)
theorem RpAll.rep {ds : List D} {vs : List V} (h : RpAll K ν F μ H ds vs) : ∀ n : Nat, RpAll K ν F μ H (List.replicate n ds).flatten (List.replicate n vs).flatten
  | 0 => .nil
  | n + 1 => by
    rw [List.replicate_succ, List.replicate_succ, List.flatten_cons, List.flatten_cons]
    exact h.append (RpAll.rep h n)
theorem RpAll.take : ∀ {ds : List D} {vs : List V} (n : Nat), RpAll K ν F μ H ds vs → RpAll K ν F μ H (ds.take n) (vs.take n)
  | _, _, 0, _ => by rw [List.take_zero, List.take_zero]; exact .nil
  | _, _, _ + 1, .nil => .nil
  | _, _, n + 1, .cons h r => .cons h (RpAll.take n r)
theorem RpAll.drop : ∀ {ds : List D} {vs : List V} (n : Nat), RpAll K ν F μ H ds vs → RpAll K ν F μ H (ds.drop n) (vs.drop n)
  | _, _, 0, r => r
  | _, _, _ + 1, .nil => .nil
  | _, _, n + 1, .cons _ r => RpAll.drop n r
theorem RpAll.set {d : D} {v : V} (h : Rp K ν F μ H d v) : ∀ {ds : List D} {vs : List V} (i : Nat), RpAll K ν F μ H ds vs → RpAll K ν F μ H (ds.set i d) (vs.set i v)
  | _, _, _, .nil => .nil
  | _, _, 0, .cons _ r => .cons h r
  | _, _, i + 1, .cons q r => .cons q (RpAll.set h i r)
theorem RpAll.revApp : ∀ {ds es : List D} {vs ws : List V}, RpAll K ν F μ H ds vs → RpAll K ν F μ H es ws → RpAll K ν F μ H (ds.reverse ++ es) (vs.reverse ++ ws)
  | _, _, _, _, .nil, q => q
  | _, _, _, _, .cons h r, q => by
    rw [List.reverse_cons, List.reverse_cons, List.append_assoc, List.append_assoc]
    exact RpAll.revApp r (.cons h q)
theorem RpAll.reverse {ds : List D} {vs : List V} (r : RpAll K ν F μ H ds vs) : RpAll K ν F μ H ds.reverse vs.reverse := by
  have := r.revApp .nil
  rwa [List.append_nil, List.append_nil] at this
theorem RpAll.erase : ∀ {ds : List D} {vs : List V} (i : Nat), RpAll K ν F μ H ds vs → RpAll K ν F μ H (ds.eraseIdx i) (vs.eraseIdx i)
  | _, _, _, .nil => .nil
  | _, _, 0, .cons _ r => r
  | _, _, i + 1, .cons q r => .cons q (RpAll.erase i r)
theorem RpAll.ints : ∀ ns : List Int, RpAll K ν F μ H (ns.map .int) (ns.map V.int)
  | [] => .nil
  | n :: r => .cons (.int n) (RpAll.ints r)
theorem RpAll.bools : ∀ {ds : List D} {vs : List V} {bs : List Bool}, RpAll K ν F μ H ds vs → allBools ds = some bs → vs = bs.map V.bl
  | _, _, _, .nil, e => by cases e; rfl
  | _, _, _, .cons (d := d) h r, e => by
    cases h with
    | bl b =>
      unfold allBools at e
      obtain ⟨bs, e1, rfl⟩ := Option.map_eq_some_iff.mp e
      rw [RpAll.bools r e1]; rfl
    | _ => cases e
theorem RpAll.intsOf : ∀ {ds : List D} {vs : List V} {bs : List Int}, RpAll K ν F μ H ds vs → allInts ds = some bs → vs = bs.map V.int
  | _, _, _, .nil, e => by cases e; rfl
  | _, _, _, .cons (d := d) h r, e => by
    cases h with
    | int b =>
      unfold allInts at e
      obtain ⟨bs, e1, rfl⟩ := Option.map_eq_some_iff.mp e
      rw [RpAll.intsOf r e1]; rfl
    | _ => cases e
theorem RpAll.strs : ∀ {ds : List D} {vs : List V} {bs : List Str}, RpAll K ν F μ H ds vs → allStrs ds = some bs → vs = bs.map V.str
  | _, _, _, .nil, e => by cases e; rfl
  | _, _, _, .cons (d := d) h r, e => by
    cases h with
    | str b =>
      unfold allStrs at e
      obtain ⟨bs, e1, rfl⟩ := Option.map_eq_some_iff.mp e
      rw [RpAll.strs r e1]; rfl
    | _ => cases e
end

/-- the script's list: known to the object, or of the module -/
def ScrL (K : PySem.W.Frag) (H : Hp) (a : Addr) (xs : List V) : Prop :=
  (∃ o, H a = some (.frz o (.lst xs))) ∨ ∃ (o : Obj) (its : Array Value) (n : Nat), K.lookup a = some o ∧ o.cls = .type "list" ∧ o.dict = none ∧ o.data = .seq its n ∧ its.size ≤ sizeLine ∧ Vals xs its.toList
theorem ScrL.seq {K : PySem.W.Frag} {H : Hp} {a : Addr} {xs : List V} (h : ScrL K H a xs) : SqL K H a xs := by
  rcases h with ⟨o, h⟩ | h
  · exact .inl (.inr ⟨o, h⟩)
  · exact .inr h
/-- an instance's attributes -/
inductive FsAll (K : PySem.W.Frag) (ν : Mu) (F : Fz) (μ : Mu) (H : Hp) : List (Str × D) → List (Str × V) → Prop
  | nil : FsAll K ν F μ H [] []
  | cons {g : Str} {d : D} {v : V} {r : List (Str × D)} {s : List (Str × V)} : Rp K ν F μ H d v → FsAll K ν F μ H r s → FsAll K ν F μ H ((g, d) :: r) ((g, v) :: s)
theorem FsAll.keep {K : PySem.W.Frag} {ν : Mu} {F F' : Fz} {μ μ' : Mu} {H H' : Hp} (k : Keep F μ H F' μ' H') : ∀ {r : List (Str × D)} {s : List (Str × V)}, FsAll K ν F μ H r s → FsAll K ν F' μ' H' r s
  | _, _, .nil => .nil
  | _, _, .cons h t => .cons (h.keep k) (FsAll.keep k t)
theorem FsAll.length {K : PySem.W.Frag} {ν : Mu} {F : Fz} {μ : Mu} {H : Hp} : ∀ {r : List (Str × D)} {s : List (Str × V)}, FsAll K ν F μ H r s → r.length = s.length
  | _, _, .nil => rfl
  | _, _, .cons _ t => congrArg (· + 1) (FsAll.length t)
theorem FsAll.look {K : PySem.W.Frag} {ν : Mu} {F : Fz} {μ : Mu} {H : Hp} (f : Str) : ∀ {r : List (Str × D)} {s : List (Str × V)}, FsAll K ν F μ H r s → (match r.lookup f with
    | some d => ∃ v, s.lookup f = some v ∧ Rp K ν F μ H d v
    | none => s.lookup f = none)
  | _, _, .nil => rfl
  | _, _, .cons (g := g) (d := d) (v := v) (r := r) (s := s) h t => by
    rw [List.lookup_cons, List.lookup_cons]
    cases e : f == g with
    | true => exact ⟨v, rfl, h⟩
    | false => exact FsAll.look f t
theorem FsAll.put {K : PySem.W.Frag} {ν : Mu} {F : Fz} {μ : Mu} {H : Hp} {f : Str} {d : D} {v : V} (h : Rp K ν F μ H d v) : ∀ {r : List (Str × D)} {s : List (Str × V)}, FsAll K ν F μ H r s → FsAll K ν F μ H (putFD f d r) (putF f v s)
  | _, _, .nil => .cons h .nil
  | _, _, .cons (g := g) (d := d') (v := v') (r := r) (s := s) h' t => by
    unfold putFD putF
    by_cases e : g = f
    · rw [if_pos e, if_pos e]; exact .cons h t
    · rw [if_neg e, if_neg e]; exact .cons h' (FsAll.put h t)
/-- a written object of the small heap, at its address -/
inductive OR (K : PySem.W.Frag) (ν : Mu) (F : Fz) (μ : Mu) (H : Hp) : MO → Addr → Prop
  | lst {a : Addr} {xs : List V} {ds : List D} : H a = some (.lst xs) → RpAll K ν F μ H ds xs → OR K ν F μ H (.lst ds) a
  | ins {a dx : Addr} {vs : List (Str × V)} {fs : List (Str × D)} : H a = some (.ins (He.ga K wCls) dx vs) → FsAll K ν F μ H fs vs → OR K ν F μ H (.ins wCls fs) a

/-- the small heap stands -/
structure HR (K : PySem.W.Frag) (ν : Mu) (F : Fz) (μ : Mu) (H : Hp) (st : S) : Prop where
  fT : ∀ a, F a → H a ≠ none
  mF : ∀ i a, μ i = some a → ¬ F a
  mT : ∀ i a, μ i = some a → i < st.length
  nT : ∀ i a, ν i = some a → i < st.length
  mI : ∀ i j a, μ i = some a → μ j = some a → i = j
  sc : ∀ i ns, st[i]? = some (.scr ns) → μ i = none ∧ ∃ a, ν i = some a ∧ ScrL K H a (ns.map V.int)
  ob : ∀ i o, st[i]? = some o → (∀ ns, o ≠ .scr ns) → ν i = none ∧ ∃ a, μ i = some a ∧ OR K ν F μ H o a
/-- what a step may do: write objects of the small heap, make new things -/
structure Stp (F : Fz) (μ : Mu) (H : Hp) (F' : Fz) (μ' : Mu) (H' : Hp) : Prop where
  fr : ∀ a o, H a = some o → (∀ i, μ i ≠ some a) → H' a = some o
  tr : ∀ a, H a ≠ none → H' a ≠ none
  fs : ∀ a, F a → F' a
  fn : ∀ a, F' a → F a ∨ H a = none
  ms : ∀ i a, μ i = some a → μ' i = some a
  mn : ∀ i a, μ' i = some a → μ i = some a ∨ H a = none
theorem Stp.refl (F : Fz) (μ : Mu) (H : Hp) : Stp F μ H F μ H := ⟨fun _ _ h _ => h, fun _ h => h, fun _ h => h, fun _ h => .inl h, fun _ _ h => h, fun _ _ h => .inl h⟩
theorem untr {H H' : Hp} (tr : ∀ a, H a ≠ none → H' a ≠ none) {a : Addr} (h : H' a = none) : H a = none := by
  cases e : H a with
  | none => rfl
  | some o => exact absurd h (tr a (by rw [e]; simp))
theorem Stp.trans {F F1 F2 : Fz} {μ μ1 μ2 : Mu} {H H1 H2 : Hp} (a : Stp F μ H F1 μ1 H1) (b : Stp F1 μ1 H1 F2 μ2 H2) : Stp F μ H F2 μ2 H2 where
  fr := fun x o e n => b.fr x o (a.fr x o e n) fun i h => by
    rcases a.mn i x h with h | h
    · exact n i h
    · rw [h] at e; cases e
  tr := fun x h => b.tr x (a.tr x h)
  fs := fun x h => b.fs x (a.fs x h)
  fn := fun x h => (b.fn x h).elim (a.fn x) fun q => .inr (untr a.tr q)
  ms := fun i x h => b.ms i x (a.ms i x h)
  mn := fun i x h => (b.mn i x h).elim (a.mn i x) fun q => .inr (untr a.tr q)

section
variable {K : PySem.W.Frag} {ν : Mu} {F F' : Fz} {μ μ' : Mu} {H H' : Hp} {st : S}
theorem HR.at_ (h : HR K ν F μ H st) {i : Nat} {a : Addr} (e : μ i = some a) : ∃ o, st[i]? = some o ∧ OR K ν F μ H o a := by
  have hi := h.mT i a e
  obtain ⟨o, ho⟩ : ∃ o, st[i]? = some o := ⟨_, List.getElem?_eq_getElem hi⟩
  cases o with
  | scr ns => rw [(h.sc i ns ho).1] at e; cases e
  | lst xs =>
    obtain ⟨_, a', e', r⟩ := h.ob i _ ho (fun _ q => nomatch q)
    rw [e] at e'; cases e'
    exact ⟨_, ho, r⟩
  | dct xs =>
    obtain ⟨_, a', e', r⟩ := h.ob i _ ho (fun _ q => nomatch q)
    rw [e] at e'; cases e'
    exact ⟨_, ho, r⟩
  | ins c xs =>
    obtain ⟨_, a', e', r⟩ := h.ob i _ ho (fun _ q => nomatch q)
    rw [e] at e'; cases e'
    exact ⟨_, ho, r⟩
def wrHO : HO → Bool
  | .lst _ => true
  | .dK _ => true
  | .ins _ _ _ => true
  | .ext _ => true
  | _ => false
theorem OR.wr {o : MO} {a : Addr} (h : OR K ν F μ H o a) : ∃ u, H a = some u ∧ wrHO u = true := by
  cases h with
  | lst e _ => exact ⟨_, e, rfl⟩
  | ins e _ => exact ⟨_, e, rfl⟩
theorem HR.wr (h : HR K ν F μ H st) {i : Nat} {a : Addr} (e : μ i = some a) : ∃ u, H a = some u ∧ wrHO u = true := by
  obtain ⟨o, _, r⟩ := h.at_ e
  exact r.wr
theorem Stp.keep (s : Stp F μ H F' μ' H') (h : HR K ν F μ H st) : Keep F μ H F' μ' H' where
  f := s.fs
  m := s.ms
  z := fun a o u e => s.fr a _ e fun i q => by
    obtain ⟨w, e1, e2⟩ := h.wr q
    rw [e] at e1; cases e1; cases e2
  k := fun a f => by
    cases e : H a with
    | none => exact absurd e (h.fT a f)
    | some o => exact s.fr a o e fun i q => h.mF i a q f
end

/-- the entry of a def: the script's place, the frozen, the small heap's places, the abstract heap -/
structure En where
  ν : Mu
  F : Fz
  μ : Mu
  H : Hp
def OwnAt (K : PySem.W.Frag) (ν : Mu) (F : Fz) (μ : Mu) (H : Hp) : D → Addr → Prop
  | .list ds, a => ∃ xs, H a = some (.lst xs) ∧ RpAll K ν F μ H ds xs
  | .dict kvs, a => ∃ vs, H a = some (.dK vs) ∧ KvAll K ν F μ H kvs vs
  | _, _ => False
structure EnvR (K : PySem.W.Frag) (Γ : En) (F : Fz) (μ : Mu) (H : Hp) (σ : Sg) (env : Env) : Prop where
  len : σ.length = env.length
  frz : ∀ (j : Nat) (d : D), env[j]? = some (some (SV.frz d)) → ∃ v, σ[j]? = some (some v) ∧ Rp K Γ.ν F μ H d v
  own : ∀ (j : Nat) (d : D), env[j]? = some (some (SV.own d)) → ∃ a, σ[j]? = some (some (V.ref a)) ∧ OwnAt K Γ.ν F μ H d a ∧ ¬ F a ∧ (∀ i, μ i ≠ some a) ∧ Γ.H a = none
  dis : ∀ (j k : Nat) (d e : D) (v : V), env[j]? = some (some (SV.own d)) → env[k]? = some (some (SV.own e)) → σ[j]? = some (some v) → σ[k]? = some (some v) → j = k
  fn : ∀ (j : Nat) (g : Str), env[j]? = some (some (SV.fn g)) → σ[j]? = some (some (V.ref (He.ga K g)))
structure Rel (K : PySem.W.Frag) (Γ : En) (F : Fz) (μ : Mu) (H : Hp) (σ : Sg) (env : Env) (st : S) : Prop where
  sp : Stp Γ.F Γ.μ Γ.H F μ H
  hr : HR K Γ.ν F μ H st
  en : EnvR K Γ F μ H σ env

section
variable {K : PySem.W.Frag} {Γ : En} {F F' F1 : Fz} {μ μ' μ1 : Mu} {H H' H1 : Hp} {σ : Sg} {env : Env} {st st' : S}
theorem OwnAt.tr {d : D} {a : Addr} (h : OwnAt K Γ.ν F μ H d a) : H a ≠ none := by
  cases d with
  | list ds => obtain ⟨xs, e, _⟩ := h; rw [e]; simp
  | dict kvs => obtain ⟨vs, e, _⟩ := h; rw [e]; simp
  | _ => cases h
theorem OwnAt.move {d : D} {a : Addr} (h : OwnAt K Γ.ν F μ H d a) (k : Keep F μ H F' μ' H') (e : H' a = H a) : OwnAt K Γ.ν F' μ' H' d a := by
  cases d with
  | list ds => obtain ⟨xs, e1, r⟩ := h; exact ⟨xs, e.trans e1, r.keep k⟩
  | dict kvs => obtain ⟨vs, e1, r⟩ := h; exact ⟨vs, e.trans e1, r.keep k⟩
  | _ => cases h
/-- the names stand behind a step -/
theorem EnvR.step (n : EnvR K Γ F μ H σ env) (hr : HR K Γ.ν F μ H st) (s : Stp F μ H F' μ' H') : EnvR K Γ F' μ' H' σ env where
  len := n.len
  frz := fun j d e => by
    obtain ⟨v, h1, h2⟩ := n.frz j d e
    exact ⟨v, h1, h2.keep (s.keep hr)⟩
  own := fun j d e => by
    obtain ⟨a, h1, h2, h3, h4, h5⟩ := n.own j d e
    have ht := h2.tr
    refine ⟨a, h1, h2.move (s.keep hr) ?_, fun f => ?_, fun i q => ?_, h5⟩
    · cases q : H a with
      | none => exact absurd q ht
      | some o => exact s.fr a o q h4
    · exact (s.fn a f).elim h3 ht
    · exact (s.mn i a q).elim (h4 i) ht
  dis := n.dis
  fn := n.fn
/-- .. all of it -/
theorem Rel.step (r : Rel K Γ F μ H σ env st) (s : Stp F μ H F' μ' H') (h : HR K Γ.ν F' μ' H' st') : Rel K Γ F' μ' H' σ env st' := ⟨r.sp.trans s, h, r.en.step r.hr s⟩
theorem Rel.keep (r : Rel K Γ F μ H σ env st) (s : Stp F μ H F' μ' H') : Keep F μ H F' μ' H' := s.keep r.hr

theorem ScrL.keep {a : Addr} {xs : List V} (k : Keep F μ H F' μ' H') (h : ScrL K H a xs) : ScrL K H' a xs := by
  rcases h with ⟨o, h⟩ | h
  · exact .inl ⟨o, k.z _ _ _ h⟩
  · exact .inr h
theorem OR.move {o : MO} {a : Addr} (h : OR K Γ.ν F μ H o a) (k : Keep F μ H F' μ' H') (e : H' a = H a) : OR K Γ.ν F' μ' H' o a := by
  cases h with
  | lst e1 r => exact .lst (e.trans e1) (r.keep k)
  | ins e1 r => exact .ins (e.trans e1) (r.keep k)
/-- a new thing is laid at p -/
theorem stp_new {p : Addr} {o : HO} (n : H p = none) : Stp F μ H F μ (upd H p o) where
  fr := fun a u e _ => by rw [upd_ne (ne_of_none e n)]; exact e
  tr := fun a h => by
    by_cases q : a = p
    · subst q; exact absurd n h
    · rw [upd_ne q]; exact h
  fs := fun _ h => h
  fn := fun _ h => .inl h
  ms := fun _ _ h => h
  mn := fun _ _ h => .inl h
theorem HR.same (hr : HR K Γ.ν F μ H st) (s : Stp F μ H F μ H') (q : ∀ i a, μ i = some a → H' a = H a) : HR K Γ.ν F μ H' st where
  fT := fun a f => s.tr a (hr.fT a f)
  mF := hr.mF
  mT := hr.mT
  nT := hr.nT
  mI := hr.mI
  sc := fun i ns e => by
    obtain ⟨h1, a, h2, h3⟩ := hr.sc i ns e
    exact ⟨h1, a, h2, h3.keep (s.keep hr)⟩
  ob := fun i o e n => by
    obtain ⟨h1, a, h2, h3⟩ := hr.ob i o e n
    exact ⟨h1, a, h2, h3.move (s.keep hr) (q i a h2)⟩
theorem HR.new {p : Addr} {o : HO} (hr : HR K Γ.ν F μ H st) (n : H p = none) : HR K Γ.ν F μ (upd H p o) st :=
  hr.same (stp_new n) fun i a e => by
    obtain ⟨u, e1, _⟩ := hr.wr e
    rw [upd_ne (ne_of_none e1 n)]
theorem Rel.new {p : Addr} {o : HO} (r : Rel K Γ F μ H σ env st) (n : H p = none) : Rel K Γ F μ (upd H p o) σ env st := r.step (stp_new n) (r.hr.new n)
/-- an address is frozen -/
def addF (F : Fz) (p : Addr) : Fz := fun a => F a ∨ a = p
theorem stp_frz {p : Addr} (s : Stp F μ H F' μ' H') (n : H p = none) : Stp F μ H (addF F' p) μ' H' where
  fr := s.fr
  tr := s.tr
  fs := fun a h => .inl (s.fs a h)
  fn := fun a h => h.elim (s.fn a) fun e => .inr (e ▸ n)
  ms := s.ms
  mn := s.mn
theorem keep_frz {p : Addr} : Keep F μ H (addF F p) μ H := ⟨fun _ h => .inl h, fun _ _ h => h, fun _ _ _ h => h, fun _ _ => rfl⟩
theorem HR.freeze {p : Addr} (hr : HR K Γ.ν F μ H st) (t : H p ≠ none) (nm : ∀ i, μ i ≠ some p) : HR K Γ.ν (addF F p) μ H st where
  fT := fun a f => f.elim (hr.fT a) fun e => e ▸ t
  mF := fun i a e f => f.elim (hr.mF i a e) fun q => nm i (q ▸ e)
  mT := hr.mT
  nT := hr.nT
  mI := hr.mI
  sc := hr.sc
  ob := fun i o e n => by
    obtain ⟨h1, a, h2, h3⟩ := hr.ob i o e n
    exact ⟨h1, a, h2, h3.move keep_frz rfl⟩
end

/-- what a value stands at: frozen, or a new list that nobody else knows (Hs: the heap ahead) -/
def RX (K : PySem.W.Frag) (ν : Mu) (F : Fz) (μ : Mu) (H Hs : Hp) (r : D × Bool) (v : V) : Prop :=
  match r.2 with
  | false => Rp K ν F μ H r.1 v
  | true => ∃ a, v = .ref a ∧ OwnAt K ν F μ H r.1 a ∧ ¬ F a ∧ (∀ i, μ i ≠ some a) ∧ Hs a = none
theorem OwnAt.rp {K : PySem.W.Frag} {ν : Mu} {F : Fz} {μ : Mu} {H : Hp} {d : D} {a : Addr} (h : OwnAt K ν F μ H d a) : Rp K ν (addF F a) μ H d (.ref a) := by
  cases d with
  | list ds => obtain ⟨xs, e, r⟩ := h; exact .lst (.inr rfl) e (r.keep keep_frz)
  | dict kvs => obtain ⟨vs, e, r⟩ := h; exact .dct (.inr rfl) (.inl e) (r.keep keep_frz)
  | _ => cases h
/-- .. made a frozen one -/
theorem RX.frz {K : PySem.W.Frag} {Γ : En} {F F' : Fz} {μ μ' : Mu} {H H' : Hp} {σ : Sg} {env : Env} {st st' : S} {r : D × Bool} {v : V} (r0 : Rel K Γ F μ H σ env st) (s : Stp F μ H F' μ' H') (r1 : Rel K Γ F' μ' H' σ env st')
    (x : RX K Γ.ν F' μ' H' H r v) : ∃ F2, Stp F μ H F2 μ' H' ∧ Rel K Γ F2 μ' H' σ env st' ∧ Rp K Γ.ν F2 μ' H' r.1 v := by
  obtain ⟨d, fl⟩ := r
  cases fl with
  | false => exact ⟨F', s, r1, x⟩
  | true =>
    obtain ⟨a, rfl, h1, h2, h3, h4⟩ := x
    have s2 := stp_frz s h4
    exact ⟨addF F' a, s2, r0.step s2 (r1.hr.freeze h1.tr h3), h1.rp⟩
/-- what an operand stands at -/
def RO (K : PySem.W.Frag) (ν : Mu) (F : Fz) (μ : Mu) (H : Hp) (σ : Sg) (env : Env) (p : Op) (v : V) : Prop :=
  match p with
  | .v d => Rp K ν F μ H d v
  | .o j => (∃ d, env[j]? = some (some (SV.own d))) ∧ σ[j]? = some (some v)
theorem RO.keep {K : PySem.W.Frag} {ν : Mu} {F F' : Fz} {μ μ' : Mu} {H H' : Hp} {σ : Sg} {env : Env} {p : Op} {v : V} (k : Keep F μ H F' μ' H') (h : RO K ν F μ H σ env p v) : RO K ν F' μ' H' σ env p v := by
  cases p with
  | v d => exact Rp.keep k h
  | o j => exact h

/-! ### readings -/
abbrev RT (α : Type) := Fz → Mu → Hp → Hp → Sg → Env → α → V → Prop
/-- an expression's reading by the evaluator's function m -/
def tM {α : Type} (K : PySem.W.Frag) (Γ : En) (R : RT α) (m : Env → M α) : TE := fun σ H Q => ∃ F μ env st r st', Rel K Γ F μ H σ env st ∧ m env st = some (r, st') ∧
  ∀ v F' μ' H', Stp F μ H F' μ' H' → Rel K Γ F' μ' H' σ env st' → R F' μ' H' H σ env r v → Q v H'
abbrev rX (K : PySem.W.Frag) (Γ : En) : RT (D × Bool) := fun F μ H Hs _ _ r v => RX K Γ.ν F μ H Hs r v
abbrev rO (K : PySem.W.Frag) (Γ : En) : RT Op := fun F μ H _ σ env p v => RO K Γ.ν F μ H σ env p v
/-- a test's -/
def tMT (K : PySem.W.Frag) (Γ : En) (m : Env → M Bool) : TT := fun σ H Q => ∃ F μ env st b st', Rel K Γ F μ H σ env st ∧ m env st = some (b, st') ∧
  ∀ F' μ' H', Stp F μ H F' μ' H' → Rel K Γ F' μ' H' σ env st' → Q b H'
theorem _root_.L2.PE.imp {X : Cx} {e : Expr} {t t' : TE} (h : PE X e t) (i : ∀ σ H Q, t' σ H Q → t σ H Q) : PE X e t' := ⟨fun pins s σ H Q I q => h.run pins s σ H Q I (i σ H Q q)⟩
theorem _root_.L2.PT.imp {X : Cx} {e : Expr} {t t' : TT} (h : PT X e t) (i : ∀ σ H Q, t' σ H Q → t σ H Q) : PT X e t' := ⟨fun pins s σ H Q I q => h.run pins s σ H Q I (i σ H Q q)⟩
theorem _root_.L2.PS.imp {X : Cx} {e : Stmt} {t t' : TS} (h : PS X e t) (i : ∀ D σ H, t' D σ H → t D σ H) : PS X e t' := ⟨fun pins s σ H D I q => h.run pins s σ H D I (i D σ H q)⟩
theorem _root_.L2.PSs.imp {X : Cx} {e : List Stmt} {t t' : TS} (h : PSs X e t) (i : ∀ D σ H, t' D σ H → t D σ H) : PSs X e t' := ⟨fun pins s σ H D I q => h.run pins s σ H D I (i D σ H q)⟩
theorem bnd_some {α β : Type} {m : M α} {f : α → M β} {st : S} {r : β × S} (h : bnd m f st = some r) : ∃ a st1, m st = some (a, st1) ∧ f a st1 = some r := by
  unfold bnd at h
  split at h
  · rename_i a st1 e; exact ⟨a, st1, e, h⟩
  · cases h
theorem ret_some {α : Type} {a b : α} {st st' : S} (h : ret a st = some (b, st')) : a = b ∧ st = st' := by
  unfold ret at h
  cases h
  exact ⟨rfl, rfl⟩
theorem fail_some {α : Type} {st : S} {r : α × S} (h : (fail : M α) st = some r) : False := nomatch h
theorem lift_some {α : Type} {o : Option α} {a : α} {st st' : S} (h : lift o st = some (a, st')) : o = some a ∧ st = st' := by
  cases o with
  | none => exact (fail_some (st := st) h).elim
  | some b =>
    obtain ⟨rfl, e⟩ := ret_some (a := b) h
    exact ⟨rfl, e⟩
theorem vw_some {env : Env} {p : Op} {st st' : S} {d : D} (h : vw env p st = some (d, st')) : view env st p = some d ∧ st = st' := by
  unfold vw at h
  split at h
  · rename_i d' e; cases h; exact ⟨e, rfl⟩
  · cases h
end Pz

/-! Pz4: the operations on values keep to the evaluator. -/
namespace Pz
open PySem PySem.Spec PyProof.Rows L2

theorem line_eq : line = sizeLine := by rw [sizeLine_eq]; rfl

theorem dget_rd {H : Hp} {a : Addr} {kvs : List (Key × V)} {k : Key} (e : Rd H a (.dK kvs)) : DGet H a (kV k) (valV kvs k) := .inl ⟨kvs, k, e, rfl, rfl⟩
/-- what a readable value stands at -/
def Vw (K : PySem.W.Frag) (ν : Mu) (F : Fz) (μ : Mu) (H : Hp) (d : D) (v : V) : Prop := match d with
  | .list ds => ∃ a xs, v = .ref a ∧ SqL K H a xs ∧ RpAll K ν F μ H ds xs
  | .dict kvs => ∃ a vs, v = .ref a ∧ Rd H a (.dK vs) ∧ KvAll K ν F μ H kvs vs
  | d => Rp K ν F μ H d v
/-- .. a list that is tracked -/
def VwT (K : PySem.W.Frag) (ν : Mu) (F : Fz) (μ : Mu) (H : Hp) (d : D) (v : V) : Prop := match d with
  | .list ds => ∃ a xs, v = .ref a ∧ H a = some (.lst xs) ∧ RpAll K ν F μ H ds xs
  | .dict kvs => ∃ a vs, v = .ref a ∧ Rd H a (.dK vs) ∧ KvAll K ν F μ H kvs vs
  | d => Rp K ν F μ H d v
/-- what an operation leaves -/
inductive Res (K : PySem.W.Frag) (ν : Mu) (F : Fz) (μ : Mu) (H : Hp) : D × Bool → V → Hp → Prop
  | old {d : D} {v : V} : Rp K ν F μ H d v → Res K ν F μ H (d, false) v H
  | tup {ds : List D} {xs : List V} {p : Addr} {o : Obj} : H p = none → o.dict = none → RpAll K ν F μ H ds xs → Res K ν F μ H (.tuple ds, false) (.ref p) (upd H p (.frz o (.tup xs)))
  | lst {ds : List D} {xs : List V} {p : Addr} : H p = none → RpAll K ν F μ H ds xs → Res K ν F μ H (.list ds, true) (.ref p) (upd H p (.lst xs))
  | dct {kvs : List (D × D)} {vs : List (Key × V)} {p : Addr} : H p = none → KvAll K ν F μ H kvs vs → Res K ν F μ H (.dict kvs, true) (.ref p) (upd H p (.dK vs))

theorem keep_new {F : Fz} {μ : Mu} {H : Hp} {p : Addr} {o : HO} (n : H p = none) (hT : ∀ a, F a → H a ≠ none) : Keep F μ H F μ (upd H p o) where
  f := fun _ h => h
  m := fun _ _ h => h
  z := fun a u w e => by rw [upd_ne (ne_of_none e n)]; exact e
  k := fun a f => upd_ne fun q => hT a f (q ▸ n)

section
variable {K : PySem.W.Frag} {Γ : En} {F : Fz} {μ : Mu} {H H' : Hp} {σ : Sg} {env : Env} {st : S} {r : D × Bool} {v : V}
theorem Res.rel (h : Res K Γ.ν F μ H r v H') (r0 : Rel K Γ F μ H σ env st) : Stp F μ H F μ H' ∧ Rel K Γ F μ H' σ env st ∧ RX K Γ.ν F μ H' H r v := by
  cases h with
  | old h => exact ⟨.refl _ _ _, r0, h⟩
  | tup n hd h =>
    exact ⟨stp_new n, r0.new n, .tup (.inl ⟨_, upd_same, hd⟩) (h.keep (keep_new n r0.hr.fT))⟩
  | lst n h =>
    refine ⟨stp_new n, r0.new n, _, rfl, ⟨_, upd_same, h.keep (keep_new n r0.hr.fT)⟩, fun f => r0.hr.fT _ f n, fun i e => ?_, n⟩
    obtain ⟨u, e1, _⟩ := r0.hr.wr e
    rw [n] at e1; cases e1
  | dct n h =>
    refine ⟨stp_new n, r0.new n, _, rfl, ⟨_, upd_same, h.keep (keep_new n r0.hr.fT)⟩, fun f => r0.hr.fT _ f n, fun i e => ?_, n⟩
    obtain ⟨u, e1, _⟩ := r0.hr.wr e
    rw [n] at e1; cases e1
theorem RX.back {ν : Mu} {Hs H0 : Hp} (h : RX K ν F μ H Hs r v) (t : ∀ a, H0 a ≠ none → Hs a ≠ none) : RX K ν F μ H H0 r v := by
  obtain ⟨d, fl⟩ := r
  cases fl with
  | false => exact h
  | true =>
    obtain ⟨a, e, h1, h2, h3, h4⟩ := h
    exact ⟨a, e, h1, h2, h3, untr t h4⟩
end

section
variable {K : PySem.W.Frag} {ν : Mu} {F : Fz} {μ : Mu} {H : Hp}
theorem VwT.vw {d : D} {v : V} (h : VwT K ν F μ H d v) : Vw K ν F μ H d v := by
  cases d with
  | list ds => obtain ⟨a, xs, e, h1, h2⟩ := h; exact ⟨a, xs, e, SqL.of h1, h2⟩
  | _ => exact h
theorem Rp.ref_inv {d : D} {v : V} {i : Nat} (h : Rp K ν F μ H d v) : d = mkRef i → ∃ a, v = .ref a ∧ (μ i = some a ∨ ν i = some a) := by
  cases h with
  | dct f e r =>
    intro z
    have z' := PyData.dict.inj z
    subst z'
    cases r with
    | cons hq _ _ => cases hq
  | @ref j a h =>
    intro e
    have e1 : (j : Int) = i := by simpa [mkRef] using e
    have e2 : j = i := by omega
    subst e2
    exact ⟨a, rfl, h⟩
  | _ => intro e; simp [mkRef] at e
theorem refOf_mk {d : D} {i : Nat} (h : refOf? d = some i) : d = mkRef i := by
  unfold refOf? at h
  split at h
  · cases h; rfl
  · cases h
theorem Rp.vwT {d : D} {v : V} (h : Rp K ν F μ H d v) (n : refOf? d = none) : VwT K ν F μ H d v := by
  cases h with
  | lst f e r => exact ⟨_, _, rfl, e, r⟩
  | non => exact .non
  | bl b => exact .bl b
  | int i => exact .int i
  | str x => exact .str x
  | tup h r => exact .tup h r
  | @ref i a h => have : refOf? (mkRef i) = some i := rfl
                  rw [this] at n; cases n
  | dct f e r => exact ⟨_, _, rfl, e, r⟩
mutual
theorem Rp.dp0 : ∀ {d : D} {v : V}, Rp K ν F μ H d v → d.hasDict = false → Dp K H v d
  | _, _, .non, _ => .non
  | _, _, .bl b, _ => .bl b
  | _, _, .int i, _ => .int i
  | _, _, .str x, _ => .str x
  | _, _, .tup h r, c => .tup h.seq (RpAll.dp0 r (by simpa [PyData.hasDict] using c))
  | _, _, .lst f e r, c => .lst (SqL.of e) (RpAll.dp0 r (by simpa [PyData.hasDict] using c))
  | _, _, .ref h, c => by simp [mkRef, PyData.hasDict] at c
  | _, _, .dct h e r, c => by simp [PyData.hasDict] at c
theorem RpAll.dp0 : ∀ {ds : List D} {vs : List V}, RpAll K ν F μ H ds vs → PyData.hasDictAll ds = false → DpAll K H vs ds
  | _, _, .nil, _ => .nil
  | d :: ds, _, .cons h r, c => by
    have c' : PyData.hasDict d = false ∧ PyData.hasDictAll ds = false := by simpa [PyData.hasDictAll] using c
    exact .cons (Rp.dp0 h c'.1) (RpAll.dp0 r c'.2)
end
theorem Rp.dp {d : D} {v : V} (h : Rp K ν F μ H d v) (c : d.canLay0 = true) : Dp K H v d := h.dp0 (PyData.hasDict_of_canLay d c)
theorem Vw.dp0 {d : D} {v : V} (h : Vw K ν F μ H d v) (c : d.hasDict = false) : Dp K H v d := by
  cases d with
  | list ds =>
    obtain ⟨a, xs, rfl, h1, h2⟩ := h
    exact .lst h1 (h2.dp0 (by simpa [PyData.hasDict] using c))
  | none => exact Rp.dp0 h c
  | bool b => exact Rp.dp0 h c
  | int i => exact Rp.dp0 h c
  | str x => exact Rp.dp0 h c
  | tuple ds => exact Rp.dp0 h c
  | dict ds => simp [PyData.hasDict] at c
theorem Vw.dp {d : D} {v : V} (h : Vw K ν F μ H d v) (c : shapedB d = true) : Dp K H v d := h.dp0 (PyData.hasDict_of_canLay d (SeqAt.canLay_of_shaped c))
end

/-- a new tuple, known to its object -/
theorem _root_.L2.Inv.tupN {X : Cx} {pins : List (Addr × Obj)} {σ : Sg} {H : Hp} {s : Shared} {xs : List V} {its : List Value} {t' : Nat} (I : Inv X pins σ H s) (r : Vals xs its) (hz : xs.length ≤ sizeLine) :
    Inv X pins σ (upd H s.heap.objs.size (.frz { cls := .type "tuple", data := .seq its.toArray } (.tup xs))) { s with heap := s.heap.push { cls := .type "tuple", data := .seq its.toArray }, toks := t' } :=
  I.laid (fun b u e => Heap.get?_push_of_some _ e) (Nat.le_refl _) ⟨Heap.get?_push_size _ rfl, hz, its, r, IsTup.new _ _⟩
theorem tuple_mul1 (l : Addr) (items : Array Value) (n : Nat) (dd : Option Addr) (sl : Array (Option Value)) (x : Int) (u : Tok) (c0 : (decide (x < -(2 ^ 63)) || decide (x ≥ 2 ^ 63)) = false) (c1 : (items.isEmpty || x == 1) = true) :
    Meets (Builtin.«tuple.__mul__» ⟨[.ref l, .int x u], []⟩) (fun _ R s => s.heap.get? l = some { cls := .type "tuple", dict := dd, data := .seq items n, slots := sl } ∧ R (.ok (.ret (Value.ref l))) s) :=
  .of_wp fun prog w A R s h => by
    obtain ⟨hp, g, d, tk, os⟩ := s
    obtain ⟨hl, h⟩ := h
    have f1 := AutoSeq1.idx_int
    wp_walk using wpAny_loadPart' hl
    repeat (first
      | (refine wpAny_ite_false (decide_eq_false (by rw [c0]; exact Bool.false_ne_true)) ?_; wp_walk using wpAny_loadPart' hl)
      | (refine wpAny_ite_true (decide_eq_true c1) ?_; wp_walk using wpAny_loadPart' hl))

    exact ⟨_, rfl, h⟩
theorem tuple_mul0 (l : Addr) (items : Array Value) (n : Nat) (dd : Option Addr) (sl : Array (Option Value)) (x : Int) (u : Tok) (c0 : (decide (x < -(2 ^ 63)) || decide (x ≥ 2 ^ 63)) = false) (c1 : (items.isEmpty || x == 1) = false) (c2 : (decide (x ≤ 0) || items.isEmpty) = true) :
    Meets (Builtin.«tuple.__mul__» ⟨[.ref l, .int x u], []⟩) (fun _ R s => s.heap.get? l = some { cls := .type "tuple", dict := dd, data := .seq items n, slots := sl } ∧ R (.ok (.ret (Value.ref s.heap.objs.size))) { s with heap := s.heap.push { cls := Value.type "tuple", data := Data.seq #[] }, toks := s.toks }) :=
  .of_wp fun prog w A R s h => by
    obtain ⟨hp, g, d, tk, os⟩ := s
    obtain ⟨hl, h⟩ := h
    have f1 := AutoSeq1.idx_int
    wp_walk using wpAny_loadPart' hl
    repeat (first
      | (refine wpAny_ite_false (decide_eq_false (by rw [c0]; exact Bool.false_ne_true)) ?_; wp_walk using wpAny_loadPart' hl)
      | (refine wpAny_ite_false (decide_eq_false (by rw [c1]; exact Bool.false_ne_true)) ?_; wp_walk using wpAny_loadPart' hl)
      | (refine wpAny_ite_true (decide_eq_true c2) ?_; wp_walk using wpAny_loadPart' hl))

    exact ⟨_, rfl, h⟩
section
variable {prog : Program} {w : World} {A : Around} {E : Value → Shared → Prop} {s : Shared}
theorem collect_tup {l : Addr} {vs : List Value} {Q : List Value → Shared → Prop} (hl : IsTup s.heap l vs.toArray)
    (h : Q vs { s with heap := (s.heap.push (seqObj "list" #[] 0)).update s.heap.objs.size (Obj.mapSeq (· ++ vs.toArray)) }) (hsz : vs.length ≤ sizeLine) :
    wpAny (model prog w) A (collect (.ref l)) Q E s := by
  obtain ⟨o, ho, hc, n, hd⟩ := id hl
  unfold collect
  refine wpAny_bind (wpAny_runValue (codeAny_builtin entry_proto_collect' ?_))
  show wpAny _ _ (do again (.builtin "list.__iadd__" ⟨[← newList [], .ref l], []⟩)) _ _ s
  refine wpAny_bind (wpAny_newList (wpAny_pure ⟨Code.quiet_builtin _ (by decide +kernel), codeAny_builtin entry_list_iadd' ?_⟩))
  show wpAny _ _ (Builtin.List.listExtendWith (.ref s.heap.objs.size) (.ref l) (.ref s.heap.objs.size)) _ _ { s with heap := s.heap.push (seqObj "list" #[] 0) }
  unfold Builtin.List.listExtendWith
  have ho' : (s.heap.push (seqObj "list" #[] 0)).get? l = some o := Heap.get?_push_of_some _ ho
  refine wpAny_bind (wpAny_typeOf (T := "tuple") ⟨o, ho', hc⟩ ?_)
  have ht : (Value.type "tuple" == Value.type "tuple") = true := by rfl
  rw [if_pos (by rw [ht]; simp)]
  refine wpAny_bind (listItems_at ho' hd ?_)
  refine wpAny_bind (listItems_at (xs := #[]) (n := 0) (Heap.get?_push_size _ rfl) rfl ?_)
  rw [if_neg (by simp)]
  refine wpAny_bind (listUpdate_at (xs := #[]) (n := 0) (Heap.get?_push_size _ rfl) rfl ?_ (Nat.zero_le _) (by show (#[] ++ vs.toArray).size ≤ sizeLine + 1; simp only [Array.size_append, List.size_toArray, List.length_nil]; omega))
  refine wpAny_pure ?_
  show wpAny (model prog w) A (do
      let o ← load s.heap.objs.size
      match o.data with
      | .seq xs _ => pure xs.toList
      | _ => unsupported "internal:collect") Q E { s with heap := (s.heap.push (seqObj "list" #[] 0)).update s.heap.objs.size (Obj.mapSeq (· ++ vs.toArray)) }
  refine wpAny_bind (wpAny_load (get?_update_seq (Heap.get?_push_size _ rfl) _) ?_)
  show wpAny _ _ (pure ((#[] : Array Value) ++ vs.toArray).toList) Q E _
  rw [show ((#[] : Array Value) ++ vs.toArray).toList = vs by simp]
  exact wpAny_pure h
open PySem.W PySem.Calls in
theorem sorted_of_sortT {l : Addr} {vs : List Value} {kw : List (Str × Value)} {Q : Value → Shared → Prop} (hl : IsTup s.heap l vs.toArray) (hL : vs.length ≤ sizeLine) (ha1 : argsOk "sorted" ⟨[.ref l], kw⟩) (ha2 : ∀ x, argsOk "list.sort" ⟨[.ref x], kw⟩)
    (body : ∀ E' : Value → Shared → Prop, wpAny (model prog w) A.in1.in1 (Builtin.«list.sort» ⟨[.ref (s.heap.objs.size + 1)], kw⟩) (fun f s' => f = .done (.ret .none) ∧ Q (.ref (s.heap.objs.size + 1)) s') E' { s with heap := copyHeap s.heap vs }) :
    wpAny (model prog w) A (call (.builtin "sorted") [.ref l] kw) Q E s := by
  refine call_function_entry_kw kind_sorted plain_sorted entry_sorted ha1 ?_
  unfold Builtin.«sorted»
  refine wpAny_bind (m := checkCount "sorted" 1 1 _) (wpAny_pure ?_)
  refine wpAny_bind (collect_tup hl ?_ hL)
  refine wpAny_bind (wpAny_newList ?_ hL)
  have hsz : ((s.heap.push (seqObj "list" #[] 0)).update s.heap.objs.size (Obj.mapSeq (· ++ vs.toArray))).objs.size = s.heap.objs.size + 1 := by
    rw [Heap.size_update, size_push']
  show wpAny _ _ _ _ _ { s with heap := copyHeap s.heap vs }
  rw [hsz]
  refine wpAny_bind (wpAny_holding (wpAny_call_entry_kw slot_list_sort ⟨_, copyHeap_at s.heap vs, rfl⟩ entry_list_sort ?body (ha2 _)))
  case body =>
    show wpAny (model prog w) A.in1.in1 (Builtin.«list.sort» ⟨[.ref (s.heap.objs.size + 1)], kw⟩) _ _ _
    refine wpAny_mono (body _) (fun f s' hf => ?_) fun _ _ e => e
    obtain ⟨rfl, hq⟩ := hf
    exact ⟨_, rfl, wpAny_pure ⟨_, rfl, hq⟩⟩
open PySem.W PySem.Calls in
theorem sorted_dataT {l : Addr} {vs : List Value} {β : Type} {bs : List β} {enc : β → PyData} {R : Value → β → Prop} {Q : Value → Shared → Prop} (hl : IsTup s.heap l vs.toArray) (e : EachIs R vs bs) (er : EachIs (fun v b => ∃ as, Reads s.heap v (enc b) as) vs bs) (hal : AllAlike (bs.map enc)) (hk : PySem.W.Sortable (bs.map enc)) (hL : bs.length ≤ sizeLine)
    (hu : ∀ b, b ∈ bs → A.units + 2 + (enc b).depth < cLine) (h : ∀ out, out.length = bs.length → EachIs R out (bs.mergeSort (dataLe false enc)) → Q (.ref (s.heap.objs.size + 1)) { s with heap := sortedAll s.heap vs (List.toArray out) }) :
    wpAny (model prog w) A (call (.builtin "sorted") [.ref l]) Q E s := by
  have er' : EachIs (fun v b => ∃ as, Reads (sortingHeap (copyHeap s.heap vs) (s.heap.objs.size + 1) vs) v (enc b) as) vs bs := er.mono fun _ _ ⟨as, r⟩ => ⟨as, PyProof.Rows.Reads.keeps (fun _ _ => sorting_copy_old) r⟩
  have hL' : vs.length ≤ sizeLine := by rw [e.length]; exact hL
  exact sorted_of_sortT hl hL' (args_sorted1 _) (fun _ => args_list_sort _) fun _ => list_sort_vals (s := { s with heap := copyHeap s.heap vs }) (copyHeap_at s.heap vs)
    (SortsAt.data (s := { s with heap := sortingHeap (copyHeap s.heap vs) (s.heap.objs.size + 1) vs }) (each_map (R := fun v d => ∃ as, Reads (sortingHeap (copyHeap s.heap vs) (s.heap.objs.size + 1) vs) v d as) enc er') hal hk (bound_map hu)) hL'
    ⟨rfl, h _ (by rw [sortVals_length false rfl]; exact e.length) (sortVals_data false e er' hal)⟩
end
/-- a two-place rule of values -/
def rOp (K : PySem.W.Frag) (x y : D) (r : D × Bool) : R2 := fun v w H Q => ∃ ν F μ, VwT K ν F μ H x v ∧ VwT K ν F μ H y w ∧ ∀ u H', Res K ν F μ H r u H' → Q u H'
section
variable {X : Cx} {x y : D} {r : D × Bool}
theorem op_arith {op : Operator} (h : arith op x y = some r) : OpR X (binaryOp op) (rOp X.K x y r) := by
  intro pins s σ H v w u1 u2 Q I r1 r2 hq
  obtain ⟨ν, F, μ, h1, h2, q⟩ := hq
  have hs := sizeLine_eq
  have hl : line = 16777216 := rfl
  unfold arith at h
  split at h
  · cases h; cases h1; cases h2
    exact op_add pins s σ H _ _ _ _ Q I r1 r2 ⟨_, _, rfl, rfl, q _ _ (.old (.int _))⟩
  · split at h
    · rename_i hz; cases h; cases h1; cases h2
      exact op_add_str pins s σ H _ _ _ _ Q I r1 r2 ⟨_, _, rfl, rfl, by omega, q _ _ (.old (.str _))⟩
    · cases h
  · split at h
    · rename_i a b hz; cases h
      have h1' : Rp X.K ν F μ H (.tuple a) v := h1
      have h2' : Rp X.K ν F μ H (.tuple b) w := h2
      cases h1' with
      | tup e1 g1 =>
        cases h2' with
        | tup e2 g2 =>
          have l1 := g1.length
          have l2 := g2.length
          cases r1
          cases r2
          obtain ⟨its, v1, p1, _⟩ := I.tuple e1.seq
          obtain ⟨its2, v2, p2, _⟩ := I.tuple e2.seq
          have k1 := v1.length
          have k2 := v2.length
          cases g1 with
          | nil => cases v1; exact cat_tup0 p1 p2 ⟨.ref _, H, I, rfl, q _ _ (.old (.tup e2 g2))⟩
          | cons d1 d2 =>
            refine HT.cat_tup p1 p2 (fun z => by subst z; simp at k1) (fun z => ?_) (fun z => ?_) (by omega)
            · subst z; cases v2; cases g2; rw [List.append_nil] at q; exact ⟨.ref _, H, I, rfl, q _ _ (.old (.tup e1 (.cons d1 d2)))⟩
            · exact ⟨.ref _, _, I.tupN (v1.append v2) (by rw [List.length_append]; omega), rfl, q _ _ (.tup I.fresh rfl ((RpAll.cons d1 d2).append g2))⟩
    · cases h
  · split at h
    · rename_i a b hz; cases h
      obtain ⟨p1, xs, rfl, e1, g1⟩ := h1
      obtain ⟨p2, ys, rfl, e2, g2⟩ := h2
      have l1 := g1.length
      have l2 := g2.length
      exact op_cat pins s σ H _ _ _ _ Q I r1 r2 ⟨_, _, _, _, rfl, rfl, e1, e2, by omega, fun p n => q _ _ (.lst n (g1.append g2))⟩
    · cases h
  · cases h; cases h1; cases h2
    exact op_sub pins s σ H _ _ _ _ Q I r1 r2 ⟨_, _, rfl, rfl, q _ _ (.old (.int _))⟩
  · split at h
    · rename_i hz; cases h; cases h1; cases h2
      exact op_mulW pins s σ H _ _ _ _ Q I r1 r2 ⟨_, _, rfl, rfl, of_decide_eq_true (p := _ < 1000000) hz, q _ _ (.old (.int _))⟩
    · cases h
  · split at h
    · rename_i a b hz; cases h
      have h1' : Rp X.K ν F μ H (.tuple a) v := h1
      cases h1' with
      | tup e1 g1 =>
        cases h2
        have l1 := g1.length
        cases r1
        obtain ⟨t, rfl⟩ := r2
        obtain ⟨its, v1, ⟨⟨cls, dd, data, sl⟩, ho, hc, n, hd⟩, _⟩ := I.tuple e1.seq
        simp only at hc hd
        subst hc hd
        have k1 := v1.length
        have c0 : (decide (b < -(2 ^ 63)) || decide (b ≥ 2 ^ 63)) = false := by
          rw [decide_eq_false (by omega), decide_eq_false (by omega)] <;> rfl
        by_cases c1 : (its.toArray.isEmpty || b == 1) = true
        · refine wpAny_binaryOp_repeat_ref (T := "tuple") (U := "int") (by decide) ⟨_, ho, rfl⟩ (fun s' => typeIs_int s' b t) noFill_tuple_mul PySem.F.fills_int_mul PySem.F.slot_int_rmul repeat_tuple PySem.F.slot_int_index.lookup
            (call_meets PySem.F.slot_int_rmul (typeIs_int s b t) PySem.F.entry_int_rmul (PySem.F.args_int_rmul_2 _ _) (int_rmul_tuple b t _ its.toArray n dd sl)
              ⟨ho, rfl, ⟨_, ho, rfl⟩, call_meets PySem.F.slot_tuple_mul ⟨_, ho, rfl⟩ PySem.F.entry_tuple_mul (PySem.F.args_tuple_mul_2 _ _) (tuple_mul1 _ its.toArray n dd sl b t c0 c1) ⟨ho, ?_⟩⟩)
          have ea : (List.replicate b.toNat a).flatten = a := by
            rw [Bool.or_eq_true] at c1
            rcases c1 with c1 | c1
            · have : its = [] := by cases its with | nil => rfl | cons _ _ => cases c1
              subst this
              cases v1
              cases g1
              have : ∀ m : Nat, (List.replicate m ([] : List D)).flatten = [] := by
                intro m
                induction m with
                | zero => rfl
                | succ m ih => rw [List.replicate_succ, List.flatten_cons, ih]; rfl
              exact this _
            · have := eq_of_beq c1
              subst this
              simp
          exact ⟨.ref _, H, I, rfl, q _ _ (.old (by rw [ea]; exact .tup e1 g1))⟩
        · have c1' : (its.toArray.isEmpty || b == 1) = false := by simpa using c1
          have hi : its.toArray.isEmpty = false := (Bool.or_eq_false_iff.mp c1').1
          by_cases hb : b ≤ 0
          · refine wpAny_binaryOp_repeat_ref (T := "tuple") (U := "int") (by decide) ⟨_, ho, rfl⟩ (fun s' => typeIs_int s' b t) noFill_tuple_mul PySem.F.fills_int_mul PySem.F.slot_int_rmul repeat_tuple PySem.F.slot_int_index.lookup
              (call_meets PySem.F.slot_int_rmul (typeIs_int s b t) PySem.F.entry_int_rmul (PySem.F.args_int_rmul_2 _ _) (int_rmul_tuple b t _ its.toArray n dd sl)
                ⟨ho, rfl, ⟨_, ho, rfl⟩, call_meets PySem.F.slot_tuple_mul ⟨_, ho, rfl⟩ PySem.F.entry_tuple_mul (PySem.F.args_tuple_mul_2 _ _) (tuple_mul0 _ its.toArray n dd sl b t c0 c1' (by rw [decide_eq_true hb]; rfl)) ⟨ho, ?_⟩⟩)
            have ez : b.toNat = 0 := by omega
            exact ⟨.ref _, _, I.tupN (xs := []) (its := []) .nil (Nat.zero_le _), rfl, q _ _ (by rw [ez]; exact .tup I.fresh rfl .nil)⟩
          · have c2 : (decide (b ≤ 0) || its.toArray.isEmpty) = false := by
              rw [hi, Bool.or_false]
              exact decide_eq_false hb
            have hle : its.length ≤ 1000 := by omega
            have hm : ((its.toArray.size : Nat) : Int) * b ≤ 1000000 := by
              rw [List.size_toArray]
              have a1 : ((its.length : Nat) : Int) * b ≤ 1000 * b := Int.mul_le_mul_of_nonneg_right (by omega) (by omega)
              omega
            have flen : (List.replicate b.toNat its).flatten.length ≤ sizeLine := by
              rw [PyProof.Rows.lm_len_rep_flat, sizeLine_eq]
              have a1 : b.toNat * its.length ≤ 1000 * 1000 := Nat.mul_le_mul (by omega) hle
              omega
            have c4 : Builtin.Tuple.tupleTooMany (((its.toArray.size : Nat) : Int) * b) = false := by
              unfold Builtin.Tuple.tupleTooMany
              rw [sizeLine_eq]
              exact decide_eq_false (by omega)
            refine wpAny_binaryOp_repeat_ref (T := "tuple") (U := "int") (by decide) ⟨_, ho, rfl⟩ (fun s' => typeIs_int s' b t) noFill_tuple_mul PySem.F.fills_int_mul PySem.F.slot_int_rmul repeat_tuple PySem.F.slot_int_index.lookup
              (call_meets PySem.F.slot_int_rmul (typeIs_int s b t) PySem.F.entry_int_rmul (PySem.F.args_int_rmul_2 _ _) (int_rmul_tuple b t _ its.toArray n dd sl)
                ⟨ho, rfl, ⟨_, ho, rfl⟩, call_meets PySem.F.slot_tuple_mul ⟨_, ho, rfl⟩ PySem.F.entry_tuple_mul (PySem.F.args_tuple_mul_2 _ _) (tuple_mulW _ its.toArray n dd sl b t c0 c1' c2 (by omega) c4 (by rw [size_rep, List.size_toArray]; exact flen)) ⟨ho, ?_⟩⟩)
            rw [size_rep]
            refine ⟨.ref _, _, I.tupN (v1.rep b.toNat) (by rw [PyProof.Rows.lm_len_rep_flat, sizeLine_eq]; have a1 : b.toNat * _ ≤ 1000 * 1000 := Nat.mul_le_mul (by omega) (Nat.le_trans (Nat.le_of_eq k1) hle); omega), rfl, q _ _ (.tup I.fresh rfl (g1.rep b.toNat))⟩
    · cases h
  · split at h
    · rename_i a b hz; cases h
      obtain ⟨p1, xs, rfl, e1, g1⟩ := h1
      have l1 := g1.length
      cases h2
      refine op_rep pins s σ H _ _ _ _ Q I r1 r2 ⟨_, _, _, rfl, rfl, e1, by omega, by omega, ?_, fun p n => q _ _ (.lst n (g1.rep b.toNat))⟩
      rw [hs]
      have a1 : xs.length * b.toNat ≤ 1000 * 1000 := Nat.mul_le_mul (by omega) (by omega)
      omega
    · cases h
  · split at h
    · rename_i hz; cases h; cases h1; cases h2
      exact op_fdivW pins s σ H _ _ _ _ Q I r1 r2 ⟨_, _, rfl, rfl, hz, q _ _ (.old (.int _))⟩
    · cases h
  · split at h
    · rename_i hz; cases h; cases h1; cases h2
      exact op_mod pins s σ H _ _ _ _ Q I r1 r2 ⟨_, _, rfl, rfl, hz, q _ _ (.old (.int _))⟩
    · cases h
  · split at h
    · rename_i hz; cases h; cases h1; cases h2
      exact op_pow pins s σ H _ _ _ _ Q I r1 r2 ⟨_, _, rfl, rfl, hz, q _ _ (.old (.int _))⟩
    · cases h
  · cases h

theorem key_v {K : PySem.W.Frag} {ν : Mu} {F : Fz} {μ : Mu} {H : Hp} {x : D} {v : V} {k : Key} (hk : keyOf x = some k) (h : Vw K ν F μ H x v) : v = kV k := by
  cases x with
  | int i => cases h; cases hk; rfl
  | str i => cases h; cases hk; rfl
  | _ => cases hk
theorem kv_some {K : PySem.W.Frag} {ν : Mu} {F : Fz} {μ : Mu} {H : Hp} {kvs : List (D × D)} {vs : List (Key × V)} (r : KvAll K ν F μ H kvs vs) (k : Key) : (valV vs k).isSome = (dval kvs k).isSome := by
  have := r.val k
  cases h : dval kvs k with
  | none => rw [h] at this; rw [show valV vs k = none from this]; rfl
  | some d => rw [h] at this; obtain ⟨v, e, _⟩ := this; rw [e]; rfl
def rCmp (K : PySem.W.Frag) (x y : D) (b : Bool) : R2 := fun v w H Q => ∃ ν F μ, Vw K ν F μ H x v ∧ Vw K ν F μ H y w ∧ Q (.bl b) H
theorem op_cmp {op : CmpOp} {b : Bool} (hu : X.A.units + 65 < cLine) (h : cmp op x y = some b) : OpR X (compareOp op) (rCmp X.K x y b) := by
  intro pins s σ H v w u1 u2 Q I r1 r2 hq
  obtain ⟨ν, F, μ, h1, h2, q⟩ := hq
  unfold cmp at h
  split at h
  · split at h
    · rename_i hz; cases h
      obtain ⟨z1, z2⟩ := Bool.and_eq_true_iff.mp hz
      exact op_eqD (by omega) pins s σ H _ _ _ _ Q I r1 r2 ⟨_, _, h1.dp z1, h2.dp z2, z1, z2, q⟩
    · cases h
  · split at h
    · rename_i hz; cases h
      obtain ⟨z1, z2⟩ := Bool.and_eq_true_iff.mp hz
      exact op_neD (by omega) pins s σ H _ _ _ _ Q I r1 r2 ⟨_, _, h1.dp z1, h2.dp z2, z1, z2, q⟩
    · cases h
  · cases h; cases h1; cases h2
    exact op_lt pins s σ H _ _ _ _ Q I r1 r2 ⟨_, _, rfl, rfl, q⟩
  · cases h; cases h1; cases h2
    exact op_le pins s σ H _ _ _ _ Q I r1 r2 ⟨_, _, rfl, rfl, q⟩
  · cases h; cases h1; cases h2
    exact op_gt pins s σ H _ _ _ _ Q I r1 r2 ⟨_, _, rfl, rfl, q⟩
  · cases h; cases h1; cases h2
    exact op_ge pins s σ H _ _ _ _ Q I r1 r2 ⟨_, _, rfl, rfl, q⟩
  · split at h
    · rename_i hz; cases h
      obtain ⟨z1, z2⟩ := Bool.and_eq_true_iff.mp hz
      exact op_inD hu pins s σ H _ _ _ _ Q I r1 r2 ⟨_, _, h1.dp z1, h2.dp z2, z1, z2, q⟩
    · cases h
  · split at h
    · rename_i ys hz; cases h
      obtain ⟨z1, z2⟩ := Bool.and_eq_true_iff.mp hz
      obtain ⟨as, g1⟩ := Dp.reads I _ _ _ (h1.dp z1) r1
      have c2 : (PyData.tuple ys).canLay0 = true := by
        have := SeqAt.canLay_of_shaped z2
        simpa [PyData.canLay0] using this
      obtain ⟨bs, g2⟩ := Dp.reads I _ _ _ (Rp.dp h2 c2) r2
      exact SeqAt.in_tuple_reads g2 g1 (by simpa [PyData.canLay0] using c2) (SeqAt.canLay_of_shaped z1) (room_in_shaped z1 hu) ⟨.bl _, H, I, rfl, q⟩
    · cases h
  · obtain ⟨k, hk, rfl⟩ := Option.map_eq_some_iff.mp h
    obtain ⟨a, vs, rfl, e, r⟩ := h2
    cases r2
    have hkv := key_v hk h1
    subst hkv
    refine d_in (by omega) I (dget_rd (k := k) e) r1 fun s' I' => ⟨.bl _, H, I', rfl, ?_⟩
    rw [kv_some r k]
    exact q
  · obtain ⟨k, hk, rfl⟩ := Option.map_eq_some_iff.mp h
    obtain ⟨a, vs, rfl, e, r⟩ := h2
    cases r2
    have hkv := key_v hk h1
    subst hkv
    refine d_notIn (by omega) I (dget_rd (k := k) e) r1 fun s' I' => ⟨.bl _, H, I', rfl, ?_⟩
    rw [kv_some r k]
    exact q
  · cases h; cases h1; cases h2
    exact op_in_str pins s σ H _ _ _ _ Q I r1 r2 ⟨_, _, rfl, rfl, q⟩
  · split at h
    · rename_i hz; cases h
      obtain ⟨z1, z2⟩ := Bool.and_eq_true_iff.mp hz
      exact op_notInD hu pins s σ H _ _ _ _ Q I r1 r2 ⟨_, _, h1.dp z1, h2.dp z2, z1, z2, q⟩
    · cases h
  · split at h
    · rename_i ys hz; cases h
      obtain ⟨z1, z2⟩ := Bool.and_eq_true_iff.mp hz
      obtain ⟨as, g1⟩ := Dp.reads I _ _ _ (h1.dp z1) r1
      have c2 : (PyData.tuple ys).canLay0 = true := by
        have := SeqAt.canLay_of_shaped z2
        simpa [PyData.canLay0] using this
      obtain ⟨bs, g2⟩ := Dp.reads I _ _ _ (Rp.dp h2 c2) r2
      exact SeqAt.notIn_tuple_reads g2 g1 (by simpa [PyData.canLay0] using c2) (SeqAt.canLay_of_shaped z1) (room_in_shaped z1 hu) ⟨.bl _, H, I, rfl, q⟩
    · cases h
  · cases h; cases h1; cases h2
    exact op_notIn_str pins s σ H _ _ _ _ Q I r1 r2 ⟨_, _, rfl, rfl, q⟩
  · cases h; cases h2
    refine op_isN pins s σ H _ _ _ _ Q I r1 r2 ⟨rfl, ?_⟩
    cases x with
    | list ds => obtain ⟨a, xs, rfl, _⟩ := h1; exact q
    | dict ds => obtain ⟨a, vs, rfl, _⟩ := h1; exact q
    | _ => cases h1 <;> exact q
  · cases h; cases h2
    refine op_notN pins s σ H _ _ _ _ Q I r1 r2 ⟨rfl, ?_⟩
    cases x with
    | list ds => obtain ⟨a, xs, rfl, _⟩ := h1; exact q
    | dict ds => obtain ⟨a, vs, rfl, _⟩ := h1; exact q
    | _ => cases h1 <;> exact q
  · cases h; cases h1; cases h2
    exact op_isBl pins s σ H _ _ _ _ Q I r1 r2 ⟨_, _, rfl, rfl, q⟩
  · cases h; cases h1; cases h2
    exact op_notBl pins s σ H _ _ _ _ Q I r1 r2 ⟨_, _, rfl, rfl, q⟩
  · cases h

/-- truth -/
theorem tru_of {K : PySem.W.Frag} {ν : Mu} {F : Fz} {μ : Mu} {H : Hp} {d : D} {v : V} {b : Bool} (h : Vw K ν F μ H d v) (t : truth d = some b) : TruV K v H b := by
  have hs := sizeLine_eq
  have hl : line = 16777216 := rfl
  cases d with
  | none => cases h; cases t; rfl
  | bool k => cases h; cases t; rfl
  | int i => cases h; cases t; rfl
  | str y =>
    cases h
    have t' : (if y.length ≤ line then some ((y.length : Int) != 0) else none) = some b := t
    split at t'
    · cases t'; exact ⟨by omega, rfl⟩
    · cases t'
  | list ds =>
    obtain ⟨a, xs, rfl, h1, h2⟩ := h
    cases t
    refine .inl ⟨xs, h1, ?_⟩
    cases h2 <;> rfl
  | tuple ds =>
    cases h with
    | tup h1 h2 =>
      cases t
      refine .inr (.inl ⟨_, h1.seq, ?_⟩)
      cases h2 <;> rfl
  | dict kvs => cases t

theorem ixN_lt {n : Nat} {i : Int} {j : Nat} (h : ixN n i = some j) : j < n := (ixN_seq h).2.1
theorem at_rp {K : PySem.W.Frag} {ν : Mu} {F : Fz} {μ : Mu} {H : Hp} {ds : List D} {xs : List V} {i : Int} {d : D} (h : RpAll K ν F μ H ds xs) (e : atI ds i = some d) : ∃ v, atI xs i = some v ∧ Rp K ν F μ H d v := by
  unfold atI at e ⊢
  rw [← h.length]
  cases q : ixN ds.length i with
  | none => rw [q] at e; cases e
  | some j =>
    rw [q] at e
    exact h.get (show ds[j]? = some d from e)
theorem ix_item {k : D} (hu : X.A.units + 1 < cLine) (h : item x k = some r.1) (hr : r.2 = false) : IxR X (fun v w H Q => ∃ ν F μ, Vw X.K ν F μ H x v ∧ Vw X.K ν F μ H k w ∧ ∀ u H', Res X.K ν F μ H r u H' → Q u H') := by
  intro va sl pins s σ H v w u1 u2 Q I r1 r2 hq hsub
  obtain ⟨ν, F, μ, h1, h2, q⟩ := hq
  obtain ⟨d, fl⟩ := r
  cases hr
  have hs := sizeLine_eq
  have hl : line = 16777216 := rfl
  unfold item at h
  split at h
  · cases h2
    obtain ⟨a, xs, rfl, e1, g1⟩ := h1
    obtain ⟨y, e2, g2⟩ := at_rp g1 h
    exact ix_list va sl pins s σ H _ _ _ _ Q I r1 r2 ⟨_, _, _, _, rfl, rfl, e1, e2, q _ _ (.old g2)⟩ hsub
  · cases h2
    cases h1 with
    | tup e1 g1 =>
      obtain ⟨y, e2, g2⟩ := at_rp g1 h
      exact ix_tup va sl pins s σ H _ _ _ _ Q I r1 r2 ⟨_, _, _, _, rfl, rfl, e1.seq, e2, q _ _ (.old g2)⟩ hsub
  · split at h
    · rename_i hz
      cases h1; cases h2
      obtain ⟨c, e1, e2⟩ := Option.map_eq_some_iff.mp h
      cases e2
      exact ix_str va sl pins s σ H _ _ _ _ Q I r1 r2 ⟨_, _, _, rfl, rfl, by omega, e1, q _ _ (.old (.str _))⟩ hsub
    · cases h
  · obtain ⟨k, hk, hd⟩ := Option.bind_eq_some_iff.mp h
    obtain ⟨a, vs, rfl, e, g⟩ := h1
    have hkv := key_v hk h2
    subst hkv
    cases r1
    have gv := g.val k
    rw [hd] at gv
    obtain ⟨y, e2, g2⟩ := gv
    have dg : DGet H a (kV k) (some y) := by rw [← e2]; exact dget_rd e
    exact tail_any (dict_typeIs I dg) PySem.F.slot_dict_getitem.lookup (d_getItem hu I dg r2 fun w' s' I' rw' => ⟨y, H, I', rw', q _ _ (.old g2)⟩) hsub
  · cases h

theorem cut_rp {K : PySem.W.Frag} {ν : Mu} {F : Fz} {μ : Mu} {H : Hp} {ds : List D} {xs : List V} (lo hi : Option Int) (h : RpAll K ν F μ H ds xs) : RpAll K ν F μ H (cut ds lo hi) (cutV xs lo hi) := by
  unfold cut cutV
  rw [h.length]
  exact (h.drop _).take _
theorem sl_ok {l u : Option Int} (h : slice x l u = some r) : SlR X (fun v lo hi H Q => lo = l ∧ hi = u ∧ ∃ ν F μ, Vw X.K ν F μ H x v ∧ ∀ w H', Res X.K ν F μ H r w H' → Q w H') := by
  intro pins s σ H v va vl vu lo hi sl Q I rx hs pl pu hq
  obtain ⟨rfl, rfl, ν, F, μ, h1, q⟩ := hq
  have hs' := sizeLine_eq
  have hl : line = 16777216 := rfl
  unfold slice at h
  split at h
  · cases h
    obtain ⟨a, xs, rfl, e1, g1⟩ := h1
    exact sl_list pins s σ H _ va vl vu _ _ sl Q I rx hs pl pu ⟨_, _, rfl, e1, fun p n => q _ _ (.lst n (cut_rp _ _ g1))⟩
  · cases h
    cases h1 with
    | tup e1 g1 =>
      rename_i a xs
      cases rx
      obtain ⟨its, rv, ht, hz⟩ := I.tuple e1.seq
      have hlen : its.toArray.size = xs.length := by rw [List.size_toArray]; exact rv.length.symm
      refine ⟨"tuple", _, PyProof.Rows.slot_tuple_getitem.lookup, ht.typeIs, ?_⟩
      by_cases hw : HT.sIx xs.length 0 lo = 0 ∧ HT.sIx xs.length xs.length hi = xs.length
      · refine getItem_tuple_whole ht hs pl pu (by rw [hlen]; exact hw) ⟨.ref a, H, I, rfl, q _ _ ?_⟩
        have ec : cut _ lo hi = _ := show ((List.drop _ _).take _) = _ from by
          rw [g1.length, hw.1, hw.2, List.drop_zero, Nat.sub_zero, ← g1.length, List.take_length]
        rw [ec]
        exact .old (.tup e1 g1)
      · refine HT.getItem_tuple_cut ht hs pl pu (by rw [hlen]; exact hw) ?_ (by rw [hlen]; exact hz)
        rw [hlen]
        have g2 := cut_rp lo hi g1
        have z2 : (cutV xs lo hi).length ≤ sizeLine := Nat.le_trans (cutV_length xs lo hi) hz
        exact ⟨.ref _, _, I.tupN (t' := s.toks) ((rv.drop (HT.sIx xs.length 0 lo)).take (HT.sIx xs.length xs.length hi - HT.sIx xs.length 0 lo)) z2, rfl, q _ _ (.tup I.fresh rfl g2)⟩
  · split at h
    · cases h; cases h1
      exact sl_str pins s σ H _ va vl vu _ _ sl Q I rx hs pl pu ⟨_, rfl, by omega, q _ _ (.old (.str _))⟩
    · cases h
  · cases h
end
/-! ### t[::-1] -/
section
open HT
section
variable {w : World} {prog : Program} {A : Around} {E : Value → Shared → Prop} {s : Shared}
theorem applied_rev {sl : Addr} {n : Nat} {t : Tok} {Q : Int × Int × Nat → Shared → Prop} (iS : s.heap.IsSliceOf sl .none .none (.int (-1) t))
    (h : Q ((n : Int) - 1, -1, n) s) : wpAny (model prog w) A (Builtin.Slice.sliceApplied (.ref sl) (pure (n : Int))) Q E s := by
  obtain ⟨ob, at_, cls, flds⟩ := id iS
  unfold Builtin.Slice.sliceApplied; unfold Builtin.Slice.sliceFields
  refine wpAny_bind (wpAny_bind (wpAny_field at_ flds (x := .none) rfl (wpAny_bind (wpAny_field at_ flds (x := .none) rfl (wpAny_bind (wpAny_field at_ flds (x := .int (-1) t) rfl (wpAny_pure ?_)))))))
  refine wpAny_bind (slicePart_int ?_)
  show wpAny _ _ (if ((-1 : Int) == 0) = true then _ else _) _ _ s
  rw [if_neg (by decide)]
  refine wpAny_bind (slicePart_none (wpAny_bind (slicePart_none (wpAny_bind (wpAny_pure ?_)))))
  have e1 : Builtin.Slice.sliceAdjust none none (-1) (n : Int) = ((n : Int) - 1, -1) := by
    unfold Builtin.Slice.sliceAdjust
    simp
  have e2 : Builtin.Slice.slicePlaces ((n : Int) - 1) (-1) (-1) = n := by
    unfold Builtin.Slice.slicePlaces
    simp
    omega
  show wpAny _ _ (match Builtin.Slice.sliceAdjust none none (-1) (n : Int) with | (lo, hi) => pure (lo, (-1 : Int), Builtin.Slice.slicePlaces lo hi (-1))) _ _ s
  rw [e1]
  show wpAny _ _ (pure ((n : Int) - 1, (-1 : Int), Builtin.Slice.slicePlaces ((n : Int) - 1) (-1) (-1))) _ _ s
  rw [e2]
  exact wpAny_pure h
theorem filter_same {α β : Type} {f g : α → Option β} : ∀ {l : List α}, (∀ a ∈ l, f a = g a) → l.filterMap f = l.filterMap g
  | [], _ => rfl
  | a :: l, h => by
    rw [List.filterMap_cons, List.filterMap_cons, h a List.mem_cons_self, filter_same fun b hb => h b (List.mem_cons_of_mem _ hb)]
theorem pick_rev (xs : List Value) : ((List.range xs.toArray.size).filterMap fun (m : Nat) => xs.toArray[(((xs.toArray.size : Nat) : Int) - 1 + (m : Int) * -1).toNat]?) = xs.reverse := by
  have e : ∀ m ∈ List.range xs.toArray.size, xs.toArray[(((xs.toArray.size : Nat) : Int) - 1 + (m : Int) * -1).toNat]? = xs.reverse[m]? := fun m hm => by
    have hm' : m < xs.length := by simpa using hm
    have e1 : (((xs.toArray.size : Nat) : Int) - 1 + (m : Int) * -1).toNat = xs.length - 1 - m := by
      rw [List.size_toArray]; omega
    rw [e1, List.getElem?_reverse hm']
    simp
  rw [filter_same e]
  have := PySem.W.krv_all xs.reverse.toArray
  simpa using this
theorem getItem_tuple_rev {t sl : Addr} {its : List Value} {u : Tok} {Q : Value → Shared → Prop} (iT : IsTup s.heap t its.toArray) (iS : s.heap.IsSliceOf sl .none .none (.int (-1) u))
    (h : Q (.ref s.heap.objs.size) { s with heap := s.heap.push { cls := .type "tuple", data := .seq its.reverse.toArray } }) (hsz : its.length ≤ sizeLine) : wpAny (model prog w) A (getItem (.ref t) (.ref sl)) Q E s := by
  obtain ⟨ob, at_, cls, flds⟩ := id iS
  have tyS : s.TypeIs (.ref sl) "slice" := ⟨ob, at_, cls⟩
  have hok : sizeOk (.seq its.reverse.toArray) := by
    show its.reverse.toArray.size ≤ sizeLine
    rw [List.size_toArray, List.length_reverse]; exact hsz
  unfold getItem; (try with_reducible refine wpAny_holding ?_); (first | refine wpAny_bind (wpAny_pure ?_) | skip)
  refine wpAny_bind (wpAny_sequenceKey iT.typeIs (by decide) ?_)
  refine wpAny_bind (wpAny_callSpecial?_slot (name := Str.ofString "__getitem__") iT.typeIs PyProof.Rows.slot_tuple_getitem
    (wpAny_call_entry PyProof.Rows.slot_tuple_getitem iT.typeIs entry_tuple_getitem ?_ (args_tuple_getitem _ _)))
  show wpAny _ _ (Builtin.Tuple.tupleItemsOf (.ref t) >>= _) _ _ s; refine wpAny_bind (tupleItemsOf_ iT ?_)
  refine wpAny_bind (wpAny_typeOf tyS ?_)
  rw [if_pos (by decide)]
  refine wpAny_bind (applied_rev iS ?_)
  have hno : ¬ ((((its.toArray.size : Nat) : Int) - 1 == 0 && (-1 : Int) == 1 && its.toArray.size == its.toArray.size) = true) := by simp
  show wpAny _ _ (if (((its.toArray.size : Nat) : Int) - 1 == 0 && (-1 : Int) == 1 && its.toArray.size == its.toArray.size) = true then _ else _) _ _ s
  rw [if_neg hno, pick_rev]
  first
    | exact wpAny_bind  (m := Builtin.Tuple.tupleExact _) (wpAny_newObj_type (wpAny_pure ⟨_, rfl, wpAny_pure h⟩) hok)
    | exact wpAny_bind  (m := Builtin.Tuple.tupleExact _) (wpAny_newObj_type (wpAny_bind (wpAny_pure (wpAny_pure ⟨_, rfl, wpAny_pure h⟩))) hok)
    | exact wpAny_bind (wpAny_bind  (m := Builtin.Tuple.tupleExact _) (wpAny_newObj_type (wpAny_pure (wpAny_pure ⟨_, rfl, wpAny_pure h⟩)) hok))
    | exact wpAny_bind (wpAny_bind  (m := Builtin.Tuple.tupleExact _) (wpAny_newObj_type (wpAny_pure ⟨_, rfl, wpAny_pure h⟩) hok))
end
end
section
variable {X : Cx}
theorem part_none {v : Value} (h : IsPart v none) : v = .none := by cases h; rfl
theorem part_int {v : Value} {i : Int} (h : IsPart v (some i)) : ∃ t, v = .int i t := by cases h; exact ⟨_, rfl⟩
theorem pe_revT {e : Expr} {te : TE} {k : Nat} {p1 p2 p3 pos : Pos} (he : PE X e te) : PE X (.Subscript e (.Slice none none (some (.UnaryOp .USub (.Constant (.int 1) k p1) p2)) p3) pos)
    (fun σ H Q => te σ H fun x H1 => ∃ a xs, x = .ref a ∧ SqT X.K H1 a xs ∧ ∀ p o, H1 p = none → o.dict = none → Q (.ref p) (upd H1 p (.frz o (.tup xs.reverse)))) := by
  refine ⟨fun pins s σ H Q I h => Subscript_ (thn (he.run pins s σ H _ I h) fun v s1 hx => ?_)⟩
  obtain ⟨x, H1, I1, rx, a, xs, rfl, sq, q⟩ := hx
  cases rx
  have step : PO X (some (.UnaryOp .USub (.Constant (.int 1) k p1) p2)) (tPart (tUn (rU fun i => .int (-i)) (tC (.int 1)))) := po_some (pe_un un_neg pe_int)
  refine wpAny_Slice (thn (po_none.run pins s1 σ H1 (fun o H2 => o = none ∧ H2 = H1) I1 ⟨rfl, rfl⟩) fun w1 s2 hy => ?_)
  obtain ⟨_, _, I2, part1, rfl, rfl⟩ := hy
  refine thn (po_none.run pins s2 σ _ (fun o H3 => o = none ∧ H3 = _) I2 ⟨rfl, rfl⟩) fun w2 s3 hy => ?_
  obtain ⟨_, _, I3, part2, rfl, rfl⟩ := hy
  refine thn (step.run pins s3 σ _ (fun o H4 => o = some (-1) ∧ H4 = _) I3 ⟨1, rfl, -1, rfl, rfl, rfl⟩) fun w3 s4 hy => ?_
  obtain ⟨_, _, I4, part3, rfl, rfl⟩ := hy
  obtain rfl := part_none part1
  obtain rfl := part_none part2
  obtain ⟨tk, rfl⟩ := part_int part3
  have I5 : Inv X pins σ _ { s4 with heap := s4.heap.push { cls := .type "slice", data := .fields #[Value.none, Value.none, .int (-1) tk] } } := I4.kept (t' := s4.toks) fun b ob z => Heap.get?_push_of_some _ z
  obtain ⟨its, r, iT, hz⟩ := I5.tuple sq
  have hl := r.length
  show wpAny (model X.prog X.w) X.A (subscriptTail e (.Slice none none (some (.UnaryOp .USub (.Constant (.int 1) k p1) p2)) p3) (.ref a) (.ref s4.heap.objs.size)) (EP X pins σ Q) X.xe _
  refine tail_any (ops := [.ref a, .ref s4.heap.objs.size]) iT.typeIs PyProof.Rows.slot_tuple_getitem.lookup ?_ (by with_unfolding_all rfl)
  refine getItem_tuple_rev iT (Heap.IsSliceOf.new _ Value.none Value.none (.int (-1) tk)) ?_ (by omega)
  exact ⟨.ref _, _, I5.tupN (t' := s4.toks) r.reverse (by rw [List.length_reverse]; omega), rfl, q _ _ (I5.hok.fresh (Nat.le_refl _)) rfl⟩
end
end Pz

/-! Pz5: built-in functions, methods. -/
namespace Pz
open PySem PySem.Spec PyProof.Rows L2

inductive VwA (K : PySem.W.Frag) (ν : Mu) (F : Fz) (μ : Mu) (H : Hp) : List D → List V → Prop
  | nil : VwA K ν F μ H [] []
  | cons {d : D} {v : V} {ds : List D} {vs : List V} : Vw K ν F μ H d v → VwA K ν F μ H ds vs → VwA K ν F μ H (d :: ds) (v :: vs)
def rB (K : PySem.W.Frag) (ds : List D) (r : D × Bool) : List V → Hp → VK → Prop := fun vs H Q => ∃ ν F μ, VwA K ν F μ H ds vs ∧ ∀ u H', Res K ν F μ H r u H' → Q u H'
theorem VwA.one {K : PySem.W.Frag} {ν : Mu} {F : Fz} {μ : Mu} {H : Hp} {d : D} {vs : List V} (h : VwA K ν F μ H [d] vs) : ∃ v, vs = [v] ∧ Vw K ν F μ H d v := by
  cases h with
  | cons h r => cases r; exact ⟨_, rfl, h⟩
theorem VwA.two {K : PySem.W.Frag} {ν : Mu} {F : Fz} {μ : Mu} {H : Hp} {d e : D} {vs : List V} (h : VwA K ν F μ H [d, e] vs) : ∃ v w, vs = [v, w] ∧ Vw K ν F μ H d v ∧ Vw K ν F μ H e w := by
  cases h with
  | cons h r => cases r with
    | cons h2 r => cases r; exact ⟨_, _, rfl, h, h2⟩

section
variable {X : Cx} {r : D × Bool} {ds : List D}
theorem ok_len (h : bLen ds = some r) : CallR X (.builtin "len") (rB X.K ds r) := by
  intro pins s σ H vs us Q I rv hq
  obtain ⟨ν, F, μ, ha, q⟩ := hq
  have hs := sizeLine_eq
  have hl : line = 16777216 := rfl
  unfold bLen at h
  split at h
  · cases h
    obtain ⟨v, rfl, h1⟩ := ha.one
    obtain ⟨a, xs, rfl, e1, g1⟩ := h1
    have l1 := g1.length
    exact call_len pins s σ H _ us Q I rv ⟨_, xs.length, rfl, .inl ⟨xs, e1, rfl⟩, q _ _ (by rw [l1]; exact .old (.int _))⟩
  · cases h
    obtain ⟨v, rfl, h1⟩ := ha.one
    cases h1 with
    | @tup a xs ds e1 g1 =>
      have l1 := g1.length
      exact call_len pins s σ H _ us Q I rv ⟨_, xs.length, rfl, .inr ⟨xs, e1.seq, rfl⟩, q _ _ (by rw [l1]; exact .old (.int _))⟩
  · split at h
    · cases h
      obtain ⟨v, rfl, h1⟩ := ha.one
      cases h1
      exact call_len pins s σ H _ us Q I rv ⟨_, _, rfl, ⟨by omega, rfl⟩, q _ _ (.old (.int _))⟩
    · cases h
  · cases h
    obtain ⟨v, rfl, h1⟩ := ha.one
    obtain ⟨a, ws, rfl, e1, g1⟩ := h1
    obtain ⟨u, rfl, ru⟩ := vals1 rv
    cases ru
    refine d_len I e1 fun t s' I' => ⟨.int _, H, I', ⟨t, rfl⟩, q _ _ ?_⟩
    rw [← g1.length]
    exact .old (.int _)
  · cases h
theorem vw_seq {K : PySem.W.Frag} {ν : Mu} {F : Fz} {μ : Mu} {H : Hp} {xs : List D} {v : V} (h : Vw K ν F μ H (.list xs) v ∨ Vw K ν F μ H (.tuple xs) v) :
    ∃ a ys, v = .ref a ∧ (SqL K H a ys ∨ SqT K H a ys) ∧ RpAll K ν F μ H xs ys := by
  rcases h with h | h
  · obtain ⟨a, ys, rfl, e, g⟩ := h; exact ⟨a, ys, rfl, .inl e, g⟩
  · cases h with
    | tup e g => exact ⟨_, _, rfl, .inr e.seq, g⟩
theorem reads_dict0 {pins : List (Addr × Obj)} {σ : Sg} {H : Hp} {s : Shared} {a : Addr} (I : Inv X pins σ H s) (e : Rd H a (.dK [])) : Reads s.heap (.ref a) (.dict []) [a] ∧ (a == sysModules) = false := by
  obtain ⟨_, hS, vs, r, o, es, ep, e1, e2, e3, _, e4, e5⟩ : ObjOk X.prog X.w H s.heap a (.dK []) := e.ok I.hok
  cases r
  have h6 : es.toList = [] := by
    cases q : es.toList with
    | nil => rfl
    | cons x r => rw [q] at e4; cases e4
  refine ⟨?_, hS⟩
  have := Reads.dict (h := s.heap) (a := a) (o := o) (es := es) (n := ep) (kvs := []) (as := []) (bs := []) e1 e2.1 e3 (by rw [h6]; exact .nil) (by rw [h6]; exact .nil)
  simpa using this
theorem ok_repr (hg : X.A.guards = some []) (hu : X.A.units + 70 < cLine) {d : D} (h : reprOk d = true) (hr : r = (.str d.shown, false)) :
    CallR X (.builtin "repr") (rB X.K [d] r) := by
  intro pins s σ H vs us Q I rv hq
  obtain ⟨ν, F, μ, ha, q⟩ := hq
  obtain ⟨v, rfl, h1⟩ := ha.one
  subst hr
  have hs := sizeLine_eq
  have hl : line = 16777216 := rfl
  unfold reprOk at h
  simp only [Bool.and_eq_true, decide_eq_true_eq] at h
  obtain ⟨⟨⟨⟨h2, h3⟩, h4⟩, h5⟩, h6⟩ := h
  obtain ⟨u, rfl, ru⟩ := vals1 rv
  have fin : ∀ (h' : Heap) (t : Tok) (tk : Nat), (∀ b o, s.heap.get? b = some o → h'.get? b = some o) → EP X pins σ Q (.str d.shown t) { s with heap := h', toks := tk } := fun h' t tk k => ⟨.str d.shown, H, I.kept k, ⟨t, rfl⟩, q _ _ (.old (.str _))⟩
  have go : ∀ (a : Addr) (as : List Addr), u = .ref a → Reads s.heap u d as → (d.hasDict = true → sysModules ∉ as) → wpAny (model X.prog X.w) X.A (call (.builtin "repr") [u]) (EP X pins σ Q) X.xe s := fun a as e rd hn => by
    subst e
    exact repr_of_reads' rd h2 hn hg (by omega) (fun _ _ z => z) (fun h' t tk k => fin h' t tk k) (by omega)
  by_cases hd : d.hasDict = false
  · obtain ⟨as, rd⟩ := Dp.reads I d v u (h1.dp0 hd) ru
    cases d with
    | none => cases h1; cases ru; exact PySem.P.repr_of_none (fin _ _ _ fun _ _ z => z)
    | bool b => cases h1; cases ru; exact PySem.P.repr_of_bool (fin _ _ _ fun _ _ z => z)
    | int i => cases h1; obtain ⟨t, rfl⟩ := ru; exact PySem.P.repr_of_int (by simpa [PyData.showable] using h2) (fin _ _ _ fun _ _ z => z)
    | str z => cases h1; obtain ⟨t, rfl⟩ := ru; exact PySem.P.repr_of_str (fin _ _ _ fun _ _ z => z) (by simpa [PyData.shown, hs, hl] using h3)
    | list xs => obtain ⟨a, ys, rfl, _⟩ := h1; cases ru; exact go a as rfl rd fun z => by rw [hd] at z; cases z
    | tuple xs => cases h1 with
      | tup e1 g1 => cases ru; exact go _ as rfl rd fun z => by rw [hd] at z; cases z
    | dict kvs => simp [PyData.hasDict] at hd
  · split at h6
    · obtain ⟨a, vs0, e0, e, r0⟩ := h1
      cases r0
      subst e0
      obtain ⟨rd, hS⟩ := reads_dict0 I e
      cases ru
      refine go _ _ rfl rd fun _ z => ?_
      have := List.mem_singleton.mp z
      subst this
      simp at hS
    · simp at h6
      exact absurd h6 hd

theorem rpAll_each {K : PySem.W.Frag} {ν : Mu} {F : Fz} {μ : Mu} {H : Hp} : ∀ {ds : List D} {xs : List V} {its : List Value}, RpAll K ν F μ H ds xs → Vals xs its → PySem.W.EachIs (fun v d => ∃ x, RelV x v ∧ Rp K ν F μ H d x) its ds
  | _, _, _, .nil, .nil => .nil
  | _, _, _, .cons h r, .cons q t => .cons ⟨_, q, h⟩ (rpAll_each r t)
theorem each_rpAll {K : PySem.W.Frag} {ν : Mu} {F : Fz} {μ : Mu} {H : Hp} : ∀ {ds : List D} {its : List Value}, PySem.W.EachIs (fun v d => ∃ x, RelV x v ∧ Rp K ν F μ H d x) its ds → ∃ xs, Vals xs its ∧ RpAll K ν F μ H ds xs
  | _, _, .nil => ⟨[], .nil, .nil⟩
  | _, _, .cons ⟨x, h1, h2⟩ t => by
    obtain ⟨xs, h3, h4⟩ := each_rpAll t
    exact ⟨x :: xs, .cons h1 h3, .cons h2 h4⟩
theorem rpAll_reads {X : Cx} {pins : List (Addr × Obj)} {σ : Sg} {H : Hp} {s : Shared} {ν : Mu} {F : Fz} {μ : Mu} (I : Inv X pins σ H s) : ∀ {ds : List D} {xs : List V} {its : List Value}, RpAll X.K ν F μ H ds xs → Vals xs its → (∀ d ∈ ds, d.hasDict = false) → PySem.W.EachIs (fun v d => ∃ as, Reads s.heap v (id d) as) its ds
  | _, _, _, .nil, .nil, _ => .nil
  | d :: ds, _, _, .cons h r, .cons q t, hd => .cons (Dp.reads I _ _ _ (h.dp0 (hd d List.mem_cons_self)) q) (rpAll_reads I r t fun e he => hd e (List.mem_cons_of_mem _ he))
theorem ok_sorted (hu : X.A.units + 70 < cLine) (h : bSorted ds = some r) : CallR X (.builtin "sorted") (rB X.K ds r) := by
  intro pins s σ H vs us Q I rv hq
  obtain ⟨ν, F, μ, ha, q⟩ := hq
  have hs := sizeLine_eq
  have hl : line = 16777216 := rfl
  unfold bSorted at h
  split at h
  · rename_i xs
    split at h
    · rename_i hz
      cases h
      unfold sortOk at hz
      simp only [Bool.and_eq_true, decide_eq_true_eq, List.all_eq_true, Bool.or_eq_true, Bool.not_eq_true'] at hz
      obtain ⟨⟨⟨z1, z2⟩, z3⟩, z4⟩ := hz
      obtain ⟨v, rfl, h1⟩ := ha.one
      obtain ⟨a, ys, rfl, e1, g1⟩ := h1
      obtain ⟨u, rfl, ru⟩ := vals1 rv
      cases ru
      obtain ⟨its, rl, pl, hz⟩ := I.list e1
      have hsz : (xs.map id) = xs := List.map_id xs
      refine PySem.W.sorted_data (enc := id) (R := fun v d => ∃ x, RelV x v ∧ Rp X.K ν F μ H d x) pl.isList (rpAll_each g1 rl) (rpAll_reads I g1 rl fun d hd => (z4 d hd).2) ?_ ?_ (by omega) (fun b hb => ?_) fun out ho eo => ?_
      · rw [hsz]; exact fun d hd d' hd' => z2 d hd d' hd'
      · rw [hsz]
        rcases z3 with z3 | z3
        · exact .inl fun d hd => by
            have := z3 d hd
            split at this
            · exact ⟨_, _, rfl⟩
            · cases this
        · refine .inr fun d hd => ?_
          have := z3 d hd
          split at this
          · cases this
          · cases this
          · rename_i n1 n2
            exact ⟨fun e => n1 e, fun zs e => n2 zs e⟩
      · have := (z4 b hb).1
        show X.A.units + 2 + (id b).depth < cLine
        simp only [id]
        omega
      · obtain ⟨zs, h3, h4⟩ := each_rpAll eo
        obtain ⟨ep, he⟩ := PyProof.Rows.sortedAll_at s.heap its out.toArray
        have hlen : zs.length ≤ sizeLine := by
          rw [← h4.length, List.length_mergeSort]; omega
        exact ⟨.ref _, upd H (s.heap.objs.size + 1) (.lst zs), I.laid (t' := s.toks) (fun _ _ => PyProof.Rows.sortedAll_old) (Nat.le_succ _) ⟨hlen, out, ep, h3, he⟩, rfl, q _ _ (.lst (I.hok.fresh (Nat.le_succ _)) h4)⟩
    · cases h
  · rename_i xs
    split at h
    · rename_i hz
      cases h
      unfold sortOk at hz
      simp only [Bool.and_eq_true, decide_eq_true_eq, List.all_eq_true, Bool.or_eq_true, Bool.not_eq_true'] at hz
      obtain ⟨⟨⟨z1, z2⟩, z3⟩, z4⟩ := hz
      obtain ⟨v, rfl, h1⟩ := ha.one
      cases h1 with
      | tup e1 g1 =>
      rename_i a ys
      obtain ⟨u, rfl, ru⟩ := vals1 rv
      cases ru
      obtain ⟨its, rl, pl, hz⟩ := I.tuple e1.seq
      have hsz : (xs.map id) = xs := List.map_id xs
      refine sorted_dataT (enc := id) (R := fun v d => ∃ x, RelV x v ∧ Rp X.K ν F μ H d x) pl (rpAll_each g1 rl) (rpAll_reads I g1 rl fun d hd => (z4 d hd).2) ?_ ?_ (by omega) (fun b hb => ?_) fun out ho eo => ?_
      · rw [hsz]; exact fun d hd d' hd' => z2 d hd d' hd'
      · rw [hsz]
        rcases z3 with z3 | z3
        · exact .inl fun d hd => by
            have := z3 d hd
            split at this
            · exact ⟨_, _, rfl⟩
            · cases this
        · refine .inr fun d hd => ?_
          have := z3 d hd
          split at this
          · cases this
          · cases this
          · rename_i n1 n2
            exact ⟨fun e => n1 e, fun zs e => n2 zs e⟩
      · have := (z4 b hb).1
        show X.A.units + 2 + (id b).depth < cLine
        simp only [id]
        omega
      · obtain ⟨zs, h3, h4⟩ := each_rpAll eo
        obtain ⟨ep, he⟩ := PyProof.Rows.sortedAll_at s.heap its out.toArray
        have hlen : zs.length ≤ sizeLine := by
          rw [← h4.length, List.length_mergeSort]; omega
        exact ⟨.ref _, upd H (s.heap.objs.size + 1) (.lst zs), I.laid (t' := s.toks) (fun _ _ => PyProof.Rows.sortedAll_old) (Nat.le_succ _) ⟨hlen, out, ep, h3, he⟩, rfl, q _ _ (.lst (I.hok.fresh (Nat.le_succ _)) h4)⟩
    · cases h
  · cases h
theorem ok_builtin (hc : X.calm = true) (hg : X.A.guards = some []) (hu : X.A.units + 70 < cLine) {f : Str} (h : builtin f ds = some r) :
    (∃ id, bootBuiltins f = some (.builtin id) ∧ CallR X (.builtin id) (rB X.K ds r)) ∨ ∃ T, bootBuiltins f = some (.type T) ∧ CallR X (.type T) (rB X.K ds r) := by
  unfold builtin at h
  by_cases e : f = ("len" : Str)
  · rw [if_pos e] at h; subst e
    exact .inl ⟨"len", by decide +kernel, ok_len h⟩
  rw [if_neg e] at h; clear e
  by_cases e : f = ("abs" : Str)
  · rw [if_pos e] at h; subst e
    unfold bAbs at h
    refine .inl ⟨"abs", by decide +kernel, fun pins s σ H vs us Q I rv hq => ?_⟩
    obtain ⟨ν, F, μ, ha, q⟩ := hq
    split at h
    · cases h
      obtain ⟨v, rfl, h1⟩ := ha.one
      cases h1
      exact call_abs pins s σ H _ us Q I rv ⟨_, rfl, q _ _ (.old (.int _))⟩
    · cases h
  rw [if_neg e] at h; clear e
  by_cases e : f = ("min" : Str)
  · rw [if_pos e] at h; subst e
    unfold bMin at h
    refine .inl ⟨"min", by decide +kernel, fun pins s σ H vs us Q I rv hq => ?_⟩
    obtain ⟨ν, F, μ, ha, q⟩ := hq
    split at h
    · cases h
      obtain ⟨v, w, rfl, h1, h2⟩ := ha.two
      cases h1; cases h2
      exact call_min2 hc pins s σ H _ us Q I rv ⟨_, _, rfl, q _ _ (.old (.int _))⟩
    · cases h
  rw [if_neg e] at h; clear e
  by_cases e : f = ("max" : Str)
  · rw [if_pos e] at h; subst e
    unfold bMax at h
    refine .inl ⟨"max", by decide +kernel, fun pins s σ H vs us Q I rv hq => ?_⟩
    obtain ⟨ν, F, μ, ha, q⟩ := hq
    split at h
    · cases h
      obtain ⟨v, w, rfl, h1, h2⟩ := ha.two
      cases h1; cases h2
      exact call_max2 hc pins s σ H _ us Q I rv ⟨_, _, rfl, q _ _ (.old (.int _))⟩
    · cases h
  rw [if_neg e] at h; clear e
  by_cases e : f = ("int" : Str)
  · rw [if_pos e] at h; subst e
    unfold bInt at h
    refine .inr ⟨"int", by decide +kernel, fun pins s σ H vs us Q I rv hq => ?_⟩
    obtain ⟨ν, F, μ, ha, q⟩ := hq
    split at h
    · cases h
      obtain ⟨v, rfl, h1⟩ := ha.one
      cases h1
      exact call_int1 pins s σ H _ us Q I rv (.inl ⟨_, rfl, q _ _ (.old (.int _))⟩)
    · cases h
      obtain ⟨v, rfl, h1⟩ := ha.one
      cases h1
      exact call_int1 pins s σ H _ us Q I rv (.inr ⟨_, rfl, q _ _ (.old (.int _))⟩)
    · cases h
  rw [if_neg e] at h; clear e
  by_cases e : f = ("bool" : Str)
  · rw [if_pos e] at h; subst e
    unfold bBool at h
    refine .inr ⟨"bool", by decide +kernel, fun pins s σ H vs us Q I rv hq => ?_⟩
    obtain ⟨ν, F, μ, ha, q⟩ := hq
    split at h
    · cases h
      obtain ⟨v, rfl, h1⟩ := ha.one
      cases h1
      exact call_bool1 pins s σ H _ us Q I rv (.inl ⟨_, rfl, q _ _ (.old (.bl _))⟩)
    · cases h
      obtain ⟨v, rfl, h1⟩ := ha.one
      cases h1
      exact call_bool1 pins s σ H _ us Q I rv (.inr ⟨_, rfl, q _ _ (.old (.bl _))⟩)
    · cases h
  rw [if_neg e] at h; clear e
  by_cases e : f = ("all" : Str)
  · rw [if_pos e] at h; subst e
    unfold bAll at h
    refine .inl ⟨"all", by decide +kernel, fun pins s σ H vs us Q I rv hq => ?_⟩
    obtain ⟨ν, F, μ, ha, q⟩ := hq
    split at h
    · obtain ⟨bs, e1, e2⟩ := Option.map_eq_some_iff.mp h
      cases e2
      obtain ⟨v, rfl, h1⟩ := ha.one
      obtain ⟨a, ys, rfl, e3, g⟩ := h1
      have e4 := g.bools e1
      subst e4
      exact cr_all hc pins s σ H _ us Q I rv ⟨_, _, rfl, e3, q _ _ (.old (.bl _))⟩
    · cases h
  rw [if_neg e] at h; clear e
  by_cases e : f = ("any" : Str)
  · rw [if_pos e] at h; subst e
    unfold bAny at h
    refine .inl ⟨"any", by decide +kernel, fun pins s σ H vs us Q I rv hq => ?_⟩
    obtain ⟨ν, F, μ, ha, q⟩ := hq
    split at h
    · obtain ⟨bs, e1, e2⟩ := Option.map_eq_some_iff.mp h
      cases e2
      obtain ⟨v, rfl, h1⟩ := ha.one
      obtain ⟨a, ys, rfl, e3, g⟩ := h1
      have e4 := g.bools e1
      subst e4
      exact cr_any hc pins s σ H _ us Q I rv ⟨_, _, rfl, e3, q _ _ (.old (.bl _))⟩
    · cases h
  rw [if_neg e] at h; clear e
  by_cases e : f = ("tuple" : Str)
  · rw [if_pos e] at h; subst e
    unfold bTuple at h
    refine .inr ⟨"tuple", by decide +kernel, fun pins s σ H vs us Q I rv hq => ?_⟩
    obtain ⟨ν, F, μ, ha, q⟩ := hq
    split at h
    · cases h
      obtain ⟨v, rfl, h1⟩ := ha.one
      obtain ⟨a, ys, rfl, e3, g⟩ := h1
      obtain ⟨u, rfl, ru⟩ := vals1 rv
      cases ru
      obtain ⟨its, r', pl, hz⟩ := I.list e3
      have hlen := r'.length
      refine call_tuple_list pl.isList (fun h' kp => ?_) (by simp only [List.size_toArray]; omega)
      have I1 : Inv X pins σ H { s with heap := h' } := I.kept (t' := s.toks) kp
      exact ⟨.ref _, _, I1.tupN (t' := s.toks) r' hz, rfl, q _ _ (.tup I1.fresh rfl g)⟩
    · cases h
      obtain ⟨v, rfl, h1⟩ := ha.one
      cases h1 with
      | tup e1 g1 => exact call_tupleT pins s σ H _ us Q I rv ⟨_, _, rfl, e1.seq, q _ _ (.old (.tup e1 g1))⟩
    · cases h
  rw [if_neg e] at h; clear e
  by_cases e : f = ("list" : Str)
  · rw [if_pos e] at h; subst e
    unfold bList at h
    refine .inr ⟨"list", by decide +kernel, fun pins s σ H vs us Q I rv hq => ?_⟩
    obtain ⟨ν, F, μ, ha, q⟩ := hq
    have fin : ∀ (xs : List D), r = (.list xs, true) → (∀ v, vs = [v] → Vw X.K ν F μ H (.list xs) v ∨ Vw X.K ν F μ H (.tuple xs) v) → (∃ v, vs = [v]) → wpAny (model X.prog X.w) X.A (call (.type "list") us) (EP X pins σ Q) X.xe s := fun xs er hv ⟨v, ev⟩ => by
      subst er
      obtain ⟨a, ys, rfl, e, g⟩ := vw_seq (hv v ev)
      subst ev
      exact call_list_of pins s σ H _ us Q I rv ⟨_, _, rfl, e, fun p n => q _ _ (.lst n g)⟩
    split at h
    · cases h
      obtain ⟨v, rfl, h1⟩ := ha.one
      exact fin _ rfl (fun w e => by cases e; exact .inl h1) ⟨_, rfl⟩
    · cases h
      obtain ⟨v, rfl, h1⟩ := ha.one
      exact fin _ rfl (fun w e => by cases e; exact .inr h1) ⟨_, rfl⟩
    · cases h
  rw [if_neg e] at h; clear e
  by_cases e : f = ("repr" : Str)
  · rw [if_pos e] at h; subst e
    unfold bRepr at h
    refine .inl ⟨"repr", by decide +kernel, ?_⟩
    split at h
    · rename_i d
      by_cases hz : reprOk d = true
      · rw [if_pos hz] at h
        exact ok_repr hg hu hz (Option.some.inj h).symm
      · rw [if_neg hz] at h; cases h
    · cases h
  rw [if_neg e] at h; clear e
  by_cases e : f = ("sorted" : Str)
  · rw [if_pos e] at h; subst e
    exact .inl ⟨"sorted", by decide +kernel, ok_sorted hu h⟩
  rw [if_neg e] at h; cases h
end
end Pz

/-! Pz6: methods; argument lists; the forms of a call. -/
namespace Pz
open PySem PySem.Spec PyProof.Rows L2

/-- the value is of the built-in type T, with no dict of its own -/
def TyG (X : Cx) (T : String) (x : V) (H : Hp) : Prop := ∀ (pins : List (Addr × Obj)) (σ : Sg) (s : Shared) (v : Value), Inv X pins σ H s → RelV x v → s.TypeIs v T ∧ ∀ a, v = .ref a → ∃ ob, s.heap.get? a = some ob ∧ ob.dict = none
section
variable {X : Cx} {ν : Mu} {F : Fz} {μ : Mu} {H : Hp}
theorem tyG_of {d : D} {v : V} {T : String} (h : Vw X.K ν F μ H d v) (t : tyName d = some T) (ht : T = "str" ∨ T = "list" ∨ T = "tuple" ∨ T = "dict") : TyG X T v H := by
  intro pins σ s u I r
  cases d with
  | none => cases t; rcases ht with e | e | e | e <;> exact absurd e (by decide)
  | bool b => cases t; rcases ht with e | e | e | e <;> exact absurd e (by decide)
  | int b => cases t; rcases ht with e | e | e | e <;> exact absurd e (by decide)
  | dict b =>
    cases t
    obtain ⟨a, vs, rfl, e, g⟩ := h
    cases r
    obtain ⟨t1, t2, _⟩ := isD_at I (.inl ⟨vs, e⟩)
    exact ⟨t1, t2⟩
  | str z =>
    cases t; cases h
    obtain ⟨t, rfl⟩ := r
    exact ⟨typeIs_str s z t, fun a e => nomatch e⟩
  | list xs =>
    cases t
    obtain ⟨a, ys, rfl, e, g⟩ := h
    cases r
    obtain ⟨its, rv, ⟨o, n, ho, hc, hd, hdt⟩, hz⟩ := I.list e
    exact ⟨⟨o, ho, hc⟩, fun b q => by cases q; exact ⟨o, ho, hd⟩⟩
  | tuple xs =>
    cases t
    cases h with
    | tup e g =>
      cases r
      rcases e with ⟨o, e, hd⟩ | ⟨o, its, n, hk, hc, hd, _⟩
      · obtain ⟨ho, _, its, rv, o', ho', hc, _⟩ : ObjOk X.prog X.w H s.heap _ (.frz o (.tup _)) := I.hok _ _ e
        rw [ho] at ho'; cases ho'
        exact ⟨⟨o, ho, hc⟩, fun b q => by cases q; exact ⟨o, ho, hd⟩⟩
      · have ho := I.kIn _ o hk
        exact ⟨⟨o, ho, hc⟩, fun b q => by cases q; exact ⟨o, ho, hd⟩⟩

def rMeth (K : PySem.W.Frag) (o : D) (ds : List D) (r : D × Bool) : V → List V → Hp → VK → Prop := fun v vs H Q => ∃ ν F μ, Vw K ν F μ H o v ∧ VwA K ν F μ H ds vs ∧ ∀ u H', Res K ν F μ H r u H' → Q u H'
structure MtOk (X : Cx) (T : String) (m : Str) (id : String) : Prop where
  pa : PlainAttrs T
  sl : Slot T m id
  ty : typeOf (.builtin id) = pure (.type "method_descriptor")

theorem indexOf_some {x : D} : ∀ {ys : List D} {n j : Nat}, indexOf x ys n = some j → n ≤ j ∧ ∃ z, ys[j - n]? = some z ∧ PyData.eqv z x = true ∧ ∀ (m : Nat) (z' : D), m < j - n → ys[m]? = some z' → PyData.eqv z' x = false
  | [], n, j, h => nomatch h
  | y :: r, n, j, h => by
    unfold indexOf at h
    by_cases e : PyData.eqv y x = true
    · rw [if_pos e] at h; cases h
      exact ⟨Nat.le_refl _, y, by simp, e, fun m z' q => by omega⟩
    · rw [if_neg e] at h
      obtain ⟨h1, z, h2, h3, h4⟩ := indexOf_some h
      refine ⟨by omega, z, ?_, h3, fun m z' q q2 => ?_⟩
      · have : j - n = (j - (n + 1)) + 1 := by omega
        rw [this]; simpa using h2
      · cases m with
        | zero => simp at q2; subst q2; simpa using e
        | succ m => exact h4 m z' (by omega) (by simpa using q2)

/-- t.index(x) of a tuple of data -/
theorem mt_indexT (hu : X.A.units + 65 < cLine) {x : D} {ys : List D} {j : Nat} (hs1 : shapedB x = true) (hs2 : shapedB (.list ys) = true) (hj : indexOf x ys 0 = some j) : MtR X "tuple.index" (rMeth X.K (.tuple ys) [x] (.int j, false)) := by
  intro pins s σ H v vs u us Q I rv rs hq
  obtain ⟨ν, F, μ, h1, h2, q⟩ := hq
  obtain ⟨w, rfl, h3⟩ := h2.one
  obtain ⟨uw, rfl, rw'⟩ := vals1 rs
  obtain ⟨_, z, g1, g2, g3⟩ := indexOf_some hj
  rw [Nat.sub_zero] at g1 g3
  have hsl := sizeLine_eq
  cases h1 with
  | @tup a xs _ e g =>
    cases rv
    have c2 : PyData.canLayAll0 ys = true := by
      have := SeqAt.canLay_of_shaped hs2
      simpa [PyData.canLay0] using this
    have hcx := SeqAt.canLay_of_shaped hs1
    obtain ⟨bs, r1⟩ := Dp.reads I x w uw (h3.dp hs1) rw'
    have hda := g.dp0 (by have := PyData.hasDict_of_canLay (.tuple ys) (by simpa [PyData.canLay0] using c2); simpa [PyData.hasDict] using this)
    obtain ⟨its, rt, ⟨⟨cls, dd, dt, sl⟩, ho, hc, n, hd⟩, hz⟩ := I.tuple e.seq
    simp only at hc hd
    subst hc hd
    obtain ⟨as, h4⟩ := Dp.readsAll I ys _ its hda rt
    have hn : its.length = ys.length := SeqAt.ReadsAll.length ys its as h4
    have hmap : its.map (SeqAt.readOf s.heap) = ys := SeqAt.readsAll_map ys its as c2 h4
    have hjd : j < ys.length := (List.getElem?_eq_some_iff.mp g1).1
    have hjs : j < its.toArray.size := by rw [List.size_toArray]; omega
    have at_ : ∀ (m : Nat) (hm : m < its.toArray.size) (z' : D), ys[m]? = some z' → SeqAt.readOf s.heap its.toArray[m] = z' := fun m hm z' e' => by
      have hml : m < its.length := by simpa using hm
      rw [← hmap, List.getElem?_map, List.getElem?_eq_getElem hml] at e'
      simpa using e'
    refine call_meets PySem.F.slot_tuple_index ⟨_, ho, rfl⟩ PySem.F.entry_tuple_index (PySem.F.args_tuple_index_2 _ _)
      (TI.tuple_indexAt a its.toArray n dd sl uw (fun u => PyData.eqv (SeqAt.readOf s.heap u) x) j hjs ?_ fun m hm hmj => ?_)
      ⟨ho, SeqAt.items_eqAt (vs := its.toArray) (show ReadsAll s.heap its.toArray.toList ys as from h4) r1 c2 hcx (room_in_shaped hs1 hu), ⟨.int j, H, I.tok _, ⟨_, rfl⟩, q _ _ (.old (.int _))⟩⟩
    · show PyData.eqv (SeqAt.readOf s.heap its.toArray[j]) x = true
      rw [at_ j hjs z g1]; exact g2
    · have hmd : m < ys.length := by omega
      show PyData.eqv (SeqAt.readOf s.heap its.toArray[m]) x = false
      rw [at_ m hm _ (List.getElem?_eq_getElem hmd)]
      exact g3 m _ hmj (List.getElem?_eq_getElem hmd)

theorem ok_method (hu : X.A.units + 65 < cLine) {m : Str} {o : D} {ds : List D} {r : D × Bool} (h : method m o ds = some r) :
    ∃ T id, tyName o = some T ∧ (T = "str" ∨ T = "list" ∨ T = "tuple" ∨ T = "dict") ∧ MtOk X T m id ∧ MtR X id (rMeth X.K o ds r) := by
  unfold method at h
  have hsl := sizeLine_eq
  have hl : line = 16777216 := rfl
  by_cases e : m = ("index" : Str)
  · rw [if_pos e] at h; subst e
    unfold mIndex at h
    split at h
    · rename_i ys x
      by_cases hz : (shapedB x && shapedB (.list ys)) = true
      · rw [if_pos hz] at h
        obtain ⟨z1, z2⟩ := Bool.and_eq_true_iff.mp hz
        obtain ⟨j, e1, e2⟩ := Option.map_eq_some_iff.mp h
        cases e2
        refine ⟨"list", "list.index", rfl, .inr (.inl rfl), ⟨PySem.F.plainAttrs_list, PySem.F.slot_list_index, PySem.F.type_list_index⟩, ?_⟩
        intro pins s σ H v vs u us Q I rv rs hq
        obtain ⟨ν, F, μ, h1, h2, q⟩ := hq
        obtain ⟨w, rfl, h3⟩ := h2.one
        obtain ⟨_, z, g1, g2, g3⟩ := indexOf_some e1
        rw [Nat.sub_zero] at g1 g3
        have hd := h1.dp z2
        obtain ⟨a, ys', rfl, _⟩ := h1
        exact mt_indexD hu pins s σ H _ _ u us Q I rv rs ⟨a, w, x, ys, j, z, rfl, rfl, hd, h3.dp z1, z2, z1, g1, g2, g3, q _ _ (.old (.int _))⟩
      · rw [if_neg hz] at h; cases h
    · rename_i ys x
      by_cases hz : (shapedB x && shapedB (.list ys)) = true
      · rw [if_pos hz] at h
        obtain ⟨z1, z2⟩ := Bool.and_eq_true_iff.mp hz
        obtain ⟨j, e1, e2⟩ := Option.map_eq_some_iff.mp h
        cases e2
        exact ⟨"tuple", "tuple.index", rfl, .inr (.inr (.inl rfl)), ⟨PySem.F.plainAttrs_tuple, PySem.F.slot_tuple_index, PySem.F.type_tuple_index⟩, mt_indexT hu z1 z2 e1⟩
      · rw [if_neg hz] at h; cases h
    · rename_i a b
      refine ⟨"str", "str.index", rfl, .inl rfl, ⟨PySem.F.plainAttrs_str, PySem.F.slot_str_index, PySem.F.type_str_index⟩, ?_⟩
      intro pins s σ H v vs u us Q I rv rs hq
      obtain ⟨ν, F, μ, h1, h2, q⟩ := hq
      obtain ⟨w, rfl, h3⟩ := h2.one
      cases h1; cases h3
      cases e : Builtin.Str.occurrences a b 0 a.length 1 with
      | nil => rw [e] at h; cases h
      | cons i rest =>
        rw [e] at h
        cases h
        exact mt_sindex pins s σ H _ _ u us Q I rv rs ⟨a, b, i, rest, rfl, rfl, e, q _ _ (.old (.int _))⟩
    · cases h
  rw [if_neg e] at h; clear e
  by_cases e : m = ("join" : Str)
  · rw [if_pos e] at h; subst e
    have fin : ∀ (a : Str) (xs : List D) (o' : D) (ys : List Str), (o' = .list xs ∨ o' = .tuple xs) → allStrs xs = some ys → (ys.map (·.length)).sum + ys.length * a.length ≤ line →
        ∃ T id, tyName (.str a) = some T ∧ (T = "str" ∨ T = "list" ∨ T = "tuple" ∨ T = "dict") ∧ MtOk X T "join" id ∧ MtR X id (rMeth X.K (.str a) [o'] (.str (Txt.join a ys), false)) := by
      intro a xs o' ys ho e1 hz
      refine ⟨"str", "str.join", rfl, .inl rfl, ⟨PySem.F.plainAttrs_str, PySem.F.slot_str_join, PySem.F.type_str_join⟩, ?_⟩
      intro pins s σ H v vs u us Q I rv rs hq
      obtain ⟨ν, F, μ, h1, h2, q⟩ := hq
      obtain ⟨w, rfl, h3⟩ := h2.one
      obtain ⟨p, zs, rfl, g1, g2⟩ := vw_seq (xs := xs) (by rcases ho with rfl | rfl; exact .inl h3; exact .inr h3)
      have e2 := g2.strs e1
      subst e2
      cases h1
      exact mt_join pins s σ H _ _ u us Q I rv rs ⟨a, p, ys, rfl, rfl, g1, hz, q _ _ (.old (.str _))⟩
    unfold mJoin at h
    split at h
    · obtain ⟨ys, e1, e2⟩ := Option.bind_eq_some_iff.mp h
      split at e2
      · rename_i hz; cases e2; exact fin _ _ _ _ (.inl rfl) e1 hz
      · cases e2
    · obtain ⟨ys, e1, e2⟩ := Option.bind_eq_some_iff.mp h
      split at e2
      · rename_i hz; cases e2; exact fin _ _ _ _ (.inr rfl) e1 hz
      · cases e2
    · cases h
  rw [if_neg e] at h; clear e
  by_cases e : m = ("get" : Str)
  · rw [if_pos e] at h; subst e
    unfold mGet at h
    split at h
    · rename_i kvs x
      obtain ⟨k, hk, rfl⟩ := Option.map_eq_some_iff.mp h
      refine ⟨"dict", "dict.get", rfl, .inr (.inr (.inr rfl)), ⟨PySem.F.plainAttrs_dict, PySem.F.slot_dict_get, PySem.F.type_dict_get⟩, ?_⟩
      intro pins s σ H v vs u us Q I rv rs hq
      obtain ⟨ν, F, μ, h1, h2, q⟩ := hq
      obtain ⟨w, rfl, h3⟩ := h2.one
      obtain ⟨a, ws, rfl, e1, g⟩ := h1
      obtain ⟨u1, rfl, ru⟩ := vals1 rs
      cases rv
      have hv := key_v hk h3
      subst hv
      refine d_get1 (by omega) I (dget_rd (k := k) e1) ru fun w' s' I' rw' => ?_
      have gv := g.val k
      cases hd : dval kvs k with
      | none =>
        rw [hd] at gv
        have gv : valV ws k = none := gv
        rw [gv] at rw'
        exact ⟨.non, H, I', rw', q _ _ (by rw [hd]; exact .old .non)⟩
      | some d =>
        rw [hd] at gv
        obtain ⟨y, g1, g2⟩ := gv
        rw [g1] at rw'
        exact ⟨y, H, I', rw', q _ _ (by rw [hd]; exact .old g2)⟩
    · rename_i kvs x z
      split at h
      · rename_i hz
        obtain ⟨k, hk, rfl⟩ := Option.map_eq_some_iff.mp h
        refine ⟨"dict", "dict.get", rfl, .inr (.inr (.inr rfl)), ⟨PySem.F.plainAttrs_dict, PySem.F.slot_dict_get, PySem.F.type_dict_get⟩, ?_⟩
        intro pins s σ H v vs u us Q I rv rs hq
        obtain ⟨ν, F, μ, h1, h2, q⟩ := hq
        obtain ⟨w, wz, rfl, h3, h4⟩ := h2.two
        obtain ⟨a, ws, rfl, e1, g⟩ := h1
        obtain ⟨u1, u2, rfl, ru, ru2⟩ := L2.Vals.two rs
        cases rv
        have hv := key_v hk h3
        subst hv
        have h4' : Rp X.K ν F μ H z wz := by cases z <;> first | exact h4 | cases hz
        refine d_get2 (by omega) I (dget_rd (k := k) e1) ru ru2 fun w' s' I' rw' => ?_
        have gv := g.val k
        cases hd : dval kvs k with
        | none =>
          rw [hd] at gv
          have gv : valV ws k = none := gv
          rw [gv] at rw'
          exact ⟨wz, H, I', rw', q _ _ (by rw [hd]; exact .old h4')⟩
        | some d =>
          rw [hd] at gv
          obtain ⟨y, g1, g2⟩ := gv
          rw [g1] at rw'
          exact ⟨y, H, I', rw', q _ _ (by rw [hd]; exact .old g2)⟩
      · cases h
    · cases h
  rw [if_neg e] at h; cases h
end

/-! ### argument lists -/
theorem star_cons {e : Expr} (h : isStar e = false) (es : List Expr) (env : PySem.Env) : starEach (e :: es) env = (false, eval e env) :: starEach es env := by
  cases e <;> first | rfl | cases h
theorem star_none : ∀ {es : List Expr} (_ : es.all (fun e => !isStar e) = true) (pos : Pos) (env : PySem.Env), (backTo pos (starEach es env)).any (·.1) = false
  | [], _, _, _ => rfl
  | e :: es, h, pos, env => by
    obtain ⟨h1, h2⟩ := Bool.and_eq_true_iff.mp (show (!isStar e && es.all fun e => !isStar e) = true from h)
    rw [star_cons (by simpa using h1)]
    show (false || (backTo pos (starEach es env)).any (·.1)) = false
    rw [star_none h2]
    rfl
theorem star_all {es : List Expr} (h : es.all (fun e => !isStar e) = true) (pos : Pos) (env : PySem.Env) : (backTo pos (starEach es env)).all (fun x => !x.1) = true := by
  have := star_none h pos env
  rw [List.any_eq_false] at this
  rw [List.all_eq_true]
  intro x hx
  have q := this x hx
  cases e : x.1 with
  | true => exact absurd e q
  | false => rfl
theorem _root_.L2.PA.imp {X : Cx} {es : List Expr} {t t' : TA} (h : PA X es t) (i : ∀ σ H Q, t' σ H Q → t σ H Q) : PA X es t' := ⟨fun pos pins s σ H Q I q => h.run pos pins s σ H Q I (i σ H Q q)⟩

section
variable {X : Cx} {o : Expr} {es : List Expr} {to : TE} {t : TA} {name : Str} {apos cpos : Pos}
/-- o.m(e, ..) of a built-in type, found when the receiver is there -/
def tBG (X : Cx) (name : Str) (to : TE) (t : TA) : TE := fun σ H Q => to σ H fun x H1 => ∃ T id r, MtOk X T name id ∧ TyG X T x H1 ∧ MtR X id r ∧ t σ H1 fun xs H2 => r x xs H2 Q
theorem pe_bmG (ho : PE X o to) (ha : PA X es t) (hst : es.all (fun e => !isStar e) = true) (hn : es.length < 20) (he : es ≠ []) (hl : (apos.endLine == cpos.line) = true) (hb : attributeBase o name X.env (eval o X.env) = eval o X.env) :
    PE X (.Call (.Attribute o name apos) es [] cpos) (tBG X name to t) := by
  refine ⟨fun pins s σ H Q I h => wpAny_Call_method_late hb ?_ hl rfl (thn (ho.run pins s σ H _ I h) fun v s1 h1 => ?_)⟩
  · rw [star_all hst]
    simp [backToKw, keywordEach]
    omega
  · obtain ⟨x, H1, I1, r1, T, id, r, mo, ty, mt, q⟩ := h1
    obtain ⟨t1, t2⟩ := ty pins σ s1 v I1 r1
    refine ⟨T, id, mo.pa, mo.sl, mo.ty, t1, t2, Calls.callWith_builtin (star_none hst cpos X.env) ?_⟩
    have hA := ha.run cpos pins s1 σ H1 _ I1 q
    cases es with
    | nil => exact absurd rfl he
    | cons e es =>
      obtain ⟨h1, h2⟩ := Bool.and_eq_true_iff.mp (show (!isStar e && es.all fun e => !isStar e) = true from hst)
      rw [star_cons (by simpa using h1)] at hA ⊢
      refine Calls.evalArgs_plain ?_
      refine thn hA fun us s2 ⟨vs, H2, I2, r2, q2⟩ => ?_
      exact mt pins s2 σ H2 x vs v us Q I2 r1 r2 q2
end
end Pz

/-! Pz7: the evaluator's expressions are kept by the machine. -/
namespace Pz
open PySem PySem.Spec PyProof.Rows L2

/-- a def's contract where no guard stands (repr asks that) and nothing is raised -/
structure FnG (P : Program) (w : World) (K : PySem.W.Frag) (mg : Str → Option Value) (base : Heap) (k : Nat) (f : Addr) (fd : FuncData) (ps : List Str) (sp : Sp) : Prop where
  len : ∀ vs H Q E, sp vs H Q E → vs.length = ps.length
  run : ∀ (A : Around) (outer : List PySem.Env) (s : Shared) (H : Hp) (args : Args) (us : List Value) (vs : List V) (Q : VK), Room k A → A.guards = some [] → Env0 P w K mg base A outer s H →
    BindsTo s fd args (ps.zip us) → Vals vs us → sp vs H Q E0 → codeAny (model P w) A (.call (.ref f) args) (CR CX0 outer P w H s Q E0) s
/-- what a def of the text promises, by the evaluator -/
def spF (K : PySem.W.Frag) (m : List D → M (D × Bool)) (n : Nat) : Sp := fun vs H Q _ => ∃ ν F μ st ds r st', ds.length = n ∧ HR K ν F μ H st ∧ RpAll K ν F μ H ds vs ∧ m ds st = some (r, st') ∧
  ∀ v F' μ' H', Stp F μ H F' μ' H' → HR K ν F' μ' H' st' → RX K ν F' μ' H' H r v → Q v H'
/-- names that the text must leave to the built-in ones -/
def freeN : List Str := builtins ++ (["range", "enumerate", "zip", "reversed", "isinstance", "dict", "str", "set", "sorted"] : List Str)
/-- where a def stands: a name of the module, a method -/
structure FAt (K : PySem.W.Frag) (mg : Str → Option Value) (f : Str) (a : Addr) : Prop where
  gl : isM f = false → mg f = some (.ref a)
  me : ∀ m, f = mName m → Meth K (He.ga K wCls) m a
structure WkF (K : PySem.W.Frag) (mg : Str → Option Value) : Prop where
  cls : Cls K (He.ga K wCls)
  na : ∀ f, wFlds.contains f = true → NoAttr K (He.ga K wCls) f
  mks : PySem.W.makesIn K (He.ga K wCls) = true
  kp : PySem.W.keepIn K (.ref (He.ga K wCls)) = true
  mg : mg wCls = some (.ref (He.ga K wCls))
structure Ok (X : Cx) (c : Cfg) (k : Nat) : Prop where
  n : X.N = c.N
  nd : X.N.Nodup
  calm : X.calm = true
  room1 : Room (k + 1) X.A
  gd : X.A.guards = some []
  con : ∀ x d, c.consts.lookup x = some d → ∃ u v, X.mg x = some u ∧ RelV v u ∧ refOf? d = none ∧ ∀ ν F μ H, Rp X.K ν F μ H d v
  free : ∀ x, freeN.contains x = true → X.mg x = none
  fn : ∀ f fd, c.funs.lookup f = some fd → ∃ a fdata, FAt X.K X.mg f a ∧ FnG X.prog X.w X.K X.mg X.base k a fdata fd.ps (spF X.K (c.call f) fd.ps.length) ∧ PySem.W.keepIn X.K (.ref a) = true ∧ Binds X.K fdata fd.ps []
  ar : ∀ f fd, c.funs.lookup f = some fd → ∀ ds st r st', c.call f ds st = some (r, st') → ds.length = fd.ps.length
  ga : ∀ f fd, c.funs.lookup f = some fd → isM f = false → X.mg f = some (.ref (He.ga X.K f))
  wk : isW c = true → WkF X.K X.mg
theorem Ok.room {X : Cx} {c : Cfg} {k : Nat} (o : Ok X c k) : Room k X.A := o.room1.mono (Nat.le_succ k)
theorem Ok.hu {X : Cx} {c : Cfg} {k : Nat} (o : Ok X c k) : X.A.units + 70 < cLine := by have := o.room.un; omega
theorem Ok.blk {X : Cx} {c : Cfg} {k : Nat} (o : Ok X c k) (s : Shared) (H : Hp) (scope : Scope) (cenv : PySem.Env) (fp : List Addr) : Ok (X.blk s H scope cenv fp) c k :=
  ⟨o.n, o.nd, o.calm, o.room1, o.gd, o.con, o.free, o.fn, o.ar, o.ga, o.wk⟩

structure LvOk (c : Cfg) (L : Lv) (k : Nat) : Prop where
  x : ∀ (X : Cx) (Γ : En) (e : Expr), Ok X c k → PE X e (tM X.K Γ (rX X.K Γ) (L.x X.env.scope e))
  o : ∀ (X : Cx) (Γ : En) (e : Expr), Ok X c k → PE X e (tM X.K Γ (rO X.K Γ) (L.o X.env.scope e))
  t : ∀ (X : Cx) (Γ : En) (e : Expr), Ok X c k → PT X e (tMT X.K Γ (L.t X.env.scope e))

theorem pe_false {X : Cx} {e : Expr} {t : TE} (h : ∀ σ H Q, ¬ t σ H Q) : PE X e t := ⟨fun _ _ σ H Q _ q => absurd q (h σ H Q)⟩
theorem pe_none {α : Type} {X : Cx} {e : Expr} {Γ : En} {R : RT α} {m : Env → M α} (h : ∀ env st, m env st = none) : PE X e (tM X.K Γ R m) := pe_false fun σ H Q ⟨F, μ, env, st, r, st', _, e, _⟩ => by rw [h] at e; cases e
theorem pt_none {X : Cx} {e : Expr} {Γ : En} {m : Env → M Bool} (h : ∀ env st, m env st = none) : PT X e (tMT X.K Γ m) := ⟨fun _ _ σ H Q _ ⟨F, μ, env, st, r, st', _, e, _⟩ => by rw [h] at e; cases e⟩

/-! ### names -/
theorem place_get {x : Str} : ∀ {l : List Str} {n j : Nat}, place x l n = some j → n ≤ j ∧ l[j - n]? = some x
  | [], n, j, h => nomatch h
  | y :: r, n, j, h => by
    unfold place at h
    by_cases e : y = x
    · rw [if_pos e] at h; cases h; subst e; simp
    · rw [if_neg e] at h
      obtain ⟨h1, h2⟩ := place_get h
      refine ⟨by omega, ?_⟩
      have : j - n = (j - (n + 1)) + 1 := by omega
      rw [this]; simpa using h2
theorem slot_ok {c : Cfg} {sc : Scope} {x : Str} {j : Nat} (h : slotOf c sc x = some j) : c.N[j]? = some x ∧ Vis sc x ∧ (x == ("__debug__" : Str)) = false ∧ (x == ("__classdict__" : Str)) = false := by
  unfold slotOf at h
  have go : ∀ (k : NameKind), sc.names.lookup x = some k → (k = .local ∨ k = .cell ∨ k = .free) → (if x = ("__debug__" : Str) ∨ x = ("__classdict__" : Str) then none else place x c.N 0) = some j →
      c.N[j]? = some x ∧ Vis sc x ∧ (x == ("__debug__" : Str)) = false ∧ (x == ("__classdict__" : Str)) = false := fun k e hk h => by
    by_cases q : x = ("__debug__" : Str) ∨ x = ("__classdict__" : Str)
    · rw [if_pos q] at h; cases h
    · rw [if_neg q] at h
      refine ⟨by simpa using (place_get h).2, ?_, beq_eq_false_iff_ne.mpr fun z => q (.inl z), beq_eq_false_iff_ne.mpr fun z => q (.inr z)⟩
      rcases hk with rfl | rfl | rfl
      · exact .inl e
      · exact .inr (.inl e)
      · exact .inr (.inr e)
  split at h
  · rename_i e; exact go _ e (.inl rfl) h
  · rename_i e; exact go _ e (.inr (.inl rfl)) h
  · rename_i e; exact go _ e (.inr (.inr rfl)) h
  · cases h
theorem loc_ok {c : Cfg} {sc : Scope} {x : Str} {j : Nat} (h : locOf c sc x = some j) : c.N[j]? = some x ∧ Loc sc x := by
  unfold locOf at h
  split at h
  · rename_i e; exact ⟨by simpa using (place_get h).2, .inl e⟩
  · rename_i e; exact ⟨by simpa using (place_get h).2, .inr e⟩
  · cases h
theorem gl_ok {X : Cx} {x : Str} (h : isGl X.env.scope x = true) : Gl X x ∧ (x == ("__debug__" : Str)) = false ∧ x ≠ ("__name__" : Str) := by
  unfold isGl at h
  simp only [Bool.and_eq_true, decide_eq_true_eq] at h
  exact ⟨h.1.1.1, beq_eq_false_iff_ne.mpr h.1.1.2, h.1.2⟩
theorem gl_m {sc : Scope} {x : Str} (h : isGl sc x = true) : isM x = false := by
  unfold isGl at h
  simp only [Bool.and_eq_true, Bool.not_eq_true'] at h
  exact h.2

/-! ### views -/
section
variable {K : PySem.W.Frag} {Γ : En} {F : Fz} {μ : Mu} {H : Hp} {σ : Sg} {env : Env} {st : S} {p : Op} {v : V} {d : D}
theorem own_vw {a : Addr} (h : OwnAt K Γ.ν F μ H d a) : VwT K Γ.ν F μ H d (.ref a) := by
  cases d with
  | list ds => obtain ⟨xs, e, r⟩ := h; exact ⟨a, xs, rfl, e, r⟩
  | dict kvs => obtain ⟨vs, e, r⟩ := h; exact ⟨a, vs, rfl, .inl e, r⟩
  | _ => cases h
theorem vwT_of (r : Rel K Γ F μ H σ env st) (h : RO K Γ.ν F μ H σ env p v) (e : view env st p = some d) (n : noScr st p = true) : VwT K Γ.ν F μ H d v := by
  cases p with
  | v d0 =>
    unfold view at e
    unfold noScr at n
    cases q : refOf? d0 with
    | none =>
      simp only [q] at e
      cases e
      exact Rp.vwT h q
    | some i =>
      simp only [q] at e n
      obtain ⟨a, rfl, ha⟩ := Rp.ref_inv (show Rp K Γ.ν F μ H d0 v from h) (refOf_mk q)
      unfold viewRef at e
      cases g : st[i]? with
      | none => rw [g] at e; cases e
      | some o =>
        rw [g] at e n
        cases o with
        | scr ns => cases n
        | lst xs =>
          cases e
          obtain ⟨h1, b, h2, h3⟩ := r.hr.ob i _ g (fun _ z => nomatch z)
          have : a = b := by
            rcases ha with ha | ha
            · rw [h2] at ha; cases ha; rfl
            · rw [h1] at ha; cases ha
          subst this
          cases h3 with
          | lst e1 r1 => exact ⟨a, _, rfl, e1, r1⟩
        | dct kvs =>
          obtain ⟨_, b, _, h3⟩ := r.hr.ob i _ g (fun _ z => nomatch z)
          cases h3
        | ins c fs => cases e
  | o j =>
    unfold view at e
    obtain ⟨⟨d1, h1⟩, h2⟩ := (show (∃ d, env[j]? = some (some (SV.own d))) ∧ σ[j]? = some (some v) from h)
    simp only [h1] at e
    have e := Option.some.inj e
    subst e
    obtain ⟨a, h3, h4, _⟩ := r.en.own j _ h1
    rw [h2] at h3; cases h3
    exact own_vw h4
theorem vw_of (r : Rel K Γ F μ H σ env st) (h : RO K Γ.ν F μ H σ env p v) (e : view env st p = some d) : Vw K Γ.ν F μ H d v := by
  by_cases n : noScr st p = true
  · exact (vwT_of r h e n).vw
  · cases p with
    | o j => exact absurd rfl n
    | v d0 =>
      unfold view at e
      unfold noScr at n
      cases q : refOf? d0 with
      | none => simp only [q] at n; exact absurd trivial n
      | some i =>
        simp only [q] at e n
        obtain ⟨a, rfl, ha⟩ := Rp.ref_inv (show Rp K Γ.ν F μ H d0 v from h) (refOf_mk q)
        unfold viewRef at e
        cases g : st[i]? with
        | none => rw [g] at e; cases e
        | some o =>
          rw [g] at e n
          cases o with
          | scr ns =>
            cases e
            obtain ⟨h1, b, h2, h3⟩ := r.hr.sc i _ g
            have : a = b := by
              rcases ha with ha | ha
              · rw [h1] at ha; cases ha
              · rw [h2] at ha; cases ha; rfl
            subst this
            exact ⟨a, _, rfl, h3.seq, .ints ns⟩
          | _ => exact absurd rfl n
end

/-! ### argument lists -/
inductive ROs (K : PySem.W.Frag) (ν : Mu) (F : Fz) (μ : Mu) (H : Hp) (σ : Sg) (env : Env) : List Op → List V → Prop
  | nil : ROs K ν F μ H σ env [] []
  | cons {p : Op} {v : V} {ps : List Op} {vs : List V} : RO K ν F μ H σ env p v → ROs K ν F μ H σ env ps vs → ROs K ν F μ H σ env (p :: ps) (v :: vs)
theorem ROs.keep {K : PySem.W.Frag} {ν : Mu} {F F' : Fz} {μ μ' : Mu} {H H' : Hp} {σ : Sg} {env : Env} (k : Keep F μ H F' μ' H') : ∀ {ps : List Op} {vs : List V}, ROs K ν F μ H σ env ps vs → ROs K ν F' μ' H' σ env ps vs
  | _, _, .nil => .nil
  | _, _, .cons h r => .cons (h.keep k) (ROs.keep k r)
abbrev RA (α : Type) := Fz → Mu → Hp → Sg → Env → List α → List V → Prop
def tMA {α : Type} (K : PySem.W.Frag) (Γ : En) (R : RA α) (m : Env → M (List α)) : TA := fun σ H Q => ∃ F μ env st r st', Rel K Γ F μ H σ env st ∧ m env st = some (r, st') ∧
  ∀ vs F' μ' H', Stp F μ H F' μ' H' → Rel K Γ F' μ' H' σ env st' → R F' μ' H' σ env r vs → Q vs H'
abbrev aX (K : PySem.W.Frag) (Γ : En) : RA D := fun F μ H _ _ ds vs => RpAll K Γ.ν F μ H ds vs
abbrev aO (K : PySem.W.Frag) (Γ : En) : RA Op := fun F μ H σ env ps vs => ROs K Γ.ν F μ H σ env ps vs
theorem pa_none {α : Type} {X : Cx} {es : List Expr} {Γ : En} {R : RA α} {m : Env → M (List α)} (h : ∀ env st, m env st = none) : PA X es (tMA X.K Γ R m) := ⟨fun _ _ _ σ H Q _ ⟨F, μ, env, st, r, st', _, e, _⟩ => by rw [h] at e; cases e⟩

section
variable {c : Cfg} {L : Lv} {k : Nat}
theorem argsX_star {sc : Scope} : ∀ {es : List Expr}, es.all (fun e => !isStar e) = false → ∀ env st, argsX L sc es env st = none
  | [], h, _, _ => nomatch h
  | e :: es, h, env, st => by
    unfold argsX
    by_cases q : isStar e = true
    · rw [if_pos q]; rfl
    · rw [if_neg q]
      have q' : isStar e = false := by simpa using q
      have h2 : es.all (fun e => !isStar e) = false := by
        have h' : (!isStar e && es.all fun e => !isStar e) = false := h
        rw [q'] at h'
        simpa using h'
      unfold bnd
      split
      · simp only [argsX_star h2]
      · rfl
theorem argsO_star {sc : Scope} : ∀ {es : List Expr}, es.all (fun e => !isStar e) = false → ∀ env st, argsO L sc es env st = none
  | [], h, _, _ => nomatch h
  | e :: es, h, env, st => by
    unfold argsO
    by_cases q : isStar e = true
    · rw [if_pos q]; rfl
    · rw [if_neg q]
      have q' : isStar e = false := by simpa using q
      have h2 : es.all (fun e => !isStar e) = false := by
        have h' : (!isStar e && es.all fun e => !isStar e) = false := h
        rw [q'] at h'
        simpa using h'
      unfold bnd
      split
      · simp only [argsO_star h2]
      · rfl
theorem pa_argsX (hL : LvOk c L k) {X : Cx} (ok : Ok X c k) (Γ : En) : ∀ es : List Expr, PA X es (tMA X.K Γ (aX X.K Γ) (argsX L X.env.scope es))
  | [] => pa_nil.imp fun σ H Q ⟨F, μ, env, st, r, st', rel, e, q⟩ => by
    cases e
    exact q _ F μ H (.refl _ _ _) rel .nil
  | e :: es => by
    by_cases hs : isStar e = true
    · exact pa_none fun env st => by unfold argsX; rw [if_pos hs]; rfl
    · refine (pa_cons (hL.x X Γ e ok) (pa_argsX hL ok Γ es) (star_cons (by simpa using hs) _ _)).imp fun σ H Q ⟨F, μ, env, st, r, st', rel, eq, q⟩ => ?_
      unfold argsX at eq
      rw [if_neg hs] at eq
      obtain ⟨p, st1, e1, f1⟩ := bnd_some eq
      obtain ⟨ps, st2, e2, f2⟩ := bnd_some f1
      obtain ⟨rfl, rfl⟩ := ret_some f2
      refine ⟨F, μ, env, st, p, st1, rel, e1, fun v F1 μ1 H1 s1 rel1 rx => ?_⟩
      obtain ⟨F2, s2, rel2, rp⟩ := rx.frz rel s1 rel1
      exact ⟨F2, μ1, env, st1, ps, st2, rel2, e2, fun vs F3 μ3 H3 s3 rel3 rs => q _ F3 μ3 H3 (s2.trans s3) rel3 (.cons (rp.keep (rel2.keep s3)) rs)⟩
theorem pa_argsO (hL : LvOk c L k) {X : Cx} (ok : Ok X c k) (Γ : En) : ∀ es : List Expr, PA X es (tMA X.K Γ (aO X.K Γ) (argsO L X.env.scope es))
  | [] => pa_nil.imp fun σ H Q ⟨F, μ, env, st, r, st', rel, e, q⟩ => by
    cases e
    exact q _ F μ H (.refl _ _ _) rel .nil
  | e :: es => by
    by_cases hs : isStar e = true
    · exact pa_none fun env st => by unfold argsO; rw [if_pos hs]; rfl
    · refine (pa_cons (hL.o X Γ e ok) (pa_argsO hL ok Γ es) (star_cons (by simpa using hs) _ _)).imp fun σ H Q ⟨F, μ, env, st, r, st', rel, eq, q⟩ => ?_
      unfold argsO at eq
      rw [if_neg hs] at eq
      obtain ⟨p, st1, e1, f1⟩ := bnd_some eq
      obtain ⟨ps, st2, e2, f2⟩ := bnd_some f1
      obtain ⟨rfl, rfl⟩ := ret_some f2
      refine ⟨F, μ, env, st, p, st1, rel, e1, fun v F1 μ1 H1 s1 rel1 ro => ?_⟩
      exact ⟨F1, μ1, env, st1, ps, st2, rel1, e2, fun vs F3 μ3 H3 s3 rel3 rs => q _ F3 μ3 H3 (s1.trans s3) rel3 (.cons (ro.keep (rel1.keep s3)) rs)⟩
theorem views_some {K : PySem.W.Frag} {Γ : En} {F : Fz} {μ : Mu} {H : Hp} {σ : Sg} {env : Env} : ∀ {ps : List Op} {vs : List V} {ds : List D} {st st' : S}, Rel K Γ F μ H σ env st → ROs K Γ.ν F μ H σ env ps vs → views env ps st = some (ds, st') → st' = st ∧ VwA K Γ.ν F μ H ds vs
  | _, _, ds, st, st', r, .nil, e => by cases e; exact ⟨rfl, .nil⟩
  | _, _, ds, st, st', r, .cons h hs, e => by
    unfold views at e
    obtain ⟨d, st1, e1, f1⟩ := bnd_some e
    obtain ⟨ds', st2, e2, f2⟩ := bnd_some f1
    obtain ⟨e3, rfl⟩ := vw_some e1
    obtain ⟨rfl, g⟩ := views_some r hs e2
    obtain ⟨rfl, rfl⟩ := ret_some f2
    exact ⟨rfl, .cons (vw_of r h e3) g⟩

/-! ### a call of a def -/
theorem run_fnG {X : Cx} {f : Addr} {fd : FuncData} {ps : List Str} {sp : Sp} {pins : List (Addr × Obj)} {σ : Sg} {H : Hp} {s : Shared} {Q : VK} {us : List Value} {vs : List V} (G : FnG X.prog X.w X.K X.mg X.base k f fd ps sp) (hr : Room k X.A)
    (hg : X.A.guards = some []) (hb : Binds X.K fd ps []) (I : Inv X pins σ H s) (r : Vals vs us) (h : sp vs H Q E0) : wpAny (model X.prog X.w) X.A (call (.ref f) us) (EP X pins σ Q) X.xe s := by
  have hl : us.length = ps.length := by rw [← r.length]; exact G.len _ _ _ _ h
  have b := hb s us I.kIn (by rw [List.append_nil]; exact hl)
  rw [List.append_nil] at b
  refine wpAny_call (codeAny_mono (G.run X.A X.stack s H ⟨us, []⟩ us vs Q hr hg I.env0 b r h) fun z s' hq => ?_)
  cases z with
  | error e => exact False.elim hq
  | ok fl => cases fl with
    | ret u => exact I.after hq
    | _ => exact False.elim hq
theorem pe_callG {X : Cx} {f : Addr} {fd : FuncData} {ps : List Str} {sp : Sp} {x : Str} {p pos : Pos} {es : List Expr} {t : TA} (G : FnG X.prog X.w X.K X.mg X.base k f fd ps sp) (hr : Room k X.A) (hg : X.A.guards = some []) (hgl : Gl X x) (hm : X.mg x = some (.ref f))
    (hk : PySem.W.keepIn X.K (.ref f) = true) (hb : Binds X.K fd ps []) (hdb : (x == ("__debug__" : Str)) = false) (ha : PA X es t) (hst : es.all (fun e => !isStar e) = true) (hne : es ≠ []) :
    PE X (.Call (.Name x p) es [] pos) (fun σ H Q => t σ H fun vs H1 => sp vs H1 Q E0) := by
  refine ⟨fun pins s σ H Q I h => wpAny_Call_Name_kw (ld_glob I hgl hm ?_ hdb)⟩
  cases es with
  | nil => exact absurd rfl hne
  | cons e es =>
    obtain ⟨h1, h2⟩ := Bool.and_eq_true_iff.mp (show (!isStar e && es.all fun e => !isStar e) = true from hst)
    exact PySem.W.callWith_K (h₀ := X.base) I.ok.mod.kin hk (thn (ha.run pos pins s σ H _ I h) fun us s1 ⟨vs, H1, I1, r, q⟩ => ⟨I1.kIn, run_fnG G hr hg hb I1 r q⟩) (star_cons (by simpa using h1) _ _) (star_none h2 _ _)
theorem pe_callG0 {X : Cx} {f : Addr} {fd : FuncData} {ps : List Str} {sp : Sp} {x : Str} {p pos : Pos} (G : FnG X.prog X.w X.K X.mg X.base k f fd ps sp) (hr : Room k X.A) (hg : X.A.guards = some []) (hgl : Gl X x) (hm : X.mg x = some (.ref f))
    (hk : PySem.W.keepIn X.K (.ref f) = true) (hb : Binds X.K fd ps []) (hdb : (x == ("__debug__" : Str)) = false) : PE X (.Call (.Name x p) [] [] pos) (fun σ H Q => sp [] H Q E0) :=
  ⟨fun pins s σ H Q I h => wpAny_Call_Name_kw (ld_glob I hgl hm (PySem.W.callWith_K0 I.kIn hk (run_fnG (us := []) G hr hg hb I .nil h)) hdb)⟩
/-- .. of a local name that holds it -/
theorem pe_callLG {X : Cx} {i : Nat} {f : Addr} {fd : FuncData} {ps : List Str} {sp : Sp} {x : Str} {p pos : Pos} {es : List Expr} {t : TA} (G : FnG X.prog X.w X.K X.mg X.base k f fd ps sp) (hr : Room k X.A) (hg : X.A.guards = some [])
    (hN : X.N[i]? = some x) (hv : Vis X.env.scope x) (hk : PySem.W.keepIn X.K (.ref f) = true) (hb : Binds X.K fd ps []) (hdb : (x == ("__debug__" : Str)) = false) (hcd : (x == ("__classdict__" : Str)) = false) (ha : PA X es t) (hst : es.all (fun e => !isStar e) = true) (hne : es ≠ []) :
    PE X (.Call (.Name x p) es [] pos) (fun σ H Q => σ[i]? = some (some (.ref f)) ∧ t σ H fun vs H1 => sp vs H1 Q E0) := by
  refine ⟨fun pins s σ H Q I ⟨hs, h⟩ => ?_⟩
  refine wpAny_Call_Name_kw (thn ((pe_var (pos := p) hN hv hdb hcd).run pins s σ H (fun v H1 => v = .ref f ∧ H1 = H) I ⟨.ref f, hs, rfl, rfl⟩) fun u s1 ⟨v, H1, I1, r1, q1⟩ => ?_)
  obtain ⟨rfl, rfl⟩ := q1
  cases r1
  cases es with
  | nil => exact absurd rfl hne
  | cons e es =>
    obtain ⟨h1, h2⟩ := Bool.and_eq_true_iff.mp (show (!isStar e && es.all fun e => !isStar e) = true from hst)
    exact PySem.W.callWith_K (h₀ := X.base) I1.ok.mod.kin hk (thn (ha.run pos pins s1 σ _ _ I1 h) fun us s2 ⟨vs, H2, I2, r, q⟩ => ⟨I2.kIn, run_fnG G hr hg hb I2 r q⟩) (star_cons (by simpa using h1) _ _) (star_none h2 _ _)
theorem _root_.L2.Inv.meth_call {X : Cx} {pins : List (Addr × Obj)} {σ : Sg} {H : Hp} {s : Shared} {o : Expr} {name : Str} {apos pos : Pos} {args : List Expr} {Q : Value → Shared → Prop} {ta : TE} {C : Addr} (he : PE X o ta) (I : Inv X pins σ H s)
    (hbase : attributeBase o name X.env (eval o X.env) = eval o X.env)
    (hfew : ((backTo pos (starEach args X.env)).all (fun x => !x.1) && (backToKw pos (keywordEach [] X.env)).all (fun x => x.1.isSome)
      && decide (args.length + ([] : List Keyword).length + (if ([] : List Keyword).isEmpty then 0 else 1) < 30)) = true)
    (hline : (apos.endLine == pos.line) = true) {g : Addr} (cl : Cls X.K C) (hm : Meth X.K C name g)
    {R : V → Hp → Prop} (h : ta σ H R) (hR : ∀ x H1, R x H1 → ∃ a dx fs, x = .ref a ∧ H1 a = some (.ins C dx fs) ∧ fs.lookup name = none ∧ ∀ s1, Inv X pins σ H1 s1 → wpAny (model X.prog X.w) X.A (callWith pos (.ref g) [.ref a] (backTo pos (starEach args X.env)) []) Q X.xe s1) :
    wpAny (model X.prog X.w) X.A (eval (.Call (.Attribute o name apos) args [] pos) X.env) Q X.xe s := by
  rw [arm_eval_Call, hbase]
  refine wpAny_bind (thn (he.run pins s σ H _ I h) fun u s1 ⟨x, H1, I1, rx, q1⟩ => ?_)
  obtain ⟨a, dx, fs, ex, ea, l, hc⟩ := hR x H1 q1
  subst ex
  obtain rfl : u = Value.ref a := rx
  refine wpAny_bind (wpAny_standAt ?_)
  have hform : methodCallForm (args.length + ([] : List Keyword).length) (backTo pos (starEach args X.env)) (backToKw pos (keywordEach [] X.env)) = true := hfew
  have hpos : methodCallPos true o X.env apos pos = pure pos := by unfold methodCallPos; simp [hline]
  first
    | (
       unfold methodCall
       rw [hform]
       refine wpAny_bind (wpAny_holding (getmeth_ok I1 ea cl hm l ?_))
       exact wpAny_bind (wpAny_of_eq hpos (hc s1 I1)))
    | (
       unfold methodCall calleeOf methodCallPos
       simp only [hform, hline, if_true, Bool.not_true, Bool.or_true]
       refine wpAny_bind (wpAny_holding (getmeth_ok I1 ea cl hm l ?_))
       exact wpAny_bind (wpAny_pure (hc s1 I1)))
/-- o.m(..) -/
theorem pe_methG {X : Cx} {f C : Addr} {fd : FuncData} {ps : List Str} {sp : Sp} {o : Expr} {m : Str} {apos pos : Pos} {es : List Expr} {ta : TE} {t : TA} (he : PE X o ta) (cl : Cls X.K C) (hm : Meth X.K C m f) (G : FnG X.prog X.w X.K X.mg X.base k f fd ps sp)
    (hr : Room k X.A) (hg : X.A.guards = some []) (hb : Binds X.K fd ps []) (ha : PA X es t) (hst : es.all (fun e => !isStar e) = true) (hn : es.length < 20) (hl : (apos.endLine == pos.line) = true) (hpb : attributeBase o m X.env (eval o X.env) = eval o X.env) (hnil : es = [] → ∀ σ H Q, t σ H Q → Q [] H) :
    PE X (.Call (.Attribute o m apos) es [] pos) (fun σ H Q => ta σ H fun x H1 => ∃ a dx fs, x = .ref a ∧ H1 a = some (.ins C dx fs) ∧ fs.lookup m = none ∧ t σ H1 fun vs H2 => sp (x :: vs) H2 Q E0) := by
  refine ⟨fun pins s σ H Q I h => I.meth_call he hpb ?_ hl cl hm h ?_⟩
  · rw [star_all hst]
    simp [backToKw, keywordEach]
    omega
  · rintro x H1 ⟨a, dx, fs, rfl, ea, l, q⟩
    refine ⟨a, dx, fs, rfl, ea, l, fun s1 I1 => ?_⟩
    cases es with
    | nil =>
      exact PySem.W.callWith_K0 (first := [.ref a]) I1.kIn hm.kp (run_fnG (us := [.ref a]) (vs := [.ref a]) G hr hg hb I1 (.cons rfl .nil) (hnil rfl _ _ _ q))
    | cons e es =>
      obtain ⟨h1, h2⟩ := Bool.and_eq_true_iff.mp (show (!isStar e && es.all fun e => !isStar e) = true from hst)
      refine PySem.W.callWith_K (first := [.ref a]) (h₀ := X.base) I1.ok.mod.kin hm.kp (thn (ha.run pos pins s1 σ H1 _ I1 q) fun us s2 ⟨vs, H2, I2, r, q2⟩ => ⟨I2.kIn, ?_⟩) (star_cons (by simpa using h1) _ _) (star_none h2 _ _)
      exact run_fnG (us := .ref a :: us) (vs := .ref a :: vs) G hr hg hb I2 (.cons rfl r) q2
/-- C(..), C the text's class -/
theorem run_makeG {X : Cx} {C f : Addr} {fd : FuncData} {ps : List Str} {sp : Sp} {pins : List (Addr × Obj)} {σ : Sg} {H : Hp} {s : Shared} {Q : VK} {us : List Value} {vs : List V} (M : Mk X.K C f) (G : FnG X.prog X.w X.K X.mg X.base k f fd ps sp) (hr : Room (k + 1) X.A)
    (hg : X.A.guards = some []) (hb : Binds X.K fd ps []) (I : Inv X pins σ H s) (r : Vals vs us)
    (h : ∀ x dx, H x = none → H dx = none → dx ≠ x → sp (.ref x :: vs) (upd (upd H dx (.own x)) x (.ins C dx [])) (fun v H2 => v = .non ∧ Q (.ref x) H2) E0) :
    wpAny (model X.prog X.w) X.A (call (.ref C) us) (EP X pins σ Q) X.xe s := by
  have hq := h (s.heap.objs.size + 1) s.heap.objs.size (I.hok.fresh (Nat.le_succ _)) (I.hok.fresh (Nat.le_refl _)) (Nat.ne_of_lt (Nat.lt_succ_self _))
  have I2 := Inv.made (C := C) I
  have r2 : Vals (V.ref (s.heap.objs.size + 1) :: vs) (Value.ref (s.heap.objs.size + 1) :: us) := .cons rfl r
  have hl : (Value.ref (s.heap.objs.size + 1) :: us).length = ps.length := by
    have e := r2.length
    rw [G.len _ _ _ _ hq] at e
    exact e.symm
  have hb2 := hb _ (Value.ref (s.heap.objs.size + 1) :: us) I2.kIn (by rw [List.append_nil]; exact hl)
  rw [List.append_nil] at hb2
  refine wpAny_call (make_map (f := f) I.kIn M.makes M.init (beq_iff_eq.mp M.fn) (codeAny_mono (G.run _ X.stack _ _ ⟨Value.ref (s.heap.objs.size + 1) :: us, []⟩ (Value.ref (s.heap.objs.size + 1) :: us) _ _ (hr.make C us []) hg
    (I2.env0.make C us []) hb2 r2 hq) fun r s' hq' => ?_))
  cases r with
  | error e => exact False.elim hq'
  | ok fl =>
    cases fl with
    | ret u =>
      obtain ⟨v, H', I3, rv, ev, q3⟩ := I2.after hq'
      subst ev
      exact ⟨rv, ⟨V.ref (s.heap.objs.size + 1), H', I3, rfl, q3⟩⟩
    | _ => exact False.elim hq'
theorem pe_makeG {X : Cx} {C f : Addr} {fd : FuncData} {ps : List Str} {sp : Sp} {x : Str} {p pos : Pos} {es : List Expr} {t : TA} (M : Mk X.K C f) (G : FnG X.prog X.w X.K X.mg X.base k f fd ps sp) (hr : Room (k + 1) X.A) (hg : X.A.guards = some []) (hgl : Gl X x) (hm : X.mg x = some (.ref C))
    (hb : Binds X.K fd ps []) (hdb : (x == ("__debug__" : Str)) = false) (ha : PA X es t) (hst : es.all (fun e => !isStar e) = true) (hne : es ≠ []) :
    PE X (.Call (.Name x p) es [] pos) (fun σ H Q => t σ H fun vs H1 => ∀ y dx, H1 y = none → H1 dx = none → dx ≠ y → sp (.ref y :: vs) (upd (upd H1 dx (.own y)) y (.ins C dx [])) (fun v H2 => v = .non ∧ Q (.ref y) H2) E0) := by
  refine ⟨fun pins s σ H Q I h => wpAny_Call_Name_kw (ld_glob I hgl hm ?_ hdb)⟩
  cases es with
  | nil => exact absurd rfl hne
  | cons e es =>
    obtain ⟨h1, h2⟩ := Bool.and_eq_true_iff.mp (show (!isStar e && es.all fun e => !isStar e) = true from hst)
    exact PySem.W.callWith_K (h₀ := X.base) I.ok.mod.kin M.kp (thn (ha.run pos pins s σ H _ I h) fun us s1 ⟨vs, H1, I1, r, q⟩ => ⟨I1.kIn, run_makeG M G hr hg hb I1 r q⟩) (star_cons (by simpa using h1) _ _) (star_none h2 _ _)
end
end Pz

/-! Pz8: the evaluator's expressions, form by form. -/
namespace Pz
open PySem PySem.Spec PyProof.Rows L2

section
variable {X : Cx} {c : Cfg} {L : Lv} {k : Nat}

theorem bnd_none {α β : Type} {m : M α} {f : α → M β} {st : S} (h : ∀ a st, f a st = none) : bnd m f st = none := by
  unfold bnd
  split
  · exact h _ _
  · rfl
theorem bnd_left {α β : Type} {m : M α} {f : α → M β} {st : S} (h : m st = none) : bnd m f st = none := by
  unfold bnd
  rw [h]
/-! ### the operators, the outcome read off the values -/
def rArith (K : PySem.W.Frag) (op : Operator) : R2 := fun v w H Q => ∃ x y r, arith op x y = some r ∧ rOp K x y r v w H Q
theorem op_arithD (op : Operator) : OpR X (binaryOp op) (rArith X.K op) := fun pins s σ H v w u1 u2 Q I r1 r2 ⟨_, _, _, h, q⟩ => op_arith h pins s σ H v w u1 u2 Q I r1 r2 q
def rCmpD (K : PySem.W.Frag) (op : CmpOp) : R2 := fun v w H Q => ∃ x y b, cmp op x y = some b ∧ rCmp K x y b v w H Q
theorem op_cmpD (hu : X.A.units + 65 < cLine) (op : CmpOp) : OpR X (compareOp op) (rCmpD X.K op) := fun pins s σ H v w u1 u2 Q I r1 r2 ⟨_, _, _, h, q⟩ => op_cmp hu h pins s σ H v w u1 u2 Q I r1 r2 q
def rItem (K : PySem.W.Frag) : R2 := fun v w H Q => ∃ x y d, item x y = some d ∧ ∃ ν F μ, Vw K ν F μ H x v ∧ Vw K ν F μ H y w ∧ ∀ u H', Res K ν F μ H (d, false) u H' → Q u H'
theorem ix_itemD (hu : X.A.units + 1 < cLine) : IxR X (rItem X.K) := fun va sl pins s σ H v w u1 u2 Q I r1 r2 ⟨_, _, d, h, q⟩ => ix_item (r := (d, false)) hu h rfl va sl pins s σ H v w u1 u2 Q I r1 r2 q
def rSlice (K : PySem.W.Frag) : V → Option Int → Option Int → Hp → VK → Prop := fun v lo hi H Q => ∃ x r, slice x lo hi = some r ∧ ∃ ν F μ, Vw K ν F μ H x v ∧ ∀ w H', Res K ν F μ H r w H' → Q w H'
theorem sl_D : SlR X (rSlice X.K) := fun pins s σ H v va vl vu lo hi sl Q I rx hs pl pu ⟨_, _, h, q⟩ => sl_ok h pins s σ H v va vl vu lo hi sl Q I rx hs pl pu ⟨rfl, rfl, q⟩

theorem arithM_some {env : Env} {op : Operator} {p q : Op} {st st' : S} {r : D × Bool} (h : arithM env op p q st = some (r, st')) : st' = st ∧ ∃ x y, view env st p = some x ∧ view env st q = some y ∧ noScr st p = true ∧ noScr st q = true ∧ arith op x y = some r := by
  unfold arithM at h
  split at h
  · rename_i x y e1 e2
    split at h
    · rename_i n
      obtain ⟨n1, n2⟩ := Bool.and_eq_true_iff.mp n
      split at h
      · rename_i r' e3
        cases h
        exact ⟨rfl, x, y, e1, e2, n1, n2, e3⟩
      · cases h
    · cases h
  · cases h
theorem cmpM_some {env : Env} {op : CmpOp} {p q : Op} {st st' : S} {b : Bool} (h : cmpM env op p q st = some (b, st')) : st' = st ∧ ∃ x y, view env st p = some x ∧ view env st q = some y ∧ cmp op x y = some b := by
  unfold cmpM at h
  split at h
  · rename_i x y e1 e2
    split at h
    · rename_i r' e3
      cases h
      exact ⟨rfl, x, y, e1, e2, e3⟩
    · cases h
  · cases h

theorem pe_binop (hL : LvOk c L k) (ok : Ok X c k) (Γ : En) {a b : Expr} {op : Operator} {pos : Pos} :
    PE X (.BinOp a op b pos) (tM X.K Γ (rX X.K Γ) fun env => bnd (L.o X.env.scope a env) fun p => bnd (L.o X.env.scope b env) fun q => arithM env op p q) :=
  (pe_op (op_arithD op) (hL.o X Γ a ok) (hL.o X Γ b ok)).imp fun σ H Q ⟨F, μ, env, st, r, st', rel, e, q⟩ => by
    obtain ⟨p1, st1, e1, f1⟩ := bnd_some e
    obtain ⟨p2, st2, e2, f2⟩ := bnd_some f1
    obtain ⟨rfl, x, y, g1, g2, n1, n2, ha⟩ := arithM_some f2
    refine ⟨F, μ, env, st, p1, st1, rel, e1, fun v F1 μ1 H1 s1 rel1 ro1 => ⟨F1, μ1, env, st1, p2, st', rel1, e2, fun w F2 μ2 H2 s2 rel2 ro2 => ?_⟩⟩
    refine ⟨x, y, r, ha, Γ.ν, F2, μ2, vwT_of rel2 (ro1.keep (rel1.keep s2)) g1 n1, vwT_of rel2 ro2 g2 n2, fun u H3 res => ?_⟩
    obtain ⟨s3, rel3, rx⟩ := res.rel rel2
    exact q u F2 μ2 H3 ((s1.trans s2).trans s3) rel3 (rx.back (s1.trans s2).tr)
theorem pe_cmp1 (hL : LvOk c L k) (ok : Ok X c k) (Γ : En) {a b : Expr} {op : CmpOp} {pos : Pos} (hs : isSet b = false) :
    PE X (.Compare a [op] [b] pos) (tM X.K Γ (rX X.K Γ) fun env => bnd (L.o X.env.scope a env) fun p => bnd (L.o X.env.scope b env) fun q => bnd (cmpM env op p q) fun t => ret (.bool t, false)) :=
  (pe_cmpR (op_cmpD (by have := ok.hu; omega) op) (hL.o X Γ a ok) (hL.o X Γ b ok) (by cases b <;> first | rfl | cases hs)).imp fun σ H Q ⟨F, μ, env, st, r, st', rel, e, q⟩ => by
    obtain ⟨p1, st1, e1, f1⟩ := bnd_some e
    obtain ⟨p2, st2, e2, f2⟩ := bnd_some f1
    obtain ⟨t, st3, e3, f3⟩ := bnd_some f2
    obtain ⟨rfl, x, y, g1, g2, ha⟩ := cmpM_some e3
    obtain ⟨rfl, rfl⟩ := ret_some f3
    refine ⟨F, μ, env, st, p1, st1, rel, e1, fun v F1 μ1 H1 s1 rel1 ro1 => ⟨F1, μ1, env, st1, p2, st3, rel1, e2, fun w F2 μ2 H2 s2 rel2 ro2 => ?_⟩⟩
    exact ⟨x, y, t, ha, Γ.ν, F2, μ2, vw_of rel2 (ro1.keep (rel1.keep s2)) g1, vw_of rel2 ro2 g2, q _ F2 μ2 H2 (s1.trans s2) rel2 (.bl t)⟩
theorem pt_cmp1 (hL : LvOk c L k) (ok : Ok X c k) (Γ : En) {a b : Expr} {op : CmpOp} {pos : Pos} (hs : isSet b = false) :
    PT X (.Compare a [op] [b] pos) (tMT X.K Γ fun env => bnd (L.o X.env.scope a env) fun p => bnd (L.o X.env.scope b env) fun q => cmpM env op p q) :=
  (pt_cmpR (op_cmpD (by have := ok.hu; omega) op) (hL.o X Γ a ok) (hL.o X Γ b ok) (by cases b <;> first | rfl | cases hs)).imp fun σ H Q ⟨F, μ, env, st, r, st', rel, e, q⟩ => by
    obtain ⟨p1, st1, e1, f1⟩ := bnd_some e
    obtain ⟨p2, st2, e2, f2⟩ := bnd_some f1
    obtain ⟨rfl, x, y, g1, g2, ha⟩ := cmpM_some f2
    refine ⟨F, μ, env, st, p1, st1, rel, e1, fun v F1 μ1 H1 s1 rel1 ro1 => ⟨F1, μ1, env, st1, p2, st', rel1, e2, fun w F2 μ2 H2 s2 rel2 ro2 => ?_⟩⟩
    exact ⟨x, y, r, ha, Γ.ν, F2, μ2, vw_of rel2 (ro1.keep (rel1.keep s2)) g1, vw_of rel2 ro2 g2, r, rfl, q F2 μ2 H2 (s1.trans s2) rel2⟩
theorem no_marks {op op' : CmpOp} {b d : Expr} (h : isSet d = false) : lastMarks [op, op'] [b, d] = false := by
  cases d <;> first | rfl | cases h
theorem pe_cmp2 (hL : LvOk c L k) (ok : Ok X c k) (Γ : En) {a b d : Expr} {op op' : CmpOp} {pos : Pos} (hs : isSet d = false) :
    PE X (.Compare a [op, op'] [b, d] pos) (tM X.K Γ (rX X.K Γ) fun env => bnd (L.o X.env.scope a env) fun p => bnd (L.o X.env.scope b env) fun q => bnd (cmpM env op p q) fun t =>
      if t = true then bnd (L.o X.env.scope d env) fun q' => bnd (cmpM env op' q q') fun t' => ret (.bool t', false) else ret (.bool false, false)) :=
  (pe_chain (op_cmpD (by have := ok.hu; omega) op) (op_cmpD (by have := ok.hu; omega) op') (hL.o X Γ a ok) (hL.o X Γ b ok) (hL.o X Γ d ok) (no_marks hs)).imp fun σ H Q ⟨F, μ, env, st, r, st', rel, e, q⟩ => by
    obtain ⟨p1, st1, e1, f1⟩ := bnd_some e
    obtain ⟨p2, st2, e2, f2⟩ := bnd_some f1
    obtain ⟨t, st3, e3, f3⟩ := bnd_some f2
    obtain ⟨rfl, x, y, g1, g2, ha⟩ := cmpM_some e3
    refine ⟨F, μ, env, st, p1, st1, rel, e1, fun v F1 μ1 H1 s1 rel1 ro1 => ⟨F1, μ1, env, st1, p2, st3, rel1, e2, fun w F2 μ2 H2 s2 rel2 ro2 => ?_⟩⟩
    refine ⟨x, y, t, ha, Γ.ν, F2, μ2, vw_of rel2 (ro1.keep (rel1.keep s2)) g1, vw_of rel2 ro2 g2, t, rfl, ?_⟩
    cases t with
    | false =>
      obtain ⟨rfl, rfl⟩ := ret_some f3
      exact q _ F2 μ2 H2 (s1.trans s2) rel2 (.bl false)
    | true =>
      rw [if_pos rfl] at f3
      obtain ⟨p3, st4, e4, f4⟩ := bnd_some f3
      obtain ⟨t', st5, e5, f5⟩ := bnd_some f4
      obtain ⟨rfl, x', y', g3, g4, hb⟩ := cmpM_some e5
      obtain ⟨rfl, rfl⟩ := ret_some f5
      refine ⟨F2, μ2, env, _, p3, _, rel2, e4, fun z F3 μ3 H3 s3 rel3 ro3 => ?_⟩
      exact ⟨x', y', t', hb, Γ.ν, F3, μ3, vw_of rel3 (ro2.keep (rel2.keep s3)) g3, vw_of rel3 ro3 g4, q _ F3 μ3 H3 ((s1.trans s2).trans s3) rel3 (.bl t')⟩
theorem pt_cmp2 (hL : LvOk c L k) (ok : Ok X c k) (Γ : En) {a b d : Expr} {op op' : CmpOp} {pos : Pos} (hs : isSet d = false) :
    PT X (.Compare a [op, op'] [b, d] pos) (tMT X.K Γ fun env => bnd (L.o X.env.scope a env) fun p => bnd (L.o X.env.scope b env) fun q => bnd (cmpM env op p q) fun t =>
      if t = true then bnd (L.o X.env.scope d env) fun q' => cmpM env op' q q' else ret false) :=
  (pt_chain (op_cmpD (by have := ok.hu; omega) op) (op_cmpD (by have := ok.hu; omega) op') (hL.o X Γ a ok) (hL.o X Γ b ok) (hL.o X Γ d ok) (no_marks hs)).imp fun σ H Q ⟨F, μ, env, st, r, st', rel, e, q⟩ => by
    obtain ⟨p1, st1, e1, f1⟩ := bnd_some e
    obtain ⟨p2, st2, e2, f2⟩ := bnd_some f1
    obtain ⟨t, st3, e3, f3⟩ := bnd_some f2
    obtain ⟨rfl, x, y, g1, g2, ha⟩ := cmpM_some e3
    refine ⟨F, μ, env, st, p1, st1, rel, e1, fun v F1 μ1 H1 s1 rel1 ro1 => ⟨F1, μ1, env, st1, p2, st3, rel1, e2, fun w F2 μ2 H2 s2 rel2 ro2 => ?_⟩⟩
    refine ⟨x, y, t, ha, Γ.ν, F2, μ2, vw_of rel2 (ro1.keep (rel1.keep s2)) g1, vw_of rel2 ro2 g2, t, rfl, ?_⟩
    cases t with
    | false =>
      obtain ⟨rfl, rfl⟩ := ret_some f3
      exact ⟨false, rfl, q F2 μ2 H2 (s1.trans s2) rel2⟩
    | true =>
      rw [if_pos rfl] at f3
      obtain ⟨p3, st4, e4, f4⟩ := bnd_some f3
      obtain ⟨rfl, x', y', g3, g4, hb⟩ := cmpM_some f4
      refine ⟨F2, μ2, env, _, p3, _, rel2, e4, fun z F3 μ3 H3 s3 rel3 ro3 => ?_⟩
      exact ⟨x', y', r, hb, Γ.ν, F3, μ3, vw_of rel3 (ro2.keep (rel2.keep s3)) g3, vw_of rel3 ro3 g4, r, rfl, q F3 μ3 H3 ((s1.trans s2).trans s3) rel3⟩

/-! ### constants, names -/
theorem pe_const {Γ : En} {e : Expr} {v : V} {d : D} (h : PE X e (tC v)) (r : ∀ F μ H, Rp X.K Γ.ν F μ H d v) : PE X e (tM X.K Γ (rX X.K Γ) fun _ => ret (d, false)) :=
  h.imp fun σ H Q ⟨F, μ, env, st, r', st', rel, e, q⟩ => by
    obtain ⟨rfl, rfl⟩ := ret_some e
    exact q v F μ H (.refl _ _ _) rel (r F μ H)
theorem pe_name (ok : Ok X c k) (Γ : En) {x : Str} {pos : Pos} : PE X (.Name x pos) (tM X.K Γ (rX X.K Γ) fun env => compX c L X.env.scope (.Name x pos) env) := by
  cases hs : slotOf c X.env.scope x with
  | some j =>
    obtain ⟨h1, h2, h3, h4⟩ := slot_ok hs
    refine (pe_var (i := j) (by rw [ok.n]; exact h1) h2 h3 h4).imp fun σ H Q ⟨F, μ, env, st, r, st', rel, e, q⟩ => ?_
    simp only [compX, hs] at e
    cases g : env[j]? with
    | none => simp only [g] at e; cases e
    | some o =>
      cases o with
      | none => simp only [g] at e; cases e
      | some sv =>
        cases sv with
        | own d => simp only [g] at e; cases e
        | fn w => simp only [g] at e; cases e
        | frz d =>
          simp only [g] at e
          obtain ⟨rfl, rfl⟩ := ret_some e
          obtain ⟨v, g1, g2⟩ := rel.en.frz j d g
          exact ⟨v, g1, q v F μ H (.refl _ _ _) rel g2⟩
  | none =>
    by_cases hg : isGl X.env.scope x = true
    · cases hc : c.consts.lookup x with
      | none => exact pe_none fun env st => by simp only [compX, hs, hg, hc]; rfl
      | some d =>
        obtain ⟨u, v, hm, hr, _, hd⟩ := ok.con x d hc
        obtain ⟨g1, g2, g3⟩ := gl_ok hg
        refine (pe_glob g1 hm hr g2).imp fun σ H Q ⟨F, μ, env, st, r, st', rel, e, q⟩ => ?_
        simp only [compX, hs, hg, hc] at e
        obtain ⟨rfl, rfl⟩ := ret_some e
        exact q v F μ H (.refl _ _ _) rel (hd _ F μ H)
    · have hg' : isGl X.env.scope x = false := by simpa using hg
      exact pe_none fun env st => by simp only [compX, hs, hg']; rfl

/-! ### not, and, or, if, minus -/
theorem pe_neg (hL : LvOk c L k) (ok : Ok X c k) (Γ : En) {a : Expr} {pos : Pos} :
    PE X (.UnaryOp .USub a pos) (tM X.K Γ (rX X.K Γ) fun env => bnd (L.x X.env.scope a env) fun p => (match p.1 with
    | .int i => ret (.int (-i), false)
    | _ => fail)) :=
  (pe_un un_neg (hL.x X Γ a ok)).imp fun σ H Q ⟨F, μ, env, st, r, st', rel, e, q⟩ => by
    obtain ⟨p, st1, e1, f1⟩ := bnd_some e
    refine ⟨F, μ, env, st, p, st1, rel, e1, fun v F1 μ1 H1 s1 rel1 rx => ?_⟩
    obtain ⟨d, fl⟩ := p
    cases d with
    | int i =>
      obtain ⟨rfl, rfl⟩ := ret_some f1
      obtain ⟨F2, s2, rel2, rp⟩ := rx.frz rel s1 rel1
      cases rp
      exact ⟨i, rfl, q _ F2 μ1 H1 s2 rel2 (.int _)⟩
    | _ => cases f1
theorem pe_not1 (hL : LvOk c L k) (ok : Ok X c k) (Γ : En) {a : Expr} {pos : Pos} :
    PE X (.UnaryOp .Not a pos) (tM X.K Γ (rX X.K Γ) fun env => bnd (L.o X.env.scope a env) fun p => bnd (vw env p) fun d => bnd (lift (truth d)) fun b => ret (.bool (!b), false)) :=
  (pe_notT (hL.o X Γ a ok)).imp fun σ H Q ⟨F, μ, env, st, r, st', rel, e, q⟩ => by
    obtain ⟨p, st1, e1, f1⟩ := bnd_some e
    obtain ⟨d, st2, e2, f2⟩ := bnd_some f1
    obtain ⟨b, st3, e3, f3⟩ := bnd_some f2
    obtain ⟨g1, rfl⟩ := vw_some e2
    obtain ⟨g2, rfl⟩ := lift_some e3
    obtain ⟨rfl, rfl⟩ := ret_some f3
    exact ⟨F, μ, env, st, p, _, rel, e1, fun v F1 μ1 H1 s1 rel1 ro => ⟨b, tru_of (vw_of rel1 ro g1) g2, q _ F1 μ1 H1 s1 rel1 (.bl _)⟩⟩
theorem rx_tru {Γ : En} {F : Fz} {μ : Mu} {H Hs : Hp} {r : D × Bool} {v : V} {b : Bool} (h : RX X.K Γ.ν F μ H Hs r v) (t : truth r.1 = some b) : TruV X.K v H b := by
  obtain ⟨d, fl⟩ := r
  cases fl with
  | false =>
    cases n : refOf? d with
    | none => exact tru_of (Rp.vwT h n).vw t
    | some i => rw [refOf_mk n] at t; cases t
  | true =>
    obtain ⟨a, rfl, h1, _⟩ := h
    exact tru_of (own_vw (Γ := Γ) h1).vw t
theorem pe_bool (hL : LvOk c L k) (ok : Ok X c k) (Γ : En) {op : BoolOp} {pos : Pos} : ∀ vs : List Expr, PE X (.BoolOp op vs pos) (tM X.K Γ (rX X.K Γ) (boolX L X.env.scope op vs))
  | [] => pe_none fun _ _ => rfl
  | [a] => pe_one (hL.x X Γ a ok)
  | a :: b :: r => by
    have ih := pe_bool hL ok Γ (op := op) (pos := pos) (b :: r)
    cases op with
    | And =>
      refine (pe_andT (hL.x X Γ a ok) ih).imp fun σ H Q ⟨F, μ, env, st, r', st', rel, e, q⟩ => ?_
      obtain ⟨p, st1, e1, f1⟩ := bnd_some (show bnd (L.x X.env.scope a env) (fun p => bnd (lift (truth p.1)) fun t => if t = true then boolX L X.env.scope .And (b :: r) env else ret p) st = some (r', st') from e)
      obtain ⟨t, st2, e2, f2⟩ := bnd_some f1
      obtain ⟨g, rfl⟩ := lift_some e2
      refine ⟨F, μ, env, st, p, _, rel, e1, fun v F1 μ1 H1 s1 rel1 rx => ⟨t, rx_tru rx g, ?_⟩⟩
      cases t with
      | true =>
        rw [if_pos rfl] at f2
        exact ⟨F1, μ1, env, _, r', st', rel1, f2, fun w F2 μ2 H2 s2 rel2 rx2 => q w F2 μ2 H2 (s1.trans s2) rel2 (rx2.back s1.tr)⟩
      | false =>
        obtain ⟨rfl, rfl⟩ := ret_some f2
        exact q v F1 μ1 H1 s1 rel1 rx
    | Or =>
      refine (pe_orT (hL.x X Γ a ok) ih).imp fun σ H Q ⟨F, μ, env, st, r', st', rel, e, q⟩ => ?_
      obtain ⟨p, st1, e1, f1⟩ := bnd_some (show bnd (L.x X.env.scope a env) (fun p => bnd (lift (truth p.1)) fun t => if t = true then ret p else boolX L X.env.scope .Or (b :: r) env) st = some (r', st') from e)
      obtain ⟨t, st2, e2, f2⟩ := bnd_some f1
      obtain ⟨g, rfl⟩ := lift_some e2
      refine ⟨F, μ, env, st, p, _, rel, e1, fun v F1 μ1 H1 s1 rel1 rx => ⟨t, rx_tru rx g, ?_⟩⟩
      cases t with
      | false =>
        have f3 : boolX L X.env.scope .Or (b :: r) env _ = some (r', st') := f2
        exact ⟨F1, μ1, env, _, r', st', rel1, f3, fun w F2 μ2 H2 s2 rel2 rx2 => q w F2 μ2 H2 (s1.trans s2) rel2 (rx2.back s1.tr)⟩
      | true =>
        obtain ⟨rfl, rfl⟩ := ret_some f2
        exact q v F1 μ1 H1 s1 rel1 rx
theorem pe_if (hL : LvOk c L k) (ok : Ok X c k) (Γ : En) {t a b : Expr} {pos : Pos} :
    PE X (.IfExp t a b pos) (tM X.K Γ (rX X.K Γ) fun env => bnd (L.t X.env.scope t env) fun z => if z = true then L.x X.env.scope a env else L.x X.env.scope b env) :=
  (pe_ifExp (hL.t X Γ t ok) (hL.x X Γ a ok) (hL.x X Γ b ok)).imp fun σ H Q ⟨F, μ, env, st, r, st', rel, e, q⟩ => by
    obtain ⟨z, st1, e1, f1⟩ := bnd_some e
    refine ⟨F, μ, env, st, z, st1, rel, e1, fun F1 μ1 H1 s1 rel1 => ?_⟩
    cases z with
    | true =>
      rw [if_pos rfl] at f1 ⊢
      exact ⟨F1, μ1, env, st1, r, st', rel1, f1, fun w F2 μ2 H2 s2 rel2 rx2 => q w F2 μ2 H2 (s1.trans s2) rel2 (rx2.back s1.tr)⟩
    | false =>
      rw [if_neg Bool.false_ne_true] at f1 ⊢
      exact ⟨F1, μ1, env, st1, r, st', rel1, f1, fun w F2 μ2 H2 s2 rel2 rx2 => q w F2 μ2 H2 (s1.trans s2) rel2 (rx2.back s1.tr)⟩

/-! ### displays, subscripts -/
theorem pe_tuple (hL : LvOk c L k) (ok : Ok X c k) (Γ : En) {es : List Expr} {n : Nat} {pos : Pos} :
    PE X (.Tuple es n pos) (tM X.K Γ (rX X.K Γ) fun env => bnd (argsX L X.env.scope es env) fun ds => if ds.length ≤ line then ret (.tuple ds, false) else fail) := by
  refine ⟨fun pins s σ H Q I ⟨F, μ, env, st, r, st', rel, e, q⟩ => ?_⟩
  obtain ⟨ds, st1, e1, f1⟩ := bnd_some e
  have hA := (pa_argsX hL ok Γ es).run pos pins s σ H (fun vs H1 => ∃ F1 μ1, Stp F μ H F1 μ1 H1 ∧ Rel X.K Γ F1 μ1 H1 σ env st1 ∧ RpAll X.K Γ.ν F1 μ1 H1 ds vs) I
    ⟨F, μ, env, st, ds, st1, rel, e1, fun vs F1 μ1 H1 s1 rel1 rs => ⟨F1, μ1, s1, rel1, rs⟩⟩
  refine wpAny_Tuple_spliced (thn hA fun us s1 ⟨vs, H1, I1, rv, F1, μ1, sp, rel1, rs⟩ => ?_)
  have hl : line = sizeLine := line_eq
  by_cases hz : ds.length ≤ line
  · rw [if_pos hz] at f1
    obtain ⟨rfl, rfl⟩ := ret_some f1
    have l1 := rs.length
    have l2 := rv.length
    obtain ⟨s3, rel3, rx⟩ := (Res.tup (o := { cls := .type "tuple", data := .seq us.toArray }) I1.fresh rfl rs).rel rel1
    exact ⟨by omega, .ref s1.heap.objs.size, _, I1.tupN (t' := s1.toks) rv (by omega), rfl, q _ F1 μ1 _ (sp.trans s3) rel3 rx⟩
  · rw [if_neg hz] at f1; cases f1
theorem pe_list (hL : LvOk c L k) (ok : Ok X c k) (Γ : En) {es : List Expr} {pos : Pos} :
    PE X (.List es pos) (tM X.K Γ (rX X.K Γ) fun env => bnd (argsX L X.env.scope es env) fun ds => if ds.length ≤ line then ret (.list ds, true) else fail) :=
  (pe_lst (pa_argsX hL ok Γ es)).imp fun σ H Q ⟨F, μ, env, st, r, st', rel, e, q⟩ => by
    obtain ⟨ds, st1, e1, f1⟩ := bnd_some e
    refine ⟨F, μ, env, st, ds, st1, rel, e1, fun vs F1 μ1 H1 s1 rel1 rs => ?_⟩
    have hl : line = sizeLine := line_eq
    by_cases hz : ds.length ≤ line
    · rw [if_pos hz] at f1
      obtain ⟨rfl, rfl⟩ := ret_some f1
      have l1 := rs.length
      refine ⟨by omega, fun p n => ?_⟩
      obtain ⟨s3, rel3, rx⟩ := (Res.lst n rs).rel rel1
      exact q _ F1 μ1 _ (s1.trans s3) rel3 (rx.back s1.tr)
    · rw [if_neg hz] at f1; cases f1
theorem pe_dict0 (Γ : En) {pos : Pos} : PE X (.Dict [] [] pos) (tM X.K Γ (rX X.K Γ) fun _ => ret (.dict [], true)) :=
  pe_dnewK.imp fun σ H Q ⟨F, μ, env, st, r, st', rel, e, q⟩ => by
    obtain ⟨rfl, rfl⟩ := ret_some e
    intro p n
    obtain ⟨s3, rel3, rx⟩ := (Res.dct n .nil).rel rel
    exact q _ F μ _ s3 rel3 rx
theorem pe_item (hL : LvOk c L k) (ok : Ok X c k) (Γ : En) {a i : Expr} {pos : Pos} (hp : plainIx i = true) :
    PE X (.Subscript a i pos) (tM X.K Γ (rX X.K Γ) fun env => bnd (L.o X.env.scope a env) fun p => bnd (L.o X.env.scope i env) fun q => bnd (vw env p) fun d => bnd (vw env q) fun z => bnd (lift (item d z)) fun r => ret (r, false)) :=
  (pe_ix (ix_itemD (by have := ok.hu; omega)) (hL.o X Γ a ok) (hL.o X Γ i ok) (by intro o j; cases i <;> first | rfl | cases hp)).imp fun σ H Q ⟨F, μ, env, st, r, st', rel, e, q⟩ => by
    obtain ⟨p1, st1, e1, f1⟩ := bnd_some e
    obtain ⟨p2, st2, e2, f2⟩ := bnd_some f1
    obtain ⟨d, st3, e3, f3⟩ := bnd_some f2
    obtain ⟨z, st4, e4, f4⟩ := bnd_some f3
    obtain ⟨r2, st5, e5, f5⟩ := bnd_some f4
    obtain ⟨g1, rfl⟩ := vw_some e3
    obtain ⟨g2, rfl⟩ := vw_some e4
    obtain ⟨g3, rfl⟩ := lift_some e5
    obtain ⟨rfl, rfl⟩ := ret_some f5
    refine ⟨F, μ, env, st, p1, st1, rel, e1, fun v F1 μ1 H1 s1 rel1 ro1 => ⟨F1, μ1, env, st1, p2, _, rel1, e2, fun w F2 μ2 H2 s2 rel2 ro2 => ?_⟩⟩
    refine ⟨d, z, r2, g3, Γ.ν, F2, μ2, vw_of rel2 (ro1.keep (rel1.keep s2)) g1, vw_of rel2 ro2 g2, fun u H3 res => ?_⟩
    obtain ⟨s3, rel3, rx⟩ := res.rel rel2
    exact q u F2 μ2 H3 ((s1.trans s2).trans s3) rel3 (rx.back (s1.trans s2).tr)
def tMO (K : PySem.W.Frag) (Γ : En) (m : Env → M (Option Int)) : TO := fun σ H Q => ∃ F μ env st r st', Rel K Γ F μ H σ env st ∧ m env st = some (r, st') ∧ ∀ F' μ' H', Stp F μ H F' μ' H' → Rel K Γ F' μ' H' σ env st' → Q r H'
theorem po_part (hL : LvOk c L k) (ok : Ok X c k) (Γ : En) : ∀ e : Option Expr, PO X e (tMO X.K Γ (part L X.env.scope e))
  | none => ⟨fun pins s σ H Q I ⟨F, μ, env, st, r, st', rel, e, q⟩ => by
      cases e
      exact po_none.run pins s σ H Q I (q F μ H (.refl _ _ _) rel)⟩
  | some a => ⟨fun pins s σ H Q I ⟨F, μ, env, st, r, st', rel, e, q⟩ => by
      obtain ⟨p, st1, e1, f1⟩ := bnd_some e
      refine (po_some (hL.x X Γ a ok)).run pins s σ H Q I ⟨F, μ, env, st, p, st1, rel, e1, fun v F1 μ1 H1 s1 rel1 rx => ?_⟩
      obtain ⟨d, fl⟩ := p
      cases d with
      | int i =>
        obtain ⟨rfl, rfl⟩ := ret_some f1
        obtain ⟨F2, s2, rel2, rp⟩ := rx.frz rel s1 rel1
        cases rp
        exact ⟨i, rfl, q F2 μ1 H1 s2 rel2⟩
      | _ => cases f1⟩
theorem pe_cut (hL : LvOk c L k) (ok : Ok X c k) (Γ : En) {a : Expr} {lo hi : Option Expr} {p2 pos : Pos} :
    PE X (.Subscript a (.Slice lo hi none p2) pos) (tM X.K Γ (rX X.K Γ) fun env => bnd (L.o X.env.scope a env) fun p => bnd (part L X.env.scope lo env) fun l => bnd (part L X.env.scope hi env) fun u => bnd (vw env p) fun d => lift (slice d l u)) :=
  (pe_slice sl_D (hL.o X Γ a ok) (po_part hL ok Γ lo) (po_part hL ok Γ hi)).imp fun σ H Q ⟨F, μ, env, st, r, st', rel, e, q⟩ => by
    obtain ⟨p1, st1, e1, f1⟩ := bnd_some e
    obtain ⟨l, st2, e2, f2⟩ := bnd_some f1
    obtain ⟨u, st3, e3, f3⟩ := bnd_some f2
    obtain ⟨d, st4, e4, f4⟩ := bnd_some f3
    obtain ⟨g1, rfl⟩ := vw_some e4
    obtain ⟨g2, rfl⟩ := lift_some f4
    refine ⟨F, μ, env, st, p1, st1, rel, e1, fun v F1 μ1 H1 s1 rel1 ro1 => ⟨F1, μ1, env, st1, l, st2, rel1, e2, fun F2 μ2 H2 s2 rel2 => ⟨F2, μ2, env, st2, u, _, rel2, e3, fun F3 μ3 H3 s3 rel3 => ?_⟩⟩⟩
    refine ⟨d, r, g2, Γ.ν, F3, μ3, vw_of rel3 ((ro1.keep (rel1.keep s2)).keep (rel2.keep s3)) g1, fun w H4 res => ?_⟩
    obtain ⟨s4, rel4, rx⟩ := res.rel rel3
    exact q w F3 μ3 H4 (((s1.trans s2).trans s3).trans s4) rel4 (rx.back ((s1.trans s2).trans s3).tr)

theorem pe_rev (hL : LvOk c L k) (ok : Ok X c k) (Γ : En) {a : Expr} {kk : Nat} {p1 p2 p3 pos : Pos} :
    PE X (.Subscript a (.Slice none none (some (.UnaryOp .USub (.Constant (.int 1) kk p1) p2)) p3) pos) (tM X.K Γ (rX X.K Γ) fun env => bnd (L.o X.env.scope a env) fun p => bnd (vw env p) fun d => (match d with
      | .list xs => ret (.list xs.reverse, true)
      | .tuple xs => ret (.tuple xs.reverse, false)
      | _ => fail)) := by
  refine ⟨fun pins s σ H Q I ⟨F, μ, env, st, r, st', rel, e, q⟩ => ?_⟩
  obtain ⟨p, st1, e1, f1⟩ := bnd_some e
  obtain ⟨d, st2, e2, f2⟩ := bnd_some f1
  obtain ⟨g1, rfl⟩ := vw_some e2
  cases d with
  | list xs =>
    obtain ⟨rfl, rfl⟩ := ret_some f2
    refine (pe_revL (hL.o X Γ a ok)).run pins s σ H Q I ⟨F, μ, env, st, p, _, rel, e1, fun v F1 μ1 H1 s1 rel1 ro => ?_⟩
    obtain ⟨b, ys, rfl, h1, h2⟩ := vw_of rel1 ro g1
    refine ⟨b, ys, rfl, h1, fun p' n => ?_⟩
    obtain ⟨s3, rel3, rx⟩ := (Res.lst n h2.reverse).rel rel1
    exact q _ F1 μ1 _ (s1.trans s3) rel3 (rx.back s1.tr)
  | tuple xs =>
    obtain ⟨rfl, rfl⟩ := ret_some f2
    refine (pe_revT (hL.o X Γ a ok)).run pins s σ H Q I ⟨F, μ, env, st, p, _, rel, e1, fun v F1 μ1 H1 s1 rel1 ro => ?_⟩
    cases vw_of rel1 ro g1 with
    | tup h1 h2 =>
      refine ⟨_, _, rfl, h1.seq, fun p' o n hd => ?_⟩
      obtain ⟨s3, rel3, rx⟩ := (Res.tup n hd h2.reverse).rel rel1
      exact q _ F1 μ1 _ (s1.trans s3) rel3 (rx.back s1.tr)
  | _ => cases f2
/-! ### calls -/
theorem base_ok {o : Expr} (h : plainBase o = true) (name : Str) (env : PySem.Env) : attributeBase o name env (eval o env) = eval o env := by
  cases o with
  | Call f as ks p =>
    cases f with
    | Name x q =>
      cases as with
      | nil =>
        cases ks with
        | nil => cases h
        | cons _ _ => rfl
      | cons _ _ => rfl
    | _ => rfl
  | _ => rfl
theorem pe_method (hL : LvOk c L k) (ok : Ok X c k) (Γ : En) {o : Expr} {m : Str} {ap cp : Pos} {args : List Expr} (hl : (ap.endLine == cp.line) = true) (hn : args.length < 20) (hne : args ≠ []) (hb : plainBase o = true) :
    PE X (.Call (.Attribute o m ap) args [] cp) (tM X.K Γ (rX X.K Γ) fun env => bnd (L.o X.env.scope o env) fun p => bnd (vw env p) fun d0 => bnd (argsO L X.env.scope args env) fun ps => bnd (vw env p) fun d => bnd (views env ps) fun ds =>
      if tyName d0 = tyName d then (match getF m d ds ps with | some r => ret (r, false) | none => lift (method m d ds)) else fail) := by
  by_cases hst : args.all (fun e => !isStar e) = true
  · refine (pe_bmG (hL.o X Γ o ok) (pa_argsO hL ok Γ args) hst hn hne hl (base_ok hb _ _)).imp fun σ H Q ⟨F, μ, env, st, r, st', rel, e, q⟩ => ?_
    obtain ⟨p, st1, e1, f1⟩ := bnd_some e
    obtain ⟨d0, st2, e2, f2⟩ := bnd_some f1
    obtain ⟨ps, st3, e3, f3⟩ := bnd_some f2
    obtain ⟨d, st4, e4, f4⟩ := bnd_some f3
    obtain ⟨ds, st5, e5, f5⟩ := bnd_some f4
    obtain ⟨g1, rfl⟩ := vw_some e2
    obtain ⟨g2, rfl⟩ := vw_some e4
    by_cases ht : tyName d0 = tyName d
    · rw [if_pos ht] at f5
      cases hgf : getF m d ds ps with
      | some rr =>
        rw [hgf] at f5
        obtain ⟨rfl, rfl⟩ := ret_some f5
        unfold getF at hgf
        split at hgf
        case isFalse => cases hgf
        rename_i hm
        subst hm
        split at hgf
        case h_2 => cases hgf
        rename_i kvs q' zs p0 z
        split at hgf
        case isFalse => cases hgf
        rename_i hz
        obtain ⟨kk, hk, rfl⟩ := Option.map_eq_some_iff.mp hgf
        have hz' : refOf? z = none := by simpa using hz
        refine ⟨F, μ, env, st, p, _, rel, e1, fun v F1 μ1 H1 s1 rel1 ro1 => ⟨"dict", "dict.get", fun vv vs H Q => ∃ a ws ww dz, vv = .ref a ∧ Rd H a (.dK ws) ∧ vs = [ww, dz] ∧ ww = kV kk ∧ Q ((valV ws kk).getD dz) H, ⟨PySem.F.plainAttrs_dict, PySem.F.slot_dict_get, PySem.F.type_dict_get⟩, tyG_of (vw_of rel1 ro1 g1) (ht.trans rfl) (.inr (.inr (.inr rfl))), ?_, F1, μ1, env, _, _, _, rel1, e3, fun vs F2 μ2 H2 s2 rel2 ro2 => ?_⟩⟩
        · intro pins s σ H v vs u us Q I rv rs hq
          obtain ⟨a, ws, ww, dz, rfl, e1, rfl, rfl, q⟩ := hq
          obtain ⟨u1, u2, rfl, ru1, ru2⟩ := L2.Vals.two rs
          cases rv
          refine d_get2 (by have := ok.hu; omega) I (dget_rd (k := kk) e1) ru1 ru2 fun w' s' I' rw' => ?_
          exact ⟨_, H, I', rw', q⟩
        · obtain ⟨rfl, g4⟩ := views_some rel2 ro2 e5
          obtain ⟨w1, w2, rfl, h3, h4⟩ := g4.two
          have hzs : z = .list zs := by
            unfold views at e5
            obtain ⟨x1, s1', _, f6⟩ := bnd_some e5
            obtain ⟨xs, s2', e7, f7⟩ := bnd_some f6
            unfold views at e7
            obtain ⟨x2, s3', e8, f8⟩ := bnd_some e7
            obtain ⟨xs2, s4', e9, f9⟩ := bnd_some f8
            obtain ⟨g8, _⟩ := vw_some e8
            obtain ⟨h9, _⟩ := ret_some f9
            obtain ⟨h10, _⟩ := ret_some f7
            rw [← h9] at h10
            have g8 : (match refOf? z with | none => some z | some i => viewRef _ i) = some x2 := g8
            rw [hz'] at g8
            cases g8
            injection h10 with _ h11
            injection h11
          have hw2 : Rp X.K Γ.ν F2 μ2 H2 (.list zs) w2 := by
            cases ro2 with
            | cons _ r1 => cases r1 with
              | cons h5 _ => exact hzs ▸ h5
          obtain ⟨a, ws, rfl, g5, g6⟩ := vw_of rel2 (ro1.keep (rel1.keep s2)) g2
          have hv := key_v hk h3
          subst hv
          refine ⟨a, ws, _, w2, rfl, g5, rfl, rfl, ?_⟩
          have gv := g6.val kk
          cases hd : dval kvs kk with
          | none =>
            rw [hd] at gv
            have gv : valV ws kk = none := gv
            refine q _ F2 μ2 H2 (s1.trans s2) rel2 ?_
            rw [gv, hd]
            exact hw2
          | some d =>
            rw [hd] at gv
            obtain ⟨y, g7, g8⟩ := gv
            refine q _ F2 μ2 H2 (s1.trans s2) rel2 ?_
            rw [g7, hd]
            exact g8
      | none =>
      rw [hgf] at f5
      obtain ⟨g3, rfl⟩ := lift_some f5
      obtain ⟨T, id, t1, t2, mo, mt⟩ := ok_method (X := X) (by have := ok.hu; omega) g3
      refine ⟨F, μ, env, st, p, _, rel, e1, fun v F1 μ1 H1 s1 rel1 ro1 => ⟨T, id, _, mo, tyG_of (vw_of rel1 ro1 g1) (ht.trans t1) t2, mt, F1, μ1, env, _, ps, _, rel1, e3, fun vs F2 μ2 H2 s2 rel2 ro2 => ?_⟩⟩
      obtain ⟨rfl, g4⟩ := views_some rel2 ro2 e5
      refine ⟨Γ.ν, F2, μ2, vw_of rel2 (ro1.keep (rel1.keep s2)) g2, g4, fun u H3 res => ?_⟩
      obtain ⟨s3, rel3, rx⟩ := res.rel rel2
      exact q u F2 μ2 H3 ((s1.trans s2).trans s3) rel3 (rx.back (s1.trans s2).tr)
    · rw [if_neg ht] at f5; cases f5
  · have hst' : args.all (fun e => !isStar e) = false := by simpa using hst
    exact pe_none fun env st => bnd_none fun p st => bnd_none fun d st => bnd_left (argsO_star hst' env st)
theorem kit_ok {t n : String} {b : Bool} (h : isA t n = some b) : kitB t n = some b := by
  unfold isA at h
  split at h
  · rename_i hz
    obtain ⟨h1, h2⟩ := Bool.and_eq_true_iff.mp hz
    have a1 : t ∈ tyNames := by simpa [List.contains_iff_mem] using h1
    have a2 : n ∈ ["bool", "int", "str", "list", "tuple", "dict"] := by simpa [List.contains_iff_mem] using h2
    have all : ∀ t ∈ tyNames, ∀ n ∈ ["bool", "int", "str", "list", "tuple", "dict"], kitB t n = some (t == n || (t == "bool" && n == "int")) := by decide +kernel
    rw [all t a1 n a2]; exact h
  · cases h
theorem tyX_of {F : Fz} {μ ν : Mu} {H : Hp} {d : D} {v : V} {t : String} (h : Vw X.K ν F μ H d v) (e : tyName d = some t) : TyX X.K H v (.type t) := by
  cases d with
  | none => cases e; cases h; exact .base .non
  | bool b => cases e; cases h; exact .base (.bl _)
  | int i => cases e; cases h; exact .base (.int _)
  | str z => cases e; cases h; exact .base (.str _)
  | list xs =>
    cases e
    obtain ⟨a, ys, rfl, g, _⟩ := h
    rcases g with (g | ⟨o, g⟩) | ⟨o, its, n, g1, g2, _⟩
    · exact .base (.lst g)
    · exact .base (.frz g)
    · exact .kList g1 g2
  | tuple xs =>
    cases e
    cases h with
    | tup g _ =>
      rcases g with ⟨o, g, _⟩ | ⟨o, its, n, g1, g2, _⟩
      · exact .fTuple g
      · exact .kTuple g1 g2
  | dict kvs =>
    cases e
    obtain ⟨a, vs, rfl, g, _⟩ := h
    rcases g with g | ⟨o, g⟩
    · exact .base (.dK g)
    · exact .fDict g
/-- a class's name as a value -/
theorem pe_cls (ok : Ok X c k) {x : Str} {pos : Pos} {n : String} (h : clsNames X.env.scope (.Name x pos) = some [n]) (e : Expr) : PE X (.Name x pos) (tC (.ty n)) ∧ x = Str.ofString n := by
  have h' : (if isGl X.env.scope x then (["bool", "int", "str", "list", "tuple", "dict"].find? fun n => x = Str.ofString n).map fun n => [n] else none) = some [n] := h
  by_cases hg : isGl X.env.scope x = true
  · rw [if_pos hg] at h'
    obtain ⟨n', h1, h2⟩ := Option.map_eq_some_iff.mp h'
    cases h2
    have hx : x = Str.ofString n := by simpa using List.find?_some h1
    have hm := List.mem_of_find?_eq_some h1
    obtain ⟨g1, g2, g3⟩ := gl_ok hg
    refine ⟨?_, hx⟩
    subst hx
    have all : ∀ n ∈ ["bool", "int", "str", "list", "tuple", "dict"], bootBuiltins (Str.ofString n) = some (.type n) ∧ freeN.contains (Str.ofString n) = true := by decide +kernel
    obtain ⟨b1, b2⟩ := all n hm
    exact pe_bltn g1 (ok.free _ b2) b1 rfl g3 g2
  · rw [if_neg hg] at h'; cases h'
/-! ### tuple(reversed(tuple)) -/
theorem nolen_rt : typeLookup (.type "reversed") "__len__" = pure none := by rw [typeLookup_type, builtinLookup_eq_fast]; kernel_rfl
theorem slot_rt_hint : Slot "reversed" "__length_hint__" "reversed.__length_hint__" :=
  .of (owner := "reversed") (n := "__length_hint__") (by rw [typeLookup_type, builtinLookup_eq_fast]; kernel_rfl) (by decide +kernel) (by decide +kernel) (by decide +kernel)
    (by first | exact .inl (by decide +kernel) | exact .inr (by decide +kernel)) (by rw [isSubtype_type]; kernel_rfl)
theorem entry_rt_hint : entryFor table "reversed.__length_hint__" = some Builtin.«reversed.__length_hint__» := entryFor_of_tree (by kernel_rfl)
theorem args_rt_hint (a : Value) : argsOk "reversed.__length_hint__" ⟨[a], []⟩ := by
  unfold argsOk; rw [signature?_of (id := "reversed.__length_hint__") (n := ['_', '_', 't', 'n', 'i', 'h', '_', 'h', 't', 'g', 'n', 'e', 'l', '_', '_']) (o := ['d', 'e', 's', 'r', 'e', 'v', 'e', 'r']) (by kernel_rfl) _root_.RT.owner_rt]; kernel_rfl
section
variable {prog : Program} {w : World} {A : Around} {E : Value → Shared → Prop} {s : Shared}
theorem walks_tupRev (hh : A.handled = none) (I t : Addr) (hne : t ≠ I) (items : Array Value) (hsz : items.size ≤ sizeLine) :
    Walks prog w A I [I, t] [I] items.size (fun i v => items[items.size - 1 - i]? = some v) (fun i h => i ≤ items.size ∧ _root_.RT.IsRt h I t ((items.size : Int) - 1 - (i : Int)) ∧ IsTup h t items) where
  sub := fun b hb => by simp at hb; simp [hb]
  frame := fun _ _ _ x hk => ⟨x.1, x.2.1.at fun o e => hk I (by simp) o e, (let ⟨o, ho, r⟩ := x.2.2; ⟨o, hk t (by simp) _ ho, r⟩)⟩
  item := fun i s Q E hi x hQ => by
    have e : (items.size : Int) - 1 - (i : Int) = ((items.size - 1 - i : Nat) : Int) := by omega
    have hit := x.2.1
    rw [e] at hit
    have hx : items[items.size - 1 - i]? = some (items[items.size - 1 - i]'(by omega)) := Array.getElem?_eq_getElem (by omega)
    refine _root_.RT.next_rt_item hit x.2.2 hx hsz fun h' hit' hs' => ?_
    have e2 : ((items.size - 1 - i : Nat) : Int) - 1 = (items.size : Int) - 1 - ((i + 1 : Nat) : Int) := by omega
    rw [e2] at hit'
    exact hQ _ h' (s.toks + 1) hx ⟨hi, hit', (let ⟨o, ho, r⟩ := x.2.2; ⟨o, (hs'.2 t hne).trans ho, r⟩)⟩ fun b o hb eo => hs'.extBut b o (fun h => hb (by simp [h])) eo
  done := fun s Q E x hQ => by
    have e : (items.size : Int) - 1 - (items.size : Int) = -1 := by omega
    have hit := x.2.1
    rw [e] at hit
    exact _root_.RT.next_rt_end hh hit fun h' he' => hQ h' s.toks fun b o hb eo => he' b o (fun h => hb (by simp [h])) eo
  self := fun _ _ _ _ x hQ => _root_.RT.iter_rt x.2.1 hQ
theorem hint_rt {it t : Addr} {items : Array Value} {Q : Bool → Shared → Prop} (hit : _root_.RT.IsRt s.heap it t ((items.size : Int) - 1)) (ht : IsTup s.heap t items) (hn : items.size ≤ sizeLine)
    (hQ : ∀ b tk, Q b { s with toks := tk }) : wpAny (model prog w) A (Builtin.List.listLengthHint (.ref it)) Q E s := by
  unfold Builtin.List.listLengthHint
  refine wpAny_bind (wpAny_specialOf hit.typeIs nolen_rt ?_)
  show wpAny _ A (specialOf (Value.ref it) (Str.ofString "__length_hint__") >>= _) _ _ _
  refine wpAny_bind (wpAny_specialOf hit.typeIs slot_rt_hint.lookup ?_)
  generalize hid : ("reversed.__length_hint__" : String) = id0
  wp_delta
  rw [show splitId id0 = some ("reversed", "__length_hint__") from by subst hid; decide +kernel]
  subst hid
  refine wpAny_bind (wpAny_isInstance (T := "reversed") (b := true) hit.typeIs (by rw [isSubtype_type]; kernel_rfl) ?_)
  rw [if_neg (by decide)]
  refine wpAny_bind (wpAny_rule ?_)
  simp only [slot_rt_hint.bind]
  refine wpAny_bind (wpAny_pure ?_)
  refine wpAny_bind (wpAny_attempt (wpAny_call_entry slot_rt_hint hit.typeIs entry_rt_hint ?_ (args_rt_hint _)))
  obtain ⟨o, ho, hc, hd⟩ := id hit
  have h63 : (items.size : Int) < 2 ^ 63 := by have := sizeLine_eq; omega
  unfold Builtin.«reversed.__length_hint__»
  refine wpAny_bind (wpAny_of_eq (a := Value.ref it) rfl ?_)
  try dsimp only
  refine wpAny_bind (wpAny_field ho hd (x := .ref t) rfl ?_)
  try dsimp only
  rw [if_neg (show ¬ (Value.ref t == Value.none) = true from by simp)]
  refine wpAny_bind (len_tuple ht h63 ?_)
  refine wpAny_bind (wpAny_pure ?_)
  refine wpAny_bind (wpAny_field (s := { s with toks := s.toks + 1 + 1 }) ho hd (x := rawInt ((items.size : Int) - 1)) rfl ?_)
  show wpAny _ _ (if (items.size : Int) < (items.size : Int) - 1 + 1 then _ else retInt ((items.size : Int) - 1 + 1)) _ _ _
  rw [if_neg (by omega), show (items.size : Int) - 1 + 1 = items.size from by omega]
  unfold retInt
  refine wpAny_bind (wpAny_mkInt ?_)
  refine wpAny_pure ⟨_, rfl, ?_⟩
  show wpAny (model prog w) A (asInt? (Value.int (items.size : Int) _) >>= _) Q E _
  refine wpAny_bind ?_
  refine wpAny_pure ?_
  have hf : Builtin.List.listFitsIndex (items.size : Int) = true := by unfold Builtin.List.listFitsIndex; simp; omega
  have hl : Builtin.List.listTooLong (items.size : Int).toNat = false := by unfold Builtin.List.listTooLong; simp; omega
  show wpAny _ _ (if (!Builtin.List.listFitsIndex (items.size : Int)) = true then _ else if (items.size : Int) < 0 then _ else if Builtin.List.listTooLong (items.size : Int).toNat = true then _ else pure _) _ _ _
  rw [if_neg (by rw [hf]; decide), if_neg (by omega), if_neg (by rw [hl]; decide)]
  exact wpAny_pure (hQ _ _)
theorem collect_revT {it t : Addr} {items : Array Value} {Q : List Value → Shared → Prop} (hh : A.handled = none) (hit : _root_.RT.IsRt s.heap it t ((items.size : Int) - 1)) (hl : IsTup s.heap t items) (hne : t ≠ it) (hn : items.size ≤ sizeLine)
    (hQ : ∀ (h' : Heap) (tk : Nat) (acc : Array Value), (∀ b o, b ≠ it → s.heap.get? b = some o → h'.get? b = some o) → ItemsOf (fun i v => items[items.size - 1 - i]? = some v) acc items.size → Q acc.toList { s with heap := h', toks := tk }) :
    wpAny (model prog w) A (collect (.ref it)) Q E s := by
  have W := (walks_tupRev (prog := prog) (w := w) (A := A.in1) hh it t hne items hn).toS
  obtain ⟨oi, hoi, _⟩ := id hit
  obtain ⟨ol, hol, _⟩ := id hl
  have hSi : s.heap.objs.size ≠ it := Nat.ne_of_gt (Heap.lt_size hoi)
  have hSl : s.heap.objs.size ≠ t := Nat.ne_of_gt (Heap.lt_size hol)
  have hSf : s.heap.objs.size ∉ [it, t] := by simp only [List.mem_cons, List.not_mem_nil, or_false, not_or]; exact ⟨hSi, hSl⟩
  unfold collect
  refine wpAny_bind (wpAny_runValue (codeAny_builtin F.entry_proto_collect ?_))
  rw [Around.under_plainId F.plain_proto_collect _]
  show wpAny _ A.in1 (newList [] >>= fun l' => again (.builtin "list.__iadd__" ⟨[l', .ref it], []⟩)) _ _ s
  refine wpAny_bind (wpAny_newObj_type ?_)
  refine wpAny_pure ⟨plainId_quiet F.plain_list_iadd _, codeAny_builtin F.entry_list_iadd ?_⟩
  rw [Around.under_plainId F.plain_list_iadd _]
  have hS₁ : (s.heap.push { cls := .type "list", data := .seq ([] : List Value).toArray }).get? s.heap.objs.size = some { cls := .type "list", data := .seq ([] : List Value).toArray } := Heap.get?_push_size _ rfl
  have hit1 : _root_.RT.IsRt (s.heap.push { cls := .type "list", data := .seq ([] : List Value).toArray }) it t ((items.size : Int) - 1) := hit.at fun o e => Heap.get?_push_of_some _ e
  have hl1 : IsTup (s.heap.push { cls := .type "list", data := .seq ([] : List Value).toArray }) t items := hl.push _
  have hT : ({ s with heap := s.heap.push { cls := .type "list", data := .seq ([] : List Value).toArray } } : Shared).TypeIs (.ref it) "reversed" := _root_.RT.IsRt.typeIs (s := { s with heap := s.heap.push { cls := .type "list", data := .seq ([] : List Value).toArray } }) hit1
  have h1 : Builtin.List.listSameRef (.ref s.heap.objs.size) (.ref it) = false := by simp [Builtin.List.listSameRef, hSi]
  show wpAny _ A.in1 (Builtin.List.listExtendWith (.ref s.heap.objs.size) (.ref it) (.ref s.heap.objs.size)) _ _ _
  unfold Builtin.List.listExtendWith
  refine wpAny_bind (wpAny_typeOf hT ?_)
  rw [if_neg (by rw [h1]; decide)]
  refine wpAny_bind (_root_.RT.iter_rt (s := { s with heap := s.heap.push { cls := .type "list", data := .seq ([] : List Value).toArray } }) hit1 ?_)
  refine wpAny_bind (wpAny_holding ?_)
  have e0 : ((items.size : Nat) : Int) - 1 - ((0 : Nat) : Int) = (items.size : Int) - 1 := by omega
  refine hint_rt (s := { s with heap := s.heap.push { cls := .type "list", data := .seq ([] : List Value).toArray } }) hit1 hl1 hn fun b tk => ?_
  have oth : ∀ b o, b ≠ s.heap.objs.size → (s.heap.push { cls := .type "list", data := .seq ([] : List Value).toArray }).get? b = some o →
      (((s.heap.push { cls := .type "list", data := .seq ([] : List Value).toArray }).update s.heap.objs.size (Obj.mapSeq (·.push Value.none))).update s.heap.objs.size (Obj.mapSeq (·.pop))).get? b = some o :=
    fun b o hb e => (Heap.get?_update_other _ _ (Ne.symm hb)).trans ((Heap.get?_update_other _ _ (Ne.symm hb)).trans e)
  cases b with
  | false =>
    refine wpAny_pure ⟨plainId_quiet F.plain_extend_loop _, codeAny_extend_loopS W hn _ hSf _ items.size 0 _ _ _ rfl (Nat.zero_le _) ⟨Nat.zero_le _, by rw [e0]; exact hit1, hl1⟩ hS₁ (ItemsOf.nil _) fun s' acc' c' hm hS' hacc => ?_⟩
    show wpAny _ A (load s.heap.objs.size >>= _) _ _ s'
    refine wpAny_bind (wpAny_load hS' ?_)
    refine wpAny_pure ?_
    rw [Moved.eq_with hm]
    refine hQ s'.heap s'.toks acc' (fun b o hb e => hm.heap b o (fun hmem => ?_) (Heap.get?_push_of_some _ e)) hacc
    rcases List.mem_cons.mp hmem with e' | hmem
    · exact absurd (Heap.lt_size e) (by rw [e']; exact Nat.lt_irrefl _)
    · exact hb (List.mem_singleton.mp hmem)
  | true =>
    show wpAny _ A.in1 (rule "list.extend.makes-room" >>= fun _ => Builtin.List.listTouch (.ref s.heap.objs.size) >>= fun _ =>
      again (.builtin "list.extend.loop" ⟨[.ref s.heap.objs.size, .ref it, .ref s.heap.objs.size], []⟩)) _ _ _
    refine wpAny_bind (wpAny_rule ?_)
    refine wpAny_bind ?_
    show wpAny _ A.in1 (updateSeq s.heap.objs.size (·.push .none) >>= fun _ => updateSeq s.heap.objs.size (·.pop)) _ _ _
    refine wpAny_bind (wpAny_updateSeq hS₁ rfl ?_)
    have hS₂ := Heap.get?_update_self (Obj.mapSeq (·.push Value.none)) hS₁ rfl
    refine wpAny_updateSeq hS₂ rfl ?_
    have hS₃ := Heap.get?_update_self (Obj.mapSeq (·.pop)) hS₂ rfl
    refine wpAny_pure ⟨plainId_quiet F.plain_extend_loop _, codeAny_extend_loopS W hn _ hSf _ items.size 0 _ _ _ rfl (Nat.zero_le _)
      ⟨Nat.zero_le _, by rw [e0]; exact hit1.at fun o e => oth it o (Ne.symm hSi) e, (let ⟨o, ho, r⟩ := hl1; ⟨o, oth t o (Ne.symm hSl) ho, r⟩)⟩ hS₃ (ItemsOf.nil _) fun s' acc' c' hm hS' hacc => ?_⟩
    show wpAny _ A (load s.heap.objs.size >>= _) _ _ s'
    refine wpAny_bind (wpAny_load hS' ?_)
    refine wpAny_pure ?_
    rw [Moved.eq_with hm]
    refine hQ s'.heap s'.toks acc' (fun b o hb e => hm.heap b o (fun hmem => ?_) (oth b o (Nat.ne_of_lt (Heap.lt_size e)) (Heap.get?_push_of_some _ e))) hacc
    rcases List.mem_cons.mp hmem with e' | hmem
    · exact absurd (Heap.lt_size e) (by rw [e']; exact Nat.lt_irrefl _)
    · exact hb (List.mem_singleton.mp hmem)
theorem code_tuple_new_revT {it t : Addr} {items : Array Value} {Q₁ : Value → Shared → Prop} (hh : A.handled = none) (hit : _root_.RT.IsRt s.heap it t ((items.size : Int) - 1)) (hl : IsTup s.heap t items) (hne : t ≠ it) (hn : items.size ≤ sizeLine)
    (h : ∀ (h' : Heap) (tk : Nat) (acc : Array Value), (∀ b o, b ≠ it → s.heap.get? b = some o → h'.get? b = some o) → ItemsOf (fun i v => items[items.size - 1 - i]? = some v) acc items.size →
      Q₁ (.ref h'.objs.size) { s with heap := h'.push { cls := .type "tuple", data := .seq acc }, toks := tk }) :
    codeAny (model prog w) A (.call (.builtin "tuple.__new__") ⟨[.type "tuple", .ref it], []⟩) (wants Q₁ E) s := by
  refine codeAny_of_tree ?_
  show wpAny _ A.in1 (do checkBuiltinCall "tuple.__new__" ⟨[.type "tuple", .ref it], []⟩; again (.builtin "tuple.__new__" ⟨[.type "tuple", .ref it], []⟩)) _ _ s
  refine wpAny_bind (wpAny_of_eq (F.newCall_tuple_1 _) (wpAny_pure ⟨plainId_quiet F.plain_tuple_new _, codeAny_builtin F.entry_tuple_new ?_⟩))
  rw [Around.under_plainId F.plain_tuple_new _]
  have hsub := sub_tuple_self
  have hinit := init_tuple_lookup
  have hmh := madeHere_tuple
  have hTI : s.TypeIs (.ref it) "reversed" := _root_.RT.IsRt.typeIs hit
  have hh1 : A.in1.handled = none := hh
  wp_walk using wpAny_typeOf hTI, collect_revT (A := A.in1) hh1 hit hl hne hn
  intro h' tk acc hk hacc
  show wpAny _ _ (Builtin.Tuple.tupleExact acc.toList.toArray >>= fun v => PySem.ret v) _ _ _
  unfold Builtin.Tuple.tupleExact
  refine wpAny_bind (wpAny_newObj_type ?_ (by show acc.toList.toArray.size ≤ sizeLine; simp only [Array.toArray_toList]; rw [hacc.1]; exact hn))
  refine wpAny_pure ?_
  have e : acc.toList.toArray = acc := by simp
  rw [e]
  exact h h' tk acc hk hacc
theorem call_tuple_revT {it t : Addr} {items : Array Value} {Q : Value → Shared → Prop} (hh : A.handled = none) (hit : _root_.RT.IsRt s.heap it t ((items.size : Int) - 1)) (hl : IsTup s.heap t items) (hne : t ≠ it) (hn : items.size ≤ sizeLine)
    (hQ : ∀ (h' : Heap) (tk : Nat) (acc : Array Value), (∀ b o, b ≠ it → s.heap.get? b = some o → h'.get? b = some o) → ItemsOf (fun i v => items[items.size - 1 - i]? = some v) acc items.size →
      Q (.ref h'.objs.size) { s with heap := h'.push { cls := .type "tuple", data := .seq acc }, toks := tk }) :
    wpAny (model prog w) A (call (.type "tuple") [.ref it]) Q E s := by
  refine callType_codes (Q₁ := fun obj s₁ => s₁.TypeIs obj "tuple" ∧ Q obj s₁) F.called_tuple (F.typeCall_tuple_1 _) F.entry_object_init
    (code_tuple_new_revT (A := A.in1) hh hit hl hne hn fun h' tk acc hk hacc => ⟨⟨_, Heap.get?_push_size _ rfl, rfl⟩, hQ h' tk acc hk hacc⟩) fun obj s₁ h₁ => ?_
  exact ⟨h₁.1, F.args_object_init_2 obj _, object_init_meets F.called_tuple.init.lookup F.called_tuple.made (by decide) prog w A.in1 _ s₁ ⟨h₁.1, rfl, h₁.2⟩⟩
end
/-- tuple(reversed(x)), x a tuple -/
theorem pe_tupRevN {X : Cx} {e : Expr} {te : TE} {p p2 pos pos2 : Pos} (hc : X.calm = true) (hg : Gl X "tuple") (hm : X.mg "tuple" = none) (hg2 : Gl X "reversed") (hm2 : X.mg "reversed" = none) (he : PE X e te)
    (hs : starEach [e] X.env = (false, eval e X.env) :: starEach [] X.env := by rfl)
    (hs2 : starEach [.Call (.Name "reversed" p2) [e] [] pos2] X.env = (false, eval (.Call (.Name "reversed" p2) [e] [] pos2) X.env) :: starEach [] X.env := by rfl) :
    PE X (.Call (.Name "tuple" p) [.Call (.Name "reversed" p2) [e] [] pos2] [] pos) (fun σ H Q => te σ H fun v H1 => ∃ (a : Addr) (xs : List V), v = .ref a ∧ SqT X.K H1 a xs ∧ ∀ q o, H1 q = none → o.dict = none → Q (.ref q) (upd H1 q (.frz o (.tup xs.reverse)))) := by
  refine ⟨fun pins s σ H Q I h => ?_⟩
  refine Call_ (ld_blt I hg hm boot_tuple (PyProof.Rows.callWith_type1 (args_cons (Call_ (ld_blt I hg2 hm2 PyProof.Rows.boot_reversed (PyProof.Rows.callWith_type1 (args_cons (thn (he.run pins s σ H _ I h) fun u s1 ⟨v, H1, I1, r1, q1⟩ => args_nil ?_) hs) hs rfl))) hs2) hs2 rfl))
  obtain ⟨a, xs, ev, hq, q⟩ := q1
  subst ev
  obtain rfl : u = Value.ref a := r1
  obtain ⟨its, rv, p', hz⟩ := I1.tuple hq
  have hl := rv.length
  have hn63 := line63
  refine _root_.RT.call_reversed_tup p' (fun A E Q k => len_tuple p' (by simp only [List.size_toArray] <;> omega) k) (args_nil ?_)
  have k0 : ∀ b o, s1.heap.get? b = some o → (s1.heap.push (_root_.RT.rtObj a ((its.toArray.size : Int) - 1))).get? b = some o := fun b o e => Heap.get?_push_of_some _ e
  have I2 : Inv X pins σ H1 { s1 with heap := s1.heap.push (_root_.RT.rtObj a ((its.toArray.size : Int) - 1)) } := I1.kept (t' := s1.toks) k0
  obtain ⟨f0, f1, f2, f3, f4, f5⟩ := I1.fpOk (H' := H1) (b := s1.heap.objs.size) (Nat.le_refl _) (I1.hok.fresh (Nat.le_refl _))
  have hne : a ≠ s1.heap.objs.size := Nat.ne_of_lt p'.lt
  have hn : its.toArray.size ≤ sizeLine := by rw [List.size_toArray, ← rv.length]; exact hz
  refine call_tuple_revT (s := { s1 with heap := s1.heap.push (_root_.RT.rtObj a ((its.toArray.size : Int) - 1)), toks := s1.toks + 1 + 1 }) (I1.ok.hd hc) ⟨_, Heap.get?_push_size _ rfl, rfl, rfl⟩ (p'.push _) hne hn fun h' tk acc hk hi => ?_
  have I3 : Inv X pins σ H1 { s1 with heap := h', toks := tk } := I2.turned (t' := tk) (fun b o hb e => hk b o hb e) f0 f1 f3 f4 f5
  have e := I3.tupN (t' := tk) (_root_.RT.vals_rev rv hi) (by rw [List.length_reverse]; exact hz)
  rw [Array.toArray_toList] at e
  exact ⟨.ref h'.objs.size, _, e, rfl, q _ _ (I3.hok.fresh (Nat.le_refl _)) rfl⟩
/-- tuple(range(a)) -/
theorem pe_tupRgN {X : Cx} {e : Expr} {te : L2.St → Hp → (Int → Int → Hp → Prop) → Prop} {p pos : Pos} (hc : X.calm = true) (hg : Gl X "tuple") (hm : X.mg "tuple" = none) (he : PRg X e te) (na : starEach [e] X.env = (false, eval e X.env) :: starEach [] X.env := by rfl) :
    PE X (.Call (.Name "tuple" p) [e] [] pos) (fun σ H Q => te σ H fun a b H1 => RgOk a b ∧ ∀ q o, H1 q = none → o.dict = none → Q (.ref q) (upd H1 q (.frz o (.tup (rgV a b))))) := by
  refine ⟨fun pins s σ H Q I h => ?_⟩
  refine Call_ (ld_blt I hg hm boot_tuple (PyProof.Rows.callWith_type1 (args_cons (thn (he pins s σ H _ I h) fun x s1 ⟨r, a, b, t, u, v, H1, ex, hr, I1, ok, q⟩ => args_nil ?_) na) na))
  subst ex
  obtain ⟨b1, b2, b3, b4, b5⟩ := ok
  refine call_tuple_range (n := (b - a).toNat) (I1.ok.hd hc) hr (small_one b1 b2 b3 b4) (rangeSize_nat a b) b5 fun h' tk acc hk hi => ?_
  have I2 : Inv X pins σ H1 { s1 with heap := h', toks := tk } := I1.kept hk
  have e := I2.tupN (t' := tk) (vals_rg hi) (by rw [rgV_length, sizeLine_eq]; omega)
  rw [Array.toArray_toList] at e
  exact ⟨.ref h'.objs.size, _, e, rfl, q _ _ (I2.hok.fresh (Nat.le_refl _)) rfl⟩
theorem rg_nums {K : PySem.W.Frag} {ν : Mu} {F : Fz} {μ : Mu} {H : Hp} (n : Int) : RpAll K ν F μ H ((List.range n.toNat).map fun (i : Nat) => PyData.int (i : Int)) (rgV 0 n) := by
  have e1 : ((List.range n.toNat).map fun (i : Nat) => PyData.int (i : Int)) = ((List.range n.toNat).map fun (i : Nat) => (i : Int)).map PyData.int := by rw [List.map_map]; rfl
  have e2 : rgV 0 n = ((List.range n.toNat).map fun (i : Nat) => (i : Int)).map V.int := by
    unfold rgV
    rw [List.map_map, Int.sub_zero]
    exact List.map_congr_left fun i _ => by simp
  rw [e1, e2]
  exact RpAll.ints _
theorem tupRg_some {sc : Scope} {f : Str} {args : List Expr} {a : Expr} (h : tupRg sc f args = some a) : ∃ g p1 p2, args = [.Call (.Name g p1) [a] [] p2] ∧ isGl sc g = true ∧ f = ("tuple" : Str) ∧ g = ("range" : Str) ∧ isStar a = false := by
  unfold tupRg at h
  split at h
  · split at h
    · rename_i hc
      cases h
      simp only [Bool.and_eq_true, decide_eq_true_eq, Bool.not_eq_true'] at hc
      exact ⟨_, _, _, rfl, hc.1.1.1, hc.1.1.2, hc.1.2, hc.2⟩
    · cases h
  · cases h
theorem revTup_some {sc : Scope} {f : Str} {args : List Expr} {a : Expr} (h : revTup sc f args = some a) : ∃ g p1 p2, args = [.Call (.Name g p1) [a] [] p2] ∧ isGl sc g = true ∧ f = ("tuple" : Str) ∧ g = ("reversed" : Str) ∧ isStar a = false := by
  unfold revTup at h
  split at h
  · split at h
    · rename_i hc
      cases h
      simp only [Bool.and_eq_true, decide_eq_true_eq, Bool.not_eq_true'] at hc
      exact ⟨_, _, _, rfl, hc.1.1.1, hc.1.1.2, hc.1.2, hc.2⟩
    · cases h
  · cases h
theorem lenSet_some {sc : Scope} {f : Str} {args : List Expr} {a : Expr} (h : lenSet sc f args = some a) : ∃ g p1 p2, args = [.Call (.Name g p1) [a] [] p2] ∧ isGl sc g = true ∧ f = ("len" : Str) ∧ g = ("set" : Str) ∧ isStar a = false := by
  unfold lenSet at h
  split at h
  · split at h
    · rename_i hc
      cases h
      simp only [Bool.and_eq_true, decide_eq_true_eq, Bool.not_eq_true'] at hc
      exact ⟨_, _, _, rfl, hc.1.1.1, hc.1.1.2, hc.1.2, hc.2⟩
    · cases h
  · cases h
theorem pe_callX (hL : LvOk c L k) (ok : Ok X c k) (Γ : En) {f : Str} {p pos : Pos} {args : List Expr} : PE X (.Call (.Name f p) args [] pos) (tM X.K Γ (rX X.K Γ) (callX c L X.env.scope f args)) := by
  by_cases hg : isGl X.env.scope f = true
  case neg =>
    have hg' : isGl X.env.scope f = false := by simpa using hg
    cases hs : slotOf c X.env.scope f with
    | none => exact pe_none fun env st => by unfold callX; rw [hg', hs]; rfl
    | some j =>
      obtain ⟨h1, h2, h3, h4⟩ := slot_ok hs
      refine ⟨fun pins s σ H Q I ⟨F, μ, env, st, r, st', rel, e, q⟩ => ?_⟩
      have e : callL c L X.env.scope j args env st = some (r, st') := by
        have : callX c L X.env.scope f args env = callL c L X.env.scope j args env := by unfold callX; rw [hg', hs]; rfl
        rw [← this]; exact e
      obtain ⟨g, fd, hown, hf, hgm, hne, e2⟩ : ∃ g fd, env[j]? = some (some (SV.fn g)) ∧ c.funs.lookup g = some fd ∧ isM g = false ∧ ¬ (args.isEmpty || !args.all fun e => !isStar e) = true ∧ (bnd (argsX L X.env.scope args env) fun ds => c.call g ds) st = some (r, st') := by
        unfold callL at e
        cases g0 : env[j]? with
        | none => simp only [g0] at e; cases e
        | some o =>
          cases o with
          | none => simp only [g0] at e; cases e
          | some sv =>
            cases sv with
            | frz d => simp only [g0] at e; cases e
            | own d => simp only [g0] at e; cases e
            | fn g =>
              simp only [g0] at e
              cases hf : c.funs.lookup g with
              | none => rw [hf] at e; cases e
              | some fd =>
                rw [hf] at e
                simp only at e
                by_cases hne : (args.isEmpty || !args.all fun e => !isStar e) = true
                · rw [if_pos hne] at e; cases e
                · rw [if_neg hne] at e
                  by_cases hgm : isM g = true
                  · rw [if_pos hgm] at e; cases e
                  · rw [if_neg hgm] at e
                    exact ⟨g, fd, rfl, hf, by simpa using hgm, hne, e⟩
      obtain ⟨a, fdata, hm, G, hk, hb⟩ := ok.fn g fd hf
      have hm := hm.gl hgm
      have ha : a = He.ga X.K g := by
        have := ok.ga g fd hf hgm
        rw [hm] at this
        cases this; rfl
      have hσ := rel.en.fn j g hown
      rw [← ha] at hσ
      have hst : args.all (fun e => !isStar e) = true := by
        cases h : args.all (fun e => !isStar e) with
        | true => rfl
        | false => exact absurd (by rw [h]; simp) hne
      have hnil : args ≠ [] := fun z => hne (by rw [z]; rfl)
      obtain ⟨ds, st1, e3, f1⟩ := bnd_some e2
      exact (pe_callLG G ok.room ok.gd (by rw [ok.n]; exact h1) h2 hk hb h3 h4 (pa_argsX hL ok Γ args) hst hnil).run pins s σ H Q I ⟨hσ, F, μ, env, st, ds, st1, rel, e3, fun vs F1 μ1 H1 s1 rel1 rs =>
        ⟨Γ.ν, F1, μ1, st1, ds, r, st', ok.ar g fd hf ds st1 r st' f1, rel1.hr, rs, f1, fun v F2 μ2 H2 s2 hr2 rx => q v F2 μ2 H2 (s1.trans s2) (rel1.step s2 hr2) (rx.back s1.tr)⟩⟩
  obtain ⟨g1, g2, g3⟩ := gl_ok hg
  by_cases hst : args.all (fun e => !isStar e) = true
  case neg =>
    have hst' : args.all (fun e => !isStar e) = false := by simpa using hst
    refine pe_none fun env st => ?_
    unfold callX
    rw [if_pos hg]
    cases hf : c.funs.lookup f with
    | some fd => exact bnd_left (argsX_star hst' env st)
    | none =>
      simp only
      by_cases hi : f = ("isinstance" : Str)
      · rw [if_pos hi]
        unfold isinstX
        split
        · rename_i a b
          by_cases ha : isStar a = true
          · rw [if_pos ha]; rfl
          · rw [if_neg ha]
            have hb : isStar b = true := by
              have : (!isStar a && (!isStar b && true)) = false := hst'
              have ha' : isStar a = false := by simpa using ha
              rw [ha'] at this
              simpa using this
            cases b <;> first | rfl | cases hb
        · rfl
      · rw [if_neg hi]
        cases htr : tupRg X.env.scope f args with
        | some a =>
          obtain ⟨g, p1, p2, rfl, _⟩ := tupRg_some htr
          cases hst'
        | none =>
        simp only
        cases hls : lenSet X.env.scope f args with
        | some a =>
          obtain ⟨g, p1, p2, rfl, _⟩ := lenSet_some hls
          cases hst'
        | none =>
        simp only
        cases hrt : revTup X.env.scope f args with
        | some a =>
          obtain ⟨g, p1, p2, rfl, _⟩ := revTup_some hrt
          cases hst'
        | none =>
        simp only
        by_cases hb : builtins.contains f = true
        · rw [if_pos hb]; exact bnd_left (argsO_star hst' env st)
        · rw [if_neg hb]; rfl
  cases hf : c.funs.lookup f with
  | some fd =>
    obtain ⟨a, fdata, hm, G, hk, hb⟩ := ok.fn f fd hf
    have hm := hm.gl (gl_m hg)
    have eqn : ∀ env, callX c L X.env.scope f args env = bnd (argsX L X.env.scope args env) fun ds => c.call f ds := fun env => by
      unfold callX
      rw [if_pos hg, hf]
    have fin : ∀ (σ : Sg) (H : Hp) (Q : VK) (F : Fz) (μ : Mu) (env : Env) (st st1 st' : S) (ds : List D) (r : D × Bool) (vs : List V) (F1 : Fz) (μ1 : Mu) (H1 : Hp), Rel X.K Γ F μ H σ env st → Stp F μ H F1 μ1 H1 → Rel X.K Γ F1 μ1 H1 σ env st1 → RpAll X.K Γ.ν F1 μ1 H1 ds vs → ds.length = fd.ps.length →
        c.call f ds st1 = some (r, st') → (∀ v F' μ' H', Stp F μ H F' μ' H' → Rel X.K Γ F' μ' H' σ env st' → rX X.K Γ F' μ' H' H σ env r v → Q v H') → spF X.K (c.call f) fd.ps.length vs H1 Q E0 :=
      fun σ H Q F μ env st st1 st' ds r vs F1 μ1 H1 rel s1 rel1 rs hl e q => ⟨Γ.ν, F1, μ1, st1, ds, r, st', hl, rel1.hr, rs, e, fun v F2 μ2 H2 s2 hr2 rx => q v F2 μ2 H2 (s1.trans s2) (rel1.step s2 hr2) (rx.back s1.tr)⟩
    by_cases hne : args = []
    · subst hne
      by_cases hz : fd.ps.length = 0
      · refine (pe_callG0 G ok.room ok.gd g1 hm hk hb g2).imp fun σ H Q ⟨F, μ, env, st, r, st', rel, e, q⟩ => ?_
        rw [eqn] at e
        obtain ⟨ds, st1, e1, f1⟩ := bnd_some e
        obtain ⟨rfl, rfl⟩ := ret_some (show ret ([] : List D) st = some (ds, st1) from e1)
        exact fin σ H Q F μ env st st st' [] r [] F μ H rel (.refl _ _ _) rel .nil (by simpa using hz.symm) f1 q
      · -- the wrong number of arguments: no promise speaks of it
        refine pe_false fun σ H Q ⟨F, μ, env, st, r, st', rel, e, q⟩ => ?_
        rw [eqn] at e
        obtain ⟨ds, st1, e1, f1⟩ := bnd_some e
        obtain ⟨rfl, rfl⟩ := ret_some (show ret ([] : List D) st = some (ds, st1) from e1)
        have := ok.ar f fd hf [] st r st' f1
        exact hz (by simpa using this.symm)
    · refine (pe_callG G ok.room ok.gd g1 hm hk hb g2 (pa_argsX hL ok Γ args) hst hne).imp fun σ H Q ⟨F, μ, env, st, r, st', rel, e, q⟩ => ?_
      rw [eqn] at e
      obtain ⟨ds, st1, e1, f1⟩ := bnd_some e
      exact ⟨F, μ, env, st, ds, st1, rel, e1, fun vs F1 μ1 H1 s1 rel1 rs => fin σ H Q F μ env st st1 st' ds r vs F1 μ1 H1 rel s1 rel1 rs (ok.ar f fd hf ds st1 r st' f1) f1 q⟩
  | none =>
    by_cases hi : f = ("isinstance" : Str)
    · have eqn : ∀ env, callX c L X.env.scope f args env = isinstX L X.env.scope args env := fun env => by
        unfold callX
        rw [if_pos hg, hf]
        simp only
        rw [if_pos hi]
      match args, hst, eqn with
      | [], _, eqn => exact pe_none fun env st => by rw [eqn]; rfl
      | [_], _, eqn => exact pe_none fun env st => by rw [eqn]; rfl
      | _ :: _ :: _ :: _, _, eqn => exact pe_none fun env st => by rw [eqn]; rfl
      | [a, b], hst, eqn =>
        have hsa : isStar a = false := by
          have : (!isStar a && (!isStar b && true)) = true := hst
          simp at this
          exact this.1
        cases b with
        | Name x px =>
          cases hcl : clsNames X.env.scope (.Name x px) with
          | none => exact pe_none fun env st => by rw [eqn]; simp only [isinstX, hsa, hcl]; rfl
          | some ns =>
            match ns, hcl with
            | [], hcl => exact pe_none fun env st => by rw [eqn]; simp only [isinstX, hsa, hcl]; rfl
            | _ :: _ :: _, hcl => exact pe_none fun env st => by rw [eqn]; simp only [isinstX, hsa, hcl]; rfl
            | [n], hcl =>
              obtain ⟨pc, _⟩ := pe_cls ok hcl a
              subst hi
              refine (pe_callB call_isi g1 (ok.free _ (by decide +kernel)) (by decide +kernel) (pa_cons (hL.o X Γ a ok) (pa_cons pc pa_nil) (star_cons hsa _ _)) g3 g2 (star_cons hsa _ _) rfl).imp fun σ H Q ⟨F, μ, env, st, r, st', rel, e, q⟩ => ?_
              rw [eqn] at e
              simp only [isinstX, hsa, hcl] at e
              obtain ⟨p1, st1, e1, f1⟩ := bnd_some e
              obtain ⟨d, st2, e2, f2⟩ := bnd_some f1
              obtain ⟨h1, rfl⟩ := vw_some e2
              cases ht : (tyName d).bind fun t => isA t n with
              | none => rw [ht] at f2; cases f2
              | some bb =>
                rw [ht] at f2
                obtain ⟨rfl, rfl⟩ := ret_some f2
                obtain ⟨t, t1, t2⟩ := Option.bind_eq_some_iff.mp ht
                exact ⟨F, μ, env, st, p1, _, rel, e1, fun v F1 μ1 H1 s1 rel1 ro1 => ⟨v, .ty n, .type t, .type n, bb, rfl, .ty n, tyX_of (vw_of rel1 ro1 h1) t1, kit_ty (kit_ok t2), q _ F1 μ1 H1 s1 rel1 (.bl _)⟩⟩
        | _ => exact pe_none fun env st => by rw [eqn]; simp only [isinstX, hsa, clsNames]; rfl
    · cases htr : tupRg X.env.scope f args with
      | some a =>
        obtain ⟨g, p1, p2, rfl, hgl, rfl, rfl, hsa⟩ := tupRg_some htr
        have eqn : ∀ env, callX c L X.env.scope "tuple" [.Call (.Name "range" p1) [a] [] p2] env = bnd (L.x X.env.scope a env) fun p => (match p.1 with
          | .int n => if 0 ≤ n ∧ n ≤ 1000000 then ret (.tuple ((List.range n.toNat).map fun (i : Nat) => PyData.int (i : Int)), false) else fail
          | _ => fail) := fun env => by
          unfold callX
          rw [if_pos hg, hf]
          simp only
          (rw [if_neg hi, htr]) <;> rfl
        obtain ⟨h1, h2, h3⟩ := gl_ok hgl
        refine (pe_tupRgN ok.calm g1 (ok.free _ (by decide +kernel)) (prg_1 h1 (ok.free _ (by decide +kernel)) (hL.x X Γ a ok) (star_cons hsa _ _))).imp fun σ H Q ⟨F, μ, env, st, r, st', rel, e, q⟩ => ?_
        rw [eqn] at e
        obtain ⟨p, st1, e1, f1⟩ := bnd_some e
        refine ⟨F, μ, env, st, p, st1, rel, e1, fun v F1 μ1 H1 s1 rel1 rx1 => ?_⟩
        obtain ⟨d, fl⟩ := p
        cases d with
        | int n =>
          simp only at f1
          split at f1
          case isFalse => cases f1
          rename_i hn
          obtain ⟨rfl, rfl⟩ := ret_some f1
          cases fl with
          | true => obtain ⟨_, _, h, _⟩ := rx1; cases h
          | false =>
            cases (show Rp X.K Γ.ν F1 μ1 H1 (.int n) v from rx1)
            refine ⟨n, rfl, RgOk.of_le (by omega) (by omega) (by omega) (by omega), fun q' o hq ho => ?_⟩
            obtain ⟨s3, rel3, rx⟩ := (Res.tup (K := X.K) (ν := Γ.ν) (F := F1) (μ := μ1) hq ho (rg_nums n)).rel rel1
            exact q _ F1 μ1 _ (s1.trans s3) rel3 (rx.back s1.tr)
        | _ => cases f1
      | none =>
      cases hls : lenSet X.env.scope f args with
      | some a =>
        obtain ⟨g, p1, p2, rfl, hgl, rfl, rfl, hsa⟩ := lenSet_some hls
        have eqn : ∀ env, callX c L X.env.scope "len" [.Call (.Name "set" p1) [a] [] p2] env = bnd (L.o X.env.scope a env) fun p => bnd (vw env p) fun d => bnd (lift (lenSetD d)) fun r => ret (r, false) := fun env => by
          unfold callX
          rw [if_pos hg, hf]
          simp only
          (rw [if_neg hi, htr, hls]) <;> rfl
        obtain ⟨h1, h2, h3⟩ := gl_ok hgl
        refine (RZ.pe_lenSetI g1 (ok.free _ (by decide +kernel)) h1 (ok.free _ (by decide +kernel)) (hL.o X Γ a ok) ok.calm (star_cons hsa _ _)).imp fun σ H Q ⟨F, μ, env, st, r, st', rel, e, q⟩ => ?_
        rw [eqn] at e
        obtain ⟨p, st1, e1, f1⟩ := bnd_some e
        obtain ⟨d, st2, e2, f2⟩ := bnd_some f1
        obtain ⟨r', st3, e3, f3⟩ := bnd_some f2
        obtain ⟨g4, rfl⟩ := vw_some e2
        obtain ⟨g5, rfl⟩ := lift_some e3
        obtain ⟨rfl, rfl⟩ := ret_some f3
        refine ⟨F, μ, env, st, p, _, rel, e1, fun v F1 μ1 H1 s1 rel1 ro1 => ?_⟩
        have hv := vw_of rel1 ro1 g4
        unfold lenSetD at g5
        split at g5
        case h_2 => cases g5
        rename_i xs
        obtain ⟨ns, hns, g6⟩ := Option.bind_eq_some_iff.mp g5
        split at g6
        case isFalse => cases g6
        rename_i hc
        cases g6
        obtain ⟨b, vs, rfl, hsq, hra⟩ : ∃ b vs, v = V.ref b ∧ SqL X.K H1 b vs ∧ RpAll X.K Γ.ν F1 μ1 H1 xs vs := hv
        rw [hra.intsOf hns] at hsq
        exact ⟨b, ns, rfl, hsq, hc.1, hc.2, q _ F1 μ1 H1 s1 rel1 (.int _)⟩
      | none =>
      cases hrt : revTup X.env.scope f args with
      | some a =>
        obtain ⟨g, p1, p2, rfl, hgl, rfl, rfl, hsa⟩ := revTup_some hrt
        have eqn : ∀ env, callX c L X.env.scope "tuple" [.Call (.Name "reversed" p1) [a] [] p2] env = bnd (L.o X.env.scope a env) fun p => bnd (vw env p) fun d => bnd (lift (revTupD d)) fun r => ret (r, false) := fun env => by
          unfold callX
          rw [if_pos hg, hf]
          simp only
          (rw [if_neg hi, htr]; simp only; rw [hls]; simp only; rw [hrt]) <;> rfl
        obtain ⟨h1, h2, h3⟩ := gl_ok hgl
        refine (pe_tupRevN ok.calm g1 (ok.free _ (by decide +kernel)) h1 (ok.free _ (by decide +kernel)) (hL.o X Γ a ok) (star_cons hsa _ _)).imp fun σ H Q ⟨F, μ, env, st, r, st', rel, e, q⟩ => ?_
        rw [eqn] at e
        obtain ⟨p, st1, e1, f1⟩ := bnd_some e
        obtain ⟨d, st2, e2, f2⟩ := bnd_some f1
        obtain ⟨r', st3, e3, f3⟩ := bnd_some f2
        obtain ⟨g4, rfl⟩ := vw_some e2
        obtain ⟨g5, rfl⟩ := lift_some e3
        obtain ⟨rfl, rfl⟩ := ret_some f3
        refine ⟨F, μ, env, st, p, _, rel, e1, fun v F1 μ1 H1 s1 rel1 ro1 => ?_⟩
        have hv := vw_of rel1 ro1 g4
        unfold revTupD at g5
        split at g5
        case h_2 => cases g5
        rename_i xs
        cases g5
        cases (show Rp X.K Γ.ν F1 μ1 H1 (.tuple xs) v from hv) with
        | @tup b vs _ hsq hra =>
          refine ⟨b, vs, rfl, hsq.seq, fun q' o hq ho => ?_⟩
          obtain ⟨s3, rel3, rx⟩ := (Res.tup (K := X.K) (ν := Γ.ν) (F := F1) (μ := μ1) hq ho hra.reverse).rel rel1
          exact q _ F1 μ1 _ (s1.trans s3) rel3 (rx.back s1.tr)
      | none =>
      by_cases hb : builtins.contains f = true
      · have eqn : ∀ env, callX c L X.env.scope f args env = bnd (argsO L X.env.scope args env) fun ps => bnd (views env ps) fun ds => lift (builtin f ds) := fun env => by
          unfold callX
          rw [if_pos hg, hf]
          simp only
          rw [if_neg hi, htr]
          simp only
          rw [hls]
          simp only
          rw [hrt]
          simp only
          rw [if_pos hb]
        match args, hst, eqn with
        | [], _, eqn =>
          have bn : builtin f [] = none := by
            have all : ∀ f ∈ builtins, builtin f [] = none := by decide +kernel
            exact all f (by simpa [List.contains_iff_mem] using hb)
          exact pe_none fun env st => by rw [eqn]; show lift (builtin f []) st = none; rw [bn]; rfl
        | a :: as, hst, eqn =>
          obtain ⟨hs1, hs2⟩ := Bool.and_eq_true_iff.mp (show (!isStar a && as.all fun e => !isStar e) = true from hst)
          have hs1' : isStar a = false := by simpa using hs1
          have fr : freeN.contains f = true := by
            have all : ∀ f ∈ builtins, freeN.contains f = true := by decide +kernel
            exact all f (by simpa [List.contains_iff_mem] using hb)
          have kinds : (∃ id, bootBuiltins f = some (.builtin id)) ∨ ∃ T, bootBuiltins f = some (.type T) := by
            have all : ∀ f ∈ builtins, (match bootBuiltins f with | some (.builtin _) => true | some (.type _) => true | _ => false) = true := by decide +kernel
            have q := all f (by simpa [List.contains_iff_mem] using hb)
            split at q
            · rename_i id e; exact .inl ⟨id, e⟩
            · rename_i T e; exact .inr ⟨T, e⟩
            · cases q
          have red : ∀ (fv : Value), bootBuiltins f = some fv → CallR X fv (fun vs H Q => ∃ ds r, builtin f ds = some r ∧ rB X.K ds r vs H Q) := fun fv hfv pins s σ H vs us Q I rv ⟨ds, r, h, q⟩ => by
            rcases ok_builtin ok.calm ok.gd ok.hu h with ⟨id, e, cr⟩ | ⟨T, e, cr⟩
            · rw [hfv] at e; cases e; exact cr pins s σ H vs us Q I rv q
            · rw [hfv] at e; cases e; exact cr pins s σ H vs us Q I rv q
          have fin : ∀ (σ : Sg) (H : Hp) (Q : VK), tM X.K Γ (rX X.K Γ) (callX c L X.env.scope f (a :: as)) σ H Q → tCB (fun vs H Q => ∃ ds r, builtin f ds = some r ∧ rB X.K ds r vs H Q) (tMA X.K Γ (aO X.K Γ) (argsO L X.env.scope (a :: as))) σ H Q := fun σ H Q ⟨F, μ, env, st, r, st', rel, e, q⟩ => by
            rw [eqn] at e
            obtain ⟨ps, st1, e1, f1⟩ := bnd_some e
            obtain ⟨ds, st2, e2, f2⟩ := bnd_some f1
            obtain ⟨h1, rfl⟩ := lift_some f2
            refine ⟨F, μ, env, st, ps, st1, rel, e1, fun vs F1 μ1 H1 s1 rel1 ro1 => ?_⟩
            obtain ⟨rfl, g4⟩ := views_some rel1 ro1 e2
            refine ⟨ds, r, h1, Γ.ν, F1, μ1, g4, fun u H3 res => ?_⟩
            obtain ⟨s3, rel3, rx⟩ := res.rel rel1
            exact q u F1 μ1 H3 (s1.trans s3) rel3 (rx.back s1.tr)
          rcases kinds with ⟨id, e⟩ | ⟨T, e⟩
          · exact (pe_callB (red _ e) g1 (ok.free _ fr) e (pa_argsO hL ok Γ (a :: as)) g3 g2 (star_cons hs1' _ _) (star_none hs2 _ _)).imp fin
          · exact (pe_callTy (red _ e) g1 (ok.free _ fr) e (pa_argsO hL ok Γ (a :: as)) g3 g2 (star_cons hs1' _ _) (star_none hs2 _ _)).imp fin
      · exact pe_none fun env st => by
          unfold callX
          rw [if_pos hg, hf]
          simp only
          rw [if_neg hi, htr]
          simp only
          rw [hls]
          simp only
          rw [hrt]
          simp only
          rw [if_neg hb]
          rfl
end
section
variable {X : Cx} {c : Cfg} {k : Nat}
theorem pa_fns (ok : Ok X c k) : ∀ {es : List Expr} {gs : List Str}, fnNames c X.env.scope es = some gs → PA X es (fun σ H Q => Q (gs.map fun g => V.ref (He.ga X.K g)) H)
  | [], gs, h => by
    cases h
    exact pa_nil
  | e :: es, gs, h => by
    cases e with
    | Name g p =>
      unfold fnNames at h
      split at h
      · rename_i hc
        simp only [Bool.and_eq_true] at hc
        obtain ⟨gs', h1, rfl⟩ := Option.map_eq_some_iff.mp h
        obtain ⟨g1, g2, g3⟩ := gl_ok hc.1
        obtain ⟨fd, hf⟩ := Option.isSome_iff_exists.mp hc.2
        exact pa_cons (pe_glob (v := .ref (He.ga X.K g)) g1 (ok.ga g fd hf (gl_m hc.1)) rfl g2) (pa_fns ok h1)
      · cases h
    | _ => cases h
theorem pe_fnTup (ok : Ok X c k) {es : List Expr} {gs : List Str} {n : Nat} {pos : Pos} (h : fnNames c X.env.scope es = some gs) (hl : gs.length ≤ 1000) :
    PE X (.Tuple es n pos) (fun σ H Q => ∀ q o, H q = none → o.dict = none → Q (.ref q) (upd H q (.frz o (.tup (gs.map fun g => V.ref (He.ga X.K g)))))) := by
  refine ⟨fun pins s σ H Q I q => ?_⟩
  have hA := (pa_fns ok h).run pos pins s σ H (fun vs H1 => vs = (gs.map fun g => V.ref (He.ga X.K g)) ∧ H1 = H) I ⟨rfl, rfl⟩
  refine wpAny_Tuple_spliced (thn hA fun us s1 ⟨vs, H1, I1, rv, e1, e2⟩ => ?_)
  subst e1
  subst e2
  have l2 := rv.length
  rw [List.length_map] at l2
  have hs := sizeLine_eq
  exact ⟨by omega, .ref s1.heap.objs.size, _, I1.tupN (t' := s1.toks) rv (by rw [List.length_map]; omega), rfl, q _ _ I1.fresh rfl⟩
end
end Pz

/-! Pz9: what a loop walks; targets; comprehensions; the whole of an expression. -/
namespace Pz
open PySem PySem.Spec PyProof.Rows L2 RZ
section
open AutoSeq1 (wpAny_loadPart')
theorem meets_enumerate_newT (l : Addr) (items : Array Value) (n : Nat) (dct : Option Addr) (sl : Array (Option Value)) :
    Meets (Builtin.«enumerate.__new__» ⟨[.type "enumerate", .ref l], []⟩) (fun _ R s => s.heap.get? l = some { cls := .type "tuple", dict := dct, data := .seq items n, slots := sl } ∧
      R (.ok (.ret (.ref (s.heap.push { cls := .type "tuple_iterator", data := .fields #[.ref l, .int 0 0] }).objs.size)))
        { s with heap := (s.heap.push { cls := .type "tuple_iterator", data := .fields #[.ref l, .int 0 0] }).push { cls := .type "enumerate", data := .fields #[.none, .bool false, .ref s.heap.objs.size, rawInt 0, .none, .none] } }) :=
  .of_wp fun prog w A R s h => by
    obtain ⟨hp, g, d, tk, os⟩ := s; obtain ⟨hl, h⟩ := h
    have hsub := sub_enumerate
    have hL : Heap.IsTuple (Shared.heap ⟨hp, g, d, tk, os⟩) l items := ⟨_, hl, rfl, n, rfl⟩
    wp_walk using AutoSeq1.wpAny_loadPart' hl
    refine wpAny_stack_any fun st => wpAny_pure ?_
    split
    · rename_i c _ _ _ _ _
      cases (c == Value.type "enumerate")
      · wp_walk using AutoSeq1.wpAny_loadPart' hl, wpAny_pyIter_tuple hL
        exact ⟨_, rfl, h⟩
      · wp_walk using AutoSeq1.wpAny_loadPart' hl, wpAny_pyIter_tuple hL
        exact ⟨_, rfl, h⟩
    · wp_walk using AutoSeq1.wpAny_loadPart' hl, wpAny_pyIter_tuple hL
      exact ⟨_, rfl, h⟩
theorem call_enumerate_tup {prog : Program} {w : World} {A : Around} {E : Value → Shared → Prop} {s : Shared} {l : Addr} {items : Array Value} {Q : Value → Shared → Prop} (hL : s.heap.IsTuple l items)
    (h : ∀ h', IsEnum h' (s.heap.objs.size + 1) s.heap.objs.size 0 .none → h'.IsTupleIter s.heap.objs.size l 0 → h'.objs.size = s.heap.objs.size + 2 →
      (∀ b o, s.heap.get? b = some o → h'.get? b = some o) → Q (.ref (s.heap.objs.size + 1)) { s with heap := h' }) :
    wpAny (model prog w) A (call (.type "enumerate") [.ref l]) Q E s := by
  obtain ⟨⟨c, dct, dt, sl⟩, hl, hc, n, hd⟩ := hL
  replace hc : c = .type "tuple" := hc
  replace hd : dt = .seq items n := hd
  subst hc hd
  refine callType_new PySem.F.called_enumerate (by decide) (PySem.F.typeCall_enumerate_1 _) (PySem.F.newCall_enumerate_1 _) (fun obj => PySem.F.args_object_init_2 obj _) PySem.F.entry_enumerate_new
    (meets_enumerate_newT l items n dct sl) ⟨hl, ?_⟩
  have hz : (s.heap.push { cls := .type "tuple_iterator", data := .fields #[.ref l, .int 0 0] }).objs.size = s.heap.objs.size + 1 := Heap.size_push ..
  show _ ∧ _
  rw [hz]
  have he : IsEnum ((s.heap.push { cls := .type "tuple_iterator", data := .fields #[.ref l, .int 0 0] }).push
      { cls := .type "enumerate", data := .fields #[.none, .bool false, .ref s.heap.objs.size, rawInt 0, .none, .none] }) (s.heap.objs.size + 1) s.heap.objs.size 0 .none := by
    have := Heap.get?_push_size (s.heap.push { cls := .type "tuple_iterator", data := .fields #[.ref l, .int 0 0] })
      (o := { cls := .type "enumerate", data := .fields #[.none, .bool false, .ref s.heap.objs.size, rawInt 0, .none, .none] }) rfl
    rw [hz] at this; exact this
  refine ⟨⟨_, he, rfl⟩, h _ he ⟨_, Heap.get?_push_of_some _ (Heap.get?_push_size _ rfl), rfl, rfl⟩ (by rw [Heap.size_push, hz]) fun b o x => Heap.get?_push_of_some _ (Heap.get?_push_of_some _ x)⟩
theorem Draws_tup {prog : Program} {w : World} {A : Around} (hh : A.handled = none) (it l : Addr) (hne : l ≠ it) (items : Array Value) :
    Draws prog w A it [it, l] items.size (fun i v => items[i]? = some v) (fun i h => h.IsTupleIter it l i ∧ h.IsTuple l items) where
  live := fun _ _ st => let ⟨o, ho, _⟩ := st.1; ⟨o, ho⟩
  frame := fun _ _ _ st hk => ⟨st.1.at fun o e => hk it (by simp) o e, st.2.at fun o e => hk l (by simp) o e⟩
  item := fun i s Q E hi st hQ => by
    refine RZ.nextOf_tuple_item st.1 st.2 (x := items[i]) (by simp [hi]) fun h' hit' hs' => ?_
    exact hQ _ h' s.toks (by simp [hi]) ⟨hit', st.2.extBut hs'.extBut hne⟩ hs'
  done := fun s Q E st hE => RZ.nextOf_tuple_end hh st.1 st.2 (by simp) hE
/-- a tuple's items with their numbers -/
def IteT (K : PySem.W.Frag) (a : Addr) : It :=
  ⟨fun i H => ∃ (xs : List V) (x : V), SqT K H a xs ∧ xs[i]? = some x, fun i H v H' => ∃ T x, v = .ref T ∧ H T = none ∧ H' = upd H T (.tup [.int (i : Nat), x]) ∧ ∀ xs, SqT K H a xs → xs[i]? = some x, fun i H => ∃ xs : List V, SqT K H a xs ∧ xs.length ≤ i⟩
theorem turn_enumT {P : Program} {w : World} {K : PySem.W.Frag} {elts : List Expr} {kk : Nat} {tpos : Pos} (a e it : Addr) :
    Turn P w K (.Tuple elts kk tpos) (IteT K a) [e, it] e (fun i h => (∃ old, IsEnum h e it ((i : Nat) : Int) old) ∧ h.IsTupleIter it a i ∧ e ≠ it) where
  mem := by simp
  obj := fun i h st b hb => by
    obtain ⟨⟨old, he⟩, ⟨o, ho, hc, hd⟩, _⟩ := st
    have e' : b = e ∨ b = it := by simpa using hb
    rcases e' with z | z
    · rw [z]; exact ⟨_, he, fun v q => nomatch q⟩
    · rw [z]; exact ⟨o, ho, fun v q => by rw [hd] at q; cases q⟩
  keep := fun i h h' st k => let ⟨⟨old, he⟩, hi, hne⟩ := st; ⟨⟨old, k e (by simp) _ he⟩, hi.at fun o q => k it (by simp) o q, hne⟩
  item := by
    intro X hP hw hK hc i pins s σ H E I hf st hg
    subst hP hw hK
    obtain ⟨⟨old, he⟩, hit, hne⟩ := st
    obtain ⟨xs, x, hq, hx⟩ := hg
    obtain ⟨its, rv, p, hz⟩ := I.tuple hq
    obtain ⟨u, hu, ru⟩ := rv.get hx
    have hel : e < s.heap.objs.size := Heap.lt_size he
    have hil : it < s.heap.objs.size := by obtain ⟨_, q, _⟩ := hit; exact Heap.lt_size q
    have hai : a ≠ it := by
      rintro rfl
      obtain ⟨o1, q1, c1, d1⟩ := hit
      obtain ⟨o2, q2, c2, _⟩ := p
      rw [q1] at q2
      cases q2
      rw [c1] at c2
      exact absurd (Value.type.inj c2) (by decide)
    have hae : e ≠ a := by
      rintro rfl
      obtain ⟨o2, q2, c2, _⟩ := p
      have q2' := he.symm.trans q2
      cases q2'
      exact absurd (Value.type.inj c2) (by decide)
    have hi : i < its.toArray.size := by
      have := (List.getElem?_eq_some_iff.mp hu).1
      simpa using this
    refine wpAny_pyNext_enum_itemD (Draws_tup (A := X.A.in1) (show X.A.in1.handled = none from I.ok.hd hc) it a hai its.toArray) he ⟨hit, p⟩ hi hne (by simp [hne, hae]) fun u' h' tk hPu ho hst' hT hsz hk => ?_
    have hu' : u' = u := by
      have e1 : its[i]? = some u' := by simpa using hPu
      rw [hu] at e1
      exact (Option.some.inj e1).symm
    subst hu'
    refine ⟨_, rfl, wpAny_letOwnedTupleGo_enum (s := { s with heap := h', toks := tk + 1 }) ho fun h'' he' sb => ?_⟩
    have hT2 : h''.get? s.heap.objs.size = some { cls := .type "tuple", data := .seq #[.int i tk, u'] } := (sb.2 _ (Nat.ne_of_gt hel)).trans hT
    have new : ObjOk X.prog X.w (upd H s.heap.objs.size (.tup [.int (i : Nat), x])) h'' s.heap.objs.size (.tup [.int (i : Nat), x]) :=
      ⟨by show 2 ≤ sizeLine; decide, [.int i tk, u'], .cons ⟨_, rfl⟩ (.cons ru .nil), ⟨_, hT2, rfl, _, rfl⟩⟩
    have I1 : Inv X pins σ (upd H s.heap.objs.size (.tup [.int (i : Nat), x])) { s with heap := h'', toks := tk + 1 } :=
      I.turnedNew (ch := [e, it]) (fun b ob hb q => (sb.2 b (fun z => hb (by simp [z]))).trans (hk b ob (fun z => hb (by simp [z])) (fun z => hb (by simp [z])) q)) hf (Nat.le_refl _) new
    refine ⟨.ref s.heap.objs.size, _, I1, rfl, ⟨_, x, rfl, I.hok.fresh (Nat.le_refl _), rfl, fun ys hy => by rw [I.tuple_inj hy hq]; exact hx⟩, ⟨⟨u', ?_⟩, hst'.1.at fun o q => (sb.2 it (Ne.symm hne)).trans q, hne⟩, fun b hb => ?_⟩
    · have e1 : ((i + 1 : Nat) : Int) = (i : Int) + 1 := by omega
      rw [e1]; exact he'
    · have hb' : b < s.heap.objs.size := by
        have e' : b = e ∨ b = it := by simpa using hb
        rcases e' with z | z
        · rw [z]; exact hel
        · rw [z]; exact hil
      rw [upd_ne (Nat.ne_of_lt hb')]
      exact (hf b hb).1
  done := by
    intro X hP hw hK hc i pins s σ H E I hf st hg
    subst hP hw hK
    obtain ⟨⟨old, he⟩, hit, hne⟩ := st
    obtain ⟨xs, hq, hx⟩ := hg
    obtain ⟨its, rv, p, hz⟩ := I.tuple hq
    obtain ⟨f0, f1, f2, f3, f4, f5⟩ := hf it (by simp)
    have hl := rv.length
    have hT : s.TypeIs (.ref e) "enumerate" := ⟨_, he, rfl⟩
    unfold pyNext
    refine wpAny_bind (wpAny_attempt (wpAny_callSpecial?_slot (name := Str.ofString "__next__") hT PySem.F.slot_enumerate_next
      (wpAny_call_entry PySem.F.slot_enumerate_next hT PySem.F.entry_enumerate_next ?_ (PySem.F.args_enumerate_next_1 _))))
    show wpAny _ _ (field (.ref e) 2 >>= _) _ _ _
    refine wpAny_bind (wpAny_field he rfl (x := .ref it) rfl ?_)
    refine wpAny_bind (RZ.nextOf_tuple_end (I.ok.hd hc) hit p (by simp; omega) fun h' x he' hx' => ?_)
    obtain ⟨o, ho, hcc⟩ := hx'
    refine wpAny_bind (wpAny_isInstance (T := "StopIteration") (b := true) ⟨o, ho, hcc⟩ isSubtype_stop ?_)
    exact wpAny_pure ⟨rfl, I.turned (t' := s.toks) (fun b o hb q => he' b o hb q) f0 f1 f3 f4 f5⟩
  self := fun A i s Q E st h => let ⟨⟨_, he⟩, _⟩ := st; wpAny_pyIter_enum he h
def iEnumA (K : PySem.W.Frag) (ta : TA) : TI := fun σ H R => ta σ H fun vs H1 => ∃ a xs, vs = [.ref a] ∧ ((SqL K H1 a xs ∧ R (Ite K a) H1) ∨ (SqT K H1 a xs ∧ R (IteT K a) H1))
theorem pi_enumA {X : Cx} {e : Expr} {ta : TA} {p pos tpos : Pos} {elts : List Expr} {kk : Nat} (hg : Gl X "enumerate") (hm : X.mg "enumerate" = none) (ha : PA X [e] ta) (hs : starEach [e] X.env = [(false, eval e X.env)]) :
    PI X (.Tuple elts kk tpos) (.Call (.Name "enumerate" p) [e] [] pos) (iEnumA X.K ta) := by
  refine ⟨fun pins s σ H R I h => ?_⟩
  refine Call_ (ld_blt I hg hm boot_enumerate (PyProof.Rows.callWith_type1 (thn (ha.run pos pins s σ H _ I h) fun us s1 ⟨vs, H1, I1, r1, q1⟩ => ?_) hs rfl))
  obtain ⟨a, xs, ex, hq⟩ := q1
  subst ex
  cases r1 with
  | cons r rr =>
    cases rr
    cases r
    have fp : ∀ b ∈ [s1.heap.objs.size + 1, s1.heap.objs.size], s1.heap.objs.size ≤ b := fun b hb => by
      have e' : b = s1.heap.objs.size + 1 ∨ b = s1.heap.objs.size := by simpa using hb
      rcases e' with z | z
      · rw [z]; exact Nat.le_add_right _ _
      · rw [z]; exact Nat.le_refl _
    rcases hq with ⟨hq, q⟩ | ⟨hq, q⟩
    · obtain ⟨its, rv, p', hz⟩ := I1.list hq
      refine call_enumerate_list p'.isList fun h' he hit hsz hk => wpAny_pyIter_enum he ?_
      have I2 : Inv X pins σ H1 { s1 with heap := h' } := I1.kept (t' := s1.toks) hk
      exact ⟨s1.heap.objs.size + 1, [s1.heap.objs.size + 1, s1.heap.objs.size], _, _, H1, rfl, I2, turn_enum a (s1.heap.objs.size + 1) s1.heap.objs.size, ⟨⟨.none, he⟩, hit, Nat.succ_ne_self _⟩, fun b hb => I1.fpOk (fp b hb) (I1.hok.fresh (fp b hb)), q⟩
    · obtain ⟨its, rv, p', hz⟩ := I1.tuple hq
      refine call_enumerate_tup p' fun h' he hit hsz hk => wpAny_pyIter_enum he ?_
      have I2 : Inv X pins σ H1 { s1 with heap := h' } := I1.kept (t' := s1.toks) hk
      exact ⟨s1.heap.objs.size + 1, [s1.heap.objs.size + 1, s1.heap.objs.size], _, _, H1, rfl, I2, turn_enumT a (s1.heap.objs.size + 1) s1.heap.objs.size, ⟨⟨.none, he⟩, hit, Nat.succ_ne_self _⟩, fun b hb => I1.fpOk (fp b hb) (I1.hok.fresh (fp b hb)), q⟩
end

mutual
theorem same_eq : ∀ (a b : D), same a b = true → a = b
  | .none, b, h => by cases b <;> first | rfl | (simp [same] at h)
  | .bool x, b, h => by cases b <;> simp [same] at h; exact congrArg _ h
  | .int x, b, h => by cases b <;> simp [same] at h; exact congrArg _ h
  | .str x, b, h => by cases b <;> simp [same] at h; exact congrArg _ h
  | .list xs, b, h => by cases b <;> simp [same] at h; exact congrArg _ (sames_eq xs _ h)
  | .tuple xs, b, h => by cases b <;> simp [same] at h; exact congrArg _ (sames_eq xs _ h)
  | .dict xs, b, h => by cases b <;> simp [same] at h; exact congrArg _ (sameKv_eq xs _ h)
theorem sames_eq : ∀ (a b : List D), sames a b = true → a = b
  | [], [], _ => rfl
  | [], _ :: _, h => by simp [sames] at h
  | _ :: _, [], h => by simp [sames] at h
  | x :: xs, y :: ys, h => by
    simp only [sames, Bool.and_eq_true] at h
    rw [same_eq x y h.1, sames_eq xs ys h.2]
theorem sameKv_eq : ∀ (a b : List (D × D)), sameKv a b = true → a = b
  | [], [], _ => rfl
  | [], _ :: _, h => by simp [sameKv] at h
  | _ :: _, [], h => by simp [sameKv] at h
  | (k, v) :: xs, (k', v') :: ys, h => by
    simp only [sameKv, Bool.and_eq_true] at h
    rw [same_eq k k' h.1.1, same_eq v v' h.1.2, sameKv_eq xs ys h.2]
end

/-- an item as it comes -/
def ItemR (K : PySem.W.Frag) (ν : Mu) (F : Fz) (μ : Mu) (H : Hp) (tg : Expr) (d : D) (x : V) (H' : Hp) : Prop :=
  (H' = H ∧ Rp K ν F μ H d x) ∨ (isTup tg = true ∧ ∃ T ds xs o, d = .tuple ds ∧ x = .ref T ∧ H T = none ∧ H' = upd H T o ∧ SqT K H' T xs ∧ RpAll K ν F μ H ds xs)
/-- the iterator yields the items, as long as what it leans on stays -/
def JOk (K : PySem.W.Frag) (ν : Mu) (tg : Expr) (J : It) (items ds : List D) (avs : List V) : Prop :=
  ∀ F μ H, VwA K ν F μ H ds avs → ∀ i, (∀ d, items[i]? = some d → J.go i H ∧ ∀ x H', J.yld i H x H' → ItemR K ν F μ H tg d x H') ∧ (items.length ≤ i → J.stop i H)
def tSrc (K : PySem.W.Frag) (Γ : En) (tg : Expr) (m : Env → M Src) : TI := fun σ H R => ∃ F μ env st s st', Rel K Γ F μ H σ env st ∧ m env st = some (s, st') ∧
  ∀ J F' μ' H' avs, Stp F μ H F' μ' H' → Rel K Γ F' μ' H' σ env st' → ROs K Γ.ν F' μ' H' σ env (s.deps.map (·.1)) avs → (∀ p ∈ s.deps, view env st' p.1 = some p.2) → JOk K Γ.ν tg J s.items (s.deps.map (·.2)) avs → R J H'
theorem _root_.L2.PI.imp {X : Cx} {tg e : Expr} {t t' : TI} (h : PI X tg e t) (i : ∀ σ H Q, t' σ H Q → t σ H Q) : PI X tg e t' := ⟨fun pins s σ H Q I q => h.run pins s σ H Q I (i σ H Q q)⟩
theorem pi_none {X : Cx} {tg e : Expr} {Γ : En} {m : Env → M Src} (h : ∀ env st, m env st = none) : PI X tg e (tSrc X.K Γ tg m) := ⟨fun _ _ σ H Q _ ⟨F, μ, env, st, r, st', _, e, _⟩ => by rw [h] at e; cases e⟩

def IkOk (sc : Scope) (iter : Expr) : IK → Prop
    | .range1 a => ∃ p pos, iter = .Call (.Name "range" p) [a] [] pos ∧ isGl sc "range" = true
    | .range2 a b => ∃ p pos, iter = .Call (.Name "range" p) [a, b] [] pos ∧ isGl sc "range" = true
    | .enum a => ∃ p pos, iter = .Call (.Name "enumerate" p) [a] [] pos ∧ isGl sc "enumerate" = true
    | .zip a b => ∃ p pos, iter = .Call (.Name "zip" p) [a, b] [] pos ∧ isGl sc "zip" = true
    | _ => True
theorem ik_inv {sc : Scope} {iter : Expr} : IkOk sc iter (ikOf sc iter) := by
  unfold ikOf
  split
  · rename_i f p a pos
    by_cases g : isGl sc f = true
    · rw [if_pos g]
      by_cases e : f = ("range" : Str)
      · rw [if_pos e]; subst e; exact ⟨_, _, rfl, g⟩
      · rw [if_neg e]
        by_cases e2 : f = ("enumerate" : Str)
        · rw [if_pos e2]; subst e2; exact ⟨_, _, rfl, g⟩
        · rw [if_neg e2]
          by_cases e3 : f = ("reversed" : Str)
          · rw [if_pos e3]; trivial
          · rw [if_neg e3]; trivial
    · rw [if_neg g]; trivial
  · rename_i f p a b pos
    by_cases g : isGl sc f = true
    · rw [if_pos g]
      by_cases e : f = ("range" : Str)
      · rw [if_pos e]; subst e; exact ⟨_, _, rfl, g⟩
      · rw [if_neg e]
        by_cases e2 : f = ("zip" : Str)
        · rw [if_pos e2]; subst e2; exact ⟨_, _, rfl, g⟩
        · rw [if_neg e2]; trivial
    · rw [if_neg g]; trivial
  · trivial

section
variable {K : PySem.W.Frag} {ν : Mu} {tg : Expr}
theorem jok_range {lo : Int} {n : Nat} : JOk K ν tg (Itr lo n) ((List.range n).map fun (i : Nat) => PyData.int (lo + (i : Int))) [] [] := fun F μ H _ i => by
  refine ⟨fun d e => ?_, fun h => show n ≤ i by simpa using h⟩
  rw [List.getElem?_map] at e
  obtain ⟨j, e1, rfl⟩ := Option.map_eq_some_iff.mp e
  obtain ⟨h1, h2⟩ := List.getElem?_eq_some_iff.mp e1
  rw [List.getElem_range] at h2
  subst h2
  rw [List.length_range] at h1
  refine ⟨h1, fun x H' ⟨a, b⟩ => .inl ⟨a, ?_⟩⟩
  subst b
  exact .int _
theorem jok_list {xs : List D} {a : Addr} : JOk K ν tg (Itl K a) xs [.list xs] [.ref a] := fun F μ H h i => by
  obtain ⟨v, e, hv⟩ := h.one
  cases e
  obtain ⟨b, ys, e, h1, h2⟩ := hv
  cases e
  refine ⟨fun d e => ?_, fun hl => ⟨ys, h1, by rw [← h2.length]; exact hl⟩⟩
  obtain ⟨y, e1, e2⟩ := h2.get e
  refine ⟨⟨ys, y, h1, e1⟩, fun x H' ⟨g1, g2⟩ => .inl ⟨g1, ?_⟩⟩
  have := g2 ys h1
  rw [e1] at this
  cases this
  exact e2
theorem jok_tup {xs : List D} {a : Addr} : JOk K ν tg (Itt K a) xs [.tuple xs] [.ref a] := fun F μ H h i => by
  obtain ⟨v, e, hv⟩ := h.one
  cases e
  cases hv with
  | @tup _ ys _ h1 h2 =>
    refine ⟨fun d e => ?_, fun hl => ⟨ys, h1.seq, by rw [← h2.length]; exact hl⟩⟩
    obtain ⟨y, e1, e2⟩ := h2.get e
    refine ⟨⟨ys, y, h1.seq, e1⟩, fun x H' ⟨g1, g2⟩ => .inl ⟨g1, ?_⟩⟩
    have := g2 ys h1.seq
    rw [e1] at this
    cases this
    exact e2
theorem jok_str {z : Str} : JOk K ν tg (Its z) (signsD z) [.str z] [.str z] := fun F μ H h i => by
  refine ⟨fun d e => ?_, fun hl => ?_⟩
  · unfold signsD at e
    rw [List.getElem?_map] at e
    obtain ⟨j, e1, rfl⟩ := Option.map_eq_some_iff.mp e
    rw [Array.getElem?_toList] at e1
    refine ⟨(Array.getElem?_eq_some_iff.mp e1).1, fun x H' ⟨a, c, g1, g2⟩ => .inl ⟨a, ?_⟩⟩
    rw [e1] at g1
    cases g1
    subst g2
    exact .str _
  · unfold signsD at hl
    rw [List.length_map, Array.length_toList] at hl
    exact hl
theorem jok_enum {xs : List D} {a : Addr} (ht : isTup tg = true) : JOk K ν tg (Ite K a) (enumD xs) [.list xs] [.ref a] := fun F μ H h i => by
  obtain ⟨v, e, hv⟩ := h.one
  cases e
  obtain ⟨b, ys, e, h1, h2⟩ := hv
  cases e
  refine ⟨fun d e => ?_, fun hl => ⟨ys, h1, by rw [← h2.length]; simpa [enumD] using hl⟩⟩
  unfold enumD at e
  rw [List.getElem?_map, List.getElem?_zipIdx] at e
  obtain ⟨p, e1, rfl⟩ := Option.map_eq_some_iff.mp e
  obtain ⟨d, e2, rfl⟩ := Option.map_eq_some_iff.mp e1
  obtain ⟨y, e1, e2⟩ := h2.get e2
  refine ⟨⟨ys, y, h1, e1⟩, fun x H' ⟨T, y', g1, g2, g3, g4⟩ => .inr ⟨ht, T, _, [.int (i : Nat), y'], _, rfl, g1, g2, g3, ?_, ?_⟩⟩
  · rw [g3]; exact SqT.of upd_same
  · have := g4 ys h1
    rw [e1] at this
    cases this
    rw [Nat.zero_add]
    exact .cons (.int _) (.cons e2 .nil)
theorem jok_enumT {xs : List D} {a : Addr} (ht : isTup tg = true) : JOk K ν tg (IteT K a) (enumD xs) [.tuple xs] [.ref a] := fun F μ H h i => by
  obtain ⟨v, e, hv⟩ := h.one
  cases e
  cases hv with
  | @tup _ ys _ h1 h2 =>
    refine ⟨fun d e => ?_, fun hl => ⟨ys, h1.seq, by rw [← h2.length]; simpa [enumD] using hl⟩⟩
    unfold enumD at e
    rw [List.getElem?_map, List.getElem?_zipIdx] at e
    obtain ⟨p, e1, rfl⟩ := Option.map_eq_some_iff.mp e
    obtain ⟨d, e2, rfl⟩ := Option.map_eq_some_iff.mp e1
    obtain ⟨y, e1, e2⟩ := h2.get e2
    refine ⟨⟨ys, y, h1.seq, e1⟩, fun x H' ⟨T, y', g1, g2, g3, g4⟩ => .inr ⟨ht, T, _, [.int (i : Nat), y'], _, rfl, g1, g2, g3, ?_, ?_⟩⟩
    · rw [g3]; exact SqT.of upd_same
    · have := g4 ys h1.seq
      rw [e1] at this
      cases this
      rw [Nat.zero_add]
      exact .cons (.int _) (.cons e2 .nil)
theorem zipD_get {xs ys : List D} {i : Nat} {d : D} (e : (zipD xs ys)[i]? = some d) : ∃ x y, xs[i]? = some x ∧ ys[i]? = some y ∧ d = .tuple [x, y] := by
  unfold zipD at e
  rw [List.getElem?_map] at e
  obtain ⟨p, e1, rfl⟩ := Option.map_eq_some_iff.mp e
  rw [List.getElem?_zip_eq_some] at e1
  exact ⟨_, _, e1.1, e1.2, rfl⟩
theorem zipD_len {xs ys : List D} {i : Nat} (h : (zipD xs ys).length ≤ i) : xs.length ≤ i ∨ ys.length ≤ i := by
  unfold zipD at h
  rw [List.length_map, List.length_zip] at h
  omega
theorem jok_zipL {xs ys : List D} {a b : Addr} (ht : isTup tg = true) : JOk K ν tg (Itz K a b) (zipD xs ys) [.list xs, .list ys] [.ref a, .ref b] := fun F μ H h i => by
  obtain ⟨v, w, e, hv, hw⟩ := h.two
  cases e
  obtain ⟨_, us, e, h1, h2⟩ := hv
  cases e
  obtain ⟨_, ws, e, h3, h4⟩ := hw
  cases e
  refine ⟨fun d e => ?_, fun hl => ⟨us, ws, h1, h3, by rw [← h2.length, ← h4.length]; exact zipD_len hl⟩⟩
  obtain ⟨x, y, e1, e2, rfl⟩ := zipD_get e
  obtain ⟨x', f1, f2⟩ := h2.get e1
  obtain ⟨y', f3, f4⟩ := h4.get e2
  refine ⟨⟨us, ws, _, _, h1, h3, f1, f3⟩, fun x H' ⟨T, x2, y2, g1, g2, g3, g4, g5⟩ => .inr ⟨ht, T, _, [x2, y2], _, rfl, g1, g2, g3, ?_, ?_⟩⟩
  · rw [g3]; exact SqT.of upd_same
  · have p1 := g4 us h1
    have p2 := g5 ws h3
    rw [f1] at p1; cases p1
    rw [f3] at p2; cases p2
    exact .cons f2 (.cons f4 .nil)
theorem jok_zipT {xs ys : List D} {a b : Addr} (ht : isTup tg = true) : JOk K ν tg (ItzT K a b) (zipD xs ys) [.tuple xs, .tuple ys] [.ref a, .ref b] := fun F μ H h i => by
  obtain ⟨v, w, e, hv, hw⟩ := h.two
  cases e
  cases hv with
  | @tup _ us _ h1 h2 =>
  cases hw with
  | @tup _ ws _ h3 h4 =>
  refine ⟨fun d e => ?_, fun hl => ⟨us, ws, h1.seq, h3.seq, by rw [← h2.length, ← h4.length]; exact zipD_len hl⟩⟩
  obtain ⟨x, y, e1, e2, rfl⟩ := zipD_get e
  obtain ⟨x', f1, f2⟩ := h2.get e1
  obtain ⟨y', f3, f4⟩ := h4.get e2
  refine ⟨⟨us, ws, _, _, h1.seq, h3.seq, f1, f3⟩, fun x H' ⟨T, x2, y2, g1, g2, g3, g4, g5⟩ => .inr ⟨ht, T, _, [x2, y2], _, rfl, g1, g2, g3, ?_, ?_⟩⟩
  · rw [g3]; exact SqT.of upd_same
  · have p1 := g4 us h1.seq
    have p2 := g5 ws h3.seq
    rw [f1] at p1; cases p1
    rw [f3] at p2; cases p2
    exact .cons f2 (.cons f4 .nil)
end

section
variable {X : Cx} {c : Cfg} {L : Lv} {k : Nat}
theorem tup_inv {tg : Expr} (h : isTup tg = true) : ∃ es kk tpos, tg = .Tuple es kk tpos := by
  cases tg <;> first | exact ⟨_, _, _, rfl⟩ | cases h
theorem vw_list {ν F μ H} {xs : List D} {v : V} (h : Vw X.K ν F μ H (.list xs) v) : ∃ a ys, v = .ref a ∧ SqL X.K H a ys := by
  obtain ⟨a, ys, e, h1, _⟩ := h
  exact ⟨a, ys, e, h1⟩
theorem vw_tup {ν F μ H} {xs : List D} {v : V} (h : Vw X.K ν F μ H (.tuple xs) v) : ∃ a ys, v = .ref a ∧ SqT X.K H a ys := by
  cases h with
  | tup h1 _ => exact ⟨_, _, rfl, h1.seq⟩
theorem set_false {iter : Expr} (h : isSet iter = false) (env : PySem.Env) (x : Value) : foldedSetIterable iter env x = pure x := by
  cases iter <;> first | rfl | cases h
theorem pi_src (hL : LvOk c L k) (ok : Ok X c k) (Γ : En) {tg iter : Expr} : PI X tg iter (tSrc X.K Γ tg (srcOf L X.env.scope tg iter)) := by
  have inv := ik_inv (sc := X.env.scope) (iter := iter)
  cases hk : ikOf X.env.scope iter with
  | range1 a =>
    rw [hk] at inv
    obtain ⟨p, pos, rfl, hg⟩ := inv
    obtain ⟨g1, g2, g3⟩ := gl_ok hg
    by_cases hsa : isStar a = true
    · exact pi_none fun env st => by simp only [srcOf, hk]; rw [if_pos hsa]; rfl
    have hsa' : isStar a = false := by simpa using hsa
    refine (pi_range1 g1 (ok.free _ (by decide +kernel)) (pa_cons (hL.x X Γ a ok) pa_nil (star_cons hsa' _ _)) (star_cons hsa' _ _)).imp fun σ H R ⟨F, μ, env, st, s, st', rel, e, q⟩ => ?_
    simp only [srcOf, hk] at e
    rw [if_neg hsa] at e
    obtain ⟨p, st1, e1, f1⟩ := bnd_some e
    refine ⟨F, μ, env, st, p, st1, rel, e1, fun v F1 μ1 H1 s1 rel1 rx => ?_⟩
    obtain ⟨d, fl⟩ := p
    cases d with
    | int n =>
      have f1 : (if small n = true then ret ⟨(List.range n.toNat).map fun (i : Nat) => PyData.int (0 + (i : Int)), []⟩ else (fail : M Src)) st1 = some (s, st') := f1
      by_cases hn : small n = true
      · rw [if_pos hn] at f1
        obtain ⟨rfl, rfl⟩ := ret_some f1
        simp only [small, Bool.and_eq_true, decide_eq_true_eq] at hn
        obtain ⟨F2, s2, rel2, rp⟩ := rx.frz rel s1 rel1
        cases rp
        exact ⟨n, rfl, hn.1, hn.2, q _ F2 μ1 H1 [] s2 rel2 .nil (by simp) jok_range⟩
      · rw [if_neg hn] at f1; cases f1
    | _ => cases f1
  | range2 a b =>
    rw [hk] at inv
    obtain ⟨p, pos, rfl, hg⟩ := inv
    obtain ⟨g1, g2, g3⟩ := gl_ok hg
    by_cases hsa : (isStar a || isStar b) = true
    · exact pi_none fun env st => by simp only [srcOf, hk]; rw [if_pos hsa]; rfl
    have hs2 : isStar a = false ∧ isStar b = false := by simpa using hsa
    refine (pi_range2 g1 (ok.free _ (by decide +kernel)) (pa_cons (hL.x X Γ a ok) (pa_cons (hL.x X Γ b ok) pa_nil (star_cons hs2.2 _ _)) (star_cons hs2.1 _ _)) ((star_cons hs2.1 _ _).trans (congrArg _ (star_cons hs2.2 _ _))) (star_cons hs2.2 _ _)).imp fun σ H R ⟨F, μ, env, st, s, st', rel, e, q⟩ => ?_
    simp only [srcOf, hk] at e
    rw [if_neg hsa] at e
    obtain ⟨p, st1, e1, f1⟩ := bnd_some e
    obtain ⟨p2, st2, e2, f2⟩ := bnd_some f1
    refine ⟨F, μ, env, st, p, st1, rel, e1, fun v F1 μ1 H1 s1 rel1 rx => ?_⟩
    obtain ⟨F2, s2, rel2, rp⟩ := rx.frz rel s1 rel1
    refine ⟨F2, μ1, env, st1, p2, st2, rel2, e2, fun w F3 μ3 H3 s3 rel3 rx3 => ?_⟩
    obtain ⟨F4, s4, rel4, rp4⟩ := rx3.frz rel2 s3 rel3
    obtain ⟨d, fl⟩ := p
    obtain ⟨d2, fl2⟩ := p2
    simp only at f2
    split at f2
    · rename_i i j
      by_cases hn : (small i && small j) = true
      · rw [if_pos hn] at f2
        obtain ⟨rfl, rfl⟩ := ret_some f2
        simp only [small, Bool.and_eq_true, decide_eq_true_eq] at hn
        cases rp; cases rp4
        exact ⟨i, j, rfl, ⟨hn.1.1, hn.1.2, hn.2.1, hn.2.2⟩, q _ F4 μ3 H3 [] (s2.trans s4) rel4 .nil (by simp) jok_range⟩
      · rw [if_neg hn] at f2; cases f2
    · cases f2
  | enum a =>
    rw [hk] at inv
    obtain ⟨p, pos, rfl, hg⟩ := inv
    obtain ⟨g1, g2, g3⟩ := gl_ok hg
    by_cases hsa : (isStar a || !isTup tg) = true
    · exact pi_none fun env st => by simp only [srcOf, hk]; rw [if_pos hsa]; rfl
    have hs2 : isStar a = false ∧ isTup tg = true := by simpa using hsa
    obtain ⟨es, kk, tpos, rfl⟩ := tup_inv hs2.2
    refine (pi_enumA g1 (ok.free _ (by decide +kernel)) (pa_cons (hL.o X Γ a ok) pa_nil (star_cons hs2.1 _ _)) (star_cons hs2.1 _ _)).imp fun σ H R ⟨F, μ, env, st, s, st', rel, e, q⟩ => ?_
    simp only [srcOf, hk] at e
    rw [if_neg hsa] at e
    obtain ⟨p, st1, e1, f1⟩ := bnd_some e
    obtain ⟨d, st2, e2, f2⟩ := bnd_some f1
    obtain ⟨h1, rfl⟩ := vw_some e2
    refine ⟨F, μ, env, st, p, _, rel, e1, fun v F1 μ1 H1 s1 rel1 ro => ?_⟩
    split at f2
    · rename_i xs
      obtain ⟨rfl, rfl⟩ := ret_some f2
      obtain ⟨a', ys, rfl, sq⟩ := vw_list (vw_of rel1 ro h1)
      exact ⟨a', ys, rfl, .inl ⟨sq, q _ F1 μ1 H1 _ s1 rel1 (.cons ro .nil) (by simpa using h1) (jok_enum rfl)⟩⟩
    · rename_i xs
      obtain ⟨rfl, rfl⟩ := ret_some f2
      obtain ⟨a', ys, rfl, sq⟩ := vw_tup (vw_of rel1 ro h1)
      exact ⟨a', ys, rfl, .inr ⟨sq, q _ F1 μ1 H1 _ s1 rel1 (.cons ro .nil) (by simpa using h1) (jok_enumT rfl)⟩⟩
    · cases f2
  | zip a b =>
    rw [hk] at inv
    obtain ⟨p, pos, rfl, hg⟩ := inv
    obtain ⟨g1, g2, g3⟩ := gl_ok hg
    by_cases hsa : (isStar a || isStar b || !isTup tg) = true
    · exact pi_none fun env st => by simp only [srcOf, hk]; rw [if_pos hsa]; rfl
    have hs2 : (isStar a = false ∧ isStar b = false) ∧ isTup tg = true := by simpa using hsa
    obtain ⟨es, kk, tpos, rfl⟩ := tup_inv hs2.2
    refine (pi_zipA g1 (ok.free _ (by decide +kernel)) (pa_cons (hL.o X Γ a ok) (pa_cons (hL.o X Γ b ok) pa_nil (star_cons hs2.1.2 _ _)) (star_cons hs2.1.1 _ _)) (star_cons hs2.1.1 _ _) (by rw [star_cons hs2.1.2]; rfl)).imp fun σ H R ⟨F, μ, env, st, s, st', rel, e, q⟩ => ?_
    simp only [srcOf, hk] at e
    rw [if_neg hsa] at e
    obtain ⟨p, st1, e1, f1⟩ := bnd_some e
    obtain ⟨p2, st2, e2, f2⟩ := bnd_some f1
    obtain ⟨d, st3, e3, f3⟩ := bnd_some f2
    obtain ⟨d2, st4, e4, f4⟩ := bnd_some f3
    obtain ⟨h1, rfl⟩ := vw_some e3
    obtain ⟨h2, rfl⟩ := vw_some e4
    refine ⟨F, μ, env, st, p, st1, rel, e1, fun v F1 μ1 H1 s1 rel1 ro => ⟨F1, μ1, env, st1, p2, _, rel1, e2, fun w F2 μ2 H2 s2 rel2 ro2 => ?_⟩⟩
    have ro' := ro.keep (rel1.keep s2)
    split at f4
    · obtain ⟨rfl, rfl⟩ := ret_some f4
      obtain ⟨a', ys, rfl, sq⟩ := vw_list (vw_of rel2 ro' h1)
      obtain ⟨b', zs, rfl, sq2⟩ := vw_list (vw_of rel2 ro2 h2)
      exact ⟨a', b', ys, zs, rfl, .inl ⟨sq, sq2, q _ F2 μ2 H2 _ (s1.trans s2) rel2 (.cons ro' (.cons ro2 .nil)) (by simpa using And.intro h1 h2) (jok_zipL rfl)⟩⟩
    · obtain ⟨rfl, rfl⟩ := ret_some f4
      obtain ⟨a', ys, rfl, sq⟩ := vw_tup (vw_of rel2 ro' h1)
      obtain ⟨b', zs, rfl, sq2⟩ := vw_tup (vw_of rel2 ro2 h2)
      exact ⟨a', b', ys, zs, rfl, .inr ⟨sq, sq2, q _ F2 μ2 H2 _ (s1.trans s2) rel2 (.cons ro' (.cons ro2 .nil)) (by simpa using And.intro h1 h2) (jok_zipT rfl)⟩⟩
    · cases f4
  | rev a => exact pi_none fun env st => by simp only [srcOf, hk]; rfl
  | plain =>
    refine ⟨fun pins s σ H R I ⟨F, μ, env, st, sr, st', rel, e, q⟩ => ?_⟩
    simp only [srcOf, hk] at e
    by_cases hset : isSet iter = true
    · rw [if_pos hset] at e; cases e
    rw [if_neg hset] at e
    obtain ⟨p, st1, e1, f1⟩ := bnd_some e
    obtain ⟨d, st2, e2, f2⟩ := bnd_some f1
    obtain ⟨h1, rfl⟩ := vw_some e2
    split at f2
    · obtain ⟨rfl, rfl⟩ := ret_some f2
      refine (pi_list (hL.o X Γ iter ok)).run pins s σ H R I ⟨F, μ, env, st, p, _, rel, e1, fun v F1 μ1 H1 s1 rel1 ro => ?_⟩
      obtain ⟨a', ys, rfl, sq⟩ := vw_list (vw_of rel1 ro h1)
      exact ⟨a', rfl, ⟨ys, sq⟩, q _ F1 μ1 H1 _ s1 rel1 (.cons ro .nil) (by simpa using h1) jok_list⟩
    · obtain ⟨rfl, rfl⟩ := ret_some f2
      refine (pi_tup (hL.o X Γ iter ok)).run pins s σ H R I ⟨F, μ, env, st, p, _, rel, e1, fun v F1 μ1 H1 s1 rel1 ro => ?_⟩
      obtain ⟨a', ys, rfl, sq⟩ := vw_tup (vw_of rel1 ro h1)
      exact ⟨a', rfl, ⟨ys, sq⟩, q _ F1 μ1 H1 _ s1 rel1 (.cons ro .nil) (by simpa using h1) jok_tup⟩
    · rename_i z
      obtain ⟨rfl, rfl⟩ := ret_some f2
      refine (pi_str (hL.o X Γ iter ok)).run pins s σ H R I ⟨F, μ, env, st, p, _, rel, e1, fun v F1 μ1 H1 s1 rel1 ro => ?_⟩
      have hv := vw_of rel1 ro h1
      cases hv
      exact ⟨z, rfl, q _ F1 μ1 H1 _ s1 rel1 (.cons ro .nil) (by simpa using h1) jok_str⟩
    · cases f2
end

/-! ### targets -/
def setV (σ : Sg) : List Nat → List V → Sg
  | j :: js, v :: vs => setV (σ.set j (some v)) js vs
  | _, _ => σ
def gNames (js : List Nat) : TGs := fun vs σ H Q => vs.length = js.length ∧ Q (setV σ js vs) H
def gT (K : PySem.W.Frag) (tp : Bool) (js : List Nat) : TG := if tp = true then gTup K js.length (gNames js) else fun v σ H Q => ∃ j, js = [j] ∧ gName j v σ H Q
structure LocOk (X : Cx) (c : Cfg) (sc : Scope) : Prop where
  n : X.N = c.N
  nd : X.N.Nodup
  loc : ∀ x j, locOf c sc x = some j → Loc X.env.scope x ∧ (X.fn x = true ∨ X.env.scope.names.lookup x = some .local)
section
variable {X : Cx} {c : Cfg} {sc : Scope}
theorem LocOk.pg (lo : LocOk X c sc) {x : Str} {j : Nat} {pos : Pos} (h : locOf c sc x = some j) : PG X (.Name x pos) (gName j) :=
  pg_name lo.nd (by rw [lo.n]; exact (loc_ok h).1) (lo.loc x j h).1 (lo.loc x j h).2
theorem isName_inv {e : Expr} {x : Str} (h : isName e = some x) : ∃ pos, e = .Name x pos := by
  cases e <;> first | (cases h; exact ⟨_, rfl⟩) | cases h
theorem tgNames_cons {e : Expr} {es : List Expr} {js : List Nat} (h : tgNames c sc (e :: es) = some js) : ∃ x pos j js', e = .Name x pos ∧ locOf c sc x = some j ∧ tgNames c sc es = some js' ∧ js = j :: js' := by
  unfold tgNames at h
  split at h
  · rename_i x hx
    obtain ⟨pos, rfl⟩ := isName_inv hx
    split at h
    · rename_i j js' e1 e2
      cases h
      exact ⟨x, pos, j, js', rfl, e1, e2, rfl⟩
    · cases h
  · cases h
theorem pgs_names (lo : LocOk X c sc) : ∀ {es : List Expr} {js : List Nat}, tgNames c sc es = some js → PGs X es (gNames js) ∧ (assignEach es X.env).length = js.length ∧ (assignEach es X.env).findIdx? (·.1) = none
  | [], js, h => by
    cases h
    refine ⟨⟨fun pins s σ H vs us Q I r ⟨h1, h2⟩ => pgs_nil.run pins s σ H vs us Q I r ⟨List.length_eq_zero_iff.mp h1, ?_⟩⟩, rfl, rfl⟩
    cases vs with
    | nil => exact h2
    | cons _ _ => cases h1
  | e :: es, js, h => by
    obtain ⟨x, pos, j, js', rfl, h1, h2, rfl⟩ := tgNames_cons h
    obtain ⟨p1, p2, p3⟩ := pgs_names lo h2
    refine ⟨⟨fun pins s σ H vs us Q I r ⟨g1, g2⟩ => ?_⟩, ?_, ?_⟩
    · cases vs with
      | nil => cases g1
      | cons v vs => exact (pgs_cons (lo.pg h1) p1).run pins s σ H _ us Q I r ⟨v, vs, rfl, by simpa using g1, g2⟩
    · show (assignEach es X.env).length + 1 = js'.length + 1
      rw [p2]
    · show List.findIdx? _ ((false, assign (.Name x pos) X.env) :: assignEach es X.env) = none
      rw [List.findIdx?_cons]
      simp only [Bool.false_eq_true, if_false]
      rw [p3]
      rfl
theorem pg_T (hc : X.calm = true) (lo : LocOk X c sc) {tg : Expr} {js : List Nat} (h : tgSlots c sc tg = some js) : PG X tg (gT X.K (isTup tg) js) := by
  unfold tgSlots at h
  split at h
  · rename_i x pos
    obtain ⟨j, h1, rfl⟩ := Option.map_eq_some_iff.mp h
    exact ⟨fun pins s σ H v u Q I r ⟨j', e, q⟩ => by cases e; exact (lo.pg h1).run pins s σ H v u Q I r q⟩
  · obtain ⟨p1, p2, p3⟩ := pgs_names lo h
    exact pg_tup hc p1 p2 p3
  · cases h
theorem tg_plain {tg : Expr} {js : List Nat} (h : tgSlots c sc tg = some js) : isTup tg = true ∨ ∃ j, js = [j] := by
  unfold tgSlots at h
  split at h
  · obtain ⟨j, h1, rfl⟩ := Option.map_eq_some_iff.mp h
    exact .inr ⟨_, rfl⟩
  · exact .inl rfl
  · cases h
end

/-! ### slots -/
section
variable {K : PySem.W.Frag} {Γ : En} {F : Fz} {μ : Mu} {H : Hp} {σ : Sg} {env : Env} {st : S}
theorem get_set_ne {α : Type} {l : List (Option α)} {i j : Nat} {a : α} {b : Option α} (h : (l.set j b)[i]? = some (some a)) (hb : b = none) : l[i]? = some (some a) ∧ i ≠ j := by
  subst hb
  by_cases e : i = j
  · subst e
    rw [List.getElem?_set] at h
    simp at h
  · rw [List.getElem?_set_ne (Ne.symm e)] at h
    exact ⟨h, e⟩
theorem EnvR.setFrz (n : EnvR K Γ F μ H σ env) {j : Nat} {d : D} {v : V} (r : Rp K Γ.ν F μ H d v) : EnvR K Γ F μ H (σ.set j (some v)) (env.set j (some (.frz d))) where
  len := by rw [List.length_set, List.length_set]; exact n.len
  frz := fun i e h => by
    by_cases q : j = i
    · subst q
      by_cases lt : j < env.length
      · rw [List.getElem?_set_self lt] at h
        cases h
        exact ⟨v, by rw [List.getElem?_set_self (by rw [n.len]; exact lt)], r⟩
      · rw [List.getElem?_eq_none (by rw [List.length_set]; omega)] at h
        cases h
    · rw [List.getElem?_set_ne q] at h ⊢
      exact n.frz i e h
  own := fun i e h => by
    have q : j ≠ i := fun q => by
      subst q
      by_cases lt : j < env.length
      · rw [List.getElem?_set_self lt] at h; cases h
      · rw [List.getElem?_eq_none (by rw [List.length_set]; omega)] at h
        cases h
    rw [List.getElem?_set_ne q] at h ⊢
    exact n.own i e h
  dis := fun i k d1 d2 w h1 h2 h3 h4 => by
    have ne : ∀ {i : Nat} {e : D} , (env.set j (some (SV.frz d)))[i]? = some (some (SV.own e)) → j ≠ i := fun {i e} h q => by
      subst q
      by_cases lt : j < env.length
      · rw [List.getElem?_set_self lt] at h; cases h
      · rw [List.getElem?_eq_none (by rw [List.length_set]; omega)] at h
        cases h
    have n1 := ne h1
    have n2 := ne h2
    rw [List.getElem?_set_ne n1] at h1 h3
    rw [List.getElem?_set_ne n2] at h2 h4
    exact n.dis i k d1 d2 w h1 h2 h3 h4
  fn := fun i g h => by
    have q : j ≠ i := fun q => by
      subst q
      by_cases lt : j < env.length
      · rw [List.getElem?_set_self lt] at h; cases h
      · rw [List.getElem?_eq_none (by rw [List.length_set]; omega)] at h
        cases h
    rw [List.getElem?_set_ne q] at h ⊢
    exact n.fn i g h
theorem EnvR.setFn (n : EnvR K Γ F μ H σ env) {j : Nat} {g : Str} : EnvR K Γ F μ H (σ.set j (some (.ref (He.ga K g)))) (env.set j (some (.fn g))) where
  len := by rw [List.length_set, List.length_set]; exact n.len
  frz := fun i e h => by
    have q : j ≠ i := fun q => by
      subst q
      by_cases lt : j < env.length
      · rw [List.getElem?_set_self lt] at h; cases h
      · rw [List.getElem?_eq_none (by rw [List.length_set]; omega)] at h
        cases h
    rw [List.getElem?_set_ne q] at h ⊢
    exact n.frz i e h
  own := fun i e h => by
    have q : j ≠ i := fun q => by
      subst q
      by_cases lt : j < env.length
      · rw [List.getElem?_set_self lt] at h; cases h
      · rw [List.getElem?_eq_none (by rw [List.length_set]; omega)] at h
        cases h
    rw [List.getElem?_set_ne q] at h ⊢
    exact n.own i e h
  dis := fun i k d1 d2 w h1 h2 h3 h4 => by
    have ne : ∀ {i : Nat} {e : D} , (env.set j (some (SV.fn g)))[i]? = some (some (SV.own e)) → j ≠ i := fun {i e} h q => by
      subst q
      by_cases lt : j < env.length
      · rw [List.getElem?_set_self lt] at h; cases h
      · rw [List.getElem?_eq_none (by rw [List.length_set]; omega)] at h
        cases h
    have n1 := ne h1
    have n2 := ne h2
    rw [List.getElem?_set_ne n1] at h1 h3
    rw [List.getElem?_set_ne n2] at h2 h4
    exact n.dis i k d1 d2 w h1 h2 h3 h4
  fn := fun i e h => by
    by_cases q : j = i
    · subst q
      by_cases lt : j < env.length
      · rw [List.getElem?_set_self lt] at h
        cases h
        rw [List.getElem?_set_self (by rw [n.len]; exact lt)]
      · rw [List.getElem?_eq_none (by rw [List.length_set]; omega)] at h
        cases h
    · rw [List.getElem?_set_ne q] at h ⊢
      exact n.fn i e h
theorem EnvR.unset (n : EnvR K Γ F μ H σ env) {j : Nat} : EnvR K Γ F μ H (σ.set j none) (env.set j none) where
  len := by rw [List.length_set, List.length_set]; exact n.len
  frz := fun i e h => by
    obtain ⟨h1, h2⟩ := get_set_ne h rfl
    rw [List.getElem?_set_ne (Ne.symm h2)]
    exact n.frz i e h1
  own := fun i e h => by
    obtain ⟨h1, h2⟩ := get_set_ne h rfl
    rw [List.getElem?_set_ne (Ne.symm h2)]
    exact n.own i e h1
  dis := fun i k d1 d2 w h1 h2 h3 h4 => by
    obtain ⟨g1, n1⟩ := get_set_ne h1 rfl
    obtain ⟨g2, n2⟩ := get_set_ne h2 rfl
    rw [List.getElem?_set_ne (Ne.symm n1)] at h3
    rw [List.getElem?_set_ne (Ne.symm n2)] at h4
    exact n.dis i k d1 d2 w g1 g2 h3 h4
  fn := fun i g h => by
    obtain ⟨h1, h2⟩ := get_set_ne h rfl
    rw [List.getElem?_set_ne (Ne.symm h2)]
    exact n.fn i g h1
theorem EnvR.wipe (n : EnvR K Γ F μ H σ env) : ∀ vs : List Nat, EnvR K Γ F μ H (L2.wipe σ vs) (wipeE env vs)
  | [] => n
  | v :: vs => (EnvR.wipe n vs).unset
theorem wipeE_some {env : Env} {i : Nat} {x : SV} : ∀ {vs : List Nat}, (wipeE env vs)[i]? = some (some x) → env[i]? = some (some x) ∧ i ∉ vs
  | [], h => ⟨h, by simp⟩
  | v :: vs, h => by
    obtain ⟨h1, h2⟩ := get_set_ne h rfl
    obtain ⟨h3, h4⟩ := wipeE_some h1
    exact ⟨h3, by simp only [List.mem_cons, not_or]; exact ⟨h2, h4⟩⟩
theorem wipe_get {σ : Sg} {i : Nat} : ∀ {vs : List Nat}, (L2.wipe σ vs)[i]? = if i ∈ vs then (if i < σ.length then some none else none) else σ[i]?
  | [] => by simp [L2.wipe]
  | v :: vs => by
    unfold L2.wipe
    rw [List.getElem?_set, wipe_length]
    by_cases e : v = i
    · subst e
      simp
    · rw [if_neg e, wipe_get]
      have : (i ∈ v :: vs) ↔ i ∈ vs := by simp [Ne.symm e]
      simp only [this]
theorem wipe_eq {σ σ' : Sg} {vs : List Nat} (hl : σ'.length = σ.length) (h : ∀ i, i ∉ vs → σ'[i]? = σ[i]?) : L2.wipe σ' vs = L2.wipe σ vs := by
  apply List.ext_getElem?
  intro i
  rw [wipe_get, wipe_get, hl]
  by_cases e : i ∈ vs
  · rw [if_pos e, if_pos e]
  · rw [if_neg e, if_neg e]; exact h i e
/-- names stored, one by one -/
theorem setE_ok : ∀ {js : List Nat} {ds : List D} {vs : List V} {σ : Sg} {env env1 : Env}, EnvR K Γ F μ H σ env → RpAll K Γ.ν F μ H ds vs → setE env js ds = some env1 →
    EnvR K Γ F μ H (setV σ js vs) env1 ∧ vs.length = js.length ∧ (setV σ js vs).length = σ.length ∧ ∀ i, i ∉ js → (setV σ js vs)[i]? = σ[i]?
  | [], [], _, σ, env, env1, n, .nil, e => by cases e; exact ⟨n, rfl, rfl, fun _ _ => rfl⟩
  | [], _ :: _, _, _, _, _, _, _, e => by cases e
  | _ :: _, [], _, _, _, _, _, _, e => by cases e
  | j :: js, d :: ds, v :: vs, σ, env, env1, n, .cons h r, e => by
    obtain ⟨h1, h2, h3, h4⟩ := setE_ok (n.setFrz (j := j) h) r e
    refine ⟨h1, by simp [h2], by rw [setV, h3, List.length_set], fun i hi => ?_⟩
    simp only [List.mem_cons, not_or] at hi
    rw [setV, h4 i hi.2, List.getElem?_set_ne (Ne.symm hi.1)]
theorem asg_ok {tg : Expr} {js : List Nat} {d : D} {x : V} {H' : Hp} {env1 : Env} (rel : Rel K Γ F μ H σ env st) (it : ItemR K Γ.ν F μ H tg d x H') (e : asg (isTup tg) js d env = some env1) :
    ∃ σ1, Stp F μ H F μ H' ∧ Rel K Γ F μ H' σ1 env1 st ∧ (∀ Q : Sg → Hp → Prop, Q σ1 H' → gT K (isTup tg) js x σ H' Q) ∧ σ1.length = σ.length ∧ ∀ i, i ∉ js → σ1[i]? = σ[i]? := by
  unfold asg at e
  by_cases ht : isTup tg = true
  · rw [if_pos ht] at e
    cases d with
    | tuple ds =>
      have key : ∃ T xs, x = .ref T ∧ Stp F μ H F μ H' ∧ Rel K Γ F μ H' σ env st ∧ SqT K H' T xs ∧ RpAll K Γ.ν F μ H' ds xs := by
        rcases it with ⟨rfl, r⟩ | ⟨_, T, ds', xs, o, e1, rfl, e3, rfl, e5, e6⟩
        · cases r with
          | tup h1 h2 => exact ⟨_, _, rfl, .refl _ _ _, rel, h1.seq, h2⟩
        · cases e1
          exact ⟨T, xs, rfl, stp_new e3, rel.new e3, e5, e6.keep (keep_new e3 rel.hr.fT)⟩
      obtain ⟨T, xs, rfl, s1, rel1, sq, rs⟩ := key
      obtain ⟨h1, h2, h3, h4⟩ := setE_ok rel1.en rs e
      refine ⟨_, s1, ⟨rel1.sp, rel1.hr, h1⟩, fun Q q => ?_, h3, h4⟩
      unfold gT
      rw [if_pos ht]
      exact ⟨T, xs, rfl, sq, h2, h2, q⟩
    | _ => cases e
  · rw [if_neg ht] at e
    split at e
    · rename_i j
      cases e
      rcases it with ⟨rfl, r⟩ | ⟨h, _⟩
      · refine ⟨_, .refl _ _ _, ⟨rel.sp, rel.hr, rel.en.setFrz r⟩, fun Q q => ?_, List.length_set, fun i hi => ?_⟩
        · unfold gT
          rw [if_neg ht]
          exact ⟨j, rfl, q⟩
        · simp only [List.mem_singleton] at hi
          rw [List.getElem?_set_ne (Ne.symm hi)]
      · exact absurd h ht
    · cases e
/-- what a walk leans on, read again -/
theorem src_vw {σ' : Sg} {env' : Env} (rel : Rel K Γ F μ H σ' env' st) (hs : ∀ (j : Nat) (d : D), env'[j]? = some (some (SV.own d)) → σ'[j]? = σ[j]?) : ∀ {deps : List (Op × D)} {avs : List V}, ROs K Γ.ν F μ H σ env (deps.map (·.1)) avs →
    (deps.all fun p => match view env' st p.1 with | some d => same d p.2 | none => false) = true → VwA K Γ.ν F μ H (deps.map (·.2)) avs
  | [], _, .nil, _ => .nil
  | (p, d) :: deps, _, .cons (v := v) h r, ok => by
    rw [List.all_cons, Bool.and_eq_true] at ok
    obtain ⟨o1, o2⟩ := ok
    refine .cons ?_ (src_vw rel hs r o2)
    cases q : view env' st p with
    | none => simp only [q] at o1; cases o1
    | some d' =>
      simp only [q] at o1
      have := same_eq _ _ o1
      subst this
      refine vw_of rel ?_ q
      cases p with
      | v e => exact h
      | o j =>
        obtain ⟨_, h2⟩ := (show (∃ d, env[j]? = some (some (SV.own d))) ∧ σ[j]? = some (some v) from h)
        have : ∃ d, env'[j]? = some (some (SV.own d)) := by
          unfold view at q
          simp only at q
          split at q
          · rename_i d e; exact ⟨d, e⟩
          · cases q
        obtain ⟨d, hd⟩ := this
        exact ⟨⟨d, hd⟩, by rw [hs j d hd]; exact h2⟩
/-- a list that the relation does not speak of is written -/
theorem Rel.poke {A : Addr} {u : HO} (r : Rel K Γ F μ H σ env st) (hF : ¬ F A) (hm : ∀ i, μ i ≠ some A) (ho : ∀ (j : Nat) (d : D), env[j]? = some (some (SV.own d)) → σ[j]? ≠ some (some (.ref A))) (hG : Γ.H A = none) (hz : ∀ o w, H A ≠ some (.frz o w)) :
    Rel K Γ F μ (upd H A u) σ env st ∧ Keep F μ H F μ (upd H A u) := by
  have kp : Keep F μ H F μ (upd H A u) := by
    refine ⟨fun _ h => h, fun _ _ h => h, fun a o w e => ?_, fun a f => upd_ne fun e => hF (e ▸ f)⟩
    rw [upd_ne fun q => by subst q; exact hz _ _ e]
    exact e
  refine ⟨⟨?_, ?_, ?_⟩, kp⟩
  · refine ⟨fun a o e n => ?_, fun a e => ?_, r.sp.fs, r.sp.fn, r.sp.ms, r.sp.mn⟩
    · rw [upd_ne fun q => by subst q; rw [hG] at e; cases e]
      exact r.sp.fr a o e n
    · by_cases q : a = A
      · subst q; exact absurd hG e
      · rw [upd_ne q]; exact r.sp.tr a e
  · refine ⟨fun a f => by
      have q : a ≠ A := fun e => hF (e ▸ f)
      rw [upd_ne q]; exact r.hr.fT a f, r.hr.mF, r.hr.mT, r.hr.nT, r.hr.mI, fun i ns e => ?_, fun i o e n => ?_⟩
    · obtain ⟨h1, a, h2, h3⟩ := r.hr.sc i ns e
      exact ⟨h1, a, h2, h3.keep kp⟩
    · obtain ⟨h1, a, h2, h3⟩ := r.hr.ob i o e n
      exact ⟨h1, a, h2, h3.move kp (upd_ne fun q => hm i (q ▸ h2))⟩
  · refine ⟨r.en.len, fun j d e => ?_, fun j d e => ?_, r.en.dis, r.en.fn⟩
    · obtain ⟨v, h1, h2⟩ := r.en.frz j d e
      exact ⟨v, h1, h2.keep kp⟩
    · obtain ⟨a, h1, h2, h3, h4, h5⟩ := r.en.own j d e
      exact ⟨a, h1, h2.move kp (upd_ne fun q => ho j d e (q ▸ h1)), h3, h4, h5⟩
theorem stp_poke {F0 : Fz} {μ0 : Mu} {H0 : Hp} {A : Addr} {u : HO} (s : Stp F0 μ0 H0 F μ H) (n : H0 A = none) : Stp F0 μ0 H0 F μ (upd H A u) := by
  refine ⟨fun a o e k => ?_, fun a e => ?_, s.fs, s.fn, s.ms, s.mn⟩
  · rw [upd_ne fun q => by subst q; rw [n] at e; cases e]
    exact s.fr a o e k
  · by_cases q : a = A
    · subst q; exact absurd n e
    · rw [upd_ne q]; exact s.tr a e
end
end Pz

/-! Pz10: comprehensions; the whole of an expression. -/
namespace Pz
open PySem PySem.Spec PyProof.Rows L2 RZ

theorem relS_lookup {scope sc : Scope} {x : Str} {k : NameKind} (h : scope.names.lookup x = some k) (hk : k ≠ .free) : (relS scope sc).names.lookup x = some k := by
  unfold relS
  revert h
  show scope.names.lookup x = some k → List.lookup x (scope.names.map _) = some k
  induction scope.names with
  | nil => intro h; cases h
  | cons y r ih =>
    obtain ⟨n, k0⟩ := y
    intro h
    rw [List.lookup_cons] at h
    rw [List.map_cons]
    cases hx : x == n with
    | true =>
      rw [hx] at h
      have h : k0 = k := by simpa using h
      subst h
      have : ¬ ((k0 == NameKind.free && sc.kind == .function && sc.names.lookup n == some .cell) = true) := fun e => by
        simp only [Bool.and_eq_true] at e
        exact hk (by simpa using e.1.1)
      simp only [this]
      simp [List.lookup_cons, hx]
    | false =>
      rw [hx] at h
      have h : r.lookup x = some k := by simpa using h
      show List.lookup x ((if (k0 == NameKind.free && sc.kind == .function && sc.names.lookup n == some .cell) = true then (n, NameKind.cell) else (n, k0)) :: List.map _ r) = some k
      by_cases hc : (k0 == NameKind.free && sc.kind == .function && sc.names.lookup n == some .cell) = true
      · rw [if_pos hc]; simp only [List.lookup_cons, hx]; exact ih h
      · rw [if_neg hc]; simp only [List.lookup_cons, hx]; exact ih h
theorem locB {X : Cx} {c : Cfg} {k : Nat} (ok : Ok X c k) (s : Shared) (H : Hp) (scope : Scope) (C : Addr) (cl : List (Str × Addr)) (fp : List Addr) : LocOk (X.blk s H scope (compEnvC scope cl C X.env) fp) c scope where
  n := ok.n
  nd := ok.nd
  loc := fun x j h => by
    obtain ⟨_, h2⟩ := loc_ok h
    show Loc (relS scope X.env.scope) x ∧ ((scope.names.lookup x == some .cell) = true ∨ (relS scope X.env.scope).names.lookup x = some .local)
    rcases h2 with h2 | h2
    · have := relS_lookup (sc := X.env.scope) h2 (by decide)
      exact ⟨.inl this, .inr this⟩
    · have := relS_lookup (sc := X.env.scope) h2 (by decide)
      exact ⟨.inr this, .inl (by rw [h2]; rfl)⟩
theorem pts_imp {X : Cx} {es : List Expr} {t t' : TT} (h : PTs X es t) (i : ∀ σ H Q, t' σ H Q → t σ H Q) : PTs X es t' := ⟨fun pins s σ H Q I q => h.run pins s σ H Q I (i σ H Q q)⟩
theorem pts_M {X : Cx} {c : Cfg} {L : Lv} {k : Nat} (hL : LvOk c L k) (ok : Ok X c k) (Γ : En) : ∀ ifs : List Expr, PTs X ifs (tMT X.K Γ (testsM L X.env.scope ifs))
  | [] => pts_imp pts_nil fun σ H Q ⟨F, μ, env, st, b, st', rel, e, q⟩ => by
    obtain ⟨rfl, rfl⟩ := ret_some e
    exact q F μ H (.refl _ _ _) rel
  | [e] => pts_one (hL.t X Γ e ok)
  | _ :: _ :: _ => ⟨fun pins s σ H Q I ⟨F, μ, env, st, b, st', rel, e, q⟩ => by cases e⟩

section
variable {X : Cx} {c : Cfg} {L : Lv} {k : Nat}
theorem comp_core (Γ : En) {elt tg : Expr} {ifs : List Expr} {scope : Scope} {js vs : List Nat} {σ : Sg} {H1 : Hp} {Q : VK} {F1 : Fz} {μ1 : Mu} {env : Env} {st1 st2 : S} {s : Src} {J : It} {ds : List D}
    (rel1 : Rel X.K Γ F1 μ1 H1 σ env st1) (sub : ∀ j, j ∉ vs → j ∉ js)
    (jk : ∀ Fc μc Hc stc, Stp F1 μ1 H1 Fc μc Hc → Rel X.K Γ Fc μc Hc (L2.wipe σ vs) (wipeE env vs) stc → s.ok (wipeE env vs) stc = true → ∀ i, (∀ d, s.items[i]? = some d → J.go i Hc ∧ ∀ x H', J.yld i Hc x H' → ItemR X.K Γ.ν Fc μc Hc tg d x H') ∧ (s.items.length ≤ i → J.stop i Hc))
    (e2 : compLoop s (wipeE env vs) (fun d => asg (isTup tg) js d (wipeE env vs)) (testsM L (relS scope X.env.scope) ifs) (L.x (relS scope X.env.scope) elt) s.items [] st1 = some (ds, st2))
    (q : ∀ v F' μ' H', Stp F1 μ1 H1 F' μ' H' → HR X.K Γ.ν F' μ' H' st2 → RX X.K Γ.ν F' μ' H' H1 (.list ds, true) v → Q v H') {A : Addr} (hA : H1 A = none) :
    ∃ W : Nat → Nat → Hp → Prop, (∃ m, W 0 m (upd H1 A (.lst []))) ∧ ∀ i m H, W i m H →
      (J.stop i H ∧ Q (.ref A) H) ∨ (J.go i H ∧ ∃ Nx : Hp → Prop, (∀ H', Nx H' → ∃ m', m' < m ∧ W (i + 1) m' H') ∧ ∀ x H', J.yld i H x H' → gT X.K (isTup tg) js x (L2.wipe σ vs) H' fun σ2 H2 => L2.wipe σ2 vs = L2.wipe σ vs ∧ tMT X.K Γ (testsM L (relS scope X.env.scope) ifs) σ2 H2 fun b H3 =>
        if b = true then tM X.K Γ (rX X.K Γ) (L.x (relS scope X.env.scope) elt) σ2 H3 fun y H4 => ∃ acc, H4 A = some (.lst acc) ∧ acc.length < sizeLine ∧ Nx (upd H4 A (.lst (acc ++ [y]))) else Nx H3) := by
  -- own slots are not A
  have ownA : ∀ (j : Nat) (d : D), (wipeE env vs)[j]? = some (some (SV.own d)) → (L2.wipe σ vs)[j]? ≠ some (some (.ref A)) := fun j d h1 h2 => by
    obtain ⟨h1, _⟩ := wipeE_some h1
    obtain ⟨h2, _⟩ := wipe_some h2
    obtain ⟨a, h3, h4, _⟩ := rel1.en.own j d h1
    rw [h2] at h3
    cases h3
    exact h4.tr hA
  have hGA : Γ.H A = none := untr rel1.sp.tr hA
  have nF1 : ¬ F1 A := fun f => rel1.hr.fT A f hA
  have nM1 : ∀ i, μ1 i ≠ some A := fun i e => by
    obtain ⟨u, e1, _⟩ := rel1.hr.wr e
    rw [hA] at e1; cases e1
  let W : Nat → Nat → Hp → Prop := fun i m Hc => ∃ Fc μc stc acc vacc, m = (s.items.drop i).length ∧ Hc A = some (.lst vacc) ∧ RpAll X.K Γ.ν Fc μc Hc acc vacc ∧ ¬ Fc A ∧ (∀ j, μc j ≠ some A) ∧ Stp F1 μ1 H1 Fc μc Hc ∧ Rel X.K Γ Fc μc Hc (L2.wipe σ vs) (wipeE env vs) stc ∧
    compLoop s (wipeE env vs) (fun d => asg (isTup tg) js d (wipeE env vs)) (testsM L (relS scope X.env.scope) ifs) (L.x (relS scope X.env.scope) elt) (s.items.drop i) acc stc = some (ds, st2)
  refine ⟨W, ⟨_, F1, μ1, st1, [], [], rfl, upd_same, .nil, nF1, nM1, stp_new hA, ?_, ?_⟩, ?_⟩
  · have r2 := rel1.new (o := .lst []) hA
    exact ⟨r2.sp, r2.hr, r2.en.wipe vs⟩
  · rw [List.drop_zero]; exact e2
  rintro i m Hc ⟨Fc, μc, stc, acc, vacc, rfl, hz, racc, nF, nM, sp, relc, ec⟩
  cases hd : s.items.drop i with
  | nil =>
    rw [hd] at ec
    have ec : (if s.ok (wipeE env vs) stc = true then some (acc, stc) else none) = some (ds, st2) := ec
    by_cases ok : s.ok (wipeE env vs) stc = true
    · rw [if_pos ok] at ec
      cases ec
      have hle : s.items.length ≤ i := List.drop_eq_nil_iff.mp hd
      refine .inl ⟨(jk Fc μc Hc _ sp relc ok i).2 hle, ?_⟩
      exact q (.ref A) Fc μc Hc sp relc.hr ⟨A, rfl, ⟨vacc, hz, racc⟩, nF, nM, hA⟩
    · rw [if_neg ok] at ec; cases ec
  | cons d rest =>
    rw [hd] at ec
    unfold compLoop at ec
    by_cases ok : s.ok (wipeE env vs) stc = true
    case neg => simp only [ok] at ec; cases ec
    simp only [ok, if_true] at ec
    have hi : s.items[i]? = some d := by
      have := congrArg List.head? hd
      rwa [List.head?_drop] at this
    have hr : s.items.drop (i + 1) = rest := by
      rw [← List.drop_drop, hd]
      rfl
    cases ha : asg (isTup tg) js d (wipeE env vs) with
    | none => rw [ha] at ec; cases ec
    | some env1 =>
    rw [ha] at ec
    simp only at ec
    obtain ⟨go, yl⟩ := (jk Fc μc Hc stc sp relc ok i).1 d hi
    refine .inr ⟨go, W (i + 1) rest.length, fun H' w => ⟨rest.length, by simp, w⟩, fun x H' y => ?_⟩
    obtain ⟨σ1, sp1, rel2, hg, hl, hag⟩ := asg_ok relc (yl x H' y) ha
    refine hg _ ⟨?_, ?_⟩
    · refine wipe_eq (by rw [hl, wipe_length]) fun j hj => ?_
      rw [hag j (sub j hj), wipe_get, if_neg hj]
    · have step : ∀ F3 μ3 H3 st3, Stp Fc μc Hc F3 μ3 H3 → Rel X.K Γ F3 μ3 H3 σ1 env1 st3 → ∀ acc3 vacc3, H3 A = some (.lst vacc) → RpAll X.K Γ.ν F3 μ3 H3 acc3 vacc3 →
          compLoop s (wipeE env vs) (fun d => asg (isTup tg) js d (wipeE env vs)) (testsM L (relS scope X.env.scope) ifs) (L.x (relS scope X.env.scope) elt) rest acc3 st3 = some (ds, st2) → ∀ H4, (H4 = H3 ∧ vacc3 = vacc) ∨ H4 = upd H3 A (.lst vacc3) → W (i + 1) rest.length H4 := fun F3 μ3 H3 st3 s3 rel3 acc3 vacc3 hz3 r3 ec3 H4 h4 => by
        have nF3 : ¬ F3 A := fun f => (s3.fn A f).elim nF fun q => by rw [hz] at q; cases q
        have nM3 : ∀ j, μ3 j ≠ some A := fun j e => (s3.mn j A e).elim (nM j) fun q => by rw [hz] at q; cases q
        have relw := relc.step s3 rel3.hr
        rcases h4 with ⟨rfl, rfl⟩ | rfl
        · exact ⟨F3, μ3, st3, acc3, vacc3, by rw [hr], hz3, r3, nF3, nM3, sp.trans s3, relw, by rw [hr]; exact ec3⟩
        · obtain ⟨r5, k5⟩ := relw.poke (u := .lst vacc3) nF3 nM3 ownA hGA (fun o w e => by rw [hz3] at e; cases e)
          refine ⟨F3, μ3, st3, acc3, vacc3, by rw [hr], upd_same, r3.keep k5, nF3, nM3, ?_, r5, by rw [hr]; exact ec3⟩
          have s5 := sp.trans s3
          refine ⟨fun a o e n => ?_, fun a e => ?_, s5.fs, s5.fn, s5.ms, s5.mn⟩
          · rw [upd_ne fun q => by subst q; rw [hA] at e; cases e]
            exact s5.fr a o e n
          · by_cases q : a = A
            · subst q; exact absurd hA e
            · rw [upd_ne q]; exact s5.tr a e
      have onA : ∀ F3 μ3 H3, Stp Fc μc Hc F3 μ3 H3 → H3 A = some (.lst vacc) := fun F3 μ3 H3 s3 => s3.fr A _ hz nM
      cases ht : testsM L (relS scope X.env.scope) ifs env1 stc with
      | none => rw [ht] at ec; cases ec
      | some p =>
        obtain ⟨b, st3⟩ := p
        rw [ht] at ec
        refine ⟨Fc, μc, env1, stc, b, st3, rel2, ht, fun F3 μ3 H3 s3 rel3 => ?_⟩
        have s13 := sp1.trans s3
        cases b with
        | false => exact step F3 μ3 H3 st3 s13 rel3 acc vacc (onA _ _ _ s13) (racc.keep (relc.keep s13)) ec H3 (.inl ⟨rfl, rfl⟩)
        | true =>
          simp only at ec
          by_cases hlen : acc.length < line
          case neg => rw [if_neg hlen] at ec; cases ec
          rw [if_pos hlen] at ec
          cases he : L.x (relS scope X.env.scope) elt env1 st3 with
          | none => rw [he] at ec; cases ec
          | some p =>
            obtain ⟨p, st4⟩ := p
            rw [he] at ec
            refine ⟨F3, μ3, env1, st3, p, st4, rel3, he, fun v F4 μ4 H4 s4 rel4 rx => ?_⟩
            obtain ⟨F5, s5, rel5, rp⟩ := rx.frz rel3 s4 rel4
            have s15 := s13.trans s5
            have hzl : vacc.length < sizeLine := by rw [← racc.length, ← line_eq]; exact hlen
            exact ⟨vacc, onA _ _ _ s15, hzl, step F5 μ4 H4 st4 s15 rel5 (acc ++ [p.1]) (vacc ++ [v]) (onA _ _ _ s15) ((racc.keep (relc.keep s15)).append (.cons rp .nil)) ec _ (.inr rfl)⟩
/-- the comprehension's own word -/
theorem comp_word (Γ : En) {elt tg iter : Expr} {ifs : List Expr} {scope : Scope} {js : List Nat} (hjs : tgSlots c scope tg = some js)
    {σ : Sg} {H : Hp} {Q : VK} (h : tM X.K Γ (rX X.K Γ) (compX1 c L X.env.scope elt tg iter ifs scope) σ H Q) :
    tLc (tSrc X.K Γ tg (srcOf L X.env.scope tg iter)) (gT X.K (isTup tg) js) (tMT X.K Γ (testsM L (relS scope X.env.scope) ifs)) (tM X.K Γ (rX X.K Γ) (L.x (relS scope X.env.scope) elt)) ((ownOf c scope).map (·.2)) σ H Q := by
  obtain ⟨F, μ, env, st, r, st', rel, e, q⟩ := h
  unfold compX1 at e
  split at e
  case isFalse => cases e
  rename_i hblk
  obtain ⟨s, st1, e1, f1⟩ := bnd_some e
  simp only [hjs] at f1
  generalize hvs : (ownOf c scope).map (·.2) = vs at f1 ⊢
  by_cases hsub : js.all (fun j => (ownOf c scope).any fun p => p.2 == j) = true
  case neg => rw [if_neg hsub] at f1; cases f1
  rw [if_pos hsub] at f1
  have sub : ∀ j, j ∉ vs → j ∉ js := fun j hj hm => by
    have := List.all_eq_true.mp hsub j hm
    obtain ⟨p, hp, e⟩ := List.any_eq_true.mp this
    have e : p.2 = j := by simpa using e
    exact hj (by rw [← hvs]; exact List.mem_map.mpr ⟨p, hp, e⟩)
  obtain ⟨ds, st2, e2, f2⟩ := bnd_some f1
  obtain ⟨rfl, rfl⟩ := ret_some f2
  refine ⟨F, μ, env, st, s, st1, rel, e1, fun J F1 μ1 H1 avs s1 rel1 ros _ jok A hA => ?_⟩
  exact comp_core Γ rel1 sub (fun Fc μc Hc stc sp relc ok i => jok Fc μc Hc (src_vw relc (fun j d h => by
    obtain ⟨_, hn⟩ := wipeE_some h
    rw [wipe_get, if_neg hn]) (ros.keep (rel1.keep sp)) ok) i) e2 (fun v F' μ' H' sp hr rx => q v F' μ' H' (s1.trans sp) (rel1.step sp hr) (rx.back s1.tr)) hA
theorem src_set {sc : Scope} {tg iter : Expr} (h : isSet iter = true) (env : Env) (st : S) : srcOf L sc tg iter env st = none := by
  cases iter <;> first | (cases h; done) | (simp only [srcOf, ikOf, isSet]; rfl)
theorem pe_comp (hL : LvOk c L k) (ok : Ok X c k) (Γ : En) {elt tg iter : Expr} {ifs : List Expr} {scope : Scope} {pos : Pos} :
    PE X (.ListComp elt [⟨tg, iter, ifs, 0⟩] scope pos) (tM X.K Γ (rX X.K Γ) (compX1 c L X.env.scope elt tg iter ifs scope)) := by
  by_cases hb : blkC c.N X.env.scope scope (ownOf c scope) = true
  case neg => exact pe_none fun env st => by unfold compX1; rw [if_neg hb]; rfl
  by_cases hset : isSet iter = true
  · exact pe_none fun env st => by unfold compX1; rw [if_pos hb]; exact bnd_left (src_set hset env st)
  have hset' : isSet iter = false := by simpa using hset
  cases hj : tgSlots c scope tg with
  | none => exact pe_none fun env st => by unfold compX1; rw [if_pos hb]; simp only [hj]; exact bnd_none fun _ _ => rfl
  | some js =>
    exact (pe_lc (own := ownOf c scope) ok.calm ok.nd (pi_src hL ok Γ) (by rw [ok.n]; exact blkOk_by hb) (fun s H C cl fp => pg_T (X := X.blk s H scope (compEnvC scope cl C X.env) fp) ok.calm (locB ok s H scope C cl fp) hj)
      (fun s H C cl fp => pts_M hL (ok.blk s H scope (compEnvC scope cl C X.env) fp) Γ ifs) (fun s H C cl fp => hL.x (X.blk s H scope (compEnvC scope cl C X.env) fp) Γ elt (ok.blk s H scope (compEnvC scope cl C X.env) fp)) (set_false hset' X.env)).imp fun σ H Q h => comp_word Γ hj h

theorem key_rp {K : PySem.W.Frag} {ν : Mu} {F : Fz} {μ : Mu} {H : Hp} {q : D} {k : Key} (h : keyOf q = some k) : Rp K ν F μ H q (kV k) := by
  cases q with
  | int i => cases h; exact .int i
  | str x => cases h; exact .str x
  | _ => cases h
theorem KvAll.key {K : PySem.W.Frag} {ν : Mu} {F : Fz} {μ : Mu} {H : Hp} : ∀ {kvs : List (D × D)} {vs : List (Key × V)} {i : Nat} {q : D}, KvAll K ν F μ H kvs vs → (kvs.map (·.1))[i]? = some q → ∃ k v, vs[i]? = some (k, v) ∧ keyOf q = some k
  | _, _, _, _, .nil, e => by simp at e
  | _, _, 0, _, .cons h _ _, e => by cases e; exact ⟨_, _, rfl, h⟩
  | _, _, i + 1, _, .cons _ _ r, e => KvAll.key (i := i) r e
/-- an own dict is locked for good -/
theorem lock_ok {K : PySem.W.Frag} {Γ : En} {F : Fz} {μ : Mu} {H : Hp} {σ : Sg} {env : Env} {st : S} {j : Nat} {kvs : List (D × D)} (rel : Rel K Γ F μ H σ env st) (h2 : env[j]? = some (some (SV.own (.dict kvs)))) :
    ∃ a vs, σ[j]? = some (some (V.ref a)) ∧ H a = some (.dK vs) ∧ kvs.length = vs.length ∧ ∀ od, KvAll K Γ.ν (addF F a) μ (upd H a (.frz od (.dK vs))) kvs vs ∧ Keep F μ H (addF F a) μ (upd H a (.frz od (.dK vs))) ∧ Rel K Γ (addF F a) μ (upd H a (.frz od (.dK vs))) σ (env.set j (some (.frz (.dict kvs)))) st := by
  obtain ⟨a, h1, g2, g3, g4, g5⟩ := rel.en.own j _ h2
  obtain ⟨vs, e, r⟩ : ∃ vs, H a = some (.dK vs) ∧ KvAll K Γ.ν F μ H kvs vs := g2
  refine ⟨a, vs, h1, e, r.length, fun od => ?_⟩
  have setv : σ.set j (some (V.ref a)) = σ := by
    apply List.ext_getElem?
    intro i
    by_cases e : j = i
    · subst e
      obtain ⟨lt, _⟩ := List.getElem?_eq_some_iff.mp h1
      rw [List.getElem?_set_self lt, h1]
    · rw [List.getElem?_set_ne e]
  have r0 : Rel K Γ F μ H (σ.set j none) (env.set j none) st := ⟨rel.sp, rel.hr, rel.en.unset⟩
  have no : ∀ (i : Nat) (d : D), (env.set j none)[i]? = some (some (SV.own d)) → (σ.set j none)[i]? ≠ some (some (V.ref a)) := fun i d q z => by
    obtain ⟨q, hn⟩ := get_set_ne q rfl
    rw [List.getElem?_set_ne (Ne.symm hn)] at z
    exact hn (rel.en.dis i j d _ _ q h2 z h1)
  obtain ⟨r1, k1⟩ := r0.poke (u := .frz od (.dK vs)) g3 g4 no g5 (fun o w z => by rw [e] at z; cases z)
  have kp : Keep F μ (upd H a (.frz od (.dK vs))) (addF F a) μ (upd H a (.frz od (.dK vs))) := keep_frz
  have kv : KvAll K Γ.ν (addF F a) μ (upd H a (.frz od (.dK vs))) kvs vs := KvAll.keep (k1.trans kp) r
  have r2 : EnvR K Γ (addF F a) μ (upd H a (.frz od (.dK vs))) (σ.set j none) (env.set j none) := by
    refine ⟨r1.en.len, fun i e q => ?_, fun i e q => ?_, r1.en.dis, r1.en.fn⟩
    · obtain ⟨w, q1, q2⟩ := r1.en.frz i e q
      exact ⟨w, q1, q2.keep kp⟩
    · obtain ⟨b, q1, q2, q3, q4, q5⟩ := r1.en.own i e q
      exact ⟨b, q1, q2.move kp rfl, fun f => f.elim q3 fun z => no i e q (by rw [q1, z]), q4, q5⟩
  have r3 := r2.setFrz (j := j) (d := .dict kvs) (v := .ref a) (.dct (.inr rfl) (.inr ⟨od, upd_same⟩) kv)
  rw [List.set_set, List.set_set, setv] at r3
  exact ⟨kv, k1.trans kp, ⟨stp_frz r1.sp g5, r1.hr.freeze (Γ := Γ) (by rw [upd_same]; simp) g4, r3⟩⟩
section
variable {X : Cx} {c : Cfg} {L : Lv} {k : Nat}
/-- all([..]) over the keys of an own dict: locked meanwhile -/
theorem pe_allW (hL : LvOk c L k) (ok : Ok X c k) (Γ : En) {elt tg : Expr} {x : Str} {ifs : List Expr} {scope : Scope} {p px p2 pos : Pos} (hg : isGl X.env.scope ("all" : Str) = true) :
    PE X (.Call (.Name "all" p) [.ListComp elt [⟨tg, .Name x px, ifs, 0⟩] scope p2] [] pos) (tM X.K Γ (rX X.K Γ) (allW c L X.env.scope elt tg x ifs scope)) := by
  by_cases hb : blkC c.N X.env.scope scope (ownOf c scope) = true
  case neg => exact pe_none fun env st => by unfold allW; rw [if_neg hb]; rfl
  cases hj : tgSlots c scope tg with
  | none => exact pe_none fun env st => by unfold allW; rw [if_pos hb]; simp only [hj]; rfl
  | some js =>
  cases hs : slotOf c X.env.scope x with
  | none => exact pe_none fun env st => by unfold allW; rw [if_pos hb]; simp only [hj, hs]; rfl
  | some j =>
  obtain ⟨h1, h2, h3, h4⟩ := slot_ok hs
  obtain ⟨g1, g2, g3⟩ := gl_ok hg
  have red : CallR X (.builtin "all") (fun vs H Q => ∃ ds r, builtin "all" ds = some r ∧ rB X.K ds r vs H Q) := fun pins s σ H vs us Q I rv ⟨ds, r, h, q⟩ => by
    rcases ok_builtin ok.calm ok.gd ok.hu h with ⟨id, e, cr⟩ | ⟨T, e, cr⟩
    · cases e; exact cr pins s σ H vs us Q I rv q
    · cases e
  refine (pe_lock (pe_callB red g1 (ok.free _ (by decide +kernel)) rfl (pa_cons (pe_lc (own := ownOf c scope) (g := gT X.K (isTup tg) js) (tt := tMT X.K Γ (testsM L (relS scope X.env.scope) ifs)) (te := tM X.K Γ (rX X.K Γ) (L.x (relS scope X.env.scope) elt)) ok.calm ok.nd (pi_keys (pe_var (i := j) (by rw [ok.n]; exact h1) h2 h3 h4)) (by rw [ok.n]; exact blkOk_by hb)
    (fun s H C cl fp => pg_T (X := X.blk s H scope (compEnvC scope cl C X.env) fp) ok.calm (locB ok s H scope C cl fp) hj) (fun s H C cl fp => pts_M hL (ok.blk s H scope (compEnvC scope cl C X.env) fp) Γ ifs)
    (fun s H C cl fp => hL.x (X.blk s H scope (compEnvC scope cl C X.env) fp) Γ elt (ok.blk s H scope (compEnvC scope cl C X.env) fp))) pa_nil) g3 g2)).imp fun σ H Q ⟨F, μ, env, st, r, st', rel, e, q⟩ => ?_
  unfold allW at e
  rw [if_pos hb] at e
  simp only [hj, hs] at e
  by_cases hsub : js.all (fun j => (ownOf c scope).any fun p => p.2 == j) = true
  case neg => rw [if_neg hsub] at e; cases e
  rw [if_pos hsub] at e
  have sub : ∀ j, j ∉ (ownOf c scope).map (·.2) → j ∉ js := fun j hj hm => by
    have := List.all_eq_true.mp hsub j hm
    obtain ⟨p, hp, e⟩ := List.any_eq_true.mp this
    have e : p.2 = j := by simpa using e
    exact hj (List.mem_map.mpr ⟨p, hp, e⟩)
  generalize (ownOf c scope).map (·.2) = vs0 at e sub ⊢
  obtain ⟨kvs, hown, e2⟩ : ∃ kvs, env[j]? = some (some (SV.own (.dict kvs))) ∧ (bnd (compLoop ⟨kvs.map (·.1), []⟩ (wipeE (env.set j (some (.frz (.dict kvs)))) vs0) (fun d => asg (isTup tg) js d (wipeE (env.set j (some (.frz (.dict kvs)))) vs0)) (testsM L (L2.relS scope X.env.scope) ifs) (L.x (L2.relS scope X.env.scope) elt) (kvs.map (·.1)) []) fun ds st =>
        if st.isEmpty = true then lift (builtin "all" [.list ds]) st else none) st = some (r, st') := by
    cases g : env[j]? with
    | none => simp only [g] at e; cases e
    | some o =>
      cases o with
      | none => simp only [g] at e; cases e
      | some sv =>
        cases sv with
        | frz d => simp only [g] at e; cases e
        | fn w => simp only [g] at e; cases e
        | own d =>
          cases d with
          | dict kvs => simp only [g] at e; exact ⟨kvs, rfl, e⟩
          | _ => simp only [g] at e; cases e
  obtain ⟨ds, st2, e3, f2⟩ := bnd_some e2
  by_cases hz0 : st2.isEmpty = true
  case neg => rw [if_neg hz0] at f2; cases f2
  rw [if_pos hz0] at f2
  obtain ⟨f3, rfl⟩ := lift_some f2
  have hz0 : st2 = [] := by simpa using hz0
  subst hz0
  obtain ⟨b, hrb⟩ : ∃ b, r = (.bool b, false) := by
    have f3 : bAll [.list ds] = some r := f3
    unfold bAll at f3
    obtain ⟨bs, _, rfl⟩ := Option.map_eq_some_iff.mp f3
    exact ⟨_, rfl⟩
  subst hrb
  obtain ⟨a, vs, k1, k2, k3, k4⟩ := lock_ok rel hown
  obtain ⟨a', m1, _, m3, m4, _⟩ := rel.en.own j _ hown
  rw [k1] at m1
  cases m1
  refine ⟨a, .dK vs, k2, trivial, fun od => ?_⟩
  obtain ⟨kv, kp, rel1⟩ := k4 od
  refine ⟨.ref a, k1, a, od, rfl, .inl ⟨vs, upd_same, fun A hA => ?_⟩⟩
  refine comp_core (J := Itk a od vs) (Q := fun x H1 => ∃ ds r, builtin "all" ds = some r ∧ rB X.K ds r [x] H1 (fun v H' => H' a = some (.frz od (.dK vs)) ∧ Q v (upd H' a (.dK vs)))) Γ rel1 sub (fun Fc μc Hc stc sp relc _ i => ?_) e3 (fun v F' μ' H' sp hr rx => ?_) hA
  · have hz : Hc a = some (.frz od (.dK vs)) := (rel1.keep sp).z _ _ _ upd_same
    refine ⟨fun d hi => ?_, fun hle => ⟨hz, by rw [List.length_map] at hle; omega⟩⟩
    obtain ⟨kk, vv, hk1, hk2⟩ := kv.key hi
    refine ⟨⟨hz, (List.getElem?_eq_some_iff.mp hk1).1⟩, fun x H' y => ?_⟩
    obtain ⟨rfl, k', v', y1, rfl⟩ := y
    rw [hk1] at y1
    cases y1
    exact .inl ⟨rfl, key_rp hk2⟩
  · obtain ⟨b0, rfl, ⟨xs, o1, o2⟩, _, _, _⟩ := rx
    refine ⟨[.list ds], _, f3, Γ.ν, F', μ', .cons ⟨b0, xs, rfl, SqL.of o1, o2⟩ .nil, fun u H3 res => ?_⟩
    have hz : H' a = some (.frz od (.dK vs)) := (rel1.keep sp).z _ _ _ upd_same
    cases res with
    | old hu =>
      cases hu
      refine ⟨hz, ?_⟩
      have ne : ∀ y, H y ≠ none → y ≠ a → (upd H a (.frz od (.dK vs))) y = H y := fun y _ h => upd_ne h
      have s2 : Stp F μ H (fun y => F' y ∧ y ≠ a) μ' (upd H' a (.dK vs)) := by
        refine ⟨fun y o e n => ?_, fun y e => ?_, fun y f => ⟨sp.fs y (.inl f), fun z => m3 (z ▸ f)⟩, fun y f => ?_, sp.ms, fun i y e => ?_⟩
        · by_cases z : y = a
          · subst z; rw [k2] at e; cases e; exact upd_same
          · rw [upd_ne z]; exact sp.fr y o (by rw [upd_ne z]; exact e) n
        · by_cases z : y = a
          · subst z; rw [upd_same]; simp
          · rw [upd_ne z]; exact sp.tr y (by rw [upd_ne z]; exact e)
        · rcases sp.fn y f.1 with h | h
          · rcases h with h | h
            · exact .inl h
            · exact absurd h f.2
          · rw [upd_ne f.2] at h; exact .inr h
        · rcases sp.mn i y e with h | h
          · exact .inl h
          · by_cases z : y = a
            · subst z; rw [upd_same] at h; cases h
            · rw [upd_ne z] at h; exact .inr h
      have hr2 : HR X.K Γ.ν (fun y => F' y ∧ y ≠ a) μ' (upd H' a (.dK vs)) [] :=
        ⟨fun y f => by rw [upd_ne f.2]; exact hr.fT y f.1, fun i y e f => hr.mF i y e f.1, hr.mT, hr.nT, hr.mI, fun i ns e => by simp at e, fun i o e => by simp at e⟩
      exact q _ _ μ' _ s2 (rel.step s2 hr2) (.bl b)
end
section
variable {K : PySem.W.Frag} {Γ : En} {F : Fz} {μ : Mu} {H : Hp} {σ : Sg} {env : Env} {st : S}
/-- .. made an object of the small heap -/
def addM (μ : Mu) (n : Nat) (a : Addr) : Mu := fun i => if i = n then some a else μ i
theorem Rel.promoteO {F' : Fz} {μ' : Mu} {H' : Hp} {st' : S} {o0 : MO} {a : Addr} (r0 : Rel K Γ F μ H σ env st) (s : Stp F μ H F' μ' H') (r : Rel K Γ F' μ' H' σ env st') (ho : ∀ μ2, Keep F' μ' H' F' μ2 H' → OR K Γ.ν F' μ2 H' o0 a) (hns : ∀ ns, o0 ≠ .scr ns) (nF : ¬ F' a) (nM : ∀ i, μ' i ≠ some a) (hn : H a = none) :
    Rel K Γ F' (addM μ' st'.length a) H' σ env (st' ++ [o0]) ∧ Keep F' μ' H' F' (addM μ' st'.length a) H' ∧ Rp K Γ.ν F' (addM μ' st'.length a) H' (mkRef st'.length) (.ref a) := by
  have hG : Γ.H a = none := untr r0.sp.tr hn
  have ne : ∀ i b, μ' i = some b → i ≠ st'.length := fun i b e q => by have := r.hr.mT i b e; omega
  have old : ∀ i b, μ' i = some b → addM μ' st'.length a i = some b := fun i b e => by unfold addM; rw [if_neg (ne i b e)]; exact e
  have inv : ∀ i b, addM μ' st'.length a i = some b → (i = st'.length ∧ b = a) ∨ (i ≠ st'.length ∧ μ' i = some b) := fun i b e => by
    unfold addM at e
    by_cases q : i = st'.length
    · rw [if_pos q] at e; cases e; exact .inl ⟨q, rfl⟩
    · rw [if_neg q] at e; exact .inr ⟨q, e⟩
  have kp : Keep F' μ' H' F' (addM μ' st'.length a) H' := ⟨fun _ h => h, old, fun _ _ _ h => h, fun _ _ => rfl⟩
  have own_ne : ∀ (i : Nat) (d : D) (b : Addr), env[i]? = some (some (SV.own d)) → σ[i]? = some (some (.ref b)) → b ≠ a := fun i d b h1 h2 q => by
    subst q
    obtain ⟨b', g1, g2, _⟩ := r0.en.own i d h1
    rw [h2] at g1
    cases g1
    exact g2.tr hn
  refine ⟨⟨⟨r.sp.fr, r.sp.tr, r.sp.fs, r.sp.fn, fun i b e => old i b (r.sp.ms i b e), fun i b e => ?_⟩, ?_, ?_⟩, kp, .ref (.inl ?_)⟩
  · rcases inv i b e with ⟨_, rfl⟩ | ⟨_, e⟩
    · exact .inr hG
    · exact r.sp.mn i b e
  · refine ⟨r.hr.fT, fun i b e => ?_, fun i b e => ?_, fun i b e => ?_, fun i k b e1 e2 => ?_, fun i ns e => ?_, fun i o e n => ?_⟩
    · rcases inv i b e with ⟨_, rfl⟩ | ⟨_, e⟩
      · exact nF
      · exact r.hr.mF i b e
    · rw [List.length_append]
      rcases inv i b e with ⟨rfl, _⟩ | ⟨_, e⟩
      · simp
      · have := r.hr.mT i b e; simp; omega
    · have := r.hr.nT i b e
      rw [List.length_append]; omega
    · rcases inv i b e1 with ⟨rfl, rfl⟩ | ⟨_, e1⟩
      · rcases inv k b e2 with ⟨rfl, _⟩ | ⟨_, e2⟩
        · rfl
        · exact absurd e2 (nM k)
      · rcases inv k b e2 with ⟨_, q⟩ | ⟨_, e2⟩
        · subst q; exact absurd (by assumption) (nM i)
        · exact r.hr.mI i k b (by assumption) e2
    · rcases Nat.lt_or_ge i st'.length with q | q
      · rw [List.getElem?_append_left q] at e
        obtain ⟨h1, b, h2, h3⟩ := r.hr.sc i ns e
        refine ⟨?_, b, h2, h3⟩
        unfold addM
        rw [if_neg (by omega)]
        exact h1
      · rw [List.getElem?_append_right q] at e
        have : i - st'.length = 0 := by
          rcases Nat.eq_zero_or_pos (i - st'.length) with z | z
          · exact z
          · rw [List.getElem?_eq_none (by simp; omega)] at e; cases e
        rw [this] at e
        exact absurd (Option.some.inj e) (hns ns)
    · rcases Nat.lt_or_ge i st'.length with q | q
      · rw [List.getElem?_append_left q] at e
        obtain ⟨h1, b, h2, h3⟩ := r.hr.ob i o e n
        exact ⟨h1, b, old i b h2, h3.move kp rfl⟩
      · rw [List.getElem?_append_right q] at e
        have z : i - st'.length = 0 := by
          rcases Nat.eq_zero_or_pos (i - st'.length) with z | z
          · exact z
          · rw [List.getElem?_eq_none (by simp; omega)] at e; cases e
        have hi : i = st'.length := by omega
        subst hi
        rw [z] at e
        cases e
        refine ⟨?_, a, by unfold addM; rw [if_pos rfl], ho _ kp⟩
        cases q2 : Γ.ν st'.length with
        | none => rfl
        | some b => have := r.hr.nT _ _ q2; omega
  · refine ⟨r.en.len, fun i d e => ?_, fun i d e => ?_, r.en.dis, r.en.fn⟩
    · obtain ⟨v, h1, h2⟩ := r.en.frz i d e
      exact ⟨v, h1, h2.keep kp⟩
    · obtain ⟨b, h1, h2, h3, h4, h5⟩ := r.en.own i d e
      refine ⟨b, h1, h2.move kp rfl, h3, fun k q => ?_, h5⟩
      rcases inv k b q with ⟨_, rfl⟩ | ⟨_, q⟩
      · exact own_ne i d _ e h1 rfl
      · exact h4 k q
  · unfold addM; rw [if_pos rfl]
theorem Rel.promote {F' : Fz} {μ' : Mu} {H' : Hp} {st' : S} {ds : List D} {a : Addr} (r0 : Rel K Γ F μ H σ env st) (s : Stp F μ H F' μ' H') (r : Rel K Γ F' μ' H' σ env st') (ho : OwnAt K Γ.ν F' μ' H' (.list ds) a) (nF : ¬ F' a) (nM : ∀ i, μ' i ≠ some a) (hn : H a = none) :
    Rel K Γ F' (addM μ' st'.length a) H' σ env (st' ++ [.lst ds]) ∧ Keep F' μ' H' F' (addM μ' st'.length a) H' ∧ Rp K Γ.ν F' (addM μ' st'.length a) H' (mkRef st'.length) (.ref a) :=
  r0.promoteO s r (fun μ2 kp => by obtain ⟨xs, g1, g2⟩ := ho; exact .lst g1 (g2.keep kp)) (fun _ q => nomatch q) nF nM hn
theorem stp_promote {K : PySem.W.Frag} {ν : Mu} {F F' : Fz} {μ μ' : Mu} {H H' : Hp} {st' : S} {a : Addr} (hr : HR K ν F' μ' H' st') (s : Stp F μ H F' μ' H') (hn : H a = none) : Stp F μ H F' (addM μ' st'.length a) H' where
  fr := s.fr
  tr := s.tr
  fs := s.fs
  fn := s.fn
  ms := fun i b e => by
    have h := s.ms i b e
    unfold addM
    rw [if_neg (fun q => by have := hr.mT i b h; omega)]
    exact h
  mn := fun i b e => by
    unfold addM at e
    by_cases q : i = st'.length
    · rw [if_pos q] at e; cases e; exact .inr hn
    · rw [if_neg q] at e; exact s.mn i b e
end
/-- a display with pairs -/
def trsOf (K : PySem.W.Frag) (Γ : En) (L : Lv) (sc : Scope) : List (Option Expr) → List Expr → List (TE × TE)
  | some k :: ks, v :: vs => (tM K Γ (rX K Γ) (L.x sc k), tM K Γ (rX K Γ) (L.x sc v)) :: trsOf K Γ L sc ks vs
  | _, _ => []
theorem pps_of (hL : LvOk c L k) (ok : Ok X c k) (Γ : En) {pos : Pos} : ∀ {ks : List (Option Expr)} {vs : List Expr}, ks.all (·.isSome) = true → ks.length = vs.length → PPs X pos ks vs (trsOf X.K Γ L X.env.scope ks vs)
  | [], [], _, _ => pps_nil
  | [], _ :: _, _, h => by cases h
  | _ :: _, [], _, h => by cases h
  | none :: _, _ :: _, h, _ => by cases h
  | some k :: ks, v :: vs, h, hl => pps_cons (hL.x X Γ k ok) (hL.x X Γ v ok) (pps_of hL ok Γ (by simpa using h) (by simpa using hl))
theorem pairsX_shape {sc : Scope} : ∀ {ks : List (Option Expr)} {vs : List Expr} {env : Env} {st : S} {r : List (D × D) × S}, pairsX c L sc ks vs env st = some r → ks.all (·.isSome) = true ∧ ks.length = vs.length
  | [], [], _, _, _, _ => ⟨rfl, rfl⟩
  | [], _ :: _, _, _, _, h => by cases h
  | _ :: _, [], _, _, _, h => by rename_i a _ _ _ _; cases a <;> cases h
  | none :: _, _ :: _, _, _, _, h => by cases h
  | some k :: ks, v :: vs, env, st, r, h => by
    obtain ⟨p, st1, e1, f1⟩ := bnd_some (show bnd (L.x sc k env) _ st = some r from h)
    obtain ⟨q, st2, e2, f2⟩ := bnd_some f1
    split at f2
    · obtain ⟨dd, st2', _, f2⟩ := bnd_some f2
      obtain ⟨kvs, st3, e3, f3⟩ := bnd_some f2
      obtain ⟨h1, h2⟩ := pairsX_shape e3
      exact ⟨by simpa using h1, by simp [h2]⟩
    · cases f2
theorem tpairs_ok {Γ : En} {sc : Scope} {σ : Sg} {env : Env} : ∀ {ks : List (Option Expr)} {vs : List Expr} {kvs : List (D × D)} {st st' : S} {F : Fz} {μ : Mu} {H : Hp} {Q : List (V × V) → Hp → Prop}, Rel X.K Γ F μ H σ env st → pairsX c L sc ks vs env st = some (kvs, st') →
    (∀ F' μ' H' ws, Stp F μ H F' μ' H' → Rel X.K Γ F' μ' H' σ env st' → KvAll X.K Γ.ν F' μ' H' kvs ws → ws.length = ks.length → Q (ws.map fun kv => (kV kv.1, kv.2)) H') → tPairs (trsOf X.K Γ L sc ks vs) σ H Q
  | [], [], kvs, st, st', F, μ, H, Q, rel, e, q => by
    obtain ⟨rfl, rfl⟩ := ret_some e
    exact q F μ H [] (.refl _ _ _) rel .nil rfl
  | [], _ :: _, _, _, _, _, _, _, _, _, e, _ => by cases e
  | none :: _, [], _, _, _, _, _, _, _, _, e, _ => by cases e
  | some _ :: _, [], _, _, _, _, _, _, _, _, e, _ => by cases e
  | none :: _, _ :: _, _, _, _, _, _, _, _, _, e, _ => by cases e
  | some k :: ks, v :: vs, kvs, st, st', F, μ, H, Q, rel, e, q => by
    obtain ⟨p, st1, e1, f1⟩ := bnd_some (show bnd (L.x sc k env) _ st = some (kvs, st') from e)
    obtain ⟨p2, st2, e2, f2⟩ := bnd_some f1
    split at f2
    case isFalse => cases f2
    rename_i hk
    obtain ⟨dd, st2', ed, f2⟩ := bnd_some f2
    obtain ⟨more, st3, e3, f3⟩ := bnd_some f2
    obtain ⟨rfl, rfl⟩ := ret_some f3
    obtain ⟨key, hkey⟩ := Option.isSome_iff_exists.mp hk
    refine ⟨F, μ, env, st, p, st1, rel, e1, fun w1 F1 μ1 H1 s1 rel1 rx1 => ?_⟩
    obtain ⟨F2, s2, rel2, rp2⟩ := rx1.frz rel s1 rel1
    refine ⟨F2, μ1, env, st1, p2, st2, rel2, e2, fun w2 F3 μ3 H3 s3 rel3 rx3 => ?_⟩
    obtain ⟨F4, μ4, s4, rel4, rp4⟩ : ∃ F4 μ4, Stp F2 μ1 H1 F4 μ4 H3 ∧ Rel X.K Γ F4 μ4 H3 σ env st2' ∧ Rp X.K Γ.ν F4 μ4 H3 dd w2 := by
      unfold hpD at ed
      split at ed
      · rename_i hfl
        obtain ⟨d2, fl2⟩ := p2
        cases d2 with
        | list xs =>
          simp only at ed
          cases ed
          have hfl2 : fl2 = true := by simp only [Bool.and_eq_true] at hfl; exact hfl.2
          subst hfl2
          obtain ⟨a, rfl, g1, g2, g3, g4⟩ := rx3
          obtain ⟨r1, _, r3⟩ := rel2.promote s3 rel3 g1 g2 g3 g4
          exact ⟨F3, _, stp_promote rel3.hr s3 g4, r1, r3⟩
        | _ => cases ed
      · obtain ⟨rfl, rfl⟩ := ret_some ed
        obtain ⟨F4, s4, rel4, rp4⟩ := rx3.frz rel2 s3 rel3
        exact ⟨F4, μ3, s4, rel4, rp4⟩
    have hw : w1 = kV key := by
      have hp : refOf? p.1 = none := by
        cases hd : p.1 <;> rw [hd] at hkey <;> first | rfl | cases hkey
      exact key_v hkey (Rp.vwT rp2 hp).vw
    subst hw
    refine tpairs_ok rel4 e3 fun F5 μ5 H5 ws s5 rel5 r5 hl5 => ?_
    exact q F5 μ5 H5 ((key, w2) :: ws) ((s2.trans s4).trans s5) rel5 (.cons hkey (rp4.keep (rel4.keep s5)) r5) (by simp [hl5])
theorem pe_dict (hL : LvOk c L k) (ok : Ok X c k) (Γ : En) {ks : List (Option Expr)} {vs : List Expr} {pos : Pos} (h0 : ks ≠ []) (h15 : ks.length ≤ 15) :
    PE X (.Dict ks vs pos) (tM X.K Γ (rX X.K Γ) fun env => bnd (pairsX c L X.env.scope ks vs env) fun kvs => ret (.dict (dmerge [] kvs), true)) := by
  by_cases hsh : ks.all (·.isSome) = true ∧ ks.length = vs.length
  case neg =>
    refine pe_none fun env st => ?_
    cases e : pairsX c L X.env.scope ks vs env st with
    | none => exact bnd_left e
    | some r => exact absurd (pairsX_shape e) hsh
  refine (pe_disp (pps_of hL ok Γ hsh.1 hsh.2) hsh.1 hsh.2 h0 h15).imp fun σ H Q ⟨F, μ, env, st, r, st', rel, e, q⟩ => ?_
  obtain ⟨kvs, st1, e1, e2⟩ := bnd_some e
  obtain ⟨rfl, rfl⟩ := ret_some e2
  intro p hp
  have nF : ¬ F p := fun f => rel.hr.fT p f hp
  have nM : ∀ i, μ i ≠ some p := fun i z => by
    obtain ⟨u, z1, _⟩ := rel.hr.wr z
    rw [hp] at z1; cases z1
  have at0 : upd H p (.dK []) p = some (.dK []) := upd_same
  refine tpairs_ok (rel.new (o := .dK []) hp) e1 fun F' μ' H' ws s1 rel1 rk hl => ?_
  have hz : H' p = some (.dK []) := s1.fr p _ at0 nM
  refine ⟨hz, ws, rfl, by omega, ?_⟩
  have nF' : ¬ F' p := fun f => (s1.fn p f).elim nF fun z => by rw [at0] at z; cases z
  have nM' : ∀ i, μ' i ≠ some p := fun i z => (s1.mn i p z).elim (nM i) fun z => by rw [at0] at z; cases z
  have ownp : ∀ (j : Nat) (d : D), env[j]? = some (some (SV.own d)) → σ[j]? ≠ some (some (.ref p)) := fun j d h1 h2 => by
    obtain ⟨a, h3, h4, _⟩ := rel.en.own j d h1
    rw [h2] at h3
    cases h3
    exact h4.tr hp
  obtain ⟨rel2, k2⟩ := rel1.poke (u := .dK (mergeK [] ws)) nF' nM' ownp (untr rel.sp.tr hp) (fun o w z => by rw [hz] at z; cases z)
  have s2 : Stp F μ H F' μ' (upd H' p (.dK (mergeK [] ws))) := stp_poke ((stp_new hp).trans s1) hp
  exact q _ F' μ' _ s2 rel2 ⟨p, rfl, ⟨_, upd_same, (KvAll.merge rk .nil).keep k2⟩, nF', nM', hp⟩
/-! ### instances -/
theorem ins_at {K : PySem.W.Frag} {Γ : En} {F : Fz} {μ : Mu} {H : Hp} {σ : Sg} {env : Env} {st : S} {d : D} {v : V} {i : Nat} {cn : Str} {fs : List (Str × D)} (rel : Rel K Γ F μ H σ env st) (h : Rp K Γ.ν F μ H d v) (hr : refOf? d = some i) (hi : st[i]? = some (.ins cn fs)) :
    ∃ a dx vs, v = .ref a ∧ μ i = some a ∧ cn = wCls ∧ H a = some (.ins (He.ga K wCls) dx vs) ∧ FsAll K Γ.ν F μ H fs vs := by
  obtain ⟨a, rfl, ha⟩ := Rp.ref_inv h (refOf_mk hr)
  obtain ⟨h1, b, h2, h3⟩ := rel.hr.ob i _ hi (fun _ q => nomatch q)
  have : a = b := by
    rcases ha with ha | ha
    · rw [h2] at ha; cases ha; rfl
    · rw [h1] at ha; cases ha
  subst this
  cases h3 with
  | ins e r => exact ⟨a, _, _, rfl, h2, rfl, e, r⟩
theorem pe_fldX (hL : LvOk c L k) (ok : Ok X c k) (Γ : En) {o : Expr} {f : Str} {pos : Pos} (hf : wFlds.contains f = true) (hb : plainBase o = true) (hw : isW c = true) :
    PE X (.Attribute o f pos) (tM X.K Γ (rX X.K Γ) fun env => bnd (L.x X.env.scope o env) fun p => fldM f p.1) := by
  have W := ok.wk hw
  refine (pe_fld (hL.x X Γ o ok) (base_ok hb _ _)).imp fun σ H Q ⟨F, μ, env, st, r, st', rel, e, q⟩ => ?_
  obtain ⟨p, st1, e1, f1⟩ := bnd_some e
  refine ⟨F, μ, env, st, p, st1, rel, e1, fun v F1 μ1 H1 s1 rel1 rx => ?_⟩
  obtain ⟨F2, s2, rel2, rp⟩ := rx.frz rel s1 rel1
  unfold fldM at f1
  cases hr : refOf? p.1 with
  | none => rw [hr] at f1; cases f1
  | some i =>
    rw [hr] at f1
    simp only at f1
    cases hi : st1[i]? with
    | none => rw [hi] at f1; cases f1
    | some ob =>
      rw [hi] at f1
      cases ob with
      | ins cn fs =>
        simp only at f1
        obtain ⟨a, dx, vs, rfl, _, _, g1, g2⟩ := ins_at rel2 rp hr hi
        have lk := g2.look f
        cases hl : fs.lookup f with
        | none => rw [hl] at f1; cases f1
        | some x =>
          rw [hl] at f1 lk
          cases f1
          obtain ⟨w, l1, l2⟩ := lk
          exact ⟨a, _, dx, vs, w, rfl, g1, W.cls, W.na f hf, l1, q w F2 μ1 H1 s2 rel2 l2⟩
      | _ => cases f1
theorem pe_methX (hL : LvOk c L k) (ok : Ok X c k) (Γ : En) {o : Expr} {m : Str} {ap cp : Pos} {args : List Expr} (hw : isW c = true) (hf : (c.funs.lookup (mName m)).isSome = true) (hb : plainBase o = true) (hst : args.all (fun e => !isStar e) = true) (hn : args.length < 20) (hl : (ap.endLine == cp.line) = true) :
    PE X (.Call (.Attribute o m ap) args [] cp) (tM X.K Γ (rX X.K Γ) (methX c L X.env.scope o m args)) := by
  have W := ok.wk hw
  obtain ⟨fd, hf⟩ := Option.isSome_iff_exists.mp hf
  obtain ⟨a, fdata, hm, G, hk, hbd⟩ := ok.fn (mName m) fd hf
  refine (pe_methG (hL.x X Γ o ok) W.cls (hm.me m rfl) G ok.room ok.gd hbd (pa_argsX hL ok Γ args) hst hn hl (base_ok hb _ _) (fun e => by
    subst e
    intro σ H Q ⟨F, μ, env, st, r, st', rel, e, q⟩
    cases e
    exact q _ F μ H (.refl _ _ _) rel .nil)).imp fun σ H Q ⟨F, μ, env, st, r, st', rel, e, q⟩ => ?_
  obtain ⟨p, st1, e1, f1⟩ := bnd_some (show bnd (L.x X.env.scope o env) _ st = some (r, st') from e)
  obtain ⟨_, st2, e2, f2⟩ := bnd_some f1
  obtain ⟨ds, st3, e3, f3⟩ := bnd_some f2
  refine ⟨F, μ, env, st, p, st1, rel, e1, fun v F1 μ1 H1 s1 rel1 rx => ?_⟩
  obtain ⟨F2, s2, rel2, rp⟩ := rx.frz rel s1 rel1
  unfold isInsM at e2
  cases hr : refOf? p.1 with
  | none => rw [hr] at e2; cases e2
  | some i =>
    rw [hr] at e2
    simp only at e2
    cases hi : st1[i]? with
    | none => rw [hi] at e2; cases e2
    | some ob =>
      rw [hi] at e2
      cases ob with
      | ins cn fs =>
        simp only at e2
        by_cases hlk : (fs.lookup m).isNone = true
        case neg => rw [if_neg hlk] at e2; cases e2
        rw [if_pos hlk] at e2
        cases e2
        obtain ⟨a, dx, vs, rfl, _, _, g1, g2⟩ := ins_at rel2 rp hr hi
        have lk := g2.look m
        rw [Option.isNone_iff_eq_none.mp hlk] at lk
        refine ⟨a, dx, vs, rfl, g1, lk, F2, μ1, env, st1, ds, st3, rel2, e3, fun ws F3 μ3 H3 s3 rel3 rs => ?_⟩
        exact ⟨Γ.ν, F3, μ3, st3, p.1 :: ds, r, st', ok.ar _ fd hf _ st3 r st' f3, rel3.hr, .cons (rp.keep (rel2.keep s3)) rs, f3, fun v F4 μ4 H4 s4 hr4 rx4 => q v F4 μ4 H4 ((s2.trans s3).trans s4) (rel3.step s4 hr4) (rx4.back (s2.trans s3).tr)⟩
      | _ => cases e2
theorem pe_makeX (hL : LvOk c L k) (ok : Ok X c k) (Γ : En) {f : Str} {p pos : Pos} {args : List Expr} (h : isMake c X.env.scope f args = true) :
    PE X (.Call (.Name f p) args [] pos) (tM X.K Γ (rX X.K Γ) (makeX c L X.env.scope args)) := by
  unfold isMake at h
  simp only [Bool.and_eq_true, decide_eq_true_eq, Bool.not_eq_true'] at h
  obtain ⟨⟨⟨⟨hg, rfl⟩, hw⟩, hne⟩, hst⟩ := h
  have W := ok.wk hw
  obtain ⟨fd, hf⟩ := Option.isSome_iff_exists.mp hw
  obtain ⟨a, fdata, hm, G, hk, hbd⟩ := ok.fn _ fd hf
  have hme := hm.me "__init__" rfl
  obtain ⟨g1, g2, g3⟩ := gl_ok hg
  refine (pe_makeG ⟨W.mks, hme.at_, hme.fn, W.kp⟩ G ok.room1 ok.gd g1 W.mg hbd g2 (pa_argsX hL ok Γ args) hst (fun z => by rw [z] at hne; cases hne)).imp fun σ H Q ⟨F, μ, env, st, r, st', rel, e, q⟩ => ?_
  obtain ⟨ds, st1, e1, f1⟩ := bnd_some (show bnd (argsX L X.env.scope args env) _ st = some (r, st') from e)
  refine ⟨F, μ, env, st, ds, st1, rel, e1, fun vs F1 μ1 H1 s1 rel1 rs y dx hy hdx hne => ?_⟩
  cases hc : c.call (mName "__init__") (mkRef st1.length :: ds) (st1 ++ [.ins wCls []]) with
  | none => rw [hc] at f1; cases f1
  | some z =>
    rw [hc] at f1
    obtain ⟨⟨d, fl⟩, st2⟩ := z
    cases d with
    | none =>
      cases fl with
      | false =>
        cases f1
        have n2 : (upd H1 dx (.own y)) y = none := by rw [upd_ne (Ne.symm hne)]; exact hy
        have sA : Stp F1 μ1 H1 F1 μ1 (upd H1 dx (.own y)) := stp_new hdx
        have rA := rel1.new (o := .own y) hdx
        have sB : Stp F1 μ1 (upd H1 dx (.own y)) F1 μ1 (upd (upd H1 dx (.own y)) y (.ins (He.ga X.K wCls) dx [])) := stp_new n2
        have rB := rA.new (o := .ins (He.ga X.K wCls) dx []) n2
        have nF : ¬ F1 y := fun z => rel1.hr.fT y z hy
        have nM : ∀ i, μ1 i ≠ some y := fun i z => by
          obtain ⟨u, z1, _⟩ := rel1.hr.wr z
          rw [hy] at z1; cases z1
        obtain ⟨r2, k2, rp⟩ := rel1.promoteO (o0 := .ins wCls []) (sA.trans sB) rB (fun μ2 kp => .ins upd_same .nil) (fun _ z => nomatch z) nF nM hy
        have s2 : Stp F1 μ1 H1 F1 (addM μ1 st1.length y) (upd (upd H1 dx (.own y)) y (.ins (He.ga X.K wCls) dx [])) := stp_promote rB.hr (sA.trans sB) hy
        refine ⟨Γ.ν, F1, addM μ1 st1.length y, st1 ++ [.ins wCls []], mkRef st1.length :: ds, (.none, false), st', ok.ar _ fd hf _ _ _ _ hc, r2.hr, .cons rp ((rs.keep (rel1.keep (sA.trans sB))).keep k2), hc, fun v F3 μ3 H3 s3 hr3 rx3 => ?_⟩
        have rx3 : Rp X.K Γ.ν F3 μ3 H3 .none v := rx3
        cases rx3
        exact ⟨rfl, q _ F3 μ3 H3 ((s1.trans s2).trans s3) (r2.step s3 hr3) (show Rp X.K Γ.ν F3 μ3 H3 (mkRef st1.length) (.ref y) from rp.keep (r2.keep s3))⟩
      | true => cases f1
    | _ => cases f1
theorem pe_fail {Γ : En} {e : Expr} : PE X e (tM X.K Γ (rX X.K Γ) fun _ => fail) := pe_none fun _ _ => rfl
/-- every expression -/
theorem pe_x (hL : LvOk c L k) (ok : Ok X c k) (Γ : En) (e : Expr) : PE X e (tM X.K Γ (rX X.K Γ) (compX c L X.env.scope e)) := by
  unfold compX
  split
  · exact pe_const pe_int fun F μ H => .int _
  · exact pe_const pe_str fun F μ H => .str _
  · exact pe_const pe_bl fun F μ H => .bl _
  · exact pe_const pe_non fun F μ H => .non
  · exact pe_name (L := L) ok Γ
  · exact pe_binop hL ok Γ
  · exact pe_neg hL ok Γ
  · exact pe_not1 hL ok Γ
  · exact pe_bool hL ok Γ _
  · rename_i l op r pos
    by_cases hs : isSet r = true
    · exact pe_none fun env st => by rw [if_pos hs]; rfl
    · simp only [hs]
      exact pe_cmp1 hL ok Γ (by simpa using hs)
  · rename_i l op op' m r pos
    by_cases hs : isSet r = true
    · exact pe_none fun env st => by rw [if_pos hs]; rfl
    · simp only [hs]
      exact pe_cmp2 hL ok Γ (by simpa using hs)
  · exact pe_if hL ok Γ
  · exact pe_rev hL ok Γ
  · exact pe_cut hL ok Γ
  · rename_i a i pos hn0 hn
    by_cases hp : plainIx i = true
    · simp only [hp, if_true]
      exact pe_item hL ok Γ hp
    · exact pe_none fun env st => by rw [if_neg hp]; rfl
  · exact pe_tuple hL ok Γ
  · exact pe_list hL ok Γ
  · exact pe_dict0 Γ
  · rename_i k0 ks vs pos
    by_cases h : (k0 :: ks).length ≤ 15
    · simp only [h, if_true]
      exact pe_dict hL ok Γ (by simp) h
    · exact pe_none fun env st => by rw [if_neg h]; rfl
  · exact pe_comp hL ok Γ
  · rename_i f p args pos
    cases hw : allWalk c X.env.scope f args with
    | none =>
      by_cases hm : isMake c X.env.scope f args = true
      · simp only [hm, if_true]
        exact pe_makeX hL ok Γ hm
      · simp only [hm]
        exact pe_callX hL ok Γ
    | some q =>
      unfold allWalk at hw
      split at hw
      · split at hw
        · rename_i hc
          simp only [Bool.and_eq_true, decide_eq_true_eq] at hc
          obtain ⟨x, hx, rfl⟩ := Option.map_eq_some_iff.mp hw
          obtain ⟨hg, rfl, _⟩ := hc
          rename_i elt tg iter ifs scope p2 _
          obtain ⟨px, rfl⟩ : ∃ px, iter = .Name x px := by
            unfold walked at hx
            split at hx
            · split at hx
              · cases hx; exact ⟨_, rfl⟩
              · cases hx
            · cases hx
          exact pe_allW hL ok Γ hg
        · cases hw
      · cases hw
  · rename_i o f pos
    by_cases h : (wFlds.contains f && plainBase o && isW c) = true
    · simp only [h, if_true]
      simp only [Bool.and_eq_true] at h
      exact pe_fldX hL ok Γ h.1.1 h.1.2 h.2
    · exact pe_none fun env st => by rw [if_neg h]; rfl
  · rename_i o m ap args cp
    by_cases hw : (isW c && (c.funs.lookup (mName m)).isSome) = true
    · simp only [hw, if_true]
      simp only [Bool.and_eq_true] at hw
      by_cases hq : (plainBase o && (args.all fun e => !isStar e) && decide (args.length < 20) && (ap.endLine == cp.line)) = true
      · simp only [hq, if_true]
        simp only [Bool.and_eq_true, decide_eq_true_eq] at hq
        exact pe_methX hL ok Γ hw.1 hw.2 hq.1.1.1 hq.1.1.2 hq.1.2 hq.2
      · exact pe_none fun env st => by rw [if_neg hq]; rfl
    simp only [hw, Bool.false_eq_true, if_false]
    by_cases h : ((ap.endLine == cp.line) && decide (args.length < 20) && !args.isEmpty && plainBase o) = true
    · simp only [h, if_true]
      simp only [Bool.and_eq_true, decide_eq_true_eq] at h
      exact pe_method hL ok Γ h.1.1.1 h.1.1.2 (fun e => by subst e; simp at h) h.2
    · exact pe_none fun env st => by rw [if_neg h]; rfl
  · exact pe_fail
theorem po_of {Γ : En} {e : Expr} {m : Env → M (D × Bool)} (h : PE X e (tM X.K Γ (rX X.K Γ) m)) : PE X e (tM X.K Γ (rO X.K Γ) fun env => bnd (m env) fun p => ret (.v p.1)) :=
  h.imp fun σ H Q ⟨F, μ, env, st, r, st', rel, e, q⟩ => by
    obtain ⟨p, st1, e1, f1⟩ := bnd_some e
    obtain ⟨rfl, rfl⟩ := ret_some f1
    refine ⟨F, μ, env, st, p, st1, rel, e1, fun v F1 μ1 H1 s1 rel1 rx => ?_⟩
    obtain ⟨F2, s2, rel2, rp⟩ := rx.frz rel s1 rel1
    exact q v F2 μ1 H1 s2 rel2 rp
/-- .. as an operand -/
theorem pe_o (hL : LvOk c L k) (ok : Ok X c k) (Γ : En) (e : Expr) : PE X e (tM X.K Γ (rO X.K Γ) (compO c L X.env.scope e)) := by
  unfold compO
  split
  · rename_i x pos
    cases hs : slotOf c X.env.scope x with
    | some j =>
      obtain ⟨h1, h2, h3, h4⟩ := slot_ok hs
      refine (pe_var (i := j) (by rw [ok.n]; exact h1) h2 h3 h4).imp fun σ H Q ⟨F, μ, env, st, r, st', rel, e, q⟩ => ?_
      cases g : env[j]? with
      | none => simp only [g] at e; cases e
      | some o =>
        cases o with
        | none => simp only [g] at e; cases e
        | some sv =>
          cases sv with
          | own d =>
            simp only [g] at e
            obtain ⟨rfl, rfl⟩ := ret_some e
            obtain ⟨a, g1, g2⟩ := rel.en.own j d g
            exact ⟨_, g1, q _ F μ H (.refl _ _ _) rel ⟨⟨d, g⟩, g1⟩⟩
          | frz d =>
            simp only [g] at e
            obtain ⟨rfl, rfl⟩ := ret_some e
            obtain ⟨v, g1, g2⟩ := rel.en.frz j d g
            exact ⟨v, g1, q v F μ H (.refl _ _ _) rel g2⟩
          | fn w => simp only [g] at e; cases e
    | none => exact po_of (pe_x hL ok Γ _)
  · exact po_of (pe_x hL ok Γ _)
theorem pt_if {t a b : Expr} {pos : Pos} {tt ta tb : TT} (ht : PT X t tt) (ha : PT X a ta) (hb : PT X b tb) : PT X (.IfExp t a b pos) (fun σ H Q => tt σ H fun z H1 => if z = true then ta σ H1 Q else tb σ H1 Q) := by
  refine ⟨fun pins s σ H Q I h => ?_⟩
  show wpAny (model X.prog X.w) X.A (do if ← isTrue t X.env (eval t X.env) then isTrue a X.env (eval a X.env) else isTrue b X.env (eval b X.env)) _ _ s
  refine wpAny_bind (thn (ht.run pins s σ H _ I h) fun z s1 ⟨H1, I1, q⟩ => ?_)
  cases z with
  | true => exact ha.run pins s1 σ H1 Q I1 q
  | false => exact hb.run pins s1 σ H1 Q I1 q
theorem pw_boolT (hL : LvOk c L k) (ok : Ok X c k) (Γ : En) {op : BoolOp} {pos : Pos} : ∀ vs : List Expr, PW X (.BoolOp op vs pos) (tMT X.K Γ (boolT L X.env.scope op vs))
  | [] => ⟨fun _ _ _ σ H Q _ ⟨F, μ, env, st, r, st', _, e, _⟩ => by cases e⟩
  | [a] => by
    cases op with
    | And => exact pw_and1 (hL.t X Γ a ok)
    | Or => exact pw_or1 (hL.t X Γ a ok)
  | a :: b :: r => by
    have ih := pw_boolT hL ok Γ (op := op) (pos := pos) (b :: r)
    cases op with
    | And =>
      refine ⟨fun wh pins s σ H Q I ⟨F, μ, env, st, r', st', rel, e, q⟩ => (pw_and (hL.t X Γ a ok) ih).run wh pins s σ H Q I ?_⟩
      obtain ⟨t, st1, e1, f1⟩ := bnd_some (show bnd (L.t X.env.scope a env) (fun t => if t = true then boolT L X.env.scope .And (b :: r) env else ret false) st = some (r', st') from e)
      refine ⟨F, μ, env, st, t, st1, rel, e1, fun F1 μ1 H1 s1 rel1 => ?_⟩
      cases t with
      | true => exact ⟨F1, μ1, env, st1, r', st', rel1, f1, fun F2 μ2 H2 s2 rel2 => q F2 μ2 H2 (s1.trans s2) rel2⟩
      | false =>
        obtain ⟨rfl, rfl⟩ := ret_some f1
        exact q F1 μ1 H1 s1 rel1
    | Or =>
      refine ⟨fun wh pins s σ H Q I ⟨F, μ, env, st, r', st', rel, e, q⟩ => (pw_or (hL.t X Γ a ok) ih).run wh pins s σ H Q I ?_⟩
      obtain ⟨t, st1, e1, f1⟩ := bnd_some (show bnd (L.t X.env.scope a env) (fun t => if t = true then ret true else boolT L X.env.scope .Or (b :: r) env) st = some (r', st') from e)
      refine ⟨F, μ, env, st, t, st1, rel, e1, fun F1 μ1 H1 s1 rel1 => ?_⟩
      cases t with
      | false => exact ⟨F1, μ1, env, st1, r', st', rel1, f1, fun F2 μ2 H2 s2 rel2 => q F2 μ2 H2 (s1.trans s2) rel2⟩
      | true =>
        obtain ⟨rfl, rfl⟩ := ret_some f1
        exact q F1 μ1 H1 s1 rel1
theorem pt_val1 (hL : LvOk c L k) (ok : Ok X c k) (Γ : En) {e : Expr} (he : ∀ whole, isTrue e X.env whole = (do let v ← whole; standAt e.pos; holding [v] (truthy v))) :
    PT X e (tMT X.K Γ fun env => bnd (compO c L X.env.scope e env) fun p => bnd (vw env p) fun d => lift (truth d)) :=
  (pt_truth (pe_o hL ok Γ e) he).imp fun σ H Q ⟨F, μ, env, st, r, st', rel, e, q⟩ => by
    obtain ⟨p, st1, e1, f1⟩ := bnd_some e
    obtain ⟨d, st2, e2, f2⟩ := bnd_some f1
    obtain ⟨g1, rfl⟩ := vw_some e2
    obtain ⟨g2, rfl⟩ := lift_some f2
    exact ⟨F, μ, env, st, p, _, rel, e1, fun v F1 μ1 H1 s1 rel1 ro => ⟨r, tru_of (vw_of rel1 ro g1) g2, q F1 μ1 H1 s1 rel1⟩⟩
/-- .. as a test -/
theorem pt_t (hL : LvOk c L k) (ok : Ok X c k) (Γ : En) (e : Expr) : PT X e (tMT X.K Γ (compT c L X.env.scope e)) := by
  unfold compT
  split
  · rename_i a pos
    exact (pt_not (hL.t X Γ a ok)).imp fun σ H Q ⟨F, μ, env, st, r, st', rel, e, q⟩ => by
      obtain ⟨t, st1, e1, f1⟩ := bnd_some e
      obtain ⟨rfl, rfl⟩ := ret_some f1
      exact ⟨F, μ, env, st, t, st1, rel, e1, fun F1 μ1 H1 s1 rel1 => q F1 μ1 H1 s1 rel1⟩
  · exact (pw_boolT hL ok Γ _).pt
  · rename_i l op r pos
    by_cases hs : isSet r = true
    · exact pt_none fun env st => by rw [if_pos hs]; rfl
    · simp only [hs]
      exact pt_cmp1 hL ok Γ (by simpa using hs)
  · rename_i l op op' m r pos
    by_cases hs : isSet r = true
    · exact pt_none fun env st => by rw [if_pos hs]; rfl
    · simp only [hs]
      exact pt_cmp2 hL ok Γ (by simpa using hs)
  · exact pt_none fun env st => rfl
  · rename_i t a b pos
    exact (pt_if (hL.t X Γ t ok) (hL.t X Γ a ok) (hL.t X Γ b ok)).imp fun σ H Q ⟨F, μ, env, st, r, st', rel, e, q⟩ => by
      obtain ⟨z, st1, e1, f1⟩ := bnd_some e
      refine ⟨F, μ, env, st, z, st1, rel, e1, fun F1 μ1 H1 s1 rel1 => ?_⟩
      cases z with
      | true => exact ⟨F1, μ1, env, st1, r, st', rel1, f1, fun F2 μ2 H2 s2 rel2 => q F2 μ2 H2 (s1.trans s2) rel2⟩
      | false => exact ⟨F1, μ1, env, st1, r, st', rel1, f1, fun F2 μ2 H2 s2 rel2 => q F2 μ2 H2 (s1.trans s2) rel2⟩
  · rename_i h1 h2 h3 h4 h5 h6
    refine pt_val1 hL ok Γ fun whole => ?_
    cases e <;> first | rfl | exact absurd rfl (h2 _ _ _) | exact absurd rfl (h6 _ _ _ _) | exact absurd rfl (h5 _ _ _ _) | skip
    case UnaryOp op a pos =>
      cases op <;> first | rfl | exact absurd rfl (h1 _ _)
end
theorem lv_ok (c : Cfg) (k : Nat) : ∀ n, LvOk c (lv c n) k
  | 0 => ⟨fun X Γ e ok => pe_none fun _ _ => rfl, fun X Γ e ok => pe_none fun _ _ => rfl, fun X Γ e ok => pt_none fun _ _ => rfl⟩
  | n + 1 => ⟨fun X Γ e ok => pe_x (lv_ok c k n) ok Γ e, fun X Γ e ok => pe_o (lv_ok c k n) ok Γ e, fun X Γ e ok => pt_t (lv_ok c k n) ok Γ e⟩
end Pz

/-! Pz11: statements. -/
namespace Pz
open PySem PySem.Spec PyProof.Rows L2 RZ

section
variable {K : PySem.W.Frag} {Γ : En} {F : Fz} {μ : Mu} {H : Hp} {σ : Sg} {env : Env} {st : S}

theorem refOf_iff {d : D} {i : Nat} (h : refOf? d = some i) : d = mkRef i := refOf_mk h
/-- a name's own list is written -/
theorem Rel.wOwnG {j : Nat} {d0 dN : D} {a : Addr} {u : HO} (r : Rel K Γ F μ H σ env st) (he : env[j]? = some (some (SV.own d0))) (hs : σ[j]? = some (some (.ref a))) (hz : ∀ o w, H a ≠ some (.frz o w)) (rs : Keep F μ H F μ (upd H a u) → OwnAt K Γ.ν F μ (upd H a u) dN a) :
    Rel K Γ F μ (upd H a u) σ (env.set j (some (.own dN))) st ∧ Keep F μ H F μ (upd H a u) := by
  obtain ⟨b, g1, g3, g4, g5, g6⟩ := r.en.own j _ he
  rw [hs] at g1
  cases g1
  have dj : ∀ (i : Nat) (d : D), env[i]? = some (some (SV.own d)) → σ[i]? = some (some (.ref a)) → i = j := fun i d h1 h2 => r.en.dis i j d _ _ h1 he h2 hs
  have jl : j < env.length := (List.getElem?_eq_some_iff.mp he).1
  -- as a write of something the relation does not speak of, with the slot left out
  have r0 : Rel K Γ F μ H (σ.set j none) (env.set j none) st := ⟨r.sp, r.hr, r.en.unset⟩
  obtain ⟨r1, kp⟩ := r0.poke (u := u) g4 g5 (fun i d h1 h2 => by
    obtain ⟨h1, n1⟩ := get_set_ne h1 rfl
    rw [List.getElem?_set_ne (Ne.symm n1)] at h2
    exact n1 (dj i d h1 h2)) g6 hz
  refine ⟨⟨r1.sp, r1.hr, ?_⟩, kp⟩
  have back : ∀ {i : Nat} {x : SV}, i ≠ j → (env.set j (some (SV.own dN)))[i]? = some (some x) → (env.set j none)[i]? = some (some x) := fun {i x} hn h => by
    rw [List.getElem?_set_ne (Ne.symm hn)] at h ⊢
    exact h
  have backS : ∀ {i : Nat}, i ≠ j → (σ.set j none)[i]? = σ[i]? := fun hn => List.getElem?_set_ne (Ne.symm hn)
  have atj : (env.set j (some (SV.own dN)))[j]? = some (some (SV.own dN)) := List.getElem?_set_self jl
  have hself : OwnAt K Γ.ν F μ (upd H a u) dN a := rs kp
  refine ⟨by rw [List.length_set]; exact r.en.len, fun i d h => ?_, fun i d h => ?_, fun i k d1 d2 v h1 h2 h3 h4 => ?_, fun i g h => by
    have hn : i ≠ j := fun e => by subst e; rw [atj] at h; cases h
    have q1 := r1.en.fn i g (back hn h)
    rw [backS hn] at q1
    exact q1⟩
  · have hn : i ≠ j := fun e => by subst e; rw [atj] at h; cases h
    obtain ⟨v, q1, q2⟩ := r1.en.frz i d (back hn h)
    rw [backS hn] at q1
    exact ⟨v, q1, q2⟩
  · by_cases e : i = j
    · subst e
      rw [atj] at h
      cases h
      exact ⟨a, hs, hself, g4, g5, g6⟩
    · obtain ⟨b, q1, q2⟩ := r1.en.own i d (back e h)
      rw [backS e] at q1
      exact ⟨b, q1, q2⟩
  · have dd : ∀ {i : Nat} {d : D}, (env.set j (some (SV.own dN)))[i]? = some (some (SV.own d)) → ∃ d', env[i]? = some (some (SV.own d')) := fun {i d} h => by
      by_cases e : i = j
      · subst e; exact ⟨_, he⟩
      · rw [List.getElem?_set_ne (Ne.symm e)] at h; exact ⟨_, h⟩
    obtain ⟨e1, h1⟩ := dd h1
    obtain ⟨e2, h2⟩ := dd h2
    exact r.en.dis i k e1 e2 v h1 h2 h3 h4
theorem Rel.wOwn {j : Nat} {ds es : List D} {a : Addr} {ys : List V} (r : Rel K Γ F μ H σ env st) (he : env[j]? = some (some (SV.own (.list ds)))) (hs : σ[j]? = some (some (.ref a))) (rs : RpAll K Γ.ν F μ H es ys) :
    Rel K Γ F μ (upd H a (.lst ys)) σ (env.set j (some (.own (.list es)))) st ∧ Keep F μ H F μ (upd H a (.lst ys)) := by
  obtain ⟨b, g1, ⟨xs, g2, g3⟩, _⟩ := r.en.own j _ he
  rw [hs] at g1
  cases g1
  exact r.wOwnG he hs (fun o w e => by rw [g2] at e; cases e) fun kp => ⟨ys, upd_same, rs.keep kp⟩
theorem Rel.wOwnD {j : Nat} {ds es : List (D × D)} {a : Addr} {ys : List (Key × V)} (r : Rel K Γ F μ H σ env st) (he : env[j]? = some (some (SV.own (.dict ds)))) (hs : σ[j]? = some (some (.ref a))) (rs : KvAll K Γ.ν F μ H es ys) :
    Rel K Γ F μ (upd H a (.dK ys)) σ (env.set j (some (.own (.dict es)))) st ∧ Keep F μ H F μ (upd H a (.dK ys)) := by
  obtain ⟨b, g1, ⟨xs, g2, g3⟩, _⟩ := r.en.own j _ he
  rw [hs] at g1
  cases g1
  exact r.wOwnG he hs (fun o w e => by rw [g2] at e; cases e) fun kp => ⟨ys, upd_same, rs.keep kp⟩
theorem putD_ok {p : Op} {v : V} {xs0 es : List (D × D)} {env1 : Env} {st1 : S} (r : Rel K Γ F μ H σ env st) (ro : RO K Γ.ν F μ H σ env p v) (hv : view env st p = some (.dict xs0)) (e : putD env p es st = some (env1, st1)) :
    ∃ a xs, v = .ref a ∧ H a = some (.dK xs) ∧ KvAll K Γ.ν F μ H xs0 xs ∧ ¬ F a ∧ ∀ ys, KvAll K Γ.ν F μ H es ys → Rel K Γ F μ (upd H a (.dK ys)) σ env1 st1 ∧ Keep F μ H F μ (upd H a (.dK ys)) := by
  cases p with
  | o j =>
    obtain ⟨rfl, rfl⟩ := ret_some (show ret (env.set j (some (.own (.dict es)))) st = some (env1, st1) from e)
    obtain ⟨⟨d1, h1⟩, h2⟩ := (show (∃ d, env[j]? = some (some (SV.own d))) ∧ σ[j]? = some (some v) from ro)
    unfold view at hv
    simp only [h1] at hv
    cases Option.some.inj hv
    obtain ⟨b, g1, ⟨xs, g2, g3⟩, g4, _⟩ := r.en.own j _ h1
    rw [h2] at g1
    cases g1
    exact ⟨b, xs, rfl, g2, g3, g4, fun ys rs => r.wOwnD h1 h2 rs⟩
  | v d => cases e
/-- .. one of the small heap -/
theorem Rel.wRef {i : Nat} {ds es : List D} {a : Addr} {xs ys : List V} (r : Rel K Γ F μ H σ env st) (hi : μ i = some a) (ho : st[i]? = some (.lst ds)) (hz : H a = some (.lst xs)) (rs : RpAll K Γ.ν F μ H es ys) :
    Rel K Γ F μ (upd H a (.lst ys)) σ env (st.set i (.lst es)) ∧ Keep F μ H F μ (upd H a (.lst ys)) := by
  have nF : ¬ F a := r.hr.mF i a hi
  have kp : Keep F μ H F μ (upd H a (.lst ys)) := by
    refine ⟨fun _ h => h, fun _ _ h => h, fun b o u e => ?_, fun b f => upd_ne fun e => nF (e ▸ f)⟩
    rw [upd_ne fun q => by subst q; rw [hz] at e; cases e]
    exact e
  refine ⟨⟨?_, ?_, ?_⟩, kp⟩
  · refine ⟨fun b o e n => ?_, fun b e => ?_, r.sp.fs, r.sp.fn, r.sp.ms, r.sp.mn⟩
    · rw [upd_ne fun q => ?_]
      · exact r.sp.fr b o e n
      · subst q
        rcases r.sp.mn i b hi with q | q
        · exact n i q
        · rw [q] at e; cases e
    · by_cases q : b = a
      · subst q; rw [upd_same]; simp
      · rw [upd_ne q]; exact r.sp.tr b e
  · have hil : i < st.length := (List.getElem?_eq_some_iff.mp ho).1
    refine ⟨fun b f => ?_, r.hr.mF, fun k b e => by rw [List.length_set]; exact r.hr.mT k b e, fun k b e => by rw [List.length_set]; exact r.hr.nT k b e, r.hr.mI, fun k ns e => ?_, fun k o e n => ?_⟩
    · have q : b ≠ a := fun e => nF (e ▸ f)
      rw [upd_ne q]; exact r.hr.fT b f
    · have hn : i ≠ k := fun q => by subst q; rw [List.getElem?_set_self hil] at e; cases e
      rw [List.getElem?_set_ne hn] at e
      obtain ⟨h1, b, h2, h3⟩ := r.hr.sc k ns e
      exact ⟨h1, b, h2, h3.keep kp⟩
    · by_cases hn : i = k
      · subst hn
        rw [List.getElem?_set_self hil] at e
        cases e
        obtain ⟨h1, b, h2, _⟩ := r.hr.ob i _ ho (fun _ q => nomatch q)
        refine ⟨h1, a, hi, .lst upd_same (rs.keep kp)⟩
      · rw [List.getElem?_set_ne hn] at e
        obtain ⟨h1, b, h2, h3⟩ := r.hr.ob k o e n
        exact ⟨h1, b, h2, h3.move kp (upd_ne fun q => hn (r.hr.mI i k a hi (q ▸ h2)))⟩
  · refine ⟨r.en.len, fun j d e => ?_, fun j d e => ?_, r.en.dis, r.en.fn⟩
    · obtain ⟨v, h1, h2⟩ := r.en.frz j d e
      exact ⟨v, h1, h2.keep kp⟩
    · obtain ⟨b, h1, h2, h3, h4, h5⟩ := r.en.own j d e
      exact ⟨b, h1, h2.move kp (upd_ne fun q => h4 i (q ▸ hi)), h3, h4, h5⟩
/-- putOp, at the operand's address -/
theorem putOp_ok {p : Op} {v : V} {xs0 es : List D} {env1 : Env} {st1 : S} (r : Rel K Γ F μ H σ env st) (ro : RO K Γ.ν F μ H σ env p v) (hv : view env st p = some (.list xs0)) (e : putOp env p es st = some (env1, st1)) :
    ∃ a xs, v = .ref a ∧ H a = some (.lst xs) ∧ RpAll K Γ.ν F μ H xs0 xs ∧ ∀ ys, RpAll K Γ.ν F μ H es ys → Rel K Γ F μ (upd H a (.lst ys)) σ env1 st1 ∧ Keep F μ H F μ (upd H a (.lst ys)) := by
  cases p with
  | o j =>
    obtain ⟨rfl, rfl⟩ := ret_some (show ret (env.set j (some (.own (.list es)))) st = some (env1, st1) from e)
    obtain ⟨⟨d1, h1⟩, h2⟩ := (show (∃ d, env[j]? = some (some (SV.own d))) ∧ σ[j]? = some (some v) from ro)
    unfold view at hv
    simp only [h1] at hv
    cases Option.some.inj hv
    obtain ⟨b, g1, ⟨xs, g2, g3⟩, _⟩ := r.en.own j _ h1
    rw [h2] at g1
    cases g1
    exact ⟨b, xs, rfl, g2, g3, fun ys rs => r.wOwn h1 h2 rs⟩
  | v d =>
    unfold putOp at e
    cases q : refOf? d with
    | none => simp only [q] at e; cases e
    | some i =>
      simp only [q] at e
      obtain ⟨b, rfl, hb⟩ := Rp.ref_inv (show Rp K Γ.ν F μ H d v from ro) (refOf_mk q)
      cases g : st[i]? with
      | none => rw [g] at e; cases e
      | some o =>
        rw [g] at e
        cases o with
        | lst ds =>
          cases e
          unfold view at hv
          simp only [q] at hv
          unfold viewRef at hv
          rw [g] at hv
          cases hv
          obtain ⟨h1, b2, h2, h3⟩ := r.hr.ob i _ g (fun _ z => nomatch z)
          have : b = b2 := by
            rcases hb with hb | hb
            · rw [h2] at hb; cases hb; rfl
            · rw [h1] at hb; cases hb
          subst this
          cases h3 with
          | lst e1 r1 => exact ⟨b, _, rfl, e1, r1, fun ys rs => r.wRef h2 g e1 rs⟩
        | _ => cases e
/-- a new list of its own is laid at a name -/
theorem Rel.setOwn {F' : Fz} {μ' : Mu} {H' : Hp} {st' : S} {j : Nat} {d : D} {a : Addr} (r0 : Rel K Γ F μ H σ env st) (s : Stp F μ H F' μ' H') (r : Rel K Γ F' μ' H' σ env st') (ho : OwnAt K Γ.ν F' μ' H' d a) (nF : ¬ F' a) (nM : ∀ i, μ' i ≠ some a) (hn : H a = none) :
    Rel K Γ F' μ' H' (σ.set j (some (.ref a))) (env.set j (some (.own d))) st' := by
  refine ⟨r.sp, r.hr, ?_⟩
  have hG : Γ.H a = none := untr r0.sp.tr hn
  have fresh : ∀ (i : Nat) (e : D), env[i]? = some (some (SV.own e)) → σ[i]? ≠ some (some (.ref a)) := fun i e h1 h2 => by
    obtain ⟨b, g1, g2, _⟩ := r0.en.own i e h1
    rw [h2] at g1
    cases g1
    exact g2.tr hn
  refine ⟨by rw [List.length_set, List.length_set]; exact r.en.len, fun i e h => ?_, fun i e h => ?_, fun i k d1 d2 v h1 h2 h3 h4 => ?_, fun i g h => by
    have n1 : j ≠ i := fun q => by
      subst q
      by_cases lt : j < env.length
      · rw [List.getElem?_set_self lt] at h; cases h
      · rw [List.getElem?_eq_none (by rw [List.length_set]; omega)] at h; cases h
    rw [List.getElem?_set_ne n1] at h ⊢
    exact r.en.fn i g h⟩
  · have n1 : j ≠ i := fun q => by
      subst q
      by_cases lt : j < env.length
      · rw [List.getElem?_set_self lt] at h; cases h
      · rw [List.getElem?_eq_none (by rw [List.length_set]; omega)] at h; cases h
    rw [List.getElem?_set_ne n1] at h ⊢
    exact r.en.frz i e h
  · by_cases n1 : j = i
    · subst n1
      by_cases lt : j < env.length
      · rw [List.getElem?_set_self lt] at h
        cases h
        exact ⟨a, by rw [List.getElem?_set_self (by rw [r.en.len]; exact lt)], ho, nF, nM, hG⟩
      · rw [List.getElem?_eq_none (by rw [List.length_set]; omega)] at h; cases h
    · rw [List.getElem?_set_ne n1] at h ⊢
      exact r.en.own i e h
  · have key : ∀ {i k : Nat} {d1 d2 : D} {v : V}, i = j → k ≠ j → (env.set j (some (SV.own d)))[i]? = some (some (SV.own d1)) → (env.set j (some (SV.own d)))[k]? = some (some (SV.own d2)) → (σ.set j (some (.ref a)))[i]? = some (some v) → (σ.set j (some (.ref a)))[k]? = some (some v) → False := fun {i k d1 d2 v} e n h1 h2 h3 h4 => by
      subst e
      rw [List.getElem?_set_ne (Ne.symm n)] at h2 h4
      have lt : i < σ.length := by
        rcases Nat.lt_or_ge i σ.length with q | q
        · exact q
        · rw [List.getElem?_eq_none (by rw [List.length_set]; exact q)] at h3; cases h3
      rw [List.getElem?_set_self lt] at h3
      cases h3
      exact fresh k d2 h2 h4
    by_cases e1 : i = j
    · by_cases e2 : k = j
      · rw [e1, e2]
      · exact (key e1 e2 h1 h2 h3 h4).elim
    · by_cases e2 : k = j
      · exact (key e2 e1 h2 h1 h4 h3).elim
      · rw [List.getElem?_set_ne (Ne.symm e1)] at h1 h3
        rw [List.getElem?_set_ne (Ne.symm e2)] at h2 h4
        exact r.en.dis i k d1 d2 v h1 h2 h3 h4
end
end Pz

/-! Pz12: statements are kept by the machine. -/
namespace Pz
open PySem PySem.Spec PyProof.Rows L2 RZ

def flK (K : PySem.W.Frag) (Γ : En) (F : Fz) (μ : Mu) (H : Hp) (st' : S) (E : Ends) : Fl → Prop
  | .next env' => ∀ σ' F' μ' H', Keep F μ H F' μ' H' → Rel K Γ F' μ' H' σ' env' st' → E.nx σ' H'
  | .brk env' => ∀ σ' F' μ' H', Keep F μ H F' μ' H' → Rel K Γ F' μ' H' σ' env' st' → E.bk σ' H'
  | .cont env' => ∀ σ' F' μ' H', Keep F μ H F' μ' H' → Rel K Γ F' μ' H' σ' env' st' → E.ct σ' H'
  | .ret d fl => ∀ v F' μ' H', Stp Γ.F Γ.μ Γ.H F' μ' H' → HR K Γ.ν F' μ' H' st' → RX K Γ.ν F' μ' H' Γ.H (d, fl) v → E.rt v H'
theorem flK.mono {K : PySem.W.Frag} {Γ : En} {F F1 : Fz} {μ μ1 : Mu} {H H1 : Hp} {st' : S} {E : Ends} {f : Fl} (h : flK K Γ F μ H st' E f) (k : Keep F μ H F1 μ1 H1) : flK K Γ F1 μ1 H1 st' E f := by
  cases f with
  | ret d fl => exact h
  | next env => exact fun σ' F' μ' H' k' => h σ' F' μ' H' (k.trans k')
  | brk env => exact fun σ' F' μ' H' k' => h σ' F' μ' H' (k.trans k')
  | cont env => exact fun σ' F' μ' H' k' => h σ' F' μ' H' (k.trans k')
def tSM (K : PySem.W.Frag) (Γ : En) (m : Env → M Fl) : TS := fun E σ H => ∃ F μ env st f st', Rel K Γ F μ H σ env st ∧ m env st = some (f, st') ∧ flK K Γ F μ H st' E f
structure DefOk (X : Cx) (c : Cfg) (k : Nat) : Prop where
  ok : Ok X c k
  fn : ∀ x, X.fn x = true
  po : PassesOwn (model X.prog X.w) X.A X.env X.xe
theorem DefOk.lo {X : Cx} {c : Cfg} {k : Nat} (d : DefOk X c k) : LocOk X c X.env.scope := ⟨d.ok.n, d.ok.nd, fun x j h => ⟨(loc_ok h).2, .inl (d.fn x)⟩⟩
def SOk (c : Cfg) (R : Scope → Stmt → Env → M Fl) (k : Nat) : Prop := ∀ (X : Cx) (Γ : En) (s : Stmt), DefOk X c k → PS X s (tSM X.K Γ (R X.env.scope s))
theorem ps_no {X : Cx} {Γ : En} {s : Stmt} {m : Env → M Fl} (h : ∀ env st, m env st = none) : PS X s (tSM X.K Γ m) := ⟨fun _ _ σ H E _ ⟨F, μ, env, st, f, st', _, e, _⟩ => by rw [h] at e; cases e⟩

section
variable {X : Cx} {c : Cfg} {L : Lv} {R : Scope → Stmt → Env → M Fl} {k : Nat}
theorem pss_blk (hR : SOk c R k) (dk : DefOk X c k) (Γ : En) : ∀ ss : List Stmt, PSs X ss (tSM X.K Γ (blk R X.env.scope ss))
  | [] => pss_nil.imp fun E σ H ⟨F, μ, env, st, f, st', rel, e, q⟩ => by
    obtain ⟨rfl, rfl⟩ := ret_some e
    exact q σ F μ H (.refl _ _ _) rel
  | s :: r => (pss_cons (hR X Γ s dk) (pss_blk hR dk Γ r)).imp fun E σ H ⟨F, μ, env, st, f, st', rel, e, q⟩ => by
    obtain ⟨f1, st1, e1, e2⟩ := bnd_some e
    refine ⟨F, μ, env, st, f1, st1, rel, e1, ?_⟩
    cases f1 with
    | next env1 => exact fun σ' F' μ' H' kp rel' => ⟨F', μ', env1, st1, f, st', rel', e2, q.mono kp⟩
    | ret d fl => obtain ⟨rfl, rfl⟩ := ret_some e2; exact q
    | brk env1 => obtain ⟨rfl, rfl⟩ := ret_some e2; exact q
    | cont env1 => obtain ⟨rfl, rfl⟩ := ret_some e2; exact q

/-! ### return -/
theorem ownName_inv {sc : Scope} {e : Expr} {env : Env} {d : D} (h : ownName c sc e env = some d) : ∃ x pos j, e = .Name x pos ∧ slotOf c sc x = some j ∧ env[j]? = some (some (SV.own d)) := by
  unfold ownName at h
  split at h
  · rename_i x pos
    split at h
    · rename_i j hj
      split at h
      · rename_i d' hd
        cases h
        exact ⟨x, pos, j, rfl, hj, hd⟩
      · cases h
    · cases h
  · cases h
theorem ps_ret1 (hL : LvOk c L k) (dk : DefOk X c k) (Γ : En) {e : Expr} {pos : Pos} : PS X (.Return (some e) pos) (tSM X.K Γ fun env => (match ownName c X.env.scope e env with
    | some d => ret (.ret d true)
    | none => bnd (compX c L X.env.scope e env) fun p => ret (.ret p.1 p.2))) := by
  refine ⟨fun pins s σ H E I ⟨F, μ, env, st, f, st', rel, eq, q⟩ => ?_⟩
  cases ho : ownName c X.env.scope e env with
  | some d =>
    simp only [ho] at eq
    obtain ⟨rfl, rfl⟩ := ret_some eq
    obtain ⟨x, p, j, rfl, hs, hd⟩ := ownName_inv ho
    obtain ⟨h1, h2, h3, h4⟩ := slot_ok hs
    obtain ⟨a, g1, g2, g3, g4, g5⟩ := rel.en.own j d hd
    exact (ps_ret (pe_var (i := j) (by rw [dk.ok.n]; exact h1) h2 h3 h4)).run pins s σ H E I ⟨_, g1, q _ F μ H rel.sp rel.hr ⟨a, rfl, g2, g3, g4, g5⟩⟩
  | none =>
    simp only [ho] at eq
    obtain ⟨p, st1, e1, e2⟩ := bnd_some eq
    obtain ⟨rfl, rfl⟩ := ret_some e2
    exact (ps_ret (pe_x hL dk.ok Γ e)).run pins s σ H E I ⟨F, μ, env, st, p, st1, rel, e1, fun v F1 μ1 H1 s1 rel1 rx => q v F1 μ1 H1 rel1.sp rel1.hr (rx.back rel.sp.tr)⟩

/-! ### a name stored -/
theorem set_word {K : PySem.W.Frag} (Γ : En) {sc : Scope} {x : Str} {j : Nat} {m : Env → M (D × Bool)} (hj : locOf c sc x = some j) {E : Ends} {σ : Sg} {H : Hp}
    (h : tSM K Γ (fun env => bnd (m env) fun p => bnd (store c sc x p env) fun env1 => ret (.next env1)) E σ H) : tM K Γ (rX K Γ) m σ H (fun v H1 => E.nx (σ.set j (some v)) H1) := by
  obtain ⟨F, μ, env, st, f, st', rel, e, q⟩ := h
  obtain ⟨p, st1, e1, f1⟩ := bnd_some e
  obtain ⟨env1, st2, e2, f2⟩ := bnd_some f1
  obtain ⟨rfl, rfl⟩ := ret_some f2
  refine ⟨F, μ, env, st, p, st1, rel, e1, fun v F1 μ1 H1 s1 rel1 rx => ?_⟩
  unfold store at e2
  simp only [hj] at e2
  by_cases h1 : (p.2 && c.own.contains x) = true
  · rw [if_pos h1] at e2
    obtain ⟨rfl, rfl⟩ := ret_some e2
    obtain ⟨d, fl⟩ := p
    obtain ⟨hf, _⟩ := Bool.and_eq_true_iff.mp h1
    have hf : fl = true := hf
    subst hf
    obtain ⟨a, rfl, g1, g2, g3, g4⟩ := rx
    exact q _ F1 μ1 H1 (rel.keep s1) (rel.setOwn s1 rel1 g1 g2 g3 g4)
  rw [if_neg h1] at e2
  by_cases h2 : (p.2 && c.hp.contains x) = true
  · rw [if_pos h2] at e2
    obtain ⟨d, fl⟩ := p
    obtain ⟨hf, _⟩ := Bool.and_eq_true_iff.mp h2
    have hf : fl = true := hf
    subst hf
    cases d with
    | list xs =>
      cases e2
      obtain ⟨a, rfl, g1, g2, g3, g4⟩ := rx
      obtain ⟨r2, k2, rp⟩ := rel.promote s1 rel1 g1 g2 g3 g4
      exact q _ F1 _ H1 ((rel.keep s1).trans k2) ⟨r2.sp, r2.hr, r2.en.setFrz rp⟩
    | _ => cases e2
  · rw [if_neg h2] at e2
    obtain ⟨rfl, rfl⟩ := ret_some e2
    obtain ⟨F2, s2, rel2, rp⟩ := rx.frz rel s1 rel1
    exact q _ F2 μ1 H1 (rel.keep s2) ⟨rel2.sp, rel2.hr, rel2.en.setFrz rp⟩
theorem sw_no {e : Expr} (h : isComp e = false) (t : Option Expr) (l : Nat) (env : PySem.Env) : swapsWith e t l env = pure false := by
  cases e <;> first | rfl | cases h
theorem sw_lc {elt : Expr} {gs : List Comprehension} {scope : Scope} {pos py : Pos} {y : Str} {l : Nat} {env : PySem.Env} : ∃ b, swapsWith (.ListComp elt gs scope pos) (some (.Name y py)) l env = pure b ∧ (b = true → env.scope.names.lookup y = some .local) := by
  refine ⟨_, rfl, fun h => ?_⟩
  simp only [Bool.and_eq_true] at h
  have := h.1.1.2
  exact by simpa [PySem.Env.kindOf] using this
theorem ps_name (hL : LvOk c L k) (dk : DefOk X c k) (Γ : En) {x : Str} {px pos : Pos} {e : Expr} : PS X (.Assign [.Name x px] e pos) (tSM X.K Γ fun env => bnd (compX c L X.env.scope e env) fun p => bnd (store c X.env.scope x p env) fun env1 => ret (.next env1)) := by
  cases hj : locOf c X.env.scope x with
  | none => exact ps_no fun env st => bnd_none fun p st => bnd_left (by unfold store; simp only [hj]; rfl)
  | some j =>
    have hN : X.N[j]? = some x := by rw [dk.ok.n]; exact (loc_ok hj).1
    have hx := (loc_ok hj).2
    by_cases hc : isComp e = false
    · exact (ps_set dk.ok.nd hN hx (pe_x hL dk.ok Γ e) (sw_no hc _ _ _) (.inl (dk.fn x))).imp fun E σ H h => set_word Γ hj h
    · cases e with
      | ListComp elt gs scope p =>
        obtain ⟨b, hb, hl⟩ := sw_lc (elt := elt) (gs := gs) (scope := scope) (pos := p) (py := px) (y := x) (l := pos.line) (env := X.env)
        cases b with
        | false => exact (ps_set dk.ok.nd hN hx (pe_x hL dk.ok Γ _) hb (.inl (dk.fn x))).imp fun E σ H h => set_word Γ hj h
        | true =>
          match gs, hb with
          | [], _ => exact ps_no fun env st => rfl
          | ⟨tg, iter, ifs, .ofNat 0⟩ :: _ :: _, _ => exact ps_no fun env st => rfl
          | ⟨tg, iter, ifs, .ofNat (n + 1)⟩ :: _ :: _, _ => exact ps_no fun env st => rfl
          | ⟨tg, iter, ifs, .negSucc n⟩ :: _ :: _, _ => exact ps_no fun env st => rfl
          | [⟨tg, iter, ifs, .ofNat (n + 1)⟩], _ => exact ps_no fun env st => rfl
          | [⟨tg, iter, ifs, .negSucc n⟩], _ => exact ps_no fun env st => rfl
          | [⟨tg, iter, ifs, .ofNat 0⟩], hb =>
            show PS X _ (tSM X.K Γ fun env => bnd (compX1 c L X.env.scope elt tg iter ifs scope env) _)
            by_cases hbk : blkC c.N X.env.scope scope (ownOf c scope) = true
            case neg => exact ps_no fun env st => bnd_left (by unfold compX1; rw [if_neg hbk]; rfl)
            by_cases hset : isSet iter = true
            · exact ps_no fun env st => bnd_left (by unfold compX1; rw [if_pos hbk]; exact bnd_left (src_set hset env st))
            have hset' : isSet iter = false := by simpa using hset
            cases hjs : tgSlots c scope tg with
            | none => exact ps_no fun env st => bnd_left (by unfold compX1; rw [if_pos hbk]; simp only [hjs]; exact bnd_none fun _ _ => rfl)
            | some js =>
              exact (ps_setLc (own := ownOf c scope) dk.ok.calm dk.ok.nd hN (hl rfl) hb (pi_src hL dk.ok Γ) (by rw [dk.ok.n]; exact blkOk_by hbk) (fun s H C cl fp => pg_T (X := X.blk s H scope (compEnvC scope cl C X.env) fp) dk.ok.calm (locB dk.ok s H scope C cl fp) hjs)
                (fun s H C cl fp => pts_M hL (dk.ok.blk s H scope (compEnvC scope cl C X.env) fp) Γ ifs) (fun s H C cl fp => hL.x (X.blk s H scope (compEnvC scope cl C X.env) fp) Γ elt (dk.ok.blk s H scope (compEnvC scope cl C X.env) fp)) (set_false hset' X.env)).imp fun E σ H h => comp_word Γ hjs (set_word Γ hj h)
      | SetComp _ _ _ _ => exact ps_no fun env st => rfl
      | DictComp _ _ _ _ _ => exact ps_no fun env st => rfl
      | _ => exact absurd rfl hc

/-! ### methods that change a list -/
def tU (K : PySem.W.Frag) (Γ : En) (m : Env → M (D × Env)) : TE := fun σ H Q => ∃ F μ env st d env' st', Rel K Γ F μ H σ env st ∧ m env st = some ((d, env'), st') ∧
  ∀ v F' μ' H', Keep F μ H F' μ' H' → Rel K Γ F' μ' H' σ env' st' → Rp K Γ.ν F' μ' H' d v → Q v H'
theorem mtk_append : MtOk X "list" "append" "list.append" := ⟨PySem.F.plainAttrs_list, PySem.F.slot_list_append, PySem.F.type_list_append⟩
theorem mtk_extend : MtOk X "list" "extend" "list.extend" := ⟨PySem.F.plainAttrs_list, PySem.F.slot_list_extend, PySem.F.type_list_extend⟩
theorem mtk_pop : MtOk X "list" "pop" "list.pop" := ⟨PySem.F.plainAttrs_list, PySem.F.slot_list_pop, PySem.F.type_list_pop⟩
theorem mtk_update : MtOk X "dict" "update" "dict.update" := ⟨PySem.F.plainAttrs_dict, PySem.F.slot_dict_update, PySem.F.type_dict_update⟩
def rUpd : V → List V → Hp → VK → Prop := fun x vs H Q => ∃ a b xs ys, x = .ref a ∧ vs = [.ref b] ∧ a ≠ b ∧ H a = some (.dK xs) ∧ Rd H b (.dK ys) ∧ xs.length + ys.length ≤ sizeLine ∧ Q .non (upd H a (.dK (mergeK xs ys)))
theorem mt_update : MtR X "dict.update" rUpd := by
  intro pins s σ H x vs v us Q I rx rv h
  obtain ⟨a, b, xs, ys, rfl, rfl, hne, ha, hb, hz, q⟩ := h
  cases rx
  obtain ⟨u, rfl, ru⟩ := vals1 rv
  cases ru
  obtain ⟨_, ha0, va, ra, da⟩ := dk_of I.hok ha
  obtain ⟨_, hb0, vb, rb, db⟩ := dk_rd I.hok hb
  refine call_meetsIn PySem.F.slot_dict_update da.typeIs PySem.F.entry_dict_update (PySem.F.args_dict_update_2 _ _) (meets_dict_update (mixKind X.prog X.w) a b hne hb0) ⟨va, vb, da, db, by rw [← ra.length, ← rb.length]; exact hz, fun h' da' _ hs => ?_⟩
  have he : ∃ o, h'.get? a = some o := let ⟨o, _, _, ho, _⟩ := da'; ⟨o, ho⟩
  have hl : (mergeK xs ys).length ≤ sizeLine := Nat.le_trans (length_mergeK ys xs) hz
  exact ⟨.non, _, d_write (t' := s.toks) I (by rw [ha]; exact True.intro) hs he (dk_new hl ha0 (rb.merge ra) da'), rfl, q⟩
theorem mtk_insert : MtOk X "list" "insert" "list.insert" := ⟨PySem.F.plainAttrs_list, PySem.F.slot_list_insert, PySem.F.type_list_insert⟩
def rIns : V → List V → Hp → VK → Prop := fun x vs H Q => ∃ (l : Addr) (xs : List V) (i : Int) (y : V), x = .ref l ∧ vs = [.int i, y] ∧ H l = some (.lst xs) ∧ xs.length < sizeLine ∧ 0 ≤ i ∧ i < 2 ^ 63 ∧
    Q .non (upd H l (.lst (xs.take i.toNat ++ [y] ++ xs.drop i.toNat)))
theorem mtk_remove : MtOk X "list" "remove" "list.remove" := ⟨PySem.F.plainAttrs_list, PySem.F.slot_list_remove, PySem.F.type_list_remove⟩
/-- extending a list by a tuple, whatever else the tuple's object holds -/
theorem ext_tup (l : Addr) (xs : Array Value) (n : Nat) (b : Addr) (ys : Array Value) (n2 : Nat) (dd : Option Addr) (sl : Array (Option Value))
    (h0 : ¬(!xs.isEmpty && Builtin.List.listTooLong (xs.size + ys.size)) = true) (h1 : xs.size ≤ sizeLine) (h2 : xs.size + ys.size ≤ sizeLine + 1) :
    Meets (Builtin.«list.extend» ⟨[.ref l, .ref b], []⟩) (fun _ R s => s.heap.get? l = some { cls := .type "list", dict := none, data := .seq xs n, slots := #[] } ∧ s.heap.get? b = some { cls := .type "tuple", dict := dd, data := .seq ys n2, slots := sl } ∧ R (.ok (.ret Value.none)) { s with heap := s.heap.update l (Obj.mapSeq fun x => x ++ ys), toks := s.toks }) :=
  .of_wp fun prog w A R s h => by
    obtain ⟨hp, g, d, tk, os⟩ := s
    obtain ⟨hl, hb, h⟩ := h
    have f1 := AutoSeq1.idx_int
    have f2 := AutoSeq1.sub_tuple_tuple
    have f3 := AutoSeq1.sub_list_list
    have f4 := AutoSeq1.sub_tuple_list
    have f5 := AutoSeq1.sub_list_tuple
    have hz' : (xs ++ ys).size ≤ sizeLine + 1 := by rw [Array.size_append]; exact h2
    wp_walk using (wpAny_updateSeq hl rfl (hz := h1) (_hz' := hz')), AutoSeq1.wpAny_loadPart' hl, AutoSeq1.wpAny_loadPart' hb
    exact ⟨_, rfl, h⟩
def rExtT (K : PySem.W.Frag) : V → List V → Hp → VK → Prop := fun x vs H Q => ∃ l b xs zs, x = .ref l ∧ vs = [.ref b] ∧ H l = some (.lst xs) ∧ SqT K H b zs ∧ xs.length + zs.length ≤ sizeLine ∧ Q .non (upd H l (.lst (xs ++ zs)))
theorem mt_extT : MtR X "list.extend" (rExtT X.K) := by
  intro pins s σ H x vs v us Q I rx rv h
  obtain ⟨l, b, xs, zs, rfl, rfl, hH, hB, hz, q⟩ := h
  cases rx
  obtain ⟨u, rfl, ru⟩ := vals1 rv
  cases ru
  obtain ⟨z, its, n, r, hl, e⟩ := I.lstM hH
  obtain ⟨its2, r2, ⟨o, e2, hc, n2, hd⟩, z2⟩ := I.tuple hB
  have hl2 := r2.length
  obtain ⟨oc, od, odt, os⟩ := o
  simp only at hc hd
  subst hc hd
  have hsz : its.toArray.size + its2.toArray.size ≤ sizeLine := by rw [List.size_toArray, List.size_toArray]; omega
  have hlong : ¬ (!its.toArray.isEmpty && Builtin.List.listTooLong (its.toArray.size + its2.toArray.size)) = true := by
    rw [notLongL hsz, Bool.and_false]
    exact Bool.false_ne_true
  refine call_meets F.slot_list_extend ⟨_, e, rfl⟩ F.entry_list_extend (F.args_list_extend_2 _ _)
    (ext_tup l its.toArray n b its2.toArray n2 od os hlong (by rw [List.size_toArray]; omega) (by omega)) ⟨e, e2, ?_⟩
  refine ⟨.non, _, I.lset (its' := its ++ its2) hH e (by simp) (r.append r2) ?_, rfl, q⟩
  rw [List.length_append]
  omega
def rRemD (K : PySem.W.Frag) : V → List V → Hp → VK → Prop := fun v vs H Q => ∃ (ν : Mu) (F : Fz) (μ : Mu) (l : Addr) (xs : List V) (y : V) (d : D) (ds : List D) (j : Nat), v = .ref l ∧ vs = [y] ∧ H l = some (.lst xs) ∧ RpAll K ν F μ H ds xs ∧ Rp K ν F μ H d y ∧
  shapedB d = true ∧ shapedB (.list ds) = true ∧ indexOf d ds 0 = some j ∧ Q .non (upd H l (.lst (xs.eraseIdx j)))
theorem mt_removeD (hu : X.A.units + 65 < cLine) : MtR X "list.remove" (rRemD X.K) := by
  intro pins s σ H v vs u us Q I rv rs hq
  obtain ⟨ν, F, μ, l, xs, y, d, ds, j, rfl, rfl, hH, hall, hy, s1, s2, hj, q⟩ := hq
  cases rv
  obtain ⟨uy, rfl, ry⟩ := vals1 rs
  obtain ⟨_, z, g1, g2, g3⟩ := indexOf_some hj
  rw [Nat.sub_zero] at g1 g3
  obtain ⟨hz, its, n, r, hl, e0⟩ := I.lstM hH
  have c2 : PyData.canLayAll0 ds = true := SeqAt.canLay_of_shaped s2
  have hcx := SeqAt.canLay_of_shaped s1
  obtain ⟨bs, r1⟩ := Dp.reads I d y uy (hy.dp hcx) ry
  have hda := hall.dp0 (by have := PyData.hasDict_of_canLay (.tuple ds) (by simpa [PyData.canLay0] using c2); simpa [PyData.hasDict] using this)
  obtain ⟨as, h4⟩ := Dp.readsAll I ds _ its hda r
  have hn : its.length = ds.length := SeqAt.ReadsAll.length ds its as h4
  have hmap : its.map (SeqAt.readOf s.heap) = ds := SeqAt.readsAll_map ds its as c2 h4
  have hjd : j < ds.length := (List.getElem?_eq_some_iff.mp g1).1
  have hjs : j < its.toArray.size := by rw [List.size_toArray]; omega
  have at_ : ∀ (m : Nat) (hm : m < its.toArray.size) (z' : D), ds[m]? = some z' → SeqAt.readOf s.heap its.toArray[m] = z' := fun m hm z' e' => by
    have hml : m < its.length := by simpa using hm
    rw [← hmap, List.getElem?_map, List.getElem?_eq_getElem hml] at e'
    simpa using e'
  refine call_meets PySem.F.slot_list_remove ⟨_, e0, rfl⟩ PySem.F.entry_list_remove (PySem.F.args_list_remove_2 _ _)
    (SeqAt.list_removeAt l its.toArray n none #[] uy (fun u => PyData.eqv (SeqAt.readOf s.heap u) d) j hjs ?_ (fun m hm hmj => ?_) (by rw [List.size_toArray, ← hl]; exact hz))
    ⟨e0, SeqAt.items_eqAt (vs := its.toArray) (show ReadsAll s.heap its.toArray.toList ds as from h4) r1 c2 hcx (room_in_shaped s1 hu), ?_⟩
  · show PyData.eqv (SeqAt.readOf s.heap its.toArray[j]) d = true
    rw [at_ j hjs z g1]; exact g2
  · have hmd : m < ds.length := by omega
    show PyData.eqv (SeqAt.readOf s.heap its.toArray[m]) d = false
    rw [at_ m hm _ (List.getElem?_eq_getElem hmd)]
    exact g3 m _ hmj (List.getElem?_eq_getElem hmd)
  · refine ⟨.non, _, I.lset (its' := its.eraseIdx j) hH e0 ?_ (r.eraseIdx j) ?_, rfl, q⟩
    · show its.toArray.eraseIdxIfInBounds j = (its.eraseIdx j).toArray
      rw [List.eraseIdxIfInBounds_toArray]
    · have := len_erase xs j
      omega
theorem pe_u_none {Γ : En} {e : Expr} {m : Env → M (D × Env)} (h : ∀ env st, m env st = none) : PE X e (tU X.K Γ m) := pe_false fun σ H Q ⟨F, μ, env, st, d, env', st', _, e, _⟩ => by rw [h] at e; cases e
theorem pe_mut (hL : LvOk c L k) (ok : Ok X c k) (Γ : En) {o : Expr} {m : Str} {ap cp : Pos} {args : List Expr} (hm : mutOk ap cp m o = true) :
    PE X (.Call (.Attribute o m ap) args [] cp) (tU X.K Γ (mutX L X.env.scope o m args)) := by
  unfold mutOk at hm
  simp only [Bool.and_eq_true] at hm
  obtain ⟨⟨hl, _⟩, hb⟩ := hm
  match args with
  | [] => exact pe_u_none fun _ _ => rfl
  | _ :: _ :: _ :: _ => exact pe_u_none fun _ _ => rfl
  | [b, a] =>
    by_cases hc : (isStar b || isStar a || !decide (m = ("insert" : Str))) = true
    · exact pe_u_none fun env st => by simp only [mutX]; rw [if_pos hc]; rfl
    have hs2 : (isStar b = false ∧ isStar a = false) ∧ m = ("insert" : Str) := by simpa using hc
    obtain ⟨⟨hsb', hsa'⟩, rfl⟩ := hs2
    have hst : [b, a].all (fun e => !isStar e) = true := by simp [hsa', hsb']
    have hlen : [b, a].length < 20 := by simp
    have hls := sizeLine_eq
    have hline : line = 16777216 := rfl
    refine (pe_bmG (hL.o X Γ o ok) (pa_cons (hL.x X Γ b ok) (pa_cons (hL.x X Γ a ok) pa_nil (star_cons hsa' _ _)) (star_cons hsb' _ _)) hst hlen (by simp) hl (base_ok hb _ _)).imp fun σ H Q ⟨F, μ, env, st, d, env', st', rel, e, q⟩ => ?_
    have e : (if (isStar b || isStar a || !decide (("insert" : Str) = ("insert" : Str))) = true then (fail : M (D × Env)) else _) st = some ((d, env'), st') := e
    rw [if_neg hc] at e
    obtain ⟨p, st1, e1, f1⟩ := bnd_some e
    obtain ⟨d0, st2, e2, f2⟩ := bnd_some f1
    obtain ⟨g1, rfl⟩ := vw_some e2
    cases d0 with
    | list zs =>
      have f2 : bnd (L.x X.env.scope b env) _ _ = some _ := f2
      obtain ⟨p2, st3, e3, f3⟩ := bnd_some f2
      obtain ⟨p3, st4, e4, f4⟩ := bnd_some f3
      obtain ⟨d1, st5, e5, f5⟩ := bnd_some f4
      obtain ⟨g2, rfl⟩ := vw_some e5
      obtain ⟨q2, fl2⟩ := p2
      simp only at f5
      split at f5
      · rename_i xs i
        by_cases hz : xs.length < line ∧ 0 ≤ i ∧ i ≤ xs.length
        case neg => rw [if_neg hz] at f5; cases f5
        rw [if_pos hz] at f5
        obtain ⟨env1, st6, e6, f6⟩ := bnd_some f5
        obtain ⟨f7, rfl⟩ := ret_some f6
        cases f7
        refine ⟨F, μ, env, st, p, _, rel, e1, fun v F1 μ1 H1 s1 rel1 ro => ⟨"list", "list.insert", rIns, mtk_insert, tyG_of (vw_of rel1 ro g1) rfl (.inr (.inl rfl)), mt_insert, ?_⟩⟩
        refine ⟨F1, μ1, env, _, _, _, rel1, e3, fun w1 F2 μ2 H2 s2 rel2 rx => ?_⟩
        obtain ⟨F3, s3, rel3, rp⟩ := rx.frz rel1 s2 rel2
        cases rp
        refine ⟨F3, μ2, env, _, p3, _, rel3, e4, fun w2 F4 μ4 H4 s4 rel4 rx2 => ?_⟩
        obtain ⟨F5, s5, rel5, rp2⟩ := rx2.frz rel3 s4 rel4
        obtain ⟨b, vs, rfl, h1, h2, h3⟩ := putOp_ok rel5 (ro.keep ((rel1.keep s3).trans (rel3.keep s5))) g2 e6
        obtain ⟨r4, k4⟩ := h3 (vs.take i.toNat ++ [w2] ++ vs.drop i.toNat) (((h2.take i.toNat).append (.cons rp2 .nil)).append (h2.drop i.toNat))
        have hl2 := h2.length
        have l63 := line63
        exact ⟨b, vs, i, w2, rfl, rfl, h1, by omega, hz.2.1, by omega, q _ F5 μ4 _ ((((rel.keep s1).trans (rel1.keep s3)).trans (rel3.keep s5)).trans k4) r4 .non⟩
      · cases f5
    | _ => cases f2
  | [a] =>
    by_cases hsa : isStar a = true
    · exact pe_u_none fun env st => by simp only [mutX]; rw [if_pos hsa]; rfl
    have hsa' : isStar a = false := by simpa using hsa
    have hst : [a].all (fun e => !isStar e) = true := by simp [hsa']
    have hlen : [a].length < 20 := by simp
    have hls := sizeLine_eq
    have hline : line = 16777216 := rfl
    by_cases m1 : m = ("append" : Str)
    · subst m1
      refine (pe_bmG (hL.o X Γ o ok) (pa_cons (hL.x X Γ a ok) pa_nil (star_cons hsa' _ _)) hst hlen (by simp) hl (base_ok hb _ _)).imp fun σ H Q ⟨F, μ, env, st, d, env', st', rel, e, q⟩ => ?_
      simp only [mutX] at e
      rw [if_neg hsa] at e
      obtain ⟨p, st1, e1, f1⟩ := bnd_some e
      obtain ⟨d0, st2, e2, f2⟩ := bnd_some f1
      obtain ⟨g1, rfl⟩ := vw_some e2
      cases d0 with
      | list zs =>
        have f2 : bnd (L.x X.env.scope a env) _ _ = some _ := f2
        obtain ⟨p2, st3, e3, f3⟩ := bnd_some f2
        obtain ⟨d1, st4, e4, f4⟩ := bnd_some f3
        obtain ⟨g2, rfl⟩ := vw_some e4
        cases d1 with
        | list xs =>
          simp only at f4
          by_cases hz : xs.length < line
          case neg => rw [if_neg hz] at f4; cases f4
          rw [if_pos hz] at f4
          obtain ⟨env1, st5, e5, f5⟩ := bnd_some f4
          obtain ⟨f6, rfl⟩ := ret_some f5
          cases f6
          refine ⟨F, μ, env, st, p, _, rel, e1, fun v F1 μ1 H1 s1 rel1 ro => ⟨"list", "list.append", rAppend, mtk_append, tyG_of (vw_of rel1 ro g1) rfl (.inr (.inl rfl)), mt_append, ?_⟩⟩
          refine ⟨F1, μ1, env, _, p2, _, rel1, e3, fun w F2 μ2 H2 s2 rel2 rx => ?_⟩
          obtain ⟨F3, s3, rel3, rp⟩ := rx.frz rel1 s2 rel2
          obtain ⟨b, vs, rfl, h1, h2, h3⟩ := putOp_ok rel3 (ro.keep (rel1.keep s3)) g2 e5
          obtain ⟨r4, k4⟩ := h3 (vs ++ [w]) (h2.append (.cons rp .nil))
          exact ⟨b, vs, w, rfl, rfl, h1, by rw [← h2.length]; omega, q _ F3 μ2 _ (((rel.keep s1).trans (rel1.keep s3)).trans k4) r4 .non⟩
        | _ => cases f4
      | dict zs =>
        have f2 : (if ("append" : Str) = ("update" : Str) then _ else (fail : M (D × Env))) st1 = some _ := f2
        rw [if_neg (by decide +kernel)] at f2
        cases f2
      | _ => cases f2
    by_cases m2 : m = ("extend" : Str)
    · subst m2
      refine (pe_bmG (hL.o X Γ o ok) (pa_cons (hL.o X Γ a ok) pa_nil (star_cons hsa' _ _)) hst hlen (by simp) hl (base_ok hb _ _)).imp fun σ H Q ⟨F, μ, env, st, d, env', st', rel, e, q⟩ => ?_
      simp only [mutX] at e
      rw [if_neg hsa] at e
      obtain ⟨p, st1, e1, f1⟩ := bnd_some e
      obtain ⟨d0, st2, e2, f2⟩ := bnd_some f1
      obtain ⟨g1, rfl⟩ := vw_some e2
      cases d0 with
      | list zs =>
        have f2 : bnd (L.o X.env.scope a env) _ _ = some _ := f2
        obtain ⟨p2, st3, e3, f3⟩ := bnd_some f2
        obtain ⟨d1, st4, e4, f4⟩ := bnd_some f3
        obtain ⟨d2, st5, e5, f5⟩ := bnd_some f4
        obtain ⟨g2, rfl⟩ := vw_some e4
        obtain ⟨g3, rfl⟩ := vw_some e5
        split at f5
        · rename_i xs ys
          by_cases hz : noScr st3 p2 = true ∧ xs.length + ys.length ≤ line
          case neg => rw [if_neg hz] at f5; cases f5
          rw [if_pos hz] at f5
          obtain ⟨env1, st6, e6, f6⟩ := bnd_some f5
          obtain ⟨f7, rfl⟩ := ret_some f6
          cases f7
          refine ⟨F, μ, env, st, p, _, rel, e1, fun v F1 μ1 H1 s1 rel1 ro => ⟨"list", "list.extend", rExtend, mtk_extend, tyG_of (vw_of rel1 ro g1) rfl (.inr (.inl rfl)), mt_extend, ?_⟩⟩
          refine ⟨F1, μ1, env, _, p2, _, rel1, e3, fun w F2 μ2 H2 s2 rel2 ro2 => ?_⟩
          obtain ⟨b, vs, rfl, h1, h2, h3⟩ := putOp_ok rel2 (ro.keep (rel1.keep s2)) g2 e6
          obtain ⟨b2, ws, rfl, h4, h5⟩ := vwT_of rel2 ro2 g3 hz.1
          obtain ⟨r4, k4⟩ := h3 (vs ++ ws) (h2.append h5)
          exact ⟨b, b2, vs, ws, rfl, rfl, h1, h4, by rw [← h2.length, ← h5.length]; omega, q _ F2 μ2 _ (((rel.keep s1).trans (rel1.keep s2)).trans k4) r4 .non⟩
        · rename_i xs ys
          by_cases hz : noScr st3 p2 = true ∧ xs.length + ys.length ≤ line
          case neg => rw [if_neg hz] at f5; cases f5
          rw [if_pos hz] at f5
          obtain ⟨env1, st6, e6, f6⟩ := bnd_some f5
          obtain ⟨f7, rfl⟩ := ret_some f6
          cases f7
          refine ⟨F, μ, env, st, p, _, rel, e1, fun v F1 μ1 H1 s1 rel1 ro => ⟨"list", "list.extend", rExtT X.K, mtk_extend, tyG_of (vw_of rel1 ro g1) rfl (.inr (.inl rfl)), mt_extT, ?_⟩⟩
          refine ⟨F1, μ1, env, _, p2, _, rel1, e3, fun w F2 μ2 H2 s2 rel2 ro2 => ?_⟩
          obtain ⟨b, vs, rfl, h1, h2, h3⟩ := putOp_ok rel2 (ro.keep (rel1.keep s2)) g2 e6
          have h4 : Rp X.K Γ.ν F2 μ2 H2 (.tuple ys) w := vwT_of rel2 ro2 g3 hz.1
          cases h4 with
          | tup h4 h5 =>
            obtain ⟨r4, k4⟩ := h3 (vs ++ _) (h2.append h5)
            exact ⟨b, _, vs, _, rfl, rfl, h1, h4.seq, by rw [← h2.length, ← h5.length]; omega, q _ F2 μ2 _ (((rel.keep s1).trans (rel1.keep s2)).trans k4) r4 .non⟩
        · cases f5
      | dict zs =>
        have f2 : (if ("extend" : Str) = ("update" : Str) then _ else (fail : M (D × Env))) st1 = some _ := f2
        rw [if_neg (by decide +kernel)] at f2
        cases f2
      | _ => cases f2
    by_cases m3 : m = ("pop" : Str)
    · subst m3
      refine (pe_bmG (hL.o X Γ o ok) (pa_cons (hL.x X Γ a ok) pa_nil (star_cons hsa' _ _)) hst hlen (by simp) hl (base_ok hb _ _)).imp fun σ H Q ⟨F, μ, env, st, d, env', st', rel, e, q⟩ => ?_
      simp only [mutX] at e
      rw [if_neg hsa] at e
      obtain ⟨p, st1, e1, f1⟩ := bnd_some e
      obtain ⟨d0, st2, e2, f2⟩ := bnd_some f1
      obtain ⟨g1, rfl⟩ := vw_some e2
      cases d0 with
      | list zs =>
        have f2 : bnd (L.x X.env.scope a env) _ _ = some _ := f2
        obtain ⟨p2, st3, e3, f3⟩ := bnd_some f2
        obtain ⟨d1, st4, e4, f4⟩ := bnd_some f3
        obtain ⟨g2, rfl⟩ := vw_some e4
        obtain ⟨q2, fl2⟩ := p2
        simp only at f4
        split at f4
        · rename_i xs i
          by_cases hxl : xs.length ≤ line
          case neg => rw [if_neg hxl] at f4; cases f4
          rw [if_pos hxl] at f4
          cases hk : ixN xs.length i with
          | none => rw [hk] at f4; cases f4
          | some j =>
            rw [hk] at f4
            simp only at f4
            cases hy : xs[j]? with
            | none => rw [hy] at f4; cases f4
            | some y =>
              rw [hy] at f4
              simp only at f4
              obtain ⟨env1, st5, e5, f5⟩ := bnd_some f4
              obtain ⟨f6, rfl⟩ := ret_some f5
              cases f6
              refine ⟨F, μ, env, st, p, _, rel, e1, fun v F1 μ1 H1 s1 rel1 ro => ⟨"list", "list.pop", rPopAt, mtk_pop, tyG_of (vw_of rel1 ro g1) rfl (.inr (.inl rfl)), mt_popAt, ?_⟩⟩
              refine ⟨F1, μ1, env, _, _, _, rel1, e3, fun w F2 μ2 H2 s2 rel2 rx => ?_⟩
              obtain ⟨F3, s3, rel3, rp⟩ := rx.frz rel1 s2 rel2
              cases rp
              obtain ⟨b, vs, rfl, h1, h2, h3⟩ := putOp_ok rel3 (ro.keep (rel1.keep s3)) g2 e5
              obtain ⟨yv, h4, h5⟩ := h2.get hy
              obtain ⟨r4, k4⟩ := h3 (vs.eraseIdx j) (h2.erase j)
              obtain ⟨q1, q2, q3, q4⟩ := ixN_seq hk
              have hl2 := h2.length
              have l63 := line63
              have hvs : vs.length ≤ sizeLine := by omega
              refine ⟨b, vs, i, j, yv, rfl, rfl, h1, ?_, ?_, by rw [← hl2]; exact q1, h4, q _ F3 μ2 _ (((rel.keep s1).trans (rel1.keep s3)).trans k4) r4 (h5.keep k4)⟩
              · omega
              · omega
        · cases f4
      | dict zs =>
        have f2 : (if ("pop" : Str) = ("update" : Str) then _ else (fail : M (D × Env))) st1 = some _ := f2
        rw [if_neg (by decide +kernel)] at f2
        cases f2
      | _ => cases f2
    by_cases m5 : m = ("remove" : Str)
    · subst m5
      refine (pe_bmG (hL.o X Γ o ok) (pa_cons (hL.x X Γ a ok) pa_nil (star_cons hsa' _ _)) hst hlen (by simp) hl (base_ok hb _ _)).imp fun σ H Q ⟨F, μ, env, st, d, env', st', rel, e, q⟩ => ?_
      simp only [mutX] at e
      rw [if_neg hsa] at e
      obtain ⟨p, st1, e1, f1⟩ := bnd_some e
      obtain ⟨d0, st2, e2, f2⟩ := bnd_some f1
      obtain ⟨g1, rfl⟩ := vw_some e2
      cases d0 with
      | list zs =>
        have f2 : bnd (L.x X.env.scope a env) _ _ = some _ := f2
        obtain ⟨p2, st3, e3, f3⟩ := bnd_some f2
        obtain ⟨d1, st4, e4, f4⟩ := bnd_some f3
        obtain ⟨g2, rfl⟩ := vw_some e4
        cases d1 with
        | list xs =>
          simp only at f4
          by_cases hz : (xs.length ≤ line && shapedB p2.1 && shapedB (.list xs)) = true
          case neg => rw [if_neg hz] at f4; cases f4
          rw [if_pos hz] at f4
          simp only [Bool.and_eq_true, decide_eq_true_eq] at hz
          cases hk : indexOf p2.1 xs 0 with
          | none => rw [hk] at f4; cases f4
          | some j =>
            rw [hk] at f4
            simp only at f4
            obtain ⟨env1, st5, e5, f5⟩ := bnd_some f4
            obtain ⟨f6, rfl⟩ := ret_some f5
            cases f6
            refine ⟨F, μ, env, st, p, _, rel, e1, fun v F1 μ1 H1 s1 rel1 ro => ⟨"list", "list.remove", rRemD X.K, mtk_remove, tyG_of (vw_of rel1 ro g1) rfl (.inr (.inl rfl)), mt_removeD (by have := ok.hu; omega), ?_⟩⟩
            refine ⟨F1, μ1, env, _, _, _, rel1, e3, fun w F2 μ2 H2 s2 rel2 rx => ?_⟩
            obtain ⟨F3, s3, rel3, rp⟩ := rx.frz rel1 s2 rel2
            obtain ⟨b, vs, rfl, h1, h2, h3⟩ := putOp_ok rel3 (ro.keep (rel1.keep s3)) g2 e5
            obtain ⟨r4, k4⟩ := h3 (vs.eraseIdx j) (h2.erase j)
            exact ⟨Γ.ν, F3, μ2, b, vs, w, p2.1, xs, j, rfl, rfl, h1, h2, rp, hz.1.2, hz.2, hk, q _ F3 μ2 _ (((rel.keep s1).trans (rel1.keep s3)).trans k4) r4 .non⟩
        | _ => cases f4
      | dict zs =>
        have f2 : (if ("remove" : Str) = ("update" : Str) then _ else (fail : M (D × Env))) st1 = some _ := f2
        rw [if_neg (by decide +kernel)] at f2
        cases f2
      | _ => cases f2
    by_cases m4 : m = ("update" : Str)
    · subst m4
      refine (pe_bmG (hL.o X Γ o ok) (pa_cons (hL.o X Γ a ok) pa_nil (star_cons hsa' _ _)) hst hlen (by simp) hl (base_ok hb _ _)).imp fun σ H Q ⟨F, μ, env, st, d, env', st', rel, e, q⟩ => ?_
      simp only [mutX] at e
      rw [if_neg hsa] at e
      obtain ⟨p, st1, e1, f1⟩ := bnd_some e
      obtain ⟨d0, st2, e2, f2⟩ := bnd_some f1
      obtain ⟨g1, rfl⟩ := vw_some e2
      cases d0 with
      | dict zs =>
        have f2 : bnd (L.o X.env.scope a env) _ _ = some _ := f2
        obtain ⟨p2, st3, e3, f3⟩ := bnd_some f2
        obtain ⟨d1, st4, e4, f4⟩ := bnd_some f3
        obtain ⟨d2, st5, e5, f5⟩ := bnd_some f4
        obtain ⟨g2, rfl⟩ := vw_some e4
        obtain ⟨g3, rfl⟩ := vw_some e5
        split at f5
        · rename_i xs ys
          by_cases hz : (frzOp p2 && decide (xs.length + ys.length ≤ line)) = true
          case neg => rw [if_neg hz] at f5; cases f5
          rw [if_pos hz] at f5
          obtain ⟨env1, st6, e6, f6⟩ := bnd_some f5
          obtain ⟨f7, rfl⟩ := ret_some f6
          cases f7
          simp only [Bool.and_eq_true, decide_eq_true_eq] at hz
          refine ⟨F, μ, env, st, p, _, rel, e1, fun v F1 μ1 H1 s1 rel1 ro => ⟨"dict", "dict.update", rUpd, mtk_update, tyG_of (vw_of rel1 ro g1) rfl (.inr (.inr (.inr rfl))), mt_update, ?_⟩⟩
          refine ⟨F1, μ1, env, _, p2, _, rel1, e3, fun w F2 μ2 H2 s2 rel2 ro2 => ?_⟩
          obtain ⟨b, vs, rfl, h1, h2, nF, h3⟩ := putD_ok rel2 (ro.keep (rel1.keep s2)) g2 e6
          -- the other one is a frozen value
          have fro : ∃ b2 ws, w = .ref b2 ∧ F2 b2 ∧ Rd H2 b2 (.dK ws) ∧ KvAll X.K Γ.ν F2 μ2 H2 ys ws := by
            cases p2 with
            | o j => cases hz.1
            | v d2 =>
              have hr : refOf? d2 = none := by simpa [frzOp] using hz.1
              unfold view at g3
              simp only [hr] at g3
              cases Option.some.inj g3
              have ro2 : Rp X.K Γ.ν F2 μ2 H2 (.dict ys) w := ro2
              cases hw : ro2 with
              | dct f e r => exact ⟨_, _, rfl, f, e, r⟩
              | ref h => cases hr
          obtain ⟨b2, ws, rfl, f2b, h4, h5⟩ := fro
          obtain ⟨r4, k4⟩ := h3 (mergeK vs ws) (KvAll.merge h5 h2)
          exact ⟨b, b2, vs, ws, rfl, rfl, fun z => nF (z ▸ f2b), h1, h4, by rw [← h2.length, ← h5.length]; omega, q _ F2 μ2 _ (((rel.keep s1).trans (rel1.keep s2)).trans k4) r4 .non⟩
        · cases f5
      | list zs =>
        have f2 : (if ("update" : Str) = ("append" : Str) then _ else if ("update" : Str) = ("extend" : Str) then _ else if ("update" : Str) = ("pop" : Str) then _ else if ("update" : Str) = ("remove" : Str) then _ else (fail : M (D × Env))) st1 = some _ := f2
        rw [if_neg (by decide +kernel), if_neg (by decide +kernel), if_neg (by decide +kernel), if_neg (by decide +kernel)] at f2
        cases f2
      | _ => cases f2
    exact pe_u_none fun env st => by
      simp only [mutX]
      rw [if_neg hsa]
      refine bnd_none fun p st => bnd_none fun d st => ?_
      cases d with
      | list xs => simp only; rw [if_neg m1, if_neg m2, if_neg m3, if_neg m5]; rfl
      | dict xs => simp only; rw [if_neg m4]; rfl
      | _ => rfl
end
end Pz

/-! Pz13: the other statements; the whole of a statement. -/
namespace Pz
open PySem PySem.Spec PyProof.Rows L2 RZ

section
variable {X : Cx} {c : Cfg} {L : Lv} {R : Scope → Stmt → Env → M Fl} {k : Nat}

/-! ### name = o.m(..) -/
theorem ps_namePop (hL : LvOk c L k) (dk : DefOk X c k) (Γ : En) {x : Str} {px pos ap cp : Pos} {o : Expr} {m : Str} {args : List Expr} (hm : mutOk ap cp m o = true) :
    PS X (.Assign [.Name x px] (.Call (.Attribute o m ap) args [] cp) pos) (tSM X.K Γ fun env => (match locOf c X.env.scope x with
      | some j => bnd (mutX L X.env.scope o m args env) fun p => ret (.next (p.2.set j (some (.frz p.1))))
      | none => fail)) := by
  cases hj : locOf c X.env.scope x with
  | none => exact ps_no fun env st => rfl
  | some j =>
    have hN : X.N[j]? = some x := by rw [dk.ok.n]; exact (loc_ok hj).1
    refine (ps_set dk.ok.nd hN (loc_ok hj).2 (pe_mut hL dk.ok Γ hm) (sw_no rfl _ _ _) (.inl (dk.fn x))).imp fun E σ H ⟨F, μ, env, st, f, st', rel, e, q⟩ => ?_
    obtain ⟨⟨d, env1⟩, st1, e1, e2⟩ := bnd_some e
    obtain ⟨rfl, rfl⟩ := ret_some e2
    exact ⟨F, μ, env, st, d, env1, _, rel, e1, fun v F1 μ1 H1 k1 rel1 rp => q _ F1 μ1 H1 k1 ⟨rel1.sp, rel1.hr, rel1.en.setFrz rp⟩⟩
/-! ### o.m(..) -/
theorem ps_exprMut (hL : LvOk c L k) (dk : DefOk X c k) (Γ : En) {pos ap cp : Pos} {o : Expr} {m : Str} {args : List Expr} (hm : mutOk ap cp m o = true) :
    PS X (.Expr (.Call (.Attribute o m ap) args [] cp) pos) (tSM X.K Γ fun env => bnd (mutX L X.env.scope o m args env) fun p => ret (.next p.2)) := by
  refine (ps_expr (pe_mut hL dk.ok Γ hm) (sw_no rfl _ _ _)).imp fun E σ H ⟨F, μ, env, st, f, st', rel, e, q⟩ => ?_
  obtain ⟨⟨d, env1⟩, st1, e1, e2⟩ := bnd_some e
  obtain ⟨rfl, rfl⟩ := ret_some e2
  exact ⟨F, μ, env, st, d, env1, _, rel, e1, fun v F1 μ1 H1 k1 rel1 rp => q _ F1 μ1 H1 k1 rel1⟩
theorem ps_exprCall (hL : LvOk c L k) (dk : DefOk X c k) (Γ : En) {e : Expr} {pos : Pos} (hc : isComp e = false) :
    PS X (.Expr e pos) (tSM X.K Γ fun env => bnd (compX c L X.env.scope e env) fun _ => ret (.next env)) := by
  refine (ps_expr (pe_x hL dk.ok Γ e) (sw_no hc _ _ _)).imp fun E σ H ⟨F, μ, env, st, f, st', rel, e, q⟩ => ?_
  obtain ⟨p, st1, e1, e2⟩ := bnd_some e
  obtain ⟨rfl, rfl⟩ := ret_some e2
  exact ⟨F, μ, env, st, p, _, rel, e1, fun v F1 μ1 H1 s1 rel1 rx => q _ F1 μ1 H1 (rel.keep s1) rel1⟩

/-! ### rows of names -/
theorem sw_tup {e : Expr} {ts : List Expr} {kk : Nat} {tp : Pos} (l : Nat) (env : PySem.Env) : swapsWithSole [.Tuple ts kk tp] e l env = pure false := by
  cases e <;> rfl
theorem st_no {e t : Expr} (h : isTup e = false) (env : PySem.Env) : swappedStores [t] e env = pure none := by
  unfold swappedStores
  cases e <;> first | rfl | (cases t <;> rfl) | cases h
theorem isStar_match (vs : List Expr) (h : vs.all (fun e => !isStar e) = true) : (vs.any fun | .Starred .. => true | _ => false) = false := by
  rw [List.any_eq_false]
  intro e he
  have := List.all_eq_true.mp h e he
  cases e <;> first | (exfalso; simp [isStar] at this; done) | simp
theorem st_tup {ts vs : List Expr} {kk k2 : Nat} {tp p2 : Pos} {env : PySem.Env} (h : swNo env.scope ts vs = true) : swappedStores [.Tuple ts kk tp] (.Tuple vs k2 p2) env = pure none := by
  unfold swNo at h
  simp only [Bool.and_eq_true, Bool.or_eq_true, decide_eq_true_eq] at h
  obtain ⟨h1, h2⟩ := h
  have h3 := isStar_match vs h1
  unfold swappedStores
  have hl : (ts.head?.map (·.pos.line)).getD 0 = lnOf ts := by cases ts <;> rfl
  have hnm : (ts.filterMap fun e => (match e with
    | .Name id pos => if env.kindOf id == some .local && pos.line == lnOf ts then some id else none
    | _ => none)) = ts.filterMap (nmOf env.scope (lnOf ts)) := by
    congr 1
    funext e
    cases e <;> first | rfl | skip
    rename_i id pos
    show (if (env.kindOf id == some .local && pos.line == lnOf ts) = true then some id else none) = nmOf env.scope (lnOf ts) (.Name id pos)
    unfold nmOf
    simp only [PySem.Env.kindOf, Bool.and_eq_true, beq_iff_eq]
  simp only [hl]
  split
  · rfl
  · refine (if_neg fun z => Bool.false_ne_true (h3.symm.trans z)).trans ?_
    rcases h2 with h2 | h2
    · refine if_pos (Bool.or_eq_true_iff.mpr (.inl ?_))
      rw [bne_iff_ne]
      intro z
      exact h2 ((congrArg List.length hnm).symm.trans z)
    · simp only [h2, if_true]
      exact ite_self _
theorem ps_rowN (hL : LvOk c L k) (dk : DefOk X c k) (Γ : En) {ts vs : List Expr} {kk k2 : Nat} {tp p2 pos : Pos} (hw : swNo X.env.scope ts vs = true) :
    PS X (.Assign [.Tuple ts kk tp] (.Tuple vs k2 p2) pos) (tSM X.K Γ fun env => (match tgSlots c X.env.scope (.Tuple ts kk tp) with
      | some js => bnd (compX c L X.env.scope (.Tuple vs k2 p2) env) fun p => (match asg true js p.1 env with
        | some env1 => ret (.next env1)
        | none => fail)
      | none => fail)) := by
  cases hj : tgSlots c X.env.scope (.Tuple ts kk tp) with
  | none => exact ps_no fun env st => rfl
  | some js =>
    refine (ps_asg (pe_x hL dk.ok Γ _) (pg_T dk.ok.calm dk.lo hj) (sw_tup _ _) (st_tup hw)).imp fun E σ H ⟨F, μ, env, st, f, st', rel, eq, q⟩ => ?_
    obtain ⟨p, st1, e1, e2⟩ := bnd_some eq
    refine ⟨F, μ, env, st, p, st1, rel, e1, fun v F1 μ1 H1 s1 rel1 rx => ?_⟩
    obtain ⟨F2, s2, rel2, rp⟩ := rx.frz rel s1 rel1
    cases ha : asg true js p.1 env with
    | none => rw [ha] at e2; cases e2
    | some env1 =>
      rw [ha] at e2
      obtain ⟨rfl, rfl⟩ := ret_some e2
      obtain ⟨σ1, s3, rel3, hg, _⟩ := asg_ok (tg := .Tuple ts kk tp) rel2 (.inl ⟨rfl, rp⟩) ha
      exact hg _ (q σ1 F2 μ1 H1 (rel.keep s2) rel3)
theorem ps_row (hL : LvOk c L k) (dk : DefOk X c k) (Γ : En) {ts : List Expr} {kk : Nat} {tp pos : Pos} {e : Expr} (ht : isTup e = false) :
    PS X (.Assign [.Tuple ts kk tp] e pos) (tSM X.K Γ fun env => (match tgSlots c X.env.scope (.Tuple ts kk tp) with
      | some js => bnd (compX c L X.env.scope e env) fun p => (match asg true js p.1 env with
        | some env1 => ret (.next env1)
        | none => fail)
      | none => fail)) := by
  cases hj : tgSlots c X.env.scope (.Tuple ts kk tp) with
  | none => exact ps_no fun env st => rfl
  | some js =>
    refine (ps_asg (pe_x hL dk.ok Γ e) (pg_T dk.ok.calm dk.lo hj) (sw_tup _ _) (st_no ht _)).imp fun E σ H ⟨F, μ, env, st, f, st', rel, eq, q⟩ => ?_
    obtain ⟨p, st1, e1, e2⟩ := bnd_some eq
    refine ⟨F, μ, env, st, p, st1, rel, e1, fun v F1 μ1 H1 s1 rel1 rx => ?_⟩
    obtain ⟨F2, s2, rel2, rp⟩ := rx.frz rel s1 rel1
    cases ha : asg true js p.1 env with
    | none => rw [ha] at e2; cases e2
    | some env1 =>
      rw [ha] at e2
      obtain ⟨rfl, rfl⟩ := ret_some e2
      obtain ⟨σ1, s3, rel3, hg, _⟩ := asg_ok (tg := .Tuple ts kk tp) rel2 (.inl ⟨rfl, rp⟩) ha
      exact hg _ (q σ1 F2 μ1 H1 (rel.keep s2) rel3)
theorem nmOf_inv {sc : Scope} {l : Nat} {e : Expr} {x : Str} (h : nmOf sc l e = some x) : ∃ p, e = .Name x p ∧ sc.names.lookup x = some .local ∧ p.line = l := by
  unfold nmOf at h
  split at h
  · split at h
    · rename_i hz
      cases h
      exact ⟨_, rfl, hz.1, hz.2⟩
    · cases h
  · cases h
theorem setE_two {env env1 : Env} {j1 j2 : Nat} {ds : List D} (h : setE env [j1, j2] ds = some env1) : ∃ d1 d2, ds = [d1, d2] ∧ env1 = (env.set j1 (some (.frz d1))).set j2 (some (.frz d2)) := by
  match ds, h with
  | [d1, d2], h => cases h; exact ⟨d1, d2, rfl, rfl⟩
  | [], h => cases h
  | [_], h => cases h
  | _ :: _ :: _ :: _, h => cases h
theorem ps_rowT (hL : LvOk c L k) (dk : DefOk X c k) (Γ : En) {ts vs : List Expr} {kk k2 : Nat} {tp tp2 pos : Pos} (hw : swOk X.env.scope ts vs = true) :
    PS X (.Assign [.Tuple ts kk tp] (.Tuple vs k2 tp2) pos) (tSM X.K Γ fun env => (match tgSlots c X.env.scope (.Tuple ts kk tp) with
      | some js => bnd (argsX L X.env.scope vs env) fun ds => (match setE env js ds with
        | some env1 => ret (.next env1)
        | none => fail)
      | none => fail)) := by
  cases hj : tgSlots c X.env.scope (.Tuple ts kk tp) with
  | none => exact ps_no fun env st => rfl
  | some js =>
    refine ⟨fun pins s σ H E I hq => ?_⟩
    have hk : X.env.blockKind = .function := by unfold PySem.Env.blockKind; rw [I.ok.kind]; rfl
    unfold swOk at hw
    simp only [Bool.and_eq_true, Bool.not_eq_true', decide_eq_true_eq] at hw
    obtain ⟨⟨⟨⟨⟨⟨w1, w2⟩, w3⟩, w4⟩, w5⟩, w6⟩, w7⟩ := hw
    have w3' := isStar_match vs w3
    have hj' : tgNames c X.env.scope ts = some js := hj
    have key : ∀ {x : Str} {p : Pos} {l : Nat}, nmOf X.env.scope l (.Name x p) = some x → (X.env.kindOf x == some .local && p.line == l) = true := fun {x p l} h => by
      obtain ⟨_, e, h1, h2⟩ := nmOf_inv h
      cases e
      simp [PySem.Env.kindOf, h1, h2]
    match ts, vs, w1, w2, w3, w3', w4, w5, w6, w7, hj' with
    | [t1, t2], [a, b], _, _, w3, w3', w4, w5, w6, w7, hj' =>
      obtain ⟨x, px, j1, js', rfl, l1, hj2, rfl⟩ := tgNames_cons hj'
      obtain ⟨y, py, j2, js'', rfl, l2, hj3, rfl⟩ := tgNames_cons hj2
      cases hj3
      simp only [List.all_cons, List.all_nil, Bool.and_true, Bool.and_eq_true, Option.isSome_iff_exists] at w4
      obtain ⟨⟨x', wx⟩, ⟨y', wy⟩⟩ := w4
      obtain ⟨p1, ex, lx, nx⟩ := nmOf_inv wx
      obtain ⟨p2, ey, ly, ny⟩ := nmOf_inv wy
      cases ex; cases ey
      have hxy : x ≠ y := by
        rw [List.filterMap_cons, wx, List.filterMap_cons, wy] at w5
        intro e; subst e
        simp at w5
      have kx := key wx
      have ky := key wy
      have hsw : swappedStores [.Tuple [.Name x px, .Name y py] kk tp] (.Tuple [a, b] k2 tp2) X.env = pure (some [x, y]) := by
        have hl : ((List.head? [Expr.Name x px, Expr.Name y py]).map (·.pos.line)).getD 0 = lnOf [.Name x px, .Name y py] := rfl
        have hdup : ([x, y].eraseDups.length != [x, y].length) = false := by
          simp [List.eraseDups_cons, Ne.symm hxy]
        unfold swappedStores
        simp only [hl, hk, w3', w6, w7]
        simp only [List.filterMap_cons, List.filterMap_nil, kx, ky, if_true]
        simp only [hdup]
        refine (if_neg (by simp)).trans ((if_neg fun h => Bool.false_ne_true (w3'.symm.trans h)).trans rfl)
      have n1 : X.N[j1]? = some x := by rw [dk.ok.n]; exact (loc_ok l1).1
      have n2 : X.N[j2]? = some y := by rw [dk.ok.n]; exact (loc_ok l2).1
      have hij : j1 ≠ j2 := fun e => by
        subst e; rw [n1] at n2; cases n2; exact hxy rfl
      refine (ps_par dk.ok.calm dk.ok.nd n1 n2 hij lx ly (pa_argsX hL dk.ok Γ [a, b]) hsw (sw_tup _ _)).run pins s σ H E I ?_
      obtain ⟨F, μ, env, st, f, st', rel, eq, q⟩ := hq
      obtain ⟨ds, st1, e1, e2⟩ := bnd_some eq
      cases he : setE env [j1, j2] ds with
      | none => rw [he] at e2; cases e2
      | some env1 =>
        rw [he] at e2
        obtain ⟨rfl, rfl⟩ := ret_some e2
        obtain ⟨d1, d2, rfl, rfl⟩ := setE_two he
        refine ⟨F, μ, env, st, _, _, rel, e1, fun vs F1 μ1 H1 s1 rel1 rs => ?_⟩
        cases rs with
        | cons r1 rs =>
          cases rs with
          | cons r2 rs =>
            cases rs
            exact ⟨_, _, rfl, q _ F1 μ1 H1 (rel.keep s1) ⟨rel1.sp, rel1.hr, (rel1.en.setFrz r1).setFrz r2⟩⟩
    | [t1, t2, t3], [a, b, d], _, _, w3, w3', w4, w5, w6, w7, hj' =>
      obtain ⟨x, px, j1, js', rfl, l1, hj2, rfl⟩ := tgNames_cons hj'
      obtain ⟨y, py, j2, js'', rfl, l2, hj3, rfl⟩ := tgNames_cons hj2
      obtain ⟨z, pz, j3, js3, rfl, l3, hj4, rfl⟩ := tgNames_cons hj3
      cases hj4
      simp only [List.all_cons, List.all_nil, Bool.and_true, Bool.and_eq_true, Option.isSome_iff_exists] at w4
      obtain ⟨⟨x', wx⟩, ⟨y', wy⟩, ⟨z', wz⟩⟩ := w4
      obtain ⟨p1, ex, lx, nx⟩ := nmOf_inv wx
      obtain ⟨p2, ey, ly, ny⟩ := nmOf_inv wy
      obtain ⟨p3, ez, lz, nz⟩ := nmOf_inv wz
      cases ex; cases ey; cases ez
      have hd : x ≠ y ∧ x ≠ z ∧ y ≠ z := by
        rw [List.filterMap_cons, wx, List.filterMap_cons, wy, List.filterMap_cons, wz] at w5
        simp at w5
        exact ⟨w5.1.1, w5.1.2, w5.2⟩
      have kx := key wx
      have ky := key wy
      have kz := key wz
      have hsw : swappedStores [.Tuple [.Name x px, .Name y py, .Name z pz] kk tp] (.Tuple [a, b, d] k2 tp2) X.env = pure (some [x, y, z]) := by
        have hl : ((List.head? [Expr.Name x px, Expr.Name y py, Expr.Name z pz]).map (·.pos.line)).getD 0 = lnOf [.Name x px, .Name y py, .Name z pz] := rfl
        have hdup : ([x, y, z].eraseDups.length != [x, y, z].length) = false := by
          simp [List.eraseDups_cons, Ne.symm hd.1, Ne.symm hd.2.1, Ne.symm hd.2.2]
        unfold swappedStores
        simp only [hl, hk, w3', w6, w7]
        simp only [List.filterMap_cons, List.filterMap_nil, kx, ky, kz, if_true]
        simp only [hdup]
        refine (if_neg (by simp)).trans ((if_neg fun h => Bool.false_ne_true (w3'.symm.trans h)).trans rfl)
      have n1 : X.N[j1]? = some x := by rw [dk.ok.n]; exact (loc_ok l1).1
      have n2 : X.N[j2]? = some y := by rw [dk.ok.n]; exact (loc_ok l2).1
      have n3 : X.N[j3]? = some z := by rw [dk.ok.n]; exact (loc_ok l3).1
      have h12 : j1 ≠ j2 := fun e => by
        subst e; rw [n1] at n2; cases n2; exact hd.1 rfl
      have h13 : j1 ≠ j3 := fun e => by
        subst e; rw [n1] at n3; cases n3; exact hd.2.1 rfl
      have h23 : j2 ≠ j3 := fun e => by
        subst e; rw [n2] at n3; cases n3; exact hd.2.2 rfl
      refine (ps_par3 dk.ok.calm dk.ok.nd n1 n2 n3 h12 h13 h23 lx ly lz (pa_argsX hL dk.ok Γ [a, b, d]) hsw (sw_tup _ _)).run pins s σ H E I ?_
      obtain ⟨F, μ, env, st, f, st', rel, eq, q⟩ := hq
      obtain ⟨ds, st1, e1, e2⟩ := bnd_some eq
      cases he : setE env [j1, j2, j3] ds with
      | none => rw [he] at e2; cases e2
      | some env1 =>
        rw [he] at e2
        obtain ⟨rfl, rfl⟩ := ret_some e2
        refine ⟨F, μ, env, st, _, _, rel, e1, fun vs F1 μ1 H1 s1 rel1 rs => ?_⟩
        obtain ⟨g1, g2, _⟩ := setE_ok rel1.en rs he
        match vs, g2 with
        | [u, v, w], _ => exact ⟨_, _, _, rfl, q _ F1 μ1 H1 (rel.keep s1) ⟨rel1.sp, rel1.hr, g1⟩⟩
    | [], _, w1, _, _, _, _, _, _, _, _ => simp at w1
    | [_], _, w1, _, _, _, _, _, _, _, _ => simp at w1
    | _ :: _ :: _ :: _ :: _, _, w1, _, _, _, _, _, _, _, _ => simp at w1
    | [_, _], [], _, w2, _, _, _, _, _, _, _ => simp at w2
    | [_, _], [_], _, w2, _, _, _, _, _, _, _ => simp at w2
    | [_, _], _ :: _ :: _ :: _, _, w2, _, _, _, _, _, _, _ => simp at w2
    | [_, _, _], [], _, w2, _, _, _, _, _, _, _ => simp at w2
    | [_, _, _], [_], _, w2, _, _, _, _, _, _, _ => simp at w2
    | [_, _, _], [_, _], _, w2, _, _, _, _, _, _, _ => simp at w2
    | [_, _, _], _ :: _ :: _ :: _ :: _, _, w2, _, _, _, _, _, _, _ => simp at w2

/-! ### attributes stored -/
/-- an object of the small heap is written -/
theorem Rel.wIns {K : PySem.W.Frag} {Γ : En} {F : Fz} {μ : Mu} {H : Hp} {σ : Sg} {env : Env} {st : S} {i : Nat} {fs es : List (Str × D)} {a dx dy : Addr} {xs ys : List (Str × V)} {C : Addr} (r : Rel K Γ F μ H σ env st) (hi : μ i = some a) (ho : st[i]? = some (.ins wCls fs)) (hz : H a = some (.ins C dx xs)) (rs : FsAll K Γ.ν F μ H es ys) (hC : C = He.ga K wCls) :
    Rel K Γ F μ (upd H a (.ins C dy ys)) σ env (st.set i (.ins wCls es)) ∧ Keep F μ H F μ (upd H a (.ins C dy ys)) := by
  subst hC
  have nF : ¬ F a := r.hr.mF i a hi
  have kp : Keep F μ H F μ (upd H a (.ins (He.ga K wCls) dy ys)) := by
    refine ⟨fun _ h => h, fun _ _ h => h, fun b o u e => ?_, fun b f => upd_ne fun e => nF (e ▸ f)⟩
    rw [upd_ne fun q => by subst q; rw [hz] at e; cases e]
    exact e
  refine ⟨⟨?_, ?_, ?_⟩, kp⟩
  · refine ⟨fun b o e n => ?_, fun b e => ?_, r.sp.fs, r.sp.fn, r.sp.ms, r.sp.mn⟩
    · rw [upd_ne fun q => ?_]
      · exact r.sp.fr b o e n
      · subst q
        rcases r.sp.mn i b hi with q | q
        · exact n i q
        · rw [q] at e; cases e
    · by_cases q : b = a
      · subst q; rw [upd_same]; simp
      · rw [upd_ne q]; exact r.sp.tr b e
  · have hil : i < st.length := (List.getElem?_eq_some_iff.mp ho).1
    refine ⟨fun b f => ?_, r.hr.mF, fun k b e => by rw [List.length_set]; exact r.hr.mT k b e, fun k b e => by rw [List.length_set]; exact r.hr.nT k b e, r.hr.mI, fun k ns e => ?_, fun k o e n => ?_⟩
    · have q : b ≠ a := fun e => nF (e ▸ f)
      rw [upd_ne q]; exact r.hr.fT b f
    · have hn : i ≠ k := fun q => by subst q; rw [List.getElem?_set_self hil] at e; cases e
      rw [List.getElem?_set_ne hn] at e
      obtain ⟨h1, b, h2, h3⟩ := r.hr.sc k ns e
      exact ⟨h1, b, h2, h3.keep kp⟩
    · by_cases hn : i = k
      · subst hn
        rw [List.getElem?_set_self hil] at e
        cases e
        obtain ⟨h1, b, h2, _⟩ := r.hr.ob i _ ho (fun _ q => nomatch q)
        refine ⟨h1, a, hi, .ins upd_same (rs.keep kp)⟩
      · rw [List.getElem?_set_ne hn] at e
        obtain ⟨h1, b, h2, h3⟩ := r.hr.ob k o e n
        exact ⟨h1, b, h2, h3.move kp (upd_ne fun q => hn (r.hr.mI i k a hi (q ▸ h2)))⟩
  · refine ⟨r.en.len, fun j d e => ?_, fun j d e => ?_, r.en.dis, r.en.fn⟩
    · obtain ⟨v, h1, h2⟩ := r.en.frz j d e
      exact ⟨v, h1, h2.keep kp⟩
    · obtain ⟨b, h1, h2, h3, h4, h5⟩ := r.en.own j d e
      exact ⟨b, h1, h2.move kp (upd_ne fun q => h4 i (q ▸ hi)), h3, h4, h5⟩
theorem setM_ok {K : PySem.W.Frag} {Γ : En} {F : Fz} {μ : Mu} {H : Hp} {σ : Sg} {env : Env} {st st' : S} {f : Str} {x d : D} {v w : V} (r : Rel K Γ F μ H σ env st) (rd : Rp K Γ.ν F μ H d v) (rx : Rp K Γ.ν F μ H x w) (e : setM f x d st = some ((), st')) :
    ∃ a dx vs, v = .ref a ∧ H a = some (.ins (He.ga K wCls) dx vs) ∧ vs.length < 1000 ∧ Rel K Γ F μ (upd H a (.ins (He.ga K wCls) dx (putF f w vs))) σ env st' ∧ Keep F μ H F μ (upd H a (.ins (He.ga K wCls) dx (putF f w vs))) := by
  unfold setM at e
  cases hr : refOf? d with
  | none => rw [hr] at e; cases e
  | some i =>
    rw [hr] at e
    simp only at e
    cases hi : st[i]? with
    | none => rw [hi] at e; cases e
    | some ob =>
      rw [hi] at e
      cases ob with
      | ins cn fs =>
        simp only at e
        by_cases hl : fs.length < 1000
        case neg => rw [if_neg hl] at e; cases e
        rw [if_pos hl] at e
        cases e
        obtain ⟨a, dx, vs, rfl, g0, rfl, g1, g2⟩ := ins_at r rd hr hi
        obtain ⟨r2, k2⟩ := r.wIns (dy := dx) g0 hi g1 (g2.put rx) rfl
        exact ⟨a, dx, vs, rfl, g1, by rw [← g2.length]; exact hl, r2, k2⟩
      | _ => cases e
theorem ps_att (hL : LvOk c L k) (dk : DefOk X c k) (Γ : En) {o e : Expr} {f : Str} {ap pos : Pos} (hf : wFlds.contains f = true) (hb : plainBase o = true) (hw : isW c = true) (hc : isComp e = false) :
    PS X (.Assign [.Attribute o f ap] e pos) (tSM X.K Γ fun env => bnd (compX c L X.env.scope e env) fun p => bnd (heapD p) fun d => bnd (L.x X.env.scope o env) fun q => bnd (setM f d q.1) fun _ => ret (.next env)) := by
  have W := dk.ok.wk hw
  refine (ps_fld (hL.x X Γ o dk.ok) (pe_x hL dk.ok Γ e) (sw_no hc _ _ _)).imp fun E σ H ⟨F, μ, env, st, fl, st', rel, eq, q⟩ => ?_
  obtain ⟨p, st1, e1, f1⟩ := bnd_some eq
  obtain ⟨d, st2, e2, f2⟩ := bnd_some f1
  obtain ⟨q2, st3, e3, f3⟩ := bnd_some f2
  obtain ⟨_, st4, e4, f4⟩ := bnd_some f3
  obtain ⟨rfl, rfl⟩ := ret_some f4
  refine ⟨F, μ, env, st, p, st1, rel, e1, fun v F1 μ1 H1 s1 rel1 rx => ?_⟩
  have key : ∃ F2 μ2, Keep F μ H F2 μ2 H1 ∧ Rel X.K Γ F2 μ2 H1 σ env st2 ∧ Rp X.K Γ.ν F2 μ2 H1 d v := by
    unfold heapD at e2
    by_cases h1 : p.2 = true
    · rw [if_pos h1] at e2
      obtain ⟨d1, fl1⟩ := p
      have h1 : fl1 = true := h1
      subst h1
      cases d1 with
      | list xs =>
        cases e2
        obtain ⟨a, rfl, g1, g2, g3, g4⟩ := rx
        obtain ⟨r2, k2, rp⟩ := rel.promote s1 rel1 g1 g2 g3 g4
        exact ⟨F1, _, (rel.keep s1).trans k2, r2, rp⟩
      | _ => cases e2
    · rw [if_neg h1] at e2
      obtain ⟨rfl, rfl⟩ := ret_some e2
      obtain ⟨F2, s2, rel2, rp⟩ := rx.frz rel s1 rel1
      exact ⟨F2, μ1, rel.keep s2, rel2, rp⟩
  obtain ⟨F2, μ2, k2, rel2, rp⟩ := key
  refine ⟨F2, μ2, env, st2, q2, st3, rel2, e3, fun x F3 μ3 H3 s3 rel3 rx3 => ?_⟩
  obtain ⟨F4, s4, rel4, rp4⟩ := rx3.frz rel2 s3 rel3
  obtain ⟨a, dx, vs, rfl, g1, g2, r5, k5⟩ := setM_ok rel4 rp4 (rp.keep (rel2.keep s4)) e4
  exact ⟨a, _, dx, vs, rfl, g1, W.cls, W.na f hf, g2, q σ F4 μ3 _ ((k2.trans (rel2.keep s4)).trans k5) r5⟩
def gAtt (K : PySem.W.Frag) (ta : TE) (f : Str) : TG := fun v σ H Q => ta σ H fun x H1 => ∃ a C dx fs, x = .ref a ∧ H1 a = some (.ins C dx fs) ∧ Cls K C ∧ NoAttr K C f ∧ fs.length < 1000 ∧ Q σ (upd H1 a (.ins C dx (putF f v fs)))
theorem pg_att {o : Expr} {f : Str} {ta : TE} {pos : Pos} (ha : PE X o ta) : PG X (.Attribute o f pos) (gAtt X.K ta f) := by
  refine ⟨fun pins s σ H v u Q I r h => ?_⟩
  have e0 : assign (.Attribute o f pos) X.env u = (do
      let ov ← holding [u] (eval o X.env)
      standAt pos.atName
      holding [u, ov] (setAttr ov f u)
      release [u, ov] []) := rfl
  rw [e0]
  refine wpAny_bind (wpAny_holding (thn (ha.run pins s σ H _ I h) fun ov s1 ⟨x, H1, I1, r1, a, C, dx, fs, ex, ea, cl, n, l, q⟩ => ?_))
  subst ex
  obtain rfl : ov = Value.ref a := r1
  refine wpAny_bind (wpAny_standAt (wpAny_bind (wpAny_holding (setattr_ok I1 ea cl n l r fun s2 I2 => ?_))))
  exact wpAny_release ⟨σ, _, I2, q⟩
def gItems (K : PySem.W.Frag) (Γ : En) (L : Lv) (sc : Scope) : List TgI → TGs
  | [] => gNil
  | .nm j :: r => gCons (gName j) (gItems K Γ L sc r)
  | .at_ o f :: r => gCons (gAtt K (tM K Γ (rX K Γ) (L.x sc o)) f) (gItems K Γ L sc r)
theorem pgs_items (hL : LvOk c L k) (dk : DefOk X c k) (Γ : En) : ∀ {es : List Expr} {ts : List TgI}, tgItems c X.env.scope es = some ts → PGs X es (gItems X.K Γ L X.env.scope ts) ∧ (assignEach es X.env).length = ts.length ∧ (assignEach es X.env).findIdx? (·.1) = none
  | [], ts, h => by
    cases h
    exact ⟨pgs_nil, rfl, rfl⟩
  | e :: es, ts, h => by
    unfold tgItems at h
    obtain ⟨t, h1, h2⟩ := Option.bind_eq_some_iff.mp h
    obtain ⟨ts', h3, rfl⟩ := Option.map_eq_some_iff.mp h2
    obtain ⟨p1, p2, p3⟩ := pgs_items hL dk Γ h3
    unfold tgItem at h1
    split at h1
    · rename_i x pos
      obtain ⟨j, hj, rfl⟩ := Option.map_eq_some_iff.mp h1
      refine ⟨pgs_cons (dk.lo.pg hj) p1, ?_, ?_⟩
      · show (assignEach es X.env).length + 1 = ts'.length + 1
        rw [p2]
      · show List.findIdx? _ ((false, assign (.Name x pos) X.env) :: assignEach es X.env) = none
        rw [List.findIdx?_cons]
        simp only [Bool.false_eq_true, if_false]
        rw [p3]
        rfl
    · rename_i o f pos
      split at h1
      · cases h1
        refine ⟨pgs_cons (pg_att (hL.x X Γ o dk.ok)) p1, ?_, ?_⟩
        · show (assignEach es X.env).length + 1 = ts'.length + 1
          rw [p2]
        · show List.findIdx? _ ((false, assign (.Attribute o f pos) X.env) :: assignEach es X.env) = none
          rw [List.findIdx?_cons]
          simp only [Bool.false_eq_true, if_false]
          rw [p3]
          rfl
      · cases h1
    · cases h1
/-- the attributes of a row of targets are such -/
def okT (c : Cfg) : TgI → Prop
  | .nm _ => True
  | .at_ _ f => wFlds.contains f = true ∧ isW c = true
theorem tgItems_ok {sc : Scope} : ∀ {es : List Expr} {ts : List TgI}, tgItems c sc es = some ts → ∀ t ∈ ts, okT c t
  | [], ts, h => by
    cases h
    intro t ht
    cases ht
  | e :: es, ts, h => by
    unfold tgItems at h
    obtain ⟨t, h1, h2⟩ := Option.bind_eq_some_iff.mp h
    obtain ⟨ts', h3, rfl⟩ := Option.map_eq_some_iff.mp h2
    intro t' ht'
    rcases List.mem_cons.mp ht' with rfl | ht'
    · unfold tgItem at h1
      split at h1
      · obtain ⟨j, hj, rfl⟩ := Option.map_eq_some_iff.mp h1
        trivial
      · split at h1
        · rename_i hq
          cases h1
          simp only [Bool.and_eq_true] at hq
          exact ⟨hq.1.1, hq.2⟩
        · cases h1
      · cases h1
    · exact tgItems_ok h3 t' ht'
theorem asgA_ok (dk : DefOk X c k) {Γ : En} : ∀ {ts : List TgI} {ds : List D} {vs : List V} {F : Fz} {μ : Mu} {H : Hp} {σ : Sg} {env env1 : Env} {st st1 : S} {Q : Sg → Hp → Prop}, (∀ t ∈ ts, okT c t) → Rel X.K Γ F μ H σ env st → RpAll X.K Γ.ν F μ H ds vs → asgA L X.env.scope ts ds env st = some (env1, st1) →
    (∀ σ' F' μ' H', Keep F μ H F' μ' H' → Rel X.K Γ F' μ' H' σ' env1 st1 → Q σ' H') → vs.length = ts.length ∧ gItems X.K Γ L X.env.scope ts vs σ H Q
  | [], [], _, F, μ, H, σ, env, env1, st, st1, Q, _, rel, .nil, e, q => by
    obtain ⟨rfl, rfl⟩ := ret_some e
    exact ⟨rfl, rfl, q σ F μ H (.refl _ _ _) rel⟩
  | [], _ :: _, _, _, _, _, _, _, _, _, _, _, _, _, _, e, _ => by cases e
  | .nm j :: ts, [], _, _, _, _, _, _, _, _, _, _, _, _, _, e, _ => by cases e
  | .at_ o f :: ts, [], _, _, _, _, _, _, _, _, _, _, _, _, _, e, _ => by cases e
  | .nm j :: ts, d :: ds, v :: vs, F, μ, H, σ, env, env1, st, st1, Q, ok, rel, .cons h r, e, q => by
    obtain ⟨h1, h2⟩ := asgA_ok dk (Q := Q) (fun t ht => ok t (List.mem_cons_of_mem _ ht)) (⟨rel.sp, rel.hr, rel.en.setFrz (j := j) h⟩ : Rel X.K Γ F μ H (σ.set j (some v)) (env.set j (some (.frz d))) st) r e q
    exact ⟨by simp [h1], v, vs, rfl, h2⟩
  | .at_ o f :: ts, d :: ds, v :: vs, F, μ, H, σ, env, env1, st, st1, Q, ok, rel, .cons h r, e, q => by
    obtain ⟨p, st2, e1, f1⟩ := bnd_some (show bnd (L.x X.env.scope o env) _ st = some (env1, st1) from e)
    obtain ⟨_, st3, e2, f2⟩ := bnd_some f1
    obtain ⟨hf, hw⟩ := (show wFlds.contains f = true ∧ isW c = true from ok _ List.mem_cons_self)
    have W := dk.ok.wk hw
    have hlen : vs.length = ts.length := by
      have h1 := r.length
      have : ∀ {ts : List TgI} {ds : List D} {env : Env} {st : S} {z : Env × S}, asgA L X.env.scope ts ds env st = some z → ds.length = ts.length := by
        intro ts
        induction ts with
        | nil => intro ds env st z e; cases ds with
          | nil => rfl
          | cons _ _ => cases e
        | cons t ts ih =>
          intro ds env st z e
          cases ds with
          | nil => cases t <;> cases e
          | cons d ds =>
            cases t with
            | nm j => exact congrArg (· + 1) (ih e)
            | at_ o f =>
              obtain ⟨_, _, _, g1⟩ := bnd_some (show bnd (L.x X.env.scope o env) _ st = some z from e)
              obtain ⟨_, _, _, g2⟩ := bnd_some g1
              exact congrArg (· + 1) (ih g2)
      rw [← h1, this f2]
    refine ⟨by simp [hlen], v, vs, rfl, F, μ, env, st, p, st2, rel, e1, fun x F1 μ1 H1 s1 rel1 rx => ?_⟩
    obtain ⟨F2, s2, rel2, rp⟩ := rx.frz rel s1 rel1
    obtain ⟨a, dx, fs, rfl, g1, g2, r3, k3⟩ := setM_ok rel2 rp (h.keep (rel.keep s2)) e2
    refine ⟨a, _, dx, fs, rfl, g1, W.cls, W.na f hf, g2, ?_⟩
    exact (asgA_ok dk (Q := Q) (fun t ht => ok t (List.mem_cons_of_mem _ ht)) r3 ((r.keep (rel.keep s2)).keep k3) f2 fun σ' F' μ' H' kp rel' => q σ' F' μ' H' (((rel.keep s2).trans k3).trans kp) rel').2
theorem ps_rowA (hL : LvOk c L k) (dk : DefOk X c k) (Γ : En) {ts : List Expr} {kk : Nat} {tp pos : Pos} {e : Expr} {js : List TgI} (ht : isTup e = false) (hj : tgItems c X.env.scope ts = some js) :
    PS X (.Assign [.Tuple ts kk tp] e pos) (tSM X.K Γ fun env => bnd (compX c L X.env.scope e env) fun p => (match p.1 with
      | .tuple ds => bnd (asgA L X.env.scope js ds env) fun env1 => ret (.next env1)
      | _ => fail)) := by
  obtain ⟨p1, p2, p3⟩ := pgs_items hL dk Γ hj
  refine (ps_asg (pe_x hL dk.ok Γ e) (pg_tup dk.ok.calm p1 p2 p3) (sw_tup _ _) (st_no ht _)).imp fun E σ H ⟨F, μ, env, st, f, st', rel, eq, q⟩ => ?_
  obtain ⟨p, st1, e1, e2⟩ := bnd_some eq
  refine ⟨F, μ, env, st, p, st1, rel, e1, fun v F1 μ1 H1 s1 rel1 rx => ?_⟩
  obtain ⟨F2, s2, rel2, rp⟩ := rx.frz rel s1 rel1
  obtain ⟨d, fl⟩ := p
  cases d with
  | tuple ds =>
    obtain ⟨env1, st2, e3, e4⟩ := bnd_some e2
    obtain ⟨rfl, rfl⟩ := ret_some e4
    cases rp with
    | tup h1 h2 =>
      obtain ⟨hl, hg⟩ := asgA_ok dk (Q := E.nx) (tgItems_ok hj) rel2 h2 e3 fun σ' F' μ' H' kp rel' => q σ' F' μ' H' ((rel.keep s2).trans kp) rel'
      exact ⟨_, _, rfl, h1.seq, hl, hg⟩
  | _ => cases e2
/-! ### o[i] = e -/
theorem sw_sub {o i e : Expr} {p : Pos} (l : Nat) (env : PySem.Env) : swapsWithSole [.Subscript o i p] e l env = pure false := by
  cases e <;> rfl
theorem set_any (hu : X.A.units + 1 < cLine) : PSet X (fun o i v H Q => rSetL o i v H Q ∨ rSetD o i v H Q) := fun pins s σ H o i v ov iv u Q I r1 r2 r3 h => by
  rcases h with h | h
  · exact set_list pins s σ H o i v ov iv u Q I r1 r2 r3 h
  · exact set_dict hu pins s σ H o i v ov iv u Q I r1 r2 r3 h
theorem ps_sub (hL : LvOk c L k) (dk : DefOk X c k) (Γ : En) {o i e : Expr} {sp pos : Pos} (hp : plainIx i = true) (ht : isTup e = false) :
    PS X (.Assign [.Subscript o i sp] e pos) (tSM X.K Γ fun env => bnd (compX c L X.env.scope e env) fun q => bnd (L.o X.env.scope o env) fun p => bnd (L.x X.env.scope i env) fun k => bnd (vw env p) fun d => (match d, k.1 with
      | .list xs, .int n => (match L2.ixN xs.length n with
        | some j => bnd (putOp env p (xs.set j q.1)) fun env1 => ret (.next env1)
        | none => fail)
      | .dict kvs, n => (match keyOf n with
        | some j => if kvs.length < line then bnd (putD env p (dput kvs n j q.1)) fun env1 => ret (.next env1) else fail
        | none => fail)
      | _, _ => fail)) := by
  refine (ps_asg (pe_x hL dk.ok Γ e) (pg_sub (hL.o X Γ o dk.ok) (hL.x X Γ i dk.ok) (set_any (by have := dk.ok.hu; omega)) (by intro v; cases i <;> first | rfl | cases hp)) (sw_sub _ _) (st_no ht _)).imp fun E σ H ⟨F, μ, env, st, f, st', rel, eq, q⟩ => ?_
  obtain ⟨p, st1, e1, f1⟩ := bnd_some eq
  obtain ⟨p2, st2, e2, f2⟩ := bnd_some f1
  obtain ⟨p3, st3, e3, f3⟩ := bnd_some f2
  obtain ⟨d, st4, e4, f4⟩ := bnd_some f3
  obtain ⟨g1, rfl⟩ := vw_some e4
  refine ⟨F, μ, env, st, p, st1, rel, e1, fun v F1 μ1 H1 s1 rel1 rx => ?_⟩
  obtain ⟨F2, s2, rel2, rp⟩ := rx.frz rel s1 rel1
  refine ⟨F2, μ1, env, st1, p2, st2, rel2, e2, fun o' F3 μ3 H3 s3 rel3 ro => ⟨F3, μ3, env, st2, p3, _, rel3, e3, fun i' F4 μ4 H4 s4 rel4 rx4 => ?_⟩⟩
  obtain ⟨F5, s5, rel5, rp5⟩ := rx4.frz rel3 s4 rel4
  obtain ⟨d3, fl3⟩ := p3
  simp only at f4
  split at f4
  · rename_i xs n
    cases hj : ixN xs.length n with
    | none => rw [hj] at f4; cases f4
    | some j =>
      rw [hj] at f4
      obtain ⟨env1, st5, e5, f5⟩ := bnd_some f4
      obtain ⟨rfl, rfl⟩ := ret_some f5
      cases rp5
      obtain ⟨b, vs, rfl, h1, h2, h3⟩ := putOp_ok rel5 (ro.keep (rel3.keep s5)) g1 e5
      have rp' := (rp.keep (rel2.keep s3)).keep (rel3.keep s5)
      obtain ⟨r6, k6⟩ := h3 (vs.set j v) (RpAll.set rp' j h2)
      exact .inl ⟨b, vs, n, j, rfl, rfl, h1, by rw [← h2.length]; exact hj, q σ F5 μ4 _ ((((rel.keep s2).trans (rel2.keep s3)).trans (rel3.keep s5)).trans k6) r6⟩
  · rename_i kvs
    cases hk : keyOf d3 with
    | none => rw [hk] at f4; cases f4
    | some j =>
      rw [hk] at f4
      simp only at f4
      by_cases hz : kvs.length < line
      case neg => rw [if_neg hz] at f4; cases f4
      rw [if_pos hz] at f4
      obtain ⟨env1, st5, e5, f5⟩ := bnd_some f4
      obtain ⟨rfl, rfl⟩ := ret_some f5
      have hr : refOf? d3 = none := by
        cases d3 <;> first | rfl | cases hk
      have hkv := key_v hk (Rp.vwT rp5 hr).vw
      subst hkv
      obtain ⟨b, vs, rfl, h1, h2, _, h3⟩ := putD_ok rel5 (ro.keep (rel3.keep s5)) g1 e5
      have rp' := (rp.keep (rel2.keep s3)).keep (rel3.keep s5)
      obtain ⟨r6, k6⟩ := h3 (putK vs j v) (KvAll.put hk rp' h2)
      have hlen : vs.length < sizeLine := by rw [← h2.length, ← line_eq]; exact hz
      exact .inr ⟨b, _, rfl, DPut.k h1 hlen, q σ F5 μ4 _ ((((rel.keep s2).trans (rel2.keep s3)).trans (rel3.keep s5)).trans k6) r6⟩
  · cases f4

/-! ### while -/
theorem ps_wh (hL : LvOk c L k) (hR : SOk c R k) (dk : DefOk X c k) (Γ : En) {t : Expr} {body : List Stmt} {pos : Pos} :
    PS X (.While t body [] pos) (tSM X.K Γ fun env => whileLoop (L.t X.env.scope t) (blk R X.env.scope body) (2 ^ 64) env) := by
  refine (ps_while dk.po (hL.t X Γ t dk.ok) (pss_blk hR dk Γ body)).imp fun E σ H ⟨F, μ, env, st, f, st', rel, e, q⟩ => ?_
  let W : Nat → Sg → Hp → Prop := fun m σ H => ∃ F μ env st, Rel X.K Γ F μ H σ env st ∧ whileLoop (L.t X.env.scope t) (blk R X.env.scope body) m env st = some (f, st') ∧ flK X.K Γ F μ H st' E f
  refine ⟨W, ⟨2 ^ 64, F, μ, env, st, rel, e, q⟩, ?_⟩
  rintro m σ H ⟨F, μ, env, st, rel, e, q⟩
  cases m with
  | zero => cases e
  | succ m =>
    obtain ⟨b, st1, e1, e2⟩ := bnd_some (show bnd (L.t X.env.scope t env) _ st = some (f, st') from e)
    refine ⟨F, μ, env, st, b, st1, rel, e1, fun F1 μ1 H1 s1 rel1 => ?_⟩
    have q1 := q.mono (rel.keep s1)
    cases b with
    | false =>
      obtain ⟨rfl, rfl⟩ := ret_some (show ret (Fl.next env) st1 = some (f, st') from e2)
      exact q1 σ F1 μ1 H1 (.refl _ _ _) rel1
    | true =>
      obtain ⟨g, st2, e3, e4⟩ := bnd_some (show bnd (blk R X.env.scope body env) _ st1 = some (f, st') from e2)
      show ∃ N : Sg → Hp → Prop, _ ∧ _
      refine ⟨W m, fun σ' H' w => ⟨m, Nat.lt_succ_self m, w⟩, F1, μ1, env, st1, g, st2, rel1, e3, ?_⟩
      cases g with
      | next env2 => exact fun σ' F' μ' H' kp rel' => ⟨F', μ', env2, st2, rel', e4, q1.mono kp⟩
      | cont env2 => exact fun σ' F' μ' H' kp rel' => ⟨F', μ', env2, st2, rel', e4, q1.mono kp⟩
      | brk env2 =>
        obtain ⟨rfl, rfl⟩ := ret_some e4
        exact q1
      | ret d fl =>
        obtain ⟨rfl, rfl⟩ := ret_some e4
        exact q1

/-! ### for -/
theorem own_noref {d : D} {K : PySem.W.Frag} {ν : Mu} {F : Fz} {μ : Mu} {H : Hp} {a : Addr} (h : OwnAt K ν F μ H d a) : refOf? d = none := by
  cases d with
  | list ds => rfl
  | dict kvs =>
    obtain ⟨vs, _, r⟩ := h
    cases hr : refOf? (.dict kvs) with
    | none => rfl
    | some i =>
      have := PyData.dict.inj (refOf_mk hr)
      subst this
      cases r with
      | cons hq _ _ => cases hq
  | _ => cases h
def DepR (K : PySem.W.Frag) (ν : Mu) (F : Fz) (μ : Mu) (H : Hp) (σ : Sg) (env : Env) (p : Op × D) (v : V) : Prop := match p.1 with
  | .v e => Rp K ν F μ H e v
  | .o j => σ[j]? = some (some v) ∧ (env[j]? = some (some (SV.own p.2)) ∨ env[j]? = some (some (SV.frz p.2)))
inductive DepsR (K : PySem.W.Frag) (ν : Mu) (F : Fz) (μ : Mu) (H : Hp) (σ : Sg) (env : Env) : List (Op × D) → List V → Prop
  | nil : DepsR K ν F μ H σ env [] []
  | cons {p : Op × D} {v : V} {ps : List (Op × D)} {vs : List V} : DepR K ν F μ H σ env p v → DepsR K ν F μ H σ env ps vs → DepsR K ν F μ H σ env (p :: ps) (v :: vs)
theorem DepsR.imp {K : PySem.W.Frag} {ν : Mu} {F F2 : Fz} {μ : Mu} {H : Hp} {σ : Sg} {env env2 : Env} (h : ∀ p v, DepR K ν F μ H σ env p v → DepR K ν F2 μ H σ env2 p v) : ∀ {ps : List (Op × D)} {vs : List V}, DepsR K ν F μ H σ env ps vs → DepsR K ν F2 μ H σ env2 ps vs
  | _, _, .nil => .nil
  | _, _, .cons a b => .cons (h _ _ a) (DepsR.imp h b)
/-- the own lists that a loop walks are given up -/
theorem freeze_ok {K : PySem.W.Frag} {Γ : En} {μ : Mu} {H : Hp} {σ : Sg} {st : S} : ∀ {deps : List (Op × D)} {avs : List V} {F : Fz} {env : Env}, Rel K Γ F μ H σ env st → DepsR K Γ.ν F μ H σ env deps avs →
    ∃ F', Keep F μ H F' μ H ∧ Rel K Γ F' μ H σ (freezeE env deps) st ∧ ∀ σ' env', ROs K Γ.ν F' μ H σ' env' ((freezeD deps).map (·.1)) avs
  | [], _, F, env, rel, .nil => ⟨F, .refl _ _ _, rel, fun _ _ => .nil⟩
  | (.v e, d) :: deps, _, F, env, rel, .cons h r => by
    obtain ⟨F', k1, r1, g⟩ := freeze_ok rel r
    exact ⟨F', k1, r1, fun σ' env' => .cons (show Rp K Γ.ν F' μ H e _ from Rp.keep k1 h) (g σ' env')⟩
  | (.o j, d) :: deps, _, F, env, rel, .cons (v := v) h r => by
    obtain ⟨h1, h2⟩ := (show σ[j]? = some (some v) ∧ (env[j]? = some (some (SV.own d)) ∨ env[j]? = some (some (SV.frz d))) from h)
    have key : ∃ F2, Keep F μ H F2 μ H ∧ Rel K Γ F2 μ H σ (env.set j (some (SV.frz d))) st ∧ Rp K Γ.ν F2 μ H d v := by
      have setv : σ.set j (some v) = σ := by
        apply List.ext_getElem?
        intro i
        by_cases e : j = i
        · subst e
          obtain ⟨lt, _⟩ := List.getElem?_eq_some_iff.mp h1
          rw [List.getElem?_set_self lt, h1]
        · rw [List.getElem?_set_ne e]
      rcases h2 with h2 | h2
      · obtain ⟨a, g1, g2, g3, g4, g5⟩ := rel.en.own j d h2
        rw [h1] at g1
        cases g1
        have kp : Keep F μ H (addF F a) μ H := keep_frz
        have s2 : Stp Γ.F Γ.μ Γ.H (addF F a) μ H := stp_frz rel.sp g5
        refine ⟨addF F a, kp, ?_, g2.rp⟩
        have r1 : Rel K Γ F μ H (σ.set j none) (env.set j none) st := ⟨rel.sp, rel.hr, rel.en.unset⟩
        have r2 : EnvR K Γ (addF F a) μ H (σ.set j none) (env.set j none) := by
          refine ⟨r1.en.len, fun i e q => ?_, fun i e q => ?_, r1.en.dis, r1.en.fn⟩
          · obtain ⟨w, q1, q2⟩ := r1.en.frz i e q
            exact ⟨w, q1, q2.keep kp⟩
          · obtain ⟨b, q1, q2, q3, q4, q5⟩ := r1.en.own i e q
            refine ⟨b, q1, q2.move kp rfl, fun f => f.elim q3 fun z => ?_, q4, q5⟩
            subst z
            obtain ⟨q, hn⟩ := get_set_ne q rfl
            rw [List.getElem?_set_ne (Ne.symm hn)] at q1
            exact hn (rel.en.dis i j e d _ q h2 q1 h1)
        have r3 := r2.setFrz (j := j) (v := .ref a) g2.rp
        rw [List.set_set, List.set_set, setv] at r3
        exact ⟨s2, rel.hr.freeze (Γ := Γ) g2.tr g4, r3⟩
      · obtain ⟨w, q1, q2⟩ := rel.en.frz j d h2
        rw [h1] at q1
        cases q1
        have r3 := rel.en.setFrz (j := j) q2
        rw [setv] at r3
        exact ⟨F, .refl _ _ _, ⟨rel.sp, rel.hr, r3⟩, q2⟩
    obtain ⟨F2, k2, rel2, rp⟩ := key
    have r' : DepsR K Γ.ν F2 μ H σ (env.set j (some (SV.frz d))) deps _ := r.imp fun p w hp => by
      obtain ⟨p, d'⟩ := p
      cases p with
      | v e => exact Rp.keep k2 hp
      | o j' =>
        obtain ⟨q1, q2⟩ := (show σ[j']? = some (some w) ∧ (env[j']? = some (some (SV.own d')) ∨ env[j']? = some (some (SV.frz d'))) from hp)
        refine ⟨q1, ?_⟩
        by_cases e : j = j'
        · subst e
          have lt : j < env.length := by
            rcases q2 with q2 | q2 <;> exact (List.getElem?_eq_some_iff.mp q2).1
          have ed : d' = d := by
            rcases q2 with q2 | q2 <;> rcases h2 with h2 | h2 <;> rw [h2] at q2 <;> cases q2 <;> rfl
          rw [List.getElem?_set_self lt]
          exact .inr (by rw [ed])
        · rw [List.getElem?_set_ne e]; exact q2
    obtain ⟨F', k1, r1, g⟩ := freeze_ok rel2 r'
    exact ⟨F', k2.trans k1, r1, fun σ' env' => .cons (show Rp K Γ.ν F' μ H d v from Rp.keep k1 rp) (g σ' env')⟩
theorem freezeD_snd : ∀ deps : List (Op × D), (freezeD deps).map (·.2) = deps.map (·.2)
  | [] => rfl
  | (.o _, d) :: r => congrArg (d :: ·) (freezeD_snd r)
  | (.v _, d) :: r => congrArg (d :: ·) (freezeD_snd r)
theorem deps_of {K : PySem.W.Frag} {Γ : En} {F : Fz} {μ : Mu} {H : Hp} {σ : Sg} {env : Env} {st : S} : ∀ {deps : List (Op × D)} {avs : List V}, ROs K Γ.ν F μ H σ env (deps.map (·.1)) avs → (∀ p ∈ deps, view env st p.1 = some p.2) →
    DepsR K Γ.ν F μ H σ env deps avs
  | [], avs, h, _ => by
    have h : ROs K Γ.ν F μ H σ env [] avs := h
    cases h
    exact .nil
  | (p, d) :: deps, avs, h, hv => by
    have h : ROs K Γ.ν F μ H σ env (p :: deps.map (·.1)) avs := h
    cases h with
    | cons h0 r =>
      refine .cons ?_ (deps_of r fun q hq => hv q (List.mem_cons_of_mem _ hq))
      have := hv (p, d) List.mem_cons_self
      cases p with
      | v e => exact h0
      | o j =>
        obtain ⟨⟨d1, h1⟩, h2⟩ := (show (∃ d, env[j]? = some (some (SV.own d))) ∧ σ[j]? = some (some _) from h0)
        unfold view at this
        simp only [h1] at this
        cases Option.some.inj this
        exact ⟨h2, .inl h1⟩
theorem forLoop_nil {s : Src} {asgn : D → Env → Option Env} {body : Env → M Fl} {env : Env} {st : S} : forLoop s asgn body [] env st = if s.ok env st = true then some (.next env, st) else none := rfl
theorem _root_.L2.ps_lockP {X : Cx} {st : Stmt} {t : TS} (h : PS X st t) : PS X st (fun D σ H => ∃ d u, H d = some u ∧ Mut (some u) ∧ ∀ od, t D σ (upd H d (.frz od u))) := ⟨fun pins s σ H D I hw => by
  obtain ⟨d, u, hd, mu, hw⟩ := hw
  obtain ⟨od, I1⟩ := I.lock hd mu
  exact h.run pins s σ _ D I1 (hw od)⟩
theorem ps_frD (hR : SOk c R k) (dk : DefOk X c k) (Γ : En) {tg : Expr} {x : Str} {px : Pos} {body : List Stmt} {pos : Pos} :
    PS X (.For tg (.Name x px) body [] pos) (tSM X.K Γ fun env => (match tgSlots c X.env.scope tg, slotOf c X.env.scope x with
      | some js, some j => walkD (asg (isTup tg) js) (blk R X.env.scope body) j env
      | _, _ => fail)) := by
  cases hj : tgSlots c X.env.scope tg with
  | none => exact ps_no fun env st => rfl
  | some js =>
  cases hs : slotOf c X.env.scope x with
  | none => exact ps_no fun env st => rfl
  | some j =>
  obtain ⟨h1, h2, h3, h4⟩ := slot_ok hs
  refine (ps_lockP (ps_for dk.po dk.ok.calm (pi_keys (pe_var (i := j) (by rw [dk.ok.n]; exact h1) h2 h3 h4)) (pg_T dk.ok.calm dk.lo hj) (pss_blk hR dk Γ body))).imp fun E σ H ⟨F, μ, env, st, f, st', rel, e, q⟩ => ?_
  have e2 : walkD (asg (isTup tg) js) (blk R X.env.scope body) j env st = some (f, st') := e
  obtain ⟨kvs, hown, e2⟩ : ∃ kvs, env[j]? = some (some (SV.own (.dict kvs))) ∧ forLoop ⟨kvs.map (·.1), []⟩ (asg (isTup tg) js) (blk R X.env.scope body) (kvs.map (·.1)) (env.set j (some (.frz (.dict kvs)))) st = some (f, st') := by
    unfold walkD at e2
    cases g : env[j]? with
    | none => simp only [g] at e2; cases e2
    | some o =>
      cases o with
      | none => simp only [g] at e2; cases e2
      | some sv =>
        cases sv with
        | frz d => simp only [g] at e2; cases e2
        | fn w => simp only [g] at e2; cases e2
        | own d =>
          cases d with
          | dict kvs => simp only [g] at e2; exact ⟨kvs, rfl, e2⟩
          | _ => simp only [g] at e2; cases e2
  obtain ⟨a, vs, g1, g2, g3, g4⟩ := lock_ok rel hown
  refine ⟨a, .dK vs, g2, trivial, fun od => ?_⟩
  obtain ⟨kv, kp, rel1⟩ := g4 od
  have q1 := q.mono kp
  refine ⟨.ref a, g1, a, od, rfl, .inl ⟨vs, upd_same, ?_⟩⟩
  let W : Nat → Nat → Sg → Hp → Prop := fun i m σ H => ∃ F μ env st, m = ((kvs.map (·.1)).drop i).length ∧ Rel X.K Γ F μ H σ env st ∧ H a = some (.frz od (.dK vs)) ∧
    forLoop ⟨kvs.map (·.1), []⟩ (asg (isTup tg) js) (blk R X.env.scope body) ((kvs.map (·.1)).drop i) env st = some (f, st') ∧ flK X.K Γ F μ H st' E f
  refine ⟨W, ⟨_, _, _, _, _, rfl, rel1, upd_same, by rw [List.drop_zero]; exact e2, q1⟩, ?_⟩
  rintro i m σ H ⟨F, μ, env, st, rfl, rel, hz, e, q⟩
  cases hd : (kvs.map (·.1)).drop i with
  | nil =>
    rw [hd, forLoop_nil] at e
    have ok : Src.ok ⟨kvs.map (·.1), []⟩ env st = true := rfl
    rw [if_pos ok] at e
    cases e
    have hl := List.drop_eq_nil_iff.mp hd
    rw [List.length_map] at hl
    exact .inl ⟨⟨hz, by omega⟩, q σ F μ H (.refl _ _ _) rel⟩
  | cons d rest =>
    rw [hd] at e
    unfold forLoop at e
    have ok : Src.ok ⟨kvs.map (·.1), []⟩ env st = true := rfl
    simp only [ok, if_true] at e
    have hi : (kvs.map (·.1))[i]? = some d := by
      have := congrArg List.head? hd
      rwa [List.head?_drop] at this
    have hr : (kvs.map (·.1)).drop (i + 1) = rest := by
      rw [← List.drop_drop, hd]
      rfl
    cases ha : asg (isTup tg) js d env with
    | none => rw [ha] at e; cases e
    | some env1 =>
    rw [ha] at e
    simp only at e
    obtain ⟨kk, vv, hk1, hk2⟩ := kv.key hi
    have hlt : i < vs.length := (List.getElem?_eq_some_iff.mp hk1).1
    refine .inr ⟨⟨hz, hlt⟩, fun σ' H' => W (i + 1) rest.length σ' H', fun σ' H' w => ⟨rest.length, by simp, w⟩, fun x H' y => ?_⟩
    obtain ⟨rfl, k', v', y1, rfl⟩ := y
    rw [hk1] at y1
    cases y1
    obtain ⟨σ1, sp1, rel2, hg, _, _⟩ := asg_ok rel (.inl ⟨rfl, key_rp hk2⟩) ha
    refine hg _ ?_
    have k1 := rel.keep sp1
    cases hb : blk R X.env.scope body env1 st with
    | none => rw [hb] at e; cases e
    | some p =>
      obtain ⟨f2, st2⟩ := p
      rw [hb] at e
      refine ⟨F, μ, env1, st, f2, st2, rel2, hb, ?_⟩
      have step : ∀ env2 σ' F' μ' H2, Keep F μ H' F' μ' H2 → Rel X.K Γ F' μ' H2 σ' env2 st2 → forLoop ⟨kvs.map (·.1), []⟩ (asg (isTup tg) js) (blk R X.env.scope body) rest env2 st2 = some (f, st') → W (i + 1) rest.length σ' H2 :=
        fun env2 σ' F' μ' H2 kp rel' e' => ⟨F', μ', env2, st2, by rw [hr], rel', (k1.trans kp).z _ _ _ hz, by rw [hr]; exact e', q.mono (k1.trans kp)⟩
      cases f2 with
      | next env2 => exact fun σ' F' μ' H2 kp rel' => step env2 σ' F' μ' H2 kp rel' e
      | cont env2 => exact fun σ' F' μ' H2 kp rel' => step env2 σ' F' μ' H2 kp rel' e
      | brk env2 => cases e; exact q.mono k1
      | ret d fl => cases e; exact q
theorem ps_frG (hL : LvOk c L k) (hR : SOk c R k) (dk : DefOk X c k) (Γ : En) {tg iter : Expr} {body : List Stmt} {pos : Pos} :
    PS X (.For tg iter body [] pos) (tSM X.K Γ fun env => (match tgSlots c X.env.scope tg with
      | some js => bnd (srcOf L X.env.scope tg iter env) fun s => forLoop ⟨s.items, freezeD s.deps⟩ (asg (isTup tg) js) (blk R X.env.scope body) s.items (freezeE env s.deps)
      | none => fail)) := by
  cases hj : tgSlots c X.env.scope tg with
  | none => exact ps_no fun env st => rfl
  | some js =>
  by_cases hset : isSet iter = true
  · exact ps_no fun env st => bnd_left (src_set hset env st)
  have hset' : isSet iter = false := by simpa using hset
  refine (ps_for dk.po dk.ok.calm (pi_src hL dk.ok Γ) (pg_T dk.ok.calm dk.lo hj) (pss_blk hR dk Γ body) (set_false hset' X.env)).imp fun E σ H ⟨F, μ, env, st, f, st', rel, e, q⟩ => ?_
  obtain ⟨s, st1, e1, e2⟩ := bnd_some e
  refine ⟨F, μ, env, st, s, st1, rel, e1, fun J F1 μ1 H1 avs s1 rel1 ros vws jok => ?_⟩
  obtain ⟨F2, k2, rel2, g⟩ := freeze_ok rel1 (deps_of ros vws)
  have q2 := q.mono ((rel.keep s1).trans k2)
  let W : Nat → Nat → Sg → Hp → Prop := fun i m σ H => ∃ F μ env st, m = (s.items.drop i).length ∧ Rel X.K Γ F μ H σ env st ∧ (∀ σ' env', ROs X.K Γ.ν F μ H σ' env' ((freezeD s.deps).map (·.1)) avs) ∧
    forLoop ⟨s.items, freezeD s.deps⟩ (asg (isTup tg) js) (blk R X.env.scope body) (s.items.drop i) env st = some (f, st') ∧ flK X.K Γ F μ H st' E f
  refine ⟨W, ⟨_, F2, μ1, _, st1, rfl, rel2, g, by rw [List.drop_zero]; exact e2, q2⟩, ?_⟩
  rintro i m σ H ⟨F, μ, env, st, rfl, rel, g, e, q⟩
  have getVw : Src.ok ⟨s.items, freezeD s.deps⟩ env st = true → VwA X.K Γ.ν F μ H (s.deps.map (·.2)) avs := fun ok => by
    rw [← freezeD_snd]
    exact src_vw rel (fun _ _ _ => rfl) (g σ env) ok
  cases hd : s.items.drop i with
  | nil =>
    rw [hd, forLoop_nil] at e
    by_cases ok : Src.ok ⟨s.items, freezeD s.deps⟩ env st = true
    · rw [if_pos ok] at e
      cases e
      exact .inl ⟨(jok F μ H (getVw ok) i).2 (List.drop_eq_nil_iff.mp hd), q σ F μ H (.refl _ _ _) rel⟩
    · rw [if_neg ok] at e; cases e
  | cons d rest =>
    rw [hd] at e
    unfold forLoop at e
    by_cases ok : Src.ok ⟨s.items, freezeD s.deps⟩ env st = true
    case neg => simp only [ok] at e; cases e
    simp only [ok, if_true] at e
    have hi : s.items[i]? = some d := by
      have := congrArg List.head? hd
      rwa [List.head?_drop] at this
    have hr : s.items.drop (i + 1) = rest := by
      rw [← List.drop_drop, hd]
      rfl
    cases ha : asg (isTup tg) js d env with
    | none => rw [ha] at e; cases e
    | some env1 =>
    rw [ha] at e
    simp only at e
    obtain ⟨go, yl⟩ := (jok F μ H (getVw ok) i).1 d hi
    refine .inr ⟨go, fun σ' H' => W (i + 1) rest.length σ' H', fun σ' H' w => ⟨rest.length, by simp, w⟩, fun x H' y => ?_⟩
    obtain ⟨σ1, sp1, rel2, hg, _, _⟩ := asg_ok rel (yl x H' y) ha
    refine hg _ ?_
    have k1 := rel.keep sp1
    cases hb : blk R X.env.scope body env1 st with
    | none => rw [hb] at e; cases e
    | some p =>
      obtain ⟨f2, st2⟩ := p
      rw [hb] at e
      refine ⟨F, μ, env1, st, f2, st2, rel2, hb, ?_⟩
      have step : ∀ env2 σ' F' μ' H2, Keep F μ H' F' μ' H2 → Rel X.K Γ F' μ' H2 σ' env2 st2 → forLoop ⟨s.items, freezeD s.deps⟩ (asg (isTup tg) js) (blk R X.env.scope body) rest env2 st2 = some (f, st') → W (i + 1) rest.length σ' H2 :=
        fun env2 σ' F' μ' H2 kp rel' e' => ⟨F', μ', env2, st2, by rw [hr], rel', fun σ2 env' => (g σ2 env').keep (k1.trans kp), by rw [hr]; exact e', q.mono (k1.trans kp)⟩
      cases f2 with
      | next env2 => exact fun σ' F' μ' H2 kp rel' => step env2 σ' F' μ' H2 kp rel' e
      | cont env2 => exact fun σ' F' μ' H2 kp rel' => step env2 σ' F' μ' H2 kp rel' e
      | brk env2 => cases e; exact q.mono k1
      | ret d fl => cases e; exact q

theorem walkF_nil {body : Env → M Fl} {j : Nat} {env : Env} {st : S} : walkF body j [] env st = some (.next env, st) := rfl
theorem ps_frF (hR : SOk c R k) (dk : DefOk X c k) (Γ : En) {x : Str} {px tp : Pos} {n : Nat} {es : List Expr} {gs : List Str} {j : Nat} {body : List Stmt} {pos : Pos}
    (hj : locOf c X.env.scope x = some j) (hg : fnNames c X.env.scope es = some gs) (hl : gs.length ≤ 1000) :
    PS X (.For (.Name x px) (.Tuple es n tp) body [] pos) (tSM X.K Γ (walkF (blk R X.env.scope body) j gs)) := by
  refine (ps_for dk.po dk.ok.calm (pi_tup (pe_fnTup dk.ok hg hl)) (dk.lo.pg hj) (pss_blk hR dk Γ body)).imp fun E σ H ⟨F, μ, env, st, f, st', rel, e, q⟩ => ?_
  refine fun a o ha ho => ⟨a, rfl, ⟨_, .inl (.inr ⟨o, upd_same⟩)⟩, ?_⟩
  have hz : SqT X.K (upd H a (.frz o (.tup (gs.map fun g => V.ref (He.ga X.K g))))) a (gs.map fun g => V.ref (He.ga X.K g)) := .inl (.inr ⟨o, upd_same⟩)
  have sp : Stp F μ H F μ (upd H a (.frz o (.tup (gs.map fun g => V.ref (He.ga X.K g))))) := stp_new ha
  have rel1 := rel.new (o := .frz o (.tup (gs.map fun g => V.ref (He.ga X.K g)))) ha
  have q1 := q.mono (rel.keep sp)
  let W : Nat → Nat → Sg → Hp → Prop := fun i m σ H => ∃ F μ env st, m = (gs.drop i).length ∧ Rel X.K Γ F μ H σ env st ∧ H a = some (.frz o (.tup (gs.map fun g => V.ref (He.ga X.K g)))) ∧ walkF (blk R X.env.scope body) j (gs.drop i) env st = some (f, st') ∧ flK X.K Γ F μ H st' E f
  refine ⟨W, ⟨_, F, μ, env, st, rfl, rel1, upd_same, by rw [List.drop_zero]; exact e, q1⟩, ?_⟩
  rintro i m σ H ⟨F, μ, env, st, rfl, rel, hz, e, q⟩
  have hs : SqT X.K H a (gs.map fun g => V.ref (He.ga X.K g)) := .inl (.inr ⟨o, hz⟩)
  cases hd : gs.drop i with
  | nil =>
    rw [hd] at e
    cases e
    exact .inl ⟨⟨_, hs, by rw [List.length_map]; exact List.drop_eq_nil_iff.mp hd⟩, q σ F μ H (.refl _ _ _) rel⟩
  | cons g rest =>
    rw [hd] at e
    have hi : gs[i]? = some g := by
      have := congrArg List.head? hd
      rwa [List.head?_drop] at this
    have hr : gs.drop (i + 1) = rest := by
      rw [← List.drop_drop, hd]
      rfl
    have hx : (gs.map fun g => V.ref (He.ga X.K g))[i]? = some (V.ref (He.ga X.K g)) := by rw [List.getElem?_map, hi]; rfl
    refine .inr ⟨⟨_, _, hs, hx⟩, fun σ' H' => W (i + 1) rest.length σ' H', fun σ' H' w => ⟨rest.length, by simp, w⟩, fun v H' y => ?_⟩
    obtain ⟨rfl, y⟩ := y
    have y := y _ hs
    rw [hx] at y
    cases y
    have rel2 : Rel X.K Γ F μ H' (σ.set j (some (.ref (He.ga X.K g)))) (env.set j (some (.fn g))) st := ⟨rel.sp, rel.hr, rel.en.setFn⟩
    obtain ⟨f2, st2, hb, e⟩ := bnd_some e
    refine ⟨F, μ, _, st, f2, st2, rel2, hb, ?_⟩
    have step : ∀ env2 σ' F' μ' H2, Keep F μ H' F' μ' H2 → Rel X.K Γ F' μ' H2 σ' env2 st2 → walkF (blk R X.env.scope body) j rest env2 st2 = some (f, st') → W (i + 1) rest.length σ' H2 :=
      fun env2 σ' F' μ' H2 kp rel' e' => ⟨F', μ', env2, st2, by rw [hr], rel', kp.z _ _ _ hz, by rw [hr]; exact e', q.mono kp⟩
    cases f2 with
    | next env2 => exact fun σ' F' μ' H2 kp rel' => step env2 σ' F' μ' H2 kp rel' e
    | cont env2 => exact fun σ' F' μ' H2 kp rel' => step env2 σ' F' μ' H2 kp rel' e
    | brk env2 => cases e; exact q
    | ret d fl => cases e; exact q
theorem pe_tupG {es : List Expr} {n : Nat} {pos : Pos} {ta : TA} (ha : PA X es ta) :
    PE X (.Tuple es n pos) (fun σ H Q => ta σ H fun vs H1 => vs.length ≤ sizeLine ∧ ∀ q o, H1 q = none → o.dict = none → Q (.ref q) (upd H1 q (.frz o (.tup vs)))) := by
  refine ⟨fun pins s σ H Q I q => ?_⟩
  refine wpAny_Tuple_spliced (thn (ha.run pos pins s σ H _ I q) fun us s1 ⟨vs, H1, I1, rv, hl, hq⟩ => ?_)
  have l2 := rv.length
  exact ⟨by omega, .ref s1.heap.objs.size, _, I1.tupN (t' := s1.toks) rv hl, rfl, hq _ _ I1.fresh rfl⟩
inductive PairAll (K : PySem.W.Frag) (ν : Mu) (F : Fz) (μ : Mu) (H : Hp) : List (Str × D) → List V → Prop
  | nil : PairAll K ν F μ H [] []
  | cons {g : Str} {d : D} {w : V} {a : Addr} {o : Obj} {r : List (Str × D)} {vs : List V} : H a = some (.frz o (.tup [.ref (He.ga K g), w])) → Rp K ν F μ H d w → PairAll K ν F μ H r vs → PairAll K ν F μ H ((g, d) :: r) (.ref a :: vs)
theorem PairAll.keep {K : PySem.W.Frag} {ν : Mu} {F F' : Fz} {μ μ' : Mu} {H H' : Hp} (k : Keep F μ H F' μ' H') : ∀ {qs : List (Str × D)} {vs : List V}, PairAll K ν F μ H qs vs → PairAll K ν F' μ' H' qs vs
  | _, _, .nil => .nil
  | _, _, .cons h r t => .cons (k.z _ _ _ h) (r.keep k) (PairAll.keep k t)
theorem PairAll.length {K : PySem.W.Frag} {ν : Mu} {F : Fz} {μ : Mu} {H : Hp} : ∀ {qs : List (Str × D)} {vs : List V}, PairAll K ν F μ H qs vs → qs.length = vs.length
  | _, _, .nil => rfl
  | _, _, .cons _ _ t => congrArg (· + 1) (PairAll.length t)
theorem PairAll.get {K : PySem.W.Frag} {ν : Mu} {F : Fz} {μ : Mu} {H : Hp} : ∀ {qs : List (Str × D)} {vs : List V} {i : Nat} {g : Str} {d : D}, PairAll K ν F μ H qs vs → qs[i]? = some (g, d) → ∃ a o w, vs[i]? = some (.ref a) ∧ H a = some (.frz o (.tup [.ref (He.ga K g), w])) ∧ Rp K ν F μ H d w
  | _, _, _, _, _, .nil, e => by simp at e
  | _, _, 0, _, _, .cons h r t, e => by simp at e; obtain ⟨rfl, rfl⟩ := e; exact ⟨_, _, _, rfl, h, r⟩
  | _, _, i + 1, g, d, .cons _ _ t, e => by
    obtain ⟨a, o, w, h1, h2, h3⟩ := PairAll.get (i := i) t (by simpa using e)
    exact ⟨a, o, w, by simpa using h1, h2, h3⟩
def tMP (K : PySem.W.Frag) (Γ : En) (gs : List Str) (m : Env → M (List D)) : TA := fun σ H Q => ∃ F μ env st ds st', Rel K Γ F μ H σ env st ∧ m env st = some (ds, st') ∧
  ∀ vs F' μ' H', Stp F μ H F' μ' H' → Rel K Γ F' μ' H' σ env st' → PairAll K Γ.ν F' μ' H' (gs.zip ds) vs → ds.length = gs.length → Q vs H'
theorem pa_pairs (hL : LvOk c L k) (ok : Ok X c k) (Γ : En) : ∀ {es : List Expr} {qs : List (Str × Expr)}, fnPairs c X.env.scope es = some qs → PA X es (tMP X.K Γ (qs.map (·.1)) (argsX L X.env.scope (qs.map (·.2))))
  | [], qs, h => by
    cases h
    exact pa_nil.imp fun σ H Q ⟨F, μ, env, st, ds, st', rel, e, q⟩ => by
      cases e
      exact q _ F μ H (.refl _ _ _) rel .nil rfl
  | e :: es, qs, h => by
    unfold fnPairs at h
    split at h
    · rename_i heq
      cases heq
    · rename_i g pg e2 n pt r heq
      cases heq
      split at h
      · rename_i hc
        simp only [Bool.and_eq_true, Bool.not_eq_true'] at hc
        obtain ⟨qs', h1, rfl⟩ := Option.map_eq_some_iff.mp h
        obtain ⟨g1, g2, g3⟩ := gl_ok hc.1.1
        obtain ⟨fd, hf⟩ := Option.isSome_iff_exists.mp hc.1.2
        have p0 := pe_tupG (n := n) (pos := pt) (pa_cons (pe_glob (pos := pg) (v := .ref (He.ga X.K g)) g1 (ok.ga g fd hf (gl_m hc.1.1)) rfl g2) (pa_cons (hL.x X Γ e2 ok) pa_nil (star_cons hc.2 _ _)))
        refine (pa_cons p0 (pa_pairs hL ok Γ h1)).imp fun σ H Q ⟨F, μ, env, st, ds, st', rel, eq, q⟩ => ?_
        have eq : (if isStar e2 then (fail : M (List D)) else bnd (L.x X.env.scope e2 env) fun p => bnd (argsX L X.env.scope (qs'.map (·.2)) env) fun ps => ret (p.1 :: ps)) st = some (ds, st') := eq
        rw [hc.2] at eq
        obtain ⟨p, st1, e1, f1⟩ := bnd_some eq
        obtain ⟨ps, st2, e3, f2⟩ := bnd_some f1
        obtain ⟨rfl, rfl⟩ := ret_some f2
        refine ⟨F, μ, env, st, p, st1, rel, e1, fun v F1 μ1 H1 s1 rel1 rx => ?_⟩
        obtain ⟨F2, s2, rel2, rp⟩ := rx.frz rel s1 rel1
        refine ⟨by simp [sizeLine_eq], fun a o ha ho => ?_⟩
        have s3 : Stp F2 μ1 H1 F2 μ1 (upd H1 a (.frz o (.tup [.ref (He.ga X.K g), v]))) := stp_new ha
        have rel3 := rel2.new (o := .frz o (.tup [.ref (He.ga X.K g), v])) ha
        have rp3 := rp.keep (rel2.keep s3)
        refine ⟨F2, μ1, env, st1, ps, _, rel3, e3, fun vs F4 μ4 H4 s4 rel4 pall hlen => ?_⟩
        exact q _ F4 μ4 H4 ((s2.trans s3).trans s4) rel4 (.cons ((rel3.keep s4).z _ _ _ upd_same) (rp3.keep (rel3.keep s4)) pall) (by simp [hlen])
      · cases h
    · cases h
theorem zip_get {gs : List Str} {ds : List D} {i : Nat} {p : Str × D} : (gs.zip ds)[i]? = some p → gs[i]? = some p.1 ∧ ds[i]? = some p.2 := fun h => by
  rw [List.getElem?_zip_eq_some] at h
  exact h
theorem ps_frF2 (hL : LvOk c L k) (hR : SOk c R k) (dk : DefOk X c k) (Γ : En) {x y : Str} {px py pt tp : Pos} {n n2 : Nat} {es : List Expr} {qs : List (Str × Expr)} {j i : Nat} {body : List Stmt} {pos : Pos}
    (hj : locOf c X.env.scope x = some j) (hi : locOf c X.env.scope y = some i) (hg : fnPairs c X.env.scope es = some qs) (hl : qs.length ≤ 1000) :
    PS X (.For (.Tuple [.Name x px, .Name y py] n2 pt) (.Tuple es n tp) body [] pos) (tSM X.K Γ fun env => bnd (argsX L X.env.scope (qs.map (·.2)) env) fun ds => walkF2 (blk R X.env.scope body) j i ((qs.map (·.1)).zip ds) env) := by
  have hjs : tgSlots c X.env.scope (.Tuple [.Name x px, .Name y py] n2 pt) = some [j, i] := by
    show tgNames c X.env.scope [.Name x px, .Name y py] = _
    simp [tgNames, isName, hj, hi]
  refine (ps_for dk.po dk.ok.calm (pi_tup (pe_tupG (pa_pairs hL dk.ok Γ hg))) (pg_T dk.ok.calm dk.lo hjs) (pss_blk hR dk Γ body)).imp fun E σ H ⟨F, μ, env, st, f, st', rel, e, q⟩ => ?_
  obtain ⟨ds, st1, e1, e2⟩ := bnd_some e
  refine ⟨F, μ, env, st, ds, st1, rel, e1, fun vs F1 μ1 H1 s1 rel1 pall hdl => ?_⟩
  have hvl : vs.length = qs.length := by
    rw [← pall.length, List.length_zip, hdl, List.length_map]
    omega
  refine ⟨by rw [hvl, sizeLine_eq]; omega, fun a o ha ho => ⟨a, rfl, ⟨_, .inl (.inr ⟨o, upd_same⟩)⟩, ?_⟩⟩
  have sp2 : Stp F1 μ1 H1 F1 μ1 (upd H1 a (.frz o (.tup vs))) := stp_new ha
  have rel2 := rel1.new (o := .frz o (.tup vs)) ha
  have pall2 := pall.keep (rel1.keep sp2)
  have q1 := q.mono ((rel.keep s1).trans (rel1.keep sp2))
  generalize hz : (qs.map (·.1)).zip ds = zs at e2 pall2
  let W : Nat → Nat → Sg → Hp → Prop := fun m' m σ H => ∃ F μ env st, m = (zs.drop m').length ∧ Rel X.K Γ F μ H σ env st ∧ H a = some (.frz o (.tup vs)) ∧ PairAll X.K Γ.ν F μ H zs vs ∧ walkF2 (blk R X.env.scope body) j i (zs.drop m') env st = some (f, st') ∧ flK X.K Γ F μ H st' E f
  refine ⟨W, ⟨_, F1, μ1, env, st1, rfl, rel2, upd_same, pall2, by rw [List.drop_zero]; exact e2, q1⟩, ?_⟩
  rintro i' m σ H ⟨F, μ, env, st, rfl, rel, hzz, pall, e, q⟩
  have hs : SqT X.K H a vs := .inl (.inr ⟨o, hzz⟩)
  have hlz := pall.length
  cases hd : zs.drop i' with
  | nil =>
    rw [hd] at e
    cases e
    exact .inl ⟨⟨_, hs, by rw [← hlz]; exact List.drop_eq_nil_iff.mp hd⟩, q σ F μ H (.refl _ _ _) rel⟩
  | cons gd rest =>
    obtain ⟨g, d⟩ := gd
    rw [hd] at e
    have hi' : zs[i']? = some (g, d) := by
      have := congrArg List.head? hd
      rwa [List.head?_drop] at this
    have hr : zs.drop (i' + 1) = rest := by
      rw [← List.drop_drop, hd]
      rfl
    obtain ⟨b, ob, w, hv1, hv2, hv3⟩ := pall.get hi'
    refine .inr ⟨⟨_, _, hs, hv1⟩, fun σ' H' => W (i' + 1) rest.length σ' H', fun σ' H' w => ⟨rest.length, by simp, w⟩, fun v H' y => ?_⟩
    obtain ⟨rfl, y⟩ := y
    have y := y _ hs
    rw [hv1] at y
    cases y
    have rel2 : Rel X.K Γ F μ H' ((σ.set j (some (.ref (He.ga X.K g)))).set i (some w)) ((env.set j (some (.fn g))).set i (some (.frz d))) st := ⟨rel.sp, rel.hr, rel.en.setFn.setFrz hv3⟩
    obtain ⟨f2, st2, hb, e⟩ := bnd_some e
    refine ⟨b, [.ref (He.ga X.K g), w], rfl, .inl (.inr ⟨ob, hv2⟩), rfl, rfl, ?_⟩
    refine ⟨F, μ, _, st, f2, st2, rel2, hb, ?_⟩
    have step : ∀ env2 σ' F' μ' H2, Keep F μ H' F' μ' H2 → Rel X.K Γ F' μ' H2 σ' env2 st2 → walkF2 (blk R X.env.scope body) j i rest env2 st2 = some (f, st') → W (i' + 1) rest.length σ' H2 :=
      fun env2 σ' F' μ' H2 kp rel' e' => ⟨F', μ', env2, st2, by rw [hr], rel', kp.z _ _ _ hzz, pall.keep kp, by rw [hr]; exact e', q.mono kp⟩
    cases f2 with
    | next env2 => exact fun σ' F' μ' H2 kp rel' => step env2 σ' F' μ' H2 kp rel' e
    | cont env2 => exact fun σ' F' μ' H2 kp rel' => step env2 σ' F' μ' H2 kp rel' e
    | brk env2 => cases e; exact q
    | ret d fl => cases e; exact q
theorem ps_fr0 (hL : LvOk c L k) (hR : SOk c R k) (dk : DefOk X c k) (Γ : En) {tg iter : Expr} {body : List Stmt} {pos : Pos} :
    PS X (.For tg iter body [] pos) (tSM X.K Γ (match walked c iter with
      | some x => fun env => (match tgSlots c X.env.scope tg, slotOf c X.env.scope x with
        | some js, some j => walkD (asg (isTup tg) js) (blk R X.env.scope body) j env
        | _, _ => fail)
      | none => fun env => (match tgSlots c X.env.scope tg with
        | some js => bnd (srcOf L X.env.scope tg iter env) fun s => forLoop ⟨s.items, freezeD s.deps⟩ (asg (isTup tg) js) (blk R X.env.scope body) s.items (freezeE env s.deps)
        | none => fail))) := by
  cases hw : walked c iter with
  | none => exact ps_frG hL hR dk Γ
  | some x =>
    obtain ⟨px, rfl⟩ : ∃ px, iter = .Name x px := by
      unfold walked at hw
      split at hw
      · split at hw
        · cases hw; exact ⟨_, rfl⟩
        · cases hw
      · cases hw
    exact ps_frD hR dk Γ

theorem ps_fr1 (hL : LvOk c L k) (hR : SOk c R k) (dk : DefOk X c k) (Γ : En) {tg iter : Expr} {body : List Stmt} {pos : Pos} :
    PS X (.For tg iter body [] pos) (tSM X.K Γ (match fnsOf2 c X.env.scope tg iter with
      | some q => fun env => bnd (argsX L X.env.scope (q.2.2.map (·.2)) env) fun ds => walkF2 (blk R X.env.scope body) q.1 q.2.1 ((q.2.2.map (·.1)).zip ds) env
      | none => match walked c iter with
        | some x => fun env => (match tgSlots c X.env.scope tg, slotOf c X.env.scope x with
          | some js, some j => walkD (asg (isTup tg) js) (blk R X.env.scope body) j env
          | _, _ => fail)
        | none => fun env => (match tgSlots c X.env.scope tg with
          | some js => bnd (srcOf L X.env.scope tg iter env) fun s => forLoop ⟨s.items, freezeD s.deps⟩ (asg (isTup tg) js) (blk R X.env.scope body) s.items (freezeE env s.deps)
          | none => fail))) := by
  cases hf : fnsOf2 c X.env.scope tg iter with
  | none => exact ps_fr0 hL hR dk Γ
  | some q =>
    unfold fnsOf2 at hf
    split at hf
    · split at hf
      · obtain ⟨j, hj, hf⟩ := Option.bind_eq_some_iff.mp hf
        obtain ⟨i, hi, hf⟩ := Option.bind_eq_some_iff.mp hf
        obtain ⟨qs, hg, hf⟩ := Option.bind_eq_some_iff.mp hf
        split at hf
        · rename_i hl
          cases hf
          exact ps_frF2 hL hR dk Γ hj hi hg hl
        · cases hf
      · cases hf
    · cases hf
theorem ps_fr (hL : LvOk c L k) (hR : SOk c R k) (dk : DefOk X c k) (Γ : En) {tg iter : Expr} {body : List Stmt} {pos : Pos} :
    PS X (.For tg iter body [] pos) (tSM X.K Γ (match fnsOf c X.env.scope tg iter with
      | some q => walkF (blk R X.env.scope body) q.1 q.2
      | none => match fnsOf2 c X.env.scope tg iter with
        | some q => fun env => bnd (argsX L X.env.scope (q.2.2.map (·.2)) env) fun ds => walkF2 (blk R X.env.scope body) q.1 q.2.1 ((q.2.2.map (·.1)).zip ds) env
        | none => match walked c iter with
          | some x => fun env => (match tgSlots c X.env.scope tg, slotOf c X.env.scope x with
            | some js, some j => walkD (asg (isTup tg) js) (blk R X.env.scope body) j env
            | _, _ => fail)
          | none => fun env => (match tgSlots c X.env.scope tg with
            | some js => bnd (srcOf L X.env.scope tg iter env) fun s => forLoop ⟨s.items, freezeD s.deps⟩ (asg (isTup tg) js) (blk R X.env.scope body) s.items (freezeE env s.deps)
            | none => fail))) := by
  cases hf : fnsOf c X.env.scope tg iter with
  | none => exact ps_fr1 hL hR dk Γ
  | some q =>
    unfold fnsOf at hf
    split at hf
    · split at hf
      · obtain ⟨j, hj, hf⟩ := Option.bind_eq_some_iff.mp hf
        obtain ⟨gs, hg, hf⟩ := Option.bind_eq_some_iff.mp hf
        split at hf
        · rename_i hl
          cases hf
          exact ps_frF hR dk Γ hj hg hl
        · cases hf
      · cases hf
    · cases hf

/-! ### the whole of a statement -/
theorem ps_s (hL : LvOk c L k) (hR : SOk c R k) (dk : DefOk X c k) (Γ : En) (s : Stmt) : PS X s (tSM X.K Γ (compS c L R X.env.scope s)) := by
  unfold compS
  split
  · exact ps_pass.imp fun E σ H ⟨F, μ, env, st, f, st', rel, e, q⟩ => by
      obtain ⟨rfl, rfl⟩ := ret_some e
      exact q σ F μ H (.refl _ _ _) rel
  · exact ps_break.imp fun E σ H ⟨F, μ, env, st, f, st', rel, e, q⟩ => by
      obtain ⟨rfl, rfl⟩ := ret_some e
      exact q σ F μ H (.refl _ _ _) rel
  · exact ps_continue.imp fun E σ H ⟨F, μ, env, st, f, st', rel, e, q⟩ => by
      obtain ⟨rfl, rfl⟩ := ret_some e
      exact q σ F μ H (.refl _ _ _) rel
  · exact ps_retN.imp fun E σ H ⟨F, μ, env, st, f, st', rel, e, q⟩ => by
      obtain ⟨rfl, rfl⟩ := ret_some e
      exact q _ F μ H rel.sp rel.hr .non
  · exact ps_ret1 hL dk Γ
  · rename_i t a b pos
    exact (ps_if (hL.t X Γ t dk.ok) (pss_blk hR dk Γ a) (pss_blk hR dk Γ b)).imp fun E σ H ⟨F, μ, env, st, f, st', rel, e, q⟩ => by
      obtain ⟨z, st1, e1, e2⟩ := bnd_some e
      refine ⟨F, μ, env, st, z, st1, rel, e1, fun F1 μ1 H1 s1 rel1 => ?_⟩
      have q1 := q.mono (rel.keep s1)
      cases z with
      | true => exact ⟨F1, μ1, env, st1, f, st', rel1, e2, q1⟩
      | false => exact ⟨F1, μ1, env, st1, f, st', rel1, e2, q1⟩
  · exact ps_wh hL hR dk Γ
  · exact ps_fr hL hR dk Γ
  · rename_i x px o m ap args cp pos
    by_cases hm : mutOk ap cp m o = true
    · simp only [hm, if_true]
      exact ps_namePop hL dk Γ hm
    · simp only [hm]
      exact ps_name hL dk Γ
  · exact ps_name hL dk Γ
  · rename_i ts kk tp vs k2 tp2 pos
    by_cases hw : swOk X.env.scope ts vs = true
    · simp only [hw, if_true]
      exact ps_rowT hL dk Γ hw
    · by_cases hn : swNo X.env.scope ts vs = true
      · simp only [hw, hn, if_true]
        exact ps_rowN hL dk Γ hn
      · exact ps_no fun env st => by rw [if_neg hw, if_neg hn]; rfl
  · rename_i o f ap e pos
    by_cases h : (wFlds.contains f && plainBase o && isW c && !isComp e && !isTup e) = true
    · simp only [h, if_true]
      simp only [Bool.and_eq_true, Bool.not_eq_true'] at h
      exact ps_att hL dk Γ h.1.1.1.1 h.1.1.1.2 h.1.1.2 h.1.2
    · exact ps_no fun env st => by rw [if_neg h]; rfl
  · rename_i ts kk tp e pos _
    by_cases hat : ts.any isAttr = true
    · simp only [hat, if_true]
      by_cases ht : isTup e = true
      · exact ps_no fun env st => by rw [if_pos ht]; rfl
      · simp only [ht, Bool.false_eq_true, if_false]
        cases hj : tgItems c X.env.scope ts with
        | none => exact ps_no fun env st => rfl
        | some js => exact ps_rowA hL dk Γ (by simpa using ht) hj
    simp only [hat, Bool.false_eq_true, if_false]
    by_cases ht : isTup e = true
    · exact ps_no fun env st => by rw [if_pos ht]; rfl
    · simp only [ht]
      exact ps_row hL dk Γ (by simpa using ht)
  · rename_i o i sp e pos
    by_cases hp : plainIx i = true ∧ isTup e = false
    · simp only [hp, and_self, if_true]
      exact ps_sub hL dk Γ hp.1 hp.2
    · exact ps_no fun env st => by rw [if_neg hp]; rfl
  · exact ps_doc.imp fun E σ H ⟨F, μ, env, st, f, st', rel, e, q⟩ => by
      obtain ⟨rfl, rfl⟩ := ret_some e
      exact q σ F μ H (.refl _ _ _) rel
  · rename_i o m ap args cp pos
    by_cases hm : mutOk ap cp m o = true
    · simp only [hm, if_true]
      exact ps_exprMut hL dk Γ hm
    · simp only [hm, Bool.false_eq_true, if_false]
      exact ps_exprCall hL dk Γ rfl
  · exact ps_exprCall hL dk Γ rfl
  · exact ps_no fun _ _ => rfl
end
theorem sv_ok (c : Cfg) (k n : Nat) : ∀ m, SOk c (sv c n m) k
  | 0 => fun X Γ s dk => ps_no fun _ _ => rfl
  | m + 1 => fun X Γ s dk => ps_s (lv_ok c k n) (sv_ok c k n m) dk Γ s
end Pz

/-! Pz14: defs are kept by the machine; a law's end. -/
namespace Pz
open PySem PySem.Spec PyProof.Rows L2 RZ

/-! ### data without references -/
section
variable {K : PySem.W.Frag} {ν ν' : Mu} {F : Fz} {μ μ' : Mu} {H : Hp}
mutual
theorem Rp.noref : ∀ {d : D} {v : V}, Rp K ν F μ H d v → noRef d = true → Rp K ν' F μ' H d v
  | _, _, .non, _ => .non
  | _, _, .bl b, _ => .bl b
  | _, _, .int i, _ => .int i
  | _, _, .str x, _ => .str x
  | _, _, .tup h r, n => .tup h (RpAll.noref r (by simpa [noRef] using n))
  | _, _, .lst f e r, n => .lst f e (RpAll.noref r (by simpa [noRef] using n))
  | _, _, .ref h, n => by simp [mkRef, noRef, noRefKv, keyLike] at n
  | _, _, .dct f e r, n => .dct f e (KvAll.noref r (by simpa [noRef] using n))
theorem RpAll.noref : ∀ {ds : List D} {vs : List V}, RpAll K ν F μ H ds vs → noRefs ds = true → RpAll K ν' F μ' H ds vs
  | _, _, .nil, _ => .nil
  | d :: ds, _, .cons h r, n => by
    have n' : noRef d = true ∧ noRefs ds = true := by simpa [noRefs] using n
    exact .cons (Rp.noref h n'.1) (RpAll.noref r n'.2)
theorem KvAll.noref : ∀ {ds : List (D × D)} {vs : List (Key × V)}, KvAll K ν F μ H ds vs → noRefKv ds = true → KvAll K ν' F μ' H ds vs
  | _, _, .nil, _ => .nil
  | (q, d) :: ds, _, .cons hq h r, n => by
    have n' : ((keyLike q = true ∧ noRef q = true) ∧ noRef d = true) ∧ noRefKv ds = true := by simpa [noRefKv] using n
    exact .cons hq (Rp.noref h n'.1.2) (KvAll.noref r n'.2)
end
theorem noRefs_all : ∀ {ds : List D}, ds.all noRef = true → noRefs ds = true
  | [], _ => by simp [noRefs]
  | d :: ds, h => by
    rw [List.all_cons, Bool.and_eq_true] at h
    simp only [noRefs, Bool.and_eq_true]
    exact ⟨h.1, noRefs_all h.2⟩
theorem OwnAt.noref {d : D} {a : Addr} (h : OwnAt K ν F μ H d a) (n : noRef d = true) : OwnAt K ν' F μ' H d a := by
  cases d with
  | list ds =>
    obtain ⟨xs, e, r⟩ := h
    exact ⟨xs, e, r.noref (by simpa [noRef] using n)⟩
  | dict kvs =>
    obtain ⟨vs, e, r⟩ := h
    exact ⟨vs, e, r.noref (by simpa [noRef] using n)⟩
  | _ => cases h
end
/-- the heap of a def that is handed no reference -/
theorem HR.alone {K : PySem.W.Frag} {ν : Mu} {F : Fz} {μ : Mu} {H : Hp} {st : S} (h : HR K ν F μ H st) : HR K (fun _ => none) F (fun _ => none) H [] where
  fT := h.fT
  mF := fun i a e => by cases e
  mT := fun i a e => by cases e
  nT := fun i a e => by cases e
  mI := fun i j a e => by cases e
  sc := fun i ns e => by cases e
  ob := fun i o e => by cases e
theorem HR.behind {K : PySem.W.Frag} {ν : Mu} {F F' : Fz} {μ μ2 : Mu} {H H' : Hp} {st st2 : S} (h : HR K ν F μ H st) (s : Stp F (fun _ => none) H F' μ2 H') (h2 : HR K (fun _ => none) F' μ2 H' st2) :
    Stp F μ H F' μ H' ∧ HR K ν F' μ H' st := by
  have fr : ∀ a o, H a = some o → H' a = some o := fun a o e => s.fr a o e fun i q => by cases q
  have sp : Stp F μ H F' μ H' := ⟨fun a o e _ => fr a o e, s.tr, s.fs, s.fn, fun _ _ e => e, fun _ _ e => .inl e⟩
  refine ⟨sp, h2.fT, fun i a e f => ?_, h.mT, h.nT, h.mI, fun i ns e => ?_, fun i o e n => ?_⟩
  · rcases s.fn a f with f | f
    · exact h.mF i a e f
    · obtain ⟨u, e1, _⟩ := h.wr e
      rw [f] at e1; cases e1
  · obtain ⟨q1, a, q2, q3⟩ := h.sc i ns e
    exact ⟨q1, a, q2, q3.keep (sp.keep h)⟩
  · obtain ⟨q1, a, q2, q3⟩ := h.ob i o e n
    obtain ⟨u, e1, _⟩ := h.wr q2
    exact ⟨q1, a, q2, OR.move (Γ := ⟨ν, F, μ, H⟩) q3 (sp.keep h) ((fr a u e1).trans e1.symm)⟩

/-! ### a def by its body -/
/-- what stands of a module -/
structure ModF (K : PySem.W.Frag) (mg : Str → Option Value) (funs : List (Str × FD)) (consts : List (Str × D)) : Prop where
  con : ∀ x d, consts.lookup x = some d → ∃ u v, mg x = some u ∧ RelV v u ∧ refOf? d = none ∧ ∀ ν F μ H, Rp K ν F μ H d v
  free : ∀ x, freeN.contains x = true → mg x = none
  ga : ∀ f fd, funs.lookup f = some fd → isM f = false → mg f = some (.ref (He.ga K f))
  wk : (funs.lookup (mName "__init__")).isSome = true → WkF K mg
  fn : ∀ f fd, funs.lookup f = some fd → ∃ a fdata name qual params, FAt K mg f a ∧ FunD K name qual params fd.body fd.sc [] [] a fdata ∧ FnScope fd.N fd.ps fd.sc ∧ Binds K fdata fd.ps []
theorem start_env {K : PySem.W.Frag} {Γ : En} {F : Fz} {μ : Mu} {H : Hp} {ds : List D} {vs : List V} {N : List Str} (r : RpAll K Γ.ν F μ H ds vs) : EnvR K Γ F μ H (start N vs) (ds.map (fun d => some (.frz d)) ++ List.replicate (N.length - ds.length) none) := by
  have hl := r.length
  have noOwn : ∀ (j : Nat) (d : D), (ds.map (fun d => some (SV.frz d)) ++ List.replicate (N.length - ds.length) none)[j]? ≠ some (some (SV.own d)) := fun j d e => by
    rcases Nat.lt_or_ge j ds.length with q | q
    · rw [List.getElem?_append_left (by rw [List.length_map]; exact q), List.getElem?_map, List.getElem?_eq_getElem q] at e
      cases e
    · rw [List.getElem?_append_right (by rw [List.length_map]; exact q), List.getElem?_replicate] at e
      split at e <;> cases e
  have noFn : ∀ (j : Nat) (d : Str), (ds.map (fun d => some (SV.frz d)) ++ List.replicate (N.length - ds.length) none)[j]? ≠ some (some (SV.fn d)) := fun j d e => by
    rcases Nat.lt_or_ge j ds.length with q | q
    · rw [List.getElem?_append_left (by rw [List.length_map]; exact q), List.getElem?_map, List.getElem?_eq_getElem q] at e
      cases e
    · rw [List.getElem?_append_right (by rw [List.length_map]; exact q), List.getElem?_replicate] at e
      split at e <;> cases e
  refine ⟨?_, fun j d e => ?_, fun j d e => absurd e (noOwn j d), fun j k d e v h1 => absurd h1 (noOwn j d), fun j d e => absurd e (noFn j d)⟩
  · unfold L2.start
    simp [hl]
  · rcases Nat.lt_or_ge j ds.length with q | q
    · rw [List.getElem?_append_left (by rw [List.length_map]; exact q), List.getElem?_map] at e
      obtain ⟨d', e1, e2⟩ := Option.map_eq_some_iff.mp e
      cases e2
      obtain ⟨v, g1, g2⟩ := r.get e1
      refine ⟨v, ?_, g2⟩
      unfold L2.start
      rw [List.getElem?_append_left (by rw [List.length_map]; omega), List.getElem?_map, g1]
      rfl
    · rw [List.getElem?_append_right (by rw [List.length_map]; exact q), List.getElem?_replicate] at e
      split at e <;> cases e
section
variable {P : Program} {w : World} {K : PySem.W.Frag} {mg : Str → Option Value} {base : Heap}
theorem fnG_of {k : Nat} {f : Addr} {name qual : Str} {params : Arguments} {body : List Stmt} {scope : Scope} {fdata : FuncData} {N ps : List Str} {sp : Sp} (FD : FunD K name qual params body scope [] [] f fdata) (S : FnScope N ps scope)
    (len : ∀ vs H Q E, sp vs H Q E → vs.length = ps.length)
    (hbody : ∀ (cdv : Value) (A : Around) (outer : List PySem.Env) (s : Shared) (H : Hp) (vs : List V) (Q : VK), Room k (A.deeper (envOfC qual scope s.heap.objs.size f cdv)) → (A.deeper (envOfC qual scope s.heap.objs.size f cdv)).guards = some [] → sp vs H Q E0 →
      ∃ t, PSs (cxOf CX0 P w K mg base N qual scope f cdv A outer s H E0) body t ∧ t { nx := fun _ H' => Q .non H', rt := Q } (start N vs) H) : FnG P w K mg base (k + 1) f fdata ps sp := by
  refine ⟨len, fun A outer s H args us vs Q hr hg e0 hb r hsp => ?_⟩
  obtain ⟨oc, od, dV, kV, doc, pm, an, cdv, ct, osl, rfl, lk, hcd, _, _⟩ := FD.ex
  have hlen := len _ _ _ _ hsp
  have kin : K.In s.heap := e0.mod.kin.keeps fun b o z => (e0.bs b o z).1
  have nolim : s.heap.NoLimit := e0.mod.nolimit.keeps fun b o z => (e0.bs b o z).1
  have kinds : ∀ y ∈ ps.zip us, scope.names.lookup y.1 = some .local ∨ (scope.names.lookup y.1 = some .cell ∧ ((cellsFrom (s.heap.objs.size + 1) scope.names []).lookup y.1).isSome = true) := by
    rintro ⟨n, v⟩ hy
    rcases S.par n (List.of_mem_zip hy).1 with z | z
    · exact .inl z
    · exact .inr ⟨z, PySem.W.cellsFrom_some _ _ _ (.inl z)⟩
  refine codeAny_call_function hr.depth (kin _ _ lk) rfl S.co S.gen rfl (PySem.W.codeRec_of kin hcd) (hb _ _ _ _ ?_)
  refine wpAny_newFunctionEnv_cells S.kind kinds fun env he s1 x => ?_
  subst he
  refine ⟨nolim.keeps x.toInCall.keep, codeAny_func ?_⟩
  obtain ⟨t, h1, h2⟩ := hbody cdv A outer s H vs Q (hr.deeper _) hg hsp
  have inv0 : Inv (cxOf CX0 P w K mg base N qual scope f cdv A outer s H E0) [] (start N vs) H s1 := inv_start S hr.hd e0 hlen r x
  refine wpAny_mono (h1.run [] s1 (start N vs) H _ inv0 h2) (fun fl s' hs => ?_) fun e s' hs => hs
  cases fl with
  | ret u =>
    obtain ⟨v, σ', H', J, rv, q⟩ := hs
    exact ⟨v, H', J.os, J.bare, J.base, J.hok, rv, q⟩
  | next =>
    obtain ⟨σ', H', J, q⟩ := hs
    exact ⟨V.non, H', J.os, J.bare, J.base, J.hok, (rfl : Value.none = Value.none), q⟩
  | brk => obtain ⟨_, _, _, z⟩ := hs; exact z.elim
  | cont => obtain ⟨_, _, _, z⟩ := hs; exact z.elim
variable {funs : List (Str × FD)} {consts : List (Str × D)} {n m : Nat}
theorem callF_len : ∀ {k : Nat} {f : Str} {ds : List D} {st : S} {r : (D × Bool) × S} {fd : FD}, funs.lookup f = some fd → callF funs consts n m k f ds st = some r → ds.length = fd.ps.length
  | 0, _, _, _, _, _, _, h => by cases h
  | k + 1, f, ds, st, r, fd, hf, h => by
    unfold callF at h
    rw [hf] at h
    simp only at h
    by_cases hl : ds.length = fd.ps.length
    · exact hl
    · rw [if_neg hl] at h; cases h
theorem run_body {X : Cx} {k : Nat} {c : Cfg} {fd : FD} (dk : DefOk X c k) (hc : c.N = fd.N) (hsc : X.env.scope = fd.sc) {ds : List D} {vs : List V} {F : Fz} {μ ν : Mu} {H : Hp} {st st' : S} {r : D × Bool} {Q : VK} (hr : HR X.K ν F μ H st) (rs : RpAll X.K ν F μ H ds vs)
    (e : runBody c n m fd ds st = some (r, st')) (q : ∀ v F' μ' H', Stp F μ H F' μ' H' → HR X.K ν F' μ' H' st' → RX X.K ν F' μ' H' H r v → Q v H') :
    tSM X.K ⟨ν, F, μ, H⟩ (blk (sv c n m) X.env.scope fd.body) { nx := fun _ H' => Q .non H', rt := Q } (start fd.N vs) H := by
  obtain ⟨f, st1, e1, e2⟩ := bnd_some (show bnd (blk (sv c n m) fd.sc fd.body (ds.map (fun d => some (.frz d)) ++ List.replicate (fd.N.length - ds.length) none)) _ st = some (r, st') from e)
  rw [← hsc] at e1
  refine ⟨F, μ, _, st, f, st1, ⟨.refl _ _ _, hr, start_env (Γ := ⟨ν, F, μ, H⟩) rs⟩, e1, ?_⟩
  cases f with
  | ret d fl =>
    obtain ⟨rfl, rfl⟩ := ret_some e2
    exact fun v F' μ' H' s h x => q v F' μ' H' s h x
  | next env' =>
    obtain ⟨rfl, rfl⟩ := ret_some e2
    exact fun σ' F' μ' H' _ rel => q .non F' μ' H' rel.sp rel.hr .non
  | brk _ => cases e2
  | cont _ => cases e2
/-- what is wanted of the defs that a def calls -/
def Callees (P : Program) (w : World) (K : PySem.W.Frag) (mg : Str → Option Value) (base : Heap) (funs : List (Str × FD)) (consts : List (Str × D)) (n m k : Nat) : Prop :=
  ∀ f fd, funs.lookup f = some fd → ∃ a fdata, FAt K mg f a ∧ FnG P w K mg base (2 * k) a fdata fd.ps (spF K (callF funs consts n m k f) fd.ps.length) ∧ PySem.W.keepIn K (.ref a) = true ∧ Binds K fdata fd.ps []
theorem fn_at (M : ModF K mg funs consts) {k : Nat} (ih : Callees P w K mg base funs consts n m k) {f : Str} {fd : FD} {a : Addr} {fdata : FuncData} {name qual : Str} {params : Arguments} (hf : funs.lookup f = some fd) (h2 : FunD K name qual params fd.body fd.sc [] [] a fdata) (h3 : FnScope fd.N fd.ps fd.sc) :
    FnG P w K mg base (2 * (k + 1)) a fdata fd.ps (spF K (callF funs consts n m (k + 1) f) fd.ps.length) := by
    refine fnG_of (k := 2 * k + 1) h2 h3 (fun vs H Q E h => ?_) (fun cdv A outer s H vs Q hr hg h => ?_)
    · obtain ⟨_, _, _, _, _, _, _, hl, _, rs, _⟩ := h
      rw [← rs.length]; exact hl
    · obtain ⟨ν, F, μ, st, ds, r, st', hl, hh, rs, e, q⟩ := h
      let c : Cfg := ⟨fd.N, consts, funs, callF funs consts n m k, fd.own, fd.hp⟩
      have dk : DefOk (cxOf CX0 P w K mg base fd.N qual fd.sc a cdv A outer s H E0) c (2 * k) :=
        ⟨⟨rfl, h3.nd, rfl, hr, hg, M.con, M.free, ih, fun f' fd' hf' ds st r st' e => callF_len hf' e, M.ga, M.wk⟩, fun _ => rfl, passes_of (K := fun _ _ => False) rfl⟩
      unfold callF at e
      rw [hf] at e
      simp only at e
      rw [if_pos hl] at e
      by_cases hn' : (ds.all noRef && !fd.hp.contains ("{}" : Str)) = true
      · have hn : ds.all noRef = true := by simp only [Bool.and_eq_true] at hn'; exact hn'.1
        rw [if_pos hn'] at e
        cases hb : runBody c n m fd ds [] with
        | none => rw [hb] at e; cases e
        | some z =>
          obtain ⟨r2, st2⟩ := z
          rw [hb] at e
          simp only at e
          by_cases hz : noRef r2.1 = true
          case neg => rw [if_neg hz] at e; cases e
          rw [if_pos hz] at e
          cases e
          refine ⟨_, pss_blk (sv_ok c (2 * k) n m) dk ⟨fun _ => none, F, fun _ => none, H⟩ fd.body, run_body dk rfl rfl hh.alone (rs.noref (noRefs_all hn)) hb fun v F' μ2 H' s2 hr2 x => ?_⟩
          obtain ⟨s3, hr3⟩ := hh.behind s2 hr2
          refine q v F' μ H' s3 hr3 ?_
          obtain ⟨d, fl⟩ := r
          cases fl with
          | false => exact Rp.noref x hz
          | true =>
            obtain ⟨b, e1, e2, e3, e4, e5⟩ := x
            refine ⟨b, e1, e2.noref hz, e3, fun i z => ?_, e5⟩
            obtain ⟨u, z1, _⟩ := hh.wr z
            rw [e5] at z1; cases z1
      · rw [if_neg hn'] at e
        exact ⟨_, pss_blk (sv_ok c (2 * k) n m) dk ⟨ν, F, μ, H⟩ fd.body, run_body dk rfl rfl hh rs e q⟩
/-- the defs of a module keep to the evaluator -/
theorem fns_ok (M : ModF K mg funs consts) : ∀ k, Callees P w K mg base funs consts n m k
  | 0 => fun f fd hf => by
    obtain ⟨a, fdata, name, qual, params, h1, h2, _, h4⟩ := M.fn f fd hf
    refine ⟨a, fdata, h1, ⟨fun vs H Q E h => ?_, fun A outer s H args us vs Q _ _ _ _ _ h => ?_⟩, h2.kp, h4⟩
    · obtain ⟨_, _, _, _, _, _, _, _, _, _, e, _⟩ := h
      cases e
    · obtain ⟨_, _, _, _, _, _, _, _, _, _, e, _⟩ := h
      cases e
  | k + 1 => fun f fd hf => by
    obtain ⟨a, fdata, name, qual, params, h1, h2, h3, h4⟩ := M.fn f fd hf
    exact ⟨a, fdata, h1, fn_at M (fns_ok M k) hf h2 h3, h2.kp, h4⟩
end
end Pz

/-! Pz15: the head of a law. -/
namespace Pz
open PySem PySem.Spec PyProof.Rows L2 RZ

/-! ### the module's constants -/
mutual
def repB (K : PySem.W.Frag) : D → Value → Bool
  | .none, .none => true
  | .bool b, .bool c => b == c
  | .int i, .int j _ => decide (i = j)
  | .str x, .str y _ => decide (x = y)
  | .tuple ds, .ref a => (match K.lookup a with
    | some ⟨.type c, none, .seq its _, _⟩ => decide (c = "tuple") && decide (its.size ≤ sizeLine) && repsB K ds its.toList
    | _ => false)
  | _, _ => false
def repsB (K : PySem.W.Frag) : List D → List Value → Bool
  | [], [] => true
  | d :: ds, u :: us => repB K d u && repsB K ds us
  | _, _ => false
end
mutual
theorem repB_ok {K : PySem.W.Frag} : ∀ {d : D} {u : Value}, repB K d u = true → ∃ v, RelV v u ∧ refOf? d = none ∧ ∀ ν F μ H, Rp K ν F μ H d v
  | .none, u, h => by
    cases u <;> first | exact ⟨.non, rfl, rfl, fun _ _ _ _ => .non⟩ | (simp [repB] at h)
  | .bool b, u, h => by
    cases u with
    | bool c =>
      simp [repB] at h
      subst h
      exact ⟨.bl b, rfl, rfl, fun _ _ _ _ => .bl b⟩
    | _ => simp [repB] at h
  | .int b, u, h => by
    cases u with
    | int c t =>
      simp [repB] at h
      subst h
      exact ⟨.int b, ⟨t, rfl⟩, rfl, fun _ _ _ _ => .int b⟩
    | _ => simp [repB] at h
  | .str b, u, h => by
    cases u with
    | str c t =>
      simp [repB] at h
      subst h
      exact ⟨.str b, ⟨t, rfl⟩, rfl, fun _ _ _ _ => .str b⟩
    | _ => simp [repB] at h
  | .list _, u, h => by cases u <;> simp [repB] at h
  | .dict _, u, h => by cases u <;> simp [repB] at h
  | .tuple ds, u, h => by
    cases u with
    | ref a =>
      unfold repB at h
      split at h
      · rename_i c its n sl hk
        simp only [Bool.and_eq_true, decide_eq_true_eq] at h
        obtain ⟨⟨h1, h2⟩, h3⟩ := h
        obtain ⟨vs, r, g⟩ := repsB_ok h3
        subst h1
        exact ⟨.ref a, rfl, rfl, fun ν F μ H => .tup (.inr ⟨_, its, n, hk, rfl, rfl, rfl, h2, r⟩) (g ν F μ H)⟩
      · cases h
    | _ => simp [repB] at h
theorem repsB_ok {K : PySem.W.Frag} : ∀ {ds : List D} {us : List Value}, repsB K ds us = true → ∃ vs, Vals vs us ∧ ∀ ν F μ H, RpAll K ν F μ H ds vs
  | [], [], _ => ⟨[], .nil, fun _ _ _ _ => .nil⟩
  | [], _ :: _, h => by simp [repsB] at h
  | _ :: _, [], h => by simp [repsB] at h
  | d :: ds, u :: us, h => by
    simp only [repsB, Bool.and_eq_true] at h
    obtain ⟨v, r1, _, g1⟩ := repB_ok h.1
    obtain ⟨vs, r2, g2⟩ := repsB_ok h.2
    exact ⟨v :: vs, .cons r1 r2, fun ν F μ H => .cons (g1 ν F μ H) (g2 ν F μ H)⟩
end
def conB (K : PySem.W.Frag) (p : Str × D) : Bool := match PySem.W.nsIn K mainGlobals p.1 with
  | some (some u) => repB K p.2 u
  | _ => false
abbrev ZAl : Type := He.AlD × Bool
def zObs (fa : List He.Fa) (fn : List He.DefD) (cs : List (Str × D)) (K : PySem.W.Frag) : ZAl := (He.obsD fa fn K, cs.all (conB K))
/-- what an object names, as far as the facts look: a dict's values, a row's things, a function's code, a class's dict -/
def refsZ (o : Obj) : List Addr := match o.data with
  | .seq its _ => its.toList.flatMap He.refV
  | .dict es _ => es.toList.flatMap fun e => He.refV e.val
  | .func fd => He.refV fd.code
  | .cls cd => [cd.ns]
  | _ => []
/-- layer by layer -/
def asZ (g : Addr → Option Obj) : Nat → List Addr → List Addr
  | 0, as => as
  | n + 1, as => as ++ asZ g n (as.flatMap fun a => match g a with
    | some o => refsZ o
    | none => [])
def zOb (n : Nat) (fa : List He.Fa) (fn : List He.DefD) (cs : List (Str × D)) (g : Addr → Option Obj) : ZAl := zObs fa fn cs (He.frG g (asZ g n [mainGlobals]))
/-- what the end leans on -/
def zHook (n : Nat) (fa : List He.Fa) (fn : List He.DefD) (cs : List (Str × D)) : PySem.W.Hook where
  α := ZAl
  obs := fun s => zOb n fa fn cs s.heap.get?
  val := fun _ => (He.valD fn, true)
  says := fun _ h => ∃ K : PySem.W.Frag, K.In h ∧ zObs fa fn cs K = (He.valD fn, true)
  of := fun _ _ e => ⟨_, He.frG_in, e⟩
  keeps := fun _ _ _ ⟨K, hK, c⟩ k => ⟨K, PySem.W.Frag.In.keeps hK k, c⟩
theorem zOb_eq {n : Nat} {fa : List He.Fa} {fn : List He.DefD} {cs : List (Str × D)} {g : Addr → Option Obj} {s : Shared} (h : ∀ a, g a = s.heap.get? a) : zOb n fa fn cs g = (zHook n fa fn cs).obs s := by
  have e : g = s.heap.get? := funext h
  rw [e]; rfl

/-! ### a text's tables -/
/-- one def of the text: its name, its statement, its names by slot, those that hold lists of their own, those whose lists go to the small heap -/
structure Row where
  nm : Str
  st : Stmt
  ps : List Str
  N : List Str
  own : List Str := []
  hp : List Str := []
  dn : Option Str := none
  mn : Option Str := none
def Row.name (r : Row) : Str := match r.mn with
  | some m => m
  | none => r.dn.getD r.nm
def Row.qual (r : Row) : Str := match r.mn with
  | some _ => r.nm
  | none => r.dn.getD r.nm
def Row.at_ (r : Row) : Str × Option Str := match r.mn with
  | some m => (wCls, some m)
  | none => (r.nm, none)
/-- a method's statement in its class's -/
def inCls (j : Nat) : Stmt → Stmt
  | .ClassDef _ _ _ b _ _ _ _ _ _ _ => b.getD j (.Pass ⟨0, 0, 0, 0⟩)
  | _ => .Pass ⟨0, 0, 0, 0⟩
def Row.d (r : Row) : He.DefD := ⟨r.at_, r.name, r.qual, defArgs r.st, defBody r.st, defScope r.st, [], []⟩
def Row.f (r : Row) : Str × FD := (r.nm, ⟨r.ps, r.N, defScope r.st, defBody r.st, r.own, r.hp⟩)
/-- the arguments are bound to the parameters -/
def Row.binds (r : Row) : Prop := ∀ (kV doc pm : Value) (an : Option Addr) (cdv ct : Value) (us : List Value), us.length = r.ps.length → bindArgs (PySem.W.fnOf r.name r.qual (defArgs r.st) (defBody r.st) (defScope r.st) .none kV doc pm an cdv ct) ⟨us, []⟩ = pure (r.ps.zip us)
def Row.scOk (r : Row) : Bool := (match (defScope r.st).kind with | .function => true | _ => false) && !(defScope r.st).isCoroutine && !(defScope r.st).isGenerator && decide r.N.Nodup && decide (r.N.take r.ps.length = r.ps) &&
  (r.ps.all fun x => match (defScope r.st).names.lookup x with | some .local => true | some .cell => true | _ => false) && ((defScope r.st).names.all fun y => match y.2 with | .free => false | _ => true) && (match r.mn with | some m => decide (r.nm = mName m) && isM r.nm | none => !isM r.nm)
theorem Row.scope {r : Row} (h : r.scOk = true) : FnScope r.N r.ps (defScope r.st) := by
  unfold Row.scOk at h
  simp only [Bool.and_eq_true, Bool.not_eq_true', decide_eq_true_eq, List.all_eq_true] at h
  obtain ⟨⟨⟨⟨⟨⟨⟨h1, h2⟩, h3⟩, h4⟩, h5⟩, h6⟩, h7⟩, _⟩ := h
  refine ⟨?_, h2, h3, h4, h5, fun x hx => ?_, fun y hy e => ?_⟩
  · cases q : (defScope r.st).kind <;> rw [q] at h1 <;> first | rfl | cases h1
  · have := h6 x hx
    cases q : (defScope r.st).names.lookup x with
    | none => rw [q] at this; cases this
    | some k =>
      rw [q] at this
      cases k <;> first | exact .inl rfl | exact .inr rfl | cases this
  · have := h7 y hy
    rw [e] at this
    cases this
theorem Row.at_ok {r : Row} (h : r.scOk = true) : match r.mn with
    | some m => r.nm = mName m ∧ isM r.nm = true
    | none => isM r.nm = false := by
  unfold Row.scOk at h
  rw [Bool.and_eq_true] at h
  have h := h.2
  cases e : r.mn with
  | none =>
    rw [e] at h
    simpa using h
  | some m =>
    rw [e] at h
    simpa using h
theorem mName_isM (m : Str) : isM (mName m) = true := by
  simp [isM, mName, wPre]
theorem mName_inj {a b : Str} (h : mName a = mName b) : a = b := by
  unfold mName at h
  injection h with h
  have h2 := congrArg Array.toList h
  simp only [List.append_cancel_left_eq] at h2
  obtain ⟨a⟩ := a
  obtain ⟨b⟩ := b
  congr 1
  exact Array.toList_inj.mp h2
theorem lookup_map {rs : List Row} {f : Str} {fd : FD} (h : (rs.map Row.f).lookup f = some fd) : ∃ r ∈ rs, r.nm = f ∧ r.f.2 = fd := by
  induction rs with
  | nil => cases h
  | cons r rs ih =>
    rw [List.map_cons, List.lookup_cons] at h
    cases e : f == r.f.1 with
    | true =>
      rw [e] at h
      cases h
      exact ⟨r, List.mem_cons_self, (eq_of_beq e).symm, rfl⟩
    | false =>
      rw [e] at h
      obtain ⟨r', h1, h2⟩ := ih h
      exact ⟨r', List.mem_cons_of_mem _ h1, h2⟩
def Row.fa (r : Row) : He.Fa := match r.mn with
  | some m => .meth wCls m
  | none => .glo r.nm
def wFa : List He.Fa := [.glo wCls, .cls wCls, .mkr wCls] ++ wFlds.map (fun f => He.Fa.noat wCls f)
def zFa (rs : List Row) : List He.Fa := rs.map Row.fa ++ freeN.map He.Fa.free ++ (if (rs.any fun r => r.mn.isSome) = true then wFa else [])
theorem con_mem {cs : List (Str × D)} {x : Str} {d : D} (h : cs.lookup x = some d) : (x, d) ∈ cs := PySem.mem_of_lookup h
theorem modF_of {rs : List Row} {cs : List (Str × D)} {K : PySem.W.Frag} {mg : Str → Option Value} {h : Heap} (X : K.In h) (G : h.Ns mainGlobals mg) (e : zObs (zFa rs) (rs.map Row.d) cs K = (He.valD (rs.map Row.d), true))
    (sc : rs.all Row.scOk = true) (bd : ∀ r ∈ rs, r.binds) : ModF K mg (rs.map Row.f) cs := by
  have e1 : He.SaysD (zFa rs) (rs.map Row.d) K := congrArg Prod.fst e
  have e2 : cs.all (conB K) = true := congrArg Prod.snd e
  have facts := (He.ba (show (((zFa rs).all fun f => f.ok K) && (rs.map Row.d).all fun d => d.ok K) = true from congrArg (fun z : He.AlD => z.1) e1)).1
  have fact : ∀ r ∈ rs, (Row.fa r).ok K = true := fun r hr => List.all_eq_true.mp facts _ (List.mem_append_left _ (List.mem_append_left _ (List.mem_map.mpr ⟨r, hr, rfl⟩)))
  have glo : ∀ r ∈ rs, r.mn = none → mg r.nm = some (.ref (He.ga K r.nm)) := fun r hr hm => by
    have := fact r hr
    unfold Row.fa at this
    rw [hm] at this
    exact He.glo_ok X G this
  refine ⟨fun x d hx => ?_, fun x hx => ?_, fun f fd hf hm => ?_, fun hw => ?_, fun f fd hf => ?_⟩
  · have := List.all_eq_true.mp e2 (x, d) (con_mem hx)
    unfold conB at this
    split at this
    · rename_i u hu
      obtain ⟨v, r1, r2, r3⟩ := repB_ok this
      exact ⟨u, v, PySem.W.mg_of X G hu, r1, r2, r3⟩
    · cases this
  · have hm : x ∈ freeN := by simpa [List.contains_iff_mem] using hx
    have := List.all_eq_true.mp facts (.free x) (List.mem_append_left _ (List.mem_append_right _ (List.mem_map.mpr ⟨x, hm, rfl⟩)))
    exact He.free_ok X G this
  · obtain ⟨r, hr, rfl, rfl⟩ := lookup_map hf
    have ha := Row.at_ok (List.all_eq_true.mp sc r hr)
    cases hn : r.mn with
    | none => exact glo r hr hn
    | some m =>
      rw [hn] at ha
      rw [ha.2] at hm
      cases hm
  · obtain ⟨fd, hf⟩ := Option.isSome_iff_exists.mp hw
    obtain ⟨r, hr, hnm, _⟩ := lookup_map hf
    have ha := Row.at_ok (List.all_eq_true.mp sc r hr)
    have hs : r.mn.isSome = true := by
      cases hn : r.mn with
      | none =>
        rw [hn] at ha
        have ha : isM r.nm = false := ha
        rw [hnm, mName_isM] at ha
        cases ha
      | some m => rfl
    have hany : (rs.any fun r => r.mn.isSome) = true := List.any_eq_true.mpr ⟨r, hr, hs⟩
    have wf : ∀ x ∈ wFa, x.ok K = true := fun x hx => List.all_eq_true.mp facts x (List.mem_append_right _ (by rw [if_pos hany]; exact hx))
    have M := He.mkr_ok (wf (.mkr wCls) (by simp [wFa]))
    exact ⟨He.cls_ok (wf (.cls wCls) (by simp [wFa])), fun f hf => He.noat_ok (wf (.noat wCls f) (List.mem_append_right _ (List.mem_map.mpr ⟨f, by simpa [List.contains_iff_mem] using hf, rfl⟩))), M.makes, M.kp, He.glo_ok X G (wf (.glo wCls) (by simp [wFa]))⟩
  · obtain ⟨r, hr, rfl, rfl⟩ := lookup_map hf
    obtain ⟨i, hi⟩ := List.getElem?_of_mem hr
    have hi2 : (rs.map Row.d)[i]? = some r.d := by rw [List.getElem?_map, hi]; rfl
    obtain ⟨fdata, FDt⟩ := e1.def_ i hi2
    have ha := Row.at_ok (List.all_eq_true.mp sc r hr)
    refine ⟨_, fdata, _, _, _, ?_, FDt, Row.scope (List.all_eq_true.mp sc r hr), FDt.bindsN (bd r hr)⟩
    cases hn : r.mn with
    | none =>
      rw [hn] at ha
      have ea : He.fAd K r.d.at_ = He.ga K r.nm := by
        show He.fAd K r.at_ = _
        unfold Row.at_
        rw [hn]
        rfl
      rw [ea]
      exact ⟨fun _ => glo r hr hn, fun m hm => by
        have ha : isM r.nm = false := ha
        rw [hm, mName_isM] at ha
        cases ha⟩
    | some m =>
      rw [hn] at ha
      have ea : He.fAd K r.d.at_ = He.ma K (He.ga K wCls) m := by
        show He.fAd K r.at_ = _
        unfold Row.at_
        rw [hn]
        rfl
      rw [ea]
      refine ⟨fun z => absurd (ha.2.symm.trans z) (by decide), fun m' hm' => ?_⟩
      have hmm : m = m' := mName_inj (ha.1.symm.trans hm')
      subst hmm
      have := fact r hr
      unfold Row.fa at this
      rw [hn] at this
      exact He.meth_ok this

/-! ### the end -/
theorem scr_of {K : PySem.W.Frag} {H : Hp} {a : Addr} {xs : List V} (hO : Only H) (h : SqL K H a xs) : ScrL K H a xs := by
  rcases h with (h | h) | h
  · rcases hO a with q | ⟨o, ys, q⟩
    · rw [q] at h; cases h
    · rw [q] at h; cases h
  · exact .inl h
  · exact .inr h
theorem sp_law {K : PySem.W.Frag} {H : Hp} {a : Addr} {ns : List Int} {m : List D → M (D × Bool)} {st' : S} (hO : Only H) (hS : SqL K H a (ns.map V.int)) (e : m [mkRef 0] [.scr ns] = some ((.bool true, false), st')) :
    spF K m 1 [.ref a] H (fun v _ => v = .bl true) E0 := by
  refine ⟨fun i => if i = 0 then some a else none, fun _ => False, fun _ => none, [.scr ns], [mkRef 0], _, st', rfl, ?_, .cons (.ref (.inr (if_pos rfl))) .nil, e, fun v F' μ' H' _ _ x => ?_⟩
  · refine HR.mk (fun _ f => f.elim) (fun i b e => nomatch e) (fun i b e => nomatch e) (fun i b e => ?_) (fun i j b e => nomatch e) (fun i z e => ?_) (fun i o e n => ?_)
    · have e : (if i = 0 then some a else none) = some b := e
      by_cases q : i = 0
      · subst q; simp
      · rw [if_neg q] at e; cases e
    · cases i with
      | zero =>
        cases e
        exact ⟨rfl, a, rfl, scr_of hO hS⟩
      | succ i => cases e
    · cases i with
      | zero => cases e; exact absurd rfl (n ns)
      | succ i => cases e
  · have x : Rp K _ F' μ' H' (.bool true) v := x
    cases x
    rfl
section
variable {P : Program} {w : World} {K : PySem.W.Frag} {mg mb : Str → Option Value} {k : Nat} {fa a : Addr} {fd : FuncData} {x : Str} {sp : Sp} {s1 : Shared} {vs : List Value} {ns : List Int}
/-- the law's own call, behind the top -/
theorem end_call (KX : K.In s1.heap) (hns : s1.heap.Ns mainGlobals mg) (hbn : s1.heap.Ns builtinsNs mb) (hbb : ∀ x : Str, x ≠ "__name__" → mb x = bootBuiltins x) (nolim : s1.heap.NoLimit) (hg : s1.gens = #[])
    (obj : s1.heap.get? a = some { cls := .type "list", data := .seq vs.toArray }) (nums : IntsAre vs ns) (short : ns.length ≤ sizeLine) (hr : Room k callerA)
    (F : ∀ base : Heap, K.In base → base.Ns mainGlobals mg → FnG P w K mg base k fa fd [x] sp) (bnds : Binds K fd [x] []) (word : ∀ H : Hp, Only H → SqL K H a (ns.map V.int) → sp [.ref a] H (fun v _ => v = .bl true) E0) :
    codeAny (model P w) callerA (.call (.ref fa) ⟨[.ref a], []⟩) (fun r s' => r = .ok (.ret (.bool true)) ∧ OldK s1.heap s'.heap ∧ s'.os = s1.os ∧ AllBare s'.gens) s1 := by
  have vals := vals_ints nums
  have vlen := nums.length
  have from_ : ∀ H : Hp, Only H → SqL K H a (ns.map V.int) → HOk P w H s1.heap → (∀ b, H b ≠ none → b = a) → (H a ≠ none → K.lookup a = none) →
      codeAny (model P w) callerA (.call (.ref fa) ⟨[.ref a], []⟩) (fun r s' => r = .ok (.ret (.bool true)) ∧ OldK s1.heap s'.heap ∧ s'.os = s1.os ∧ AllBare s'.gens) s1 := by
    intro H hO hS hok one notK
    have hid : ∀ {b : Addr} {o : Obj}, s1.heap.get? b = some o → H b = none → (hidT s1.heap H).get? b = some o := fun e z => hidT_get e z
    have dicts : ∀ {b : Addr} {o : Obj} {es : Array DictEntry} {ep : Nat}, s1.heap.get? b = some o → o.data = .dict es ep → H b = none := by
      intro b o es ep e dd
      cases q : H b with
      | none => rfl
      | some u =>
        obtain rfl : b = a := one b (by rw [q]; simp)
        rw [obj] at e
        cases e
        have z : Data.seq vs.toArray _ = Data.dict es ep := dd
        cases z
    have spaces : ∀ {b : Addr} {m : Str → Option Value}, s1.heap.Ns b m → (hidT s1.heap H).Ns b m := by
      rintro b m ⟨o, es, ep, e, dd, r⟩
      exact ⟨o, es, ep, hid e (dicts e dd), dd, r⟩
    have kin : K.In (hidT s1.heap H) := by
      intro b o e
      refine hid (KX b o e) ?_
      cases q : H b with
      | none => rfl
      | some u =>
        obtain rfl : b = a := one b (by rw [q]; simp)
        rw [notK (by rw [q]; simp)] at e
        cases e
    have md : Mod K mg (hidT s1.heap H) := by
      obtain ⟨mc, l1, l2⟩ := nolim
      exact ⟨kin, spaces hns, ⟨mb, spaces hbn, hbb⟩, ⟨mc, spaces l1, l2⟩⟩
    have env0 : Env0 P w K mg (hidT s1.heap H) callerA [] s1 H := ⟨rfl, md, fun b o e => of_hidT e, Nat.le_of_eq (hidT_size _ _), trivial, fun b z => absurd (show b ∈ ([] : List Addr) from z) (by simp), hok, .of_eq hg⟩
    refine codeAny_mono ((F _ kin (spaces hns)).run callerA [] s1 H ⟨[.ref a], []⟩ [.ref a] [.ref a] _ hr rfl env0 (bnds s1 [.ref a] KX rfl) (.cons rfl .nil) (word H hO hS)) fun r s' h => ?_
    cases r with
    | error e => exact False.elim h
    | ok fl =>
      cases fl with
      | ret u =>
        obtain ⟨v, H', os, bare, un, hok', rv, q⟩ := h
        obtain rfl : v = .bl true := q
        obtain rfl : u = Value.bool true := rv
        refine ⟨rfl, OldK.of_keep fun b o e => ?_, os, bare⟩
        cases q : H b with
        | none => exact un.keep b o e q (fun z => absurd (show b ∈ ([] : List Addr) from z) (by simp)) (by simp)
        | some u =>
          rcases hO b with z | ⟨ob, xs, z⟩
          · rw [q] at z; cases z
          · obtain ⟨e1, _⟩ := hok b _ z
            obtain ⟨e2, _⟩ := hok' b _ (un.frzs b ob _ z)
            rw [e] at e1
            cases e1
            exact e2
      | next => exact h.elim
      | brk => exact h.elim
      | cont => exact h.elim
  cases hk : K.lookup a with
  | some o =>
    have e := KX a o hk
    rw [obj] at e
    cases e
    exact from_ (fun _ => none) (fun _ => .inl rfl) (.inr ⟨_, vs.toArray, _, hk, rfl, rfl, rfl, by rw [List.size_toArray, vlen]; exact short, by simpa using vals⟩) (fun b u z => by cases (show (none : Option HO) = some u from z)) (fun b z => absurd rfl z) fun z => absurd rfl z
  | none =>
    let ob : HO := .frz { cls := .type "list", data := .seq vs.toArray } (.lst (ns.map V.int))
    have at_ : ∀ {b : Addr} {u : HO}, (if b = a then some ob else none) = some u → b = a ∧ u = ob := by
      intro b u z
      by_cases hb : b = a
      · rw [if_pos hb] at z; cases z; exact ⟨hb, rfl⟩
      · rw [if_neg hb] at z; cases z
    refine from_ (fun b => if b = a then some ob else none) (fun b => ?_) (.inl (.inr ⟨_, if_pos rfl⟩)) (fun b u z => ?_) (fun b z => ?_) fun _ => hk
    · by_cases hb : b = a
      · exact .inr ⟨_, _, if_pos hb⟩
      · exact .inl (if_neg hb)
    · obtain ⟨rfl, rfl⟩ := at_ z
      exact ⟨obj, by rw [List.length_map]; exact short, vs, _, vals, obj⟩
    · cases q : (if b = a then some ob else none) with
      | none => exact absurd q z
      | some u => exact (at_ q).1
end
theorem room120 : Room 120 callerA := ⟨rfl, by decide, by decide⟩
/-- a law, by the evaluator's answer -/
theorem walk_Z {l : PySem.W.OpenLaw} {q : Program} {loose : List Str} {XP : (Str → Option Value) → Heap → Prop} {d : DefRec} {rs : List Row} {cs : List (Str × D)} {lawRow : Row} {nf sf k na : Nat}
    (hn : l.most = some 63) (hdf : d.params.defaults = []) (_hr : Room k callerA) (hnm : d.name = lawRow.nm) (hlk : (rs.map Row.f).lookup lawRow.nm = some lawRow.f.2) (hps : ∃ x, lawRow.ps = [x]) (sc : rs.all Row.scOk = true) (bd : ∀ r ∈ rs, r.binds)
    (word : ∀ ns : List Int, ns.length ≤ 63 → ∃ st', callF (rs.map Row.f) cs nf sf k lawRow.nm [mkRef 0] [.scr ns] = some ((.bool true, false), st')) (hk60 : k ≤ 60 := by decide) (hlm : isM lawRow.nm = false := by decide +kernel) :
    PySem.W.WalkO q loose XP (zHook na (zFa rs) (rs.map Row.d) cs).says l.row.toRowW d [] (fun f vs => PySem.call f vs) := by
  refine Att.attach_call hn hdf fun w s₀ s1 mg mb fa o pm cd doc a vs ns G Y ho hd hcd hmg hobj hints hlen hg => ?_
  obtain ⟨K, KX, e⟩ := Y
  have MF := modF_of KX G.T.g e sc bd
  obtain ⟨x, hx⟩ := hps
  have hl63 : ns.length ≤ sizeLine := Nat.le_trans hlen (by rw [sizeLine_eq]; decide)
  have hx2 : lawRow.f.2.ps = [x] := hx
  obtain ⟨a0, fdata, name, qual, params, h1, h2, h3, hb⟩ := MF.fn lawRow.nm lawRow.f.2 hlk
  have ea : a0 = fa := by
    rw [hnm] at hmg
    rw [h1.gl hlm] at hmg
    exact Value.ref.inj (Option.some.inj hmg)
  subst ea
  rw [hx2] at hb
  cases k with
  | zero =>
    obtain ⟨st', hw⟩ := word ns hlen
    cases hw
  | succ k =>
    refine end_call (k := 2 * (k + 1)) (fd := fdata) (sp := spF K (callF (rs.map Row.f) cs nf sf (k + 1) lawRow.nm) 1) KX G.T.g G.T.b G.T.builtins G.T.nolimit hg hobj hints hl63 (room120.mono (by omega)) (fun base hb1 hb2 => ?_) hb fun H hO hS => ?_
    · have := fn_at (P := l.prog) (w := w) (base := base) (n := nf) (m := sf) MF (fns_ok MF k) hlk h2 h3
      rw [hx2] at this
      exact this
    · obtain ⟨st', hw⟩ := word ns hlen
      exact sp_law hO hS hw
end Pz

/-! Pz16: the evaluator's clauses as functions of their parts (a def's text, written by these, is its body by unfolding alone). -/
namespace Pz
open PySem L2

abbrev XF := Env → M (D × Bool)
abbrev OF := Env → M Op
abbrev TF := Env → M Bool
abbrev SF := Env → M Fl
abbrev CallF := Str → List D → M (D × Bool)
def argsS : List XF → Env → M (List D)
  | [], _ => ret []
  | e :: r, env => bnd (e env) fun p => bnd (argsS r env) fun ps => ret (p.1 :: ps)
def opsS : List OF → Env → M (List Op)
  | [], _ => ret []
  | e :: r, env => bnd (e env) fun p => bnd (opsS r env) fun ps => ret (p :: ps)
/-! values -/
def xc (d : D) : XF := fun _ => ret (d, false)
def xv (j : Nat) : XF := fun env => (match env[j]? with
  | some (some (.frz d)) => ret (d, false)
  | _ => fail)
def ov (j : Nat) : OF := fun env => (match env[j]? with
  | some (some (.own _)) => ret (.o j)
  | some (some (.frz d)) => ret (.v d)
  | _ => fail)
def ox (x : XF) : OF := fun env => bnd (x env) fun p => ret (.v p.1)
def xbin (op : Operator) (a b : OF) : XF := fun env => bnd (a env) fun p => bnd (b env) fun q => arithM env op p q
def xneg (a : XF) : XF := fun env => bnd (a env) fun p => (match p.1 with
  | .int i => ret (.int (-i), false)
  | _ => fail)
def xnot (a : OF) : XF := fun env => bnd (a env) fun p => bnd (vw env p) fun d => bnd (lift (truth d)) fun b => ret (.bool (!b), false)
def xand (a b : XF) : XF := fun env => bnd (a env) fun p => bnd (lift (truth p.1)) fun t => if t = true then b env else ret p
def xor (a b : XF) : XF := fun env => bnd (a env) fun p => bnd (lift (truth p.1)) fun t => if t = true then ret p else b env
def xcmp (op : CmpOp) (a b : OF) : XF := fun env => bnd (a env) fun p => bnd (b env) fun q => bnd (cmpM env op p q) fun t => ret (.bool t, false)
def xcmp2 (op op' : CmpOp) (a b c : OF) : XF := fun env => bnd (a env) fun p => bnd (b env) fun q => bnd (cmpM env op p q) fun t =>
  if t = true then bnd (c env) fun q' => bnd (cmpM env op' q q') fun t' => ret (.bool t', false) else ret (.bool false, false)
def xif (t : TF) (a b : XF) : XF := fun env => bnd (t env) fun k => if k = true then a env else b env
abbrev PF := Env → M (Option Int)
def pn : PF := fun _ => ret none
def ps (x : XF) : PF := fun env => bnd (x env) fun p => (match p.1 with
  | .int i => ret (some i)
  | _ => fail)
def xcut (a : OF) (lo hi : PF) : XF := fun env => bnd (a env) fun p => bnd (lo env) fun l => bnd (hi env) fun u => bnd (vw env p) fun d => lift (slice d l u)
def xrev (a : OF) : XF := fun env => bnd (a env) fun p => bnd (vw env p) fun d => (match d with
  | .list xs => ret (.list xs.reverse, true)
  | .tuple xs => ret (.tuple xs.reverse, false)
  | _ => fail)
def xit (a i : OF) : XF := fun env => bnd (a env) fun p => bnd (i env) fun q => bnd (vw env p) fun d => bnd (vw env q) fun k => bnd (lift (item d k)) fun r => ret (r, false)
def xtup (es : List XF) : XF := fun env => bnd (argsS es env) fun ds => if ds.length ≤ line then ret (.tuple ds, false) else fail
def xlist (es : List XF) : XF := fun env => bnd (argsS es env) fun ds => if ds.length ≤ line then ret (.list ds, true) else fail
def xd0 : XF := fun _ => ret (.dict [], true)
def xbi (f : Str) (es : List OF) : XF := fun env => bnd (opsS es env) fun ps => bnd (views env ps) fun ds => lift (builtin f ds)
def xisa (a : OF) (n : String) : XF := fun env => bnd (a env) fun p => bnd (vw env p) fun d => (match (tyName d).bind fun t => isA t n with
  | some k => ret (.bool k, false)
  | none => fail)
def xmeth (o : OF) (m : Str) (es : List OF) : XF := fun env => bnd (o env) fun p => bnd (vw env p) fun d0 => bnd (opsS es env) fun ps => bnd (vw env p) fun d => bnd (views env ps) fun ds =>
  if tyName d0 = tyName d then (match getF m d ds ps with | some r => ret (r, false) | none => lift (method m d ds)) else fail
def xcall (call : CallF) (f : Str) (es : List XF) : XF := fun env => bnd (argsS es env) fun ds => call f ds
/-- the call of a local name that holds a def -/
def xcallL (funs : List (Str × FD)) (call : CallF) (j : Nat) (es : List XF) : XF := fun env => (match env[j]? with
  | some (some (.fn g)) => (match funs.lookup g with
    | some _ => if isM g = true then fail else bnd (argsS es env) fun ds => call g ds
    | none => fail)
  | _ => fail)
/-! instances -/
def xfld (o : XF) (f : Str) : XF := fun env => bnd (o env) fun p => fldM f p.1
def xmcall (call : CallF) (o : XF) (m nm : Str) (es : List XF) : XF := fun env => bnd (o env) fun p => bnd (isInsM m p.1) fun _ => bnd (argsS es env) fun ds => call nm (p.1 :: ds)
def xmake (call : CallF) (es : List XF) : XF := fun env => bnd (argsS es env) fun ds st => (match call (mName "__init__") (mkRef st.length :: ds) (st ++ [.ins wCls []]) with
  | some ((.none, false), st') => some ((mkRef st.length, false), st')
  | _ => none)
inductive TgS where
  | nm (j : Nat)
  | at_ (o : XF) (f : Str)
def asgS : List TgS → List D → Env → M Env
  | [], [], env => ret env
  | .nm j :: r, d :: ds, env => asgS r ds (env.set j (some (.frz d)))
  | .at_ o f :: r, d :: ds, env => bnd (o env) fun q => bnd (setM f d q.1) fun _ => asgS r ds env
  | _, _, _ => fail
/-! sources, comprehensions -/
abbrev RF := Env → M Src
def rr1 (a : XF) : RF := fun env => bnd (a env) fun p => (match p.1 with
  | .int n => if small n then ret ⟨(List.range n.toNat).map fun (i : Nat) => PyData.int (0 + (i : Int)), []⟩ else fail
  | _ => fail)
def rr2 (a b : XF) : RF := fun env => bnd (a env) fun p => bnd (b env) fun q => (match p.1, q.1 with
  | .int i, .int j => if small i && small j then ret ⟨(List.range (j - i).toNat).map fun (k : Nat) => PyData.int (i + (k : Int)), []⟩ else fail
  | _, _ => fail)
def ren (a : OF) : RF := fun env => bnd (a env) fun p => bnd (vw env p) fun d => (match d with
  | .list xs => ret ⟨enumD xs, [(p, d)]⟩
  | .tuple xs => ret ⟨enumD xs, [(p, d)]⟩
  | _ => fail)
def rzip (a b : OF) : RF := fun env => bnd (a env) fun p => bnd (b env) fun q => bnd (vw env p) fun d => bnd (vw env q) fun e => (match d, e with
  | .list xs, .list ys => ret ⟨zipD xs ys, [(p, d), (q, e)]⟩
  | .tuple xs, .tuple ys => ret ⟨zipD xs ys, [(p, d), (q, e)]⟩
  | _, _ => fail)
def rpl (a : OF) : RF := fun env => bnd (a env) fun p => bnd (vw env p) fun d => (match d with
  | .list xs => ret ⟨xs, [(p, d)]⟩
  | .tuple xs => ret ⟨xs, [(p, d)]⟩
  | .str z => ret ⟨signsD z, [(p, d)]⟩
  | _ => fail)
def tyes : TF := fun _ => ret true
def xlc (vs : List Nat) (tp : Bool) (js : List Nat) (src : RF) (test : TF) (elt : XF) : XF := fun env => bnd (src env) fun s =>
  bnd (compLoop s (wipeE env vs) (fun d => asg tp js d (wipeE env vs)) test elt s.items []) fun ds => ret (.list ds, true)
/-! tests -/
def tnot (a : TF) : TF := fun env => bnd (a env) fun b => ret (!b)
def tand (a b : TF) : TF := fun env => bnd (a env) fun t => if t = true then b env else ret false
def tor (a b : TF) : TF := fun env => bnd (a env) fun t => if t = true then ret true else b env
def tcmp (op : CmpOp) (a b : OF) : TF := fun env => bnd (a env) fun p => bnd (b env) fun q => cmpM env op p q
def tcmp2 (op op' : CmpOp) (a b c : OF) : TF := fun env => bnd (a env) fun p => bnd (b env) fun q => bnd (cmpM env op p q) fun t =>
  if t = true then bnd (c env) fun q' => cmpM env op' q q' else ret false
def tif (t a b : TF) : TF := fun env => bnd (t env) fun k => if k = true then a env else b env
def tv (o : OF) : TF := fun env => bnd (o env) fun p => bnd (vw env p) fun d => lift (truth d)
/-! statements -/
def blkS : List SF → SF
  | [], env => ret (.next env)
  | s :: r, env => bnd (s env) fun f => (match f with
    | .next env1 => blkS r env1
    | .ret d fl => ret (.ret d fl)
    | .brk env1 => ret (.brk env1)
    | .cont env1 => ret (.cont env1))
def sto (j : Nat) (o h : Bool) (p : D × Bool) (env : Env) : M Env := if (p.2 && o) = true then ret (env.set j (some (.own p.1)))
  else if (p.2 && h) = true then (match p.1 with
    | .list xs => fun st => some (env.set j (some (.frz (mkRef st.length))), st ++ [.lst xs])
    | _ => fail)
  else ret (env.set j (some (.frz p.1)))
def spass : SF := fun env => ret (.next env)
def sbrk : SF := fun env => ret (.brk env)
def scont : SF := fun env => ret (.cont env)
def sret0 : SF := fun _ => ret (.ret .none false)
def sret (x : XF) : SF := fun env => bnd (x env) fun p => ret (.ret p.1 p.2)
def sretv (j : Nat) : SF := fun env => (match (match env[j]? with
    | some (some (SV.own d)) => some d
    | _ => none) with
  | some d => ret (.ret d true)
  | none => bnd (xv j env) fun p => ret (.ret p.1 p.2))
def sif (t : TF) (a b : List SF) : SF := fun env => bnd (t env) fun k => if k = true then blkS a env else blkS b env
def swh (t : TF) (b : List SF) : SF := fun env => whileLoop t (blkS b) (2 ^ 64) env
def sfor (tp : Bool) (js : List Nat) (src : RF) (b : List SF) : SF := fun env => bnd (src env) fun s => forLoop ⟨s.items, freezeD s.deps⟩ (asg tp js) (blkS b) s.items (freezeE env s.deps)
/-- a loop over defs -/
def sforF2 (j i : Nat) (qs : List (Str × XF)) (b : List SF) : SF := fun env => bnd (argsS (qs.map (·.2)) env) fun ds => walkF2 (blkS b) j i ((qs.map (·.1)).zip ds) env
def sforF (j : Nat) (gs : List Str) (b : List SF) : SF := walkF (blkS b) j gs
/-- a walk through an own dict's keys -/
def sford (tp : Bool) (js : List Nat) (j : Nat) (b : List SF) : SF := walkD (asg tp js) (blkS b) j
def sset (j : Nat) (o h : Bool) (x : XF) : SF := fun env => bnd (x env) fun p => bnd (sto j o h p env) fun env1 => ret (.next env1)
def srow (js : List Nat) (x : XF) : SF := fun env => bnd (x env) fun p => (match asg true js p.1 env with
  | some env1 => ret (.next env1)
  | none => fail)
def srowt (js : List Nat) (es : List XF) : SF := fun env => bnd (argsS es env) fun ds => (match setE env js ds with
  | some env1 => ret (.next env1)
  | none => fail)
def ssub (o : OF) (i x : XF) : SF := fun env => bnd (x env) fun q => bnd (o env) fun p => bnd (i env) fun k => bnd (vw env p) fun d => (match d, k.1 with
  | .list xs, .int n => (match L2.ixN xs.length n with
    | some j => bnd (putOp env p (xs.set j q.1)) fun env1 => ret (.next env1)
    | none => fail)
  | .dict kvs, n => (match keyOf n with
    | some j => if kvs.length < line then bnd (putD env p (dput kvs n j q.1)) fun env1 => ret (.next env1) else fail
    | none => fail)
  | _, _ => fail)
def pairsS : List (XF × XF) → Env → M (List (D × D))
  | [], _ => ret []
  | (k, v) :: r, env => bnd (k env) fun p => bnd (v env) fun q => if (keyOf p.1).isSome = true then bnd (ret q.1) fun d => bnd (pairsS r env) fun r => ret ((p.1, d) :: r) else fail
/-- .. new lists among the values go to the small heap -/
def hpS (p : D × Bool) : M D := if p.2 = true then (match p.1 with
  | .list xs => fun st => some (mkRef st.length, st ++ [.lst xs])
  | _ => fail)
  else ret p.1
def pairsH : List (XF × XF) → Env → M (List (D × D))
  | [], _ => ret []
  | (k, v) :: r, env => bnd (k env) fun p => bnd (v env) fun q => if (keyOf p.1).isSome = true then bnd (hpS q) fun d => bnd (pairsH r env) fun r => ret ((p.1, d) :: r) else fail
def xdictH (kvs : List (XF × XF)) : XF := fun env => bnd (pairsH kvs env) fun kvs => ret (.dict (dmerge [] kvs), true)
/-- len(set(a)) -/
def xlens (a : OF) : XF := fun env => bnd (a env) fun p => bnd (vw env p) fun d => bnd (lift (lenSetD d)) fun r => ret (r, false)
/-- tuple(range(a)) -/
def xallw (vs : List Nat) (tp : Bool) (js : List Nat) (j : Nat) (test : TF) (elt : XF) : XF := fun env => match env[j]? with
  | some (some (.own (.dict kvs))) => bnd (compLoop ⟨kvs.map (·.1), []⟩ (wipeE (env.set j (some (.frz (.dict kvs)))) vs) (fun d => asg tp js d (wipeE (env.set j (some (.frz (.dict kvs)))) vs)) test elt (kvs.map (·.1)) []) fun ds st =>
    if st.isEmpty = true then lift (builtin "all" [.list ds]) st else none
  | _ => fail
def rkeys (kvs : List (D × D)) : RF := fun _ => ret ⟨kvs.map (fun p : D × D => p.1), []⟩
def xtrv (a : OF) : XF := fun env => bnd (a env) fun p => bnd (vw env p) fun d => bnd (lift (revTupD d)) fun r => ret (r, false)
def xtrg (a : XF) : XF := fun env => bnd (a env) fun p => (match p.1 with
  | .int n => if 0 ≤ n ∧ n ≤ 1000000 then ret (.tuple ((List.range n.toNat).map fun (i : Nat) => PyData.int (i : Int)), false) else fail
  | _ => fail)
def xdict (kvs : List (XF × XF)) : XF := fun env => bnd (pairsS kvs env) fun kvs => ret (.dict (dmerge [] kvs), true)
def sex (x : XF) : SF := fun env => bnd (x env) fun _ => ret (.next env)
abbrev UF := Env → M (D × Env)
def uapp (o : OF) (x : XF) : UF := fun env => bnd (o env) fun p => bnd (vw env p) fun d0 => (match d0 with
  | .list _ => bnd (x env) fun q => bnd (vw env p) fun d => (match d with
    | .list xs => if xs.length < line then bnd (putOp env p (xs ++ [q.1])) fun env1 => ret (.none, env1) else fail
    | _ => fail)
  | .dict _ => fail
  | _ => fail)
def uext (o a : OF) : UF := fun env => bnd (o env) fun p => bnd (vw env p) fun d0 => (match d0 with
  | .list _ => bnd (a env) fun q => bnd (vw env p) fun d => bnd (vw env q) fun e => (match d, e with
    | .list xs, .list ys => fun st => if noScr st q = true ∧ xs.length + ys.length ≤ line then bnd (putOp env p (xs ++ ys)) (fun env1 => ret (.none, env1)) st else none
    | .list xs, .tuple ys => fun st => if noScr st q = true ∧ xs.length + ys.length ≤ line then bnd (putOp env p (xs ++ ys)) (fun env1 => ret (.none, env1)) st else none
    | _, _ => fail)
  | .dict _ => fail
  | _ => fail)
def uins (o : OF) (x y : XF) : UF := fun env => bnd (o env) fun p => bnd (vw env p) fun d0 => (match d0 with
  | .list _ => bnd (x env) fun q1 => bnd (y env) fun q => bnd (vw env p) fun d => (match d, q1.1 with
    | .list xs, .int i => if xs.length < line ∧ 0 ≤ i ∧ i ≤ xs.length then bnd (putOp env p (xs.take i.toNat ++ [q.1] ++ xs.drop i.toNat)) fun env1 => ret (.none, env1) else fail
    | _, _ => fail)
  | _ => fail)
def upop (o : OF) (x : XF) : UF := fun env => bnd (o env) fun p => bnd (vw env p) fun d0 => (match d0 with
  | .list _ => bnd (x env) fun q => bnd (vw env p) fun d => (match d, q.1 with
    | .list xs, .int i => if xs.length ≤ line then (match L2.ixN xs.length i with
      | some k => (match xs[k]? with
        | some y => bnd (putOp env p (xs.eraseIdx k)) fun env1 => ret (y, env1)
        | none => fail)
      | none => fail) else fail
    | _, _ => fail)
  | .dict _ => fail
  | _ => fail)
def uupd (o a : OF) : UF := fun env => bnd (o env) fun p => bnd (vw env p) fun d0 => (match d0 with
  | .list _ => fail
  | .dict _ => bnd (a env) fun q => bnd (vw env p) fun d => bnd (vw env q) fun e => (match d, e with
    | .dict xs, .dict ys => if (frzOp q && decide (xs.length + ys.length ≤ line)) = true then bnd (putD env p (dmerge xs ys)) fun env1 => ret (.none, env1) else fail
    | _, _ => fail)
  | _ => fail)
def urem (o : OF) (x : XF) : UF := fun env => bnd (o env) fun p => bnd (vw env p) fun d0 => (match d0 with
  | .list _ => bnd (x env) fun q => bnd (vw env p) fun d => (match d with
    | .list xs => if (xs.length ≤ line && shapedB q.1 && shapedB (.list xs)) = true then (match indexOf q.1 xs 0 with
      | some k => bnd (putOp env p (xs.eraseIdx k)) fun env1 => ret (.none, env1)
      | none => fail) else fail
    | _ => fail)
  | .dict _ => fail
  | _ => fail)
def satt (o : XF) (f : Str) (x : XF) : SF := fun env => bnd (x env) fun p => bnd (heapD p) fun d => bnd (o env) fun q => bnd (setM f d q.1) fun _ => ret (.next env)
def srowA (ts : List TgS) (x : XF) : SF := fun env => bnd (x env) fun p => (match p.1 with
  | .tuple ds => bnd (asgS ts ds env) fun env1 => ret (.next env1)
  | _ => fail)
def smut (u : UF) : SF := fun env => bnd (u env) fun p => ret (.next p.2)
def ssetm (j : Nat) (u : UF) : SF := fun env => bnd (u env) fun p => ret (.next (p.2.set j (some (.frz p.1))))
/-! a def -/
def runB (b : SF) (n : Nat) (ds : List D) : M (D × Bool) := bnd (b (ds.map (fun d => some (.frz d)) ++ List.replicate (n - ds.length) none)) fun f => (match f with
  | .ret d fl => ret (d, fl)
  | .next _ => ret (.none, false)
  | _ => fail)
def runS (b : SF) (n : Nat) (ds : List D) : M (D × Bool) := if ds.all noRef = true then fun st => (match runB b n ds [] with
    | some (r, _) => if noRef r.1 = true then some (r, st) else none
    | none => none)
  else runB b n ds
theorem call_eq {rs : List Row} {cs : List (Str × D)} {nf sf k : Nat} {r : Row} {b : CallF → SF} (hl : (rs.map Row.f).lookup r.nm = some r.f.2)
    (hb : ∀ call, blk (sv ⟨r.N, cs, rs.map Row.f, call, r.own, r.hp⟩ nf sf) (defScope r.st) (defBody r.st) = b call) {ds : List D} (hd : ds.length = r.ps.length) (st : S) (hh : r.hp.contains ("{}" : Str) = false := by rfl) :
    callF (rs.map Row.f) cs nf sf (k + 1) r.nm ds st = runS (b (callF (rs.map Row.f) cs nf sf k)) r.N.length ds st := by
  have e1 : ∀ ds', runBody ⟨r.N, cs, rs.map Row.f, callF (rs.map Row.f) cs nf sf k, r.own, r.hp⟩ nf sf r.f.2 ds' = runB (b (callF (rs.map Row.f) cs nf sf k)) r.N.length ds' := fun ds' => by
    rw [← hb]; rfl
  have hd' : ds.length = r.f.2.ps.length := hd
  have hh' : (ds.all noRef && !r.hp.contains ("{}" : Str)) = ds.all noRef := by rw [hh, Bool.not_false, Bool.and_true]
  show (match (rs.map Row.f).lookup r.nm with | none => (fail : M (D × Bool)) | some fd => if ds.length = fd.ps.length then (if (ds.all noRef && !fd.hp.contains ("{}" : Str)) = true then _ else _) else fail) st = _
  rw [hl]
  show (if ds.length = r.f.2.ps.length then (if (ds.all noRef && !r.hp.contains ("{}" : Str)) = true then (fun st => (match runBody ⟨r.N, cs, rs.map Row.f, callF (rs.map Row.f) cs nf sf k, r.own, r.hp⟩ nf sf r.f.2 ds [] with
      | some (r, _) => if noRef r.1 = true then some (r, st) else none
      | none => none) : M (D × Bool)) else runBody ⟨r.N, cs, rs.map Row.f, callF (rs.map Row.f) cs nf sf k, r.own, r.hp⟩ nf sf r.f.2 ds) else fail) st = _
  rw [if_pos hd', e1, hh']
  rfl
/-- .. whose new lists go to the caller's heap -/
theorem call_eqH {rs : List Row} {cs : List (Str × D)} {nf sf k : Nat} {r : Row} {b : CallF → SF} (hl : (rs.map Row.f).lookup r.nm = some r.f.2)
    (hb : ∀ call, blk (sv ⟨r.N, cs, rs.map Row.f, call, r.own, r.hp⟩ nf sf) (defScope r.st) (defBody r.st) = b call) {ds : List D} (hd : ds.length = r.ps.length) (st : S) (hh : r.hp.contains ("{}" : Str) = true := by rfl) :
    callF (rs.map Row.f) cs nf sf (k + 1) r.nm ds st = runB (b (callF (rs.map Row.f) cs nf sf k)) r.N.length ds st := by
  have e1 : ∀ ds', runBody ⟨r.N, cs, rs.map Row.f, callF (rs.map Row.f) cs nf sf k, r.own, r.hp⟩ nf sf r.f.2 ds' = runB (b (callF (rs.map Row.f) cs nf sf k)) r.N.length ds' := fun ds' => by
    rw [← hb]; rfl
  have hd' : ds.length = r.f.2.ps.length := hd
  have hh' : (ds.all noRef && !r.hp.contains ("{}" : Str)) = false := by rw [hh, Bool.not_true, Bool.and_false]
  show (match (rs.map Row.f).lookup r.nm with | none => (fail : M (D × Bool)) | some fd => if ds.length = fd.ps.length then (if (ds.all noRef && !fd.hp.contains ("{}" : Str)) = true then _ else _) else fail) st = _
  rw [hl]
  show (if ds.length = r.f.2.ps.length then (if (ds.all noRef && !r.hp.contains ("{}" : Str)) = true then (fun st => (match runBody ⟨r.N, cs, rs.map Row.f, callF (rs.map Row.f) cs nf sf k, r.own, r.hp⟩ nf sf r.f.2 ds [] with
      | some (r, _) => if noRef r.1 = true then some (r, st) else none
      | none => none) : M (D × Bool)) else runBody ⟨r.N, cs, rs.map Row.f, callF (rs.map Row.f) cs nf sf k, r.own, r.hp⟩ nf sf r.f.2 ds) else fail) st = _
  rw [if_pos hd', e1, hh']
  rfl
end Pz

/-! Pz17: proving with the clauses' functions; the drawing of digits. -/
namespace Pz
open PySem

theorem log2_le {x n : Nat} (h : x < 2 ^ n) : x.log2 ≤ n := by
  by_cases e : x = 0
  · subst e; simp
  · exact Nat.le_of_lt ((Nat.log2_lt e).mpr h)
theorem mulOk_of {a b : Int} (n m : Nat) (ha : a.natAbs < 2 ^ n) (hb : b.natAbs < 2 ^ m) (h : n + m < 1000000) : mulOk a b = true := by
  unfold mulOk
  have h1 := log2_le ha
  have h2 := log2_le hb
  exact decide_eq_true (by omega)
theorem fdiv_of {b : Int} (n : Nat) (h0 : 0 < b) (hb : b.natAbs < 2 ^ n) (h : n < 9000) : 0 < b ∧ b.natAbs.log2 < 9000 := ⟨h0, by have := log2_le hb; omega⟩
@[simp] theorem refOf_mkRef (i : Nat) : refOf? (mkRef i) = some i := rfl
@[simp] theorem refOf_none : refOf? .none = none := rfl
@[simp] theorem refOf_bool (b : Bool) : refOf? (.bool b) = none := rfl
@[simp] theorem refOf_int (b : Int) : refOf? (.int b) = none := rfl
@[simp] theorem refOf_str (b : Str) : refOf? (.str b) = none := rfl
@[simp] theorem refOf_list (b : List D) : refOf? (.list b) = none := rfl
@[simp] theorem refOf_tuple (b : List D) : refOf? (.tuple b) = none := rfl
theorem noRef_mkRef (i : Nat) : noRef (mkRef i) = false := by simp [mkRef, noRef, noRefKv, keyLike]
theorem noScr_v {st : S} {d : D} (h : refOf? d = none) : noScr st (.v d) = true := by unfold noScr; simp only [h]

theorem shaped_int (a : Int) : SeqAt.shaped (.int a) = true := by first | rfl | simp [SeqAt.shaped] | (unfold SeqAt.shaped; simp [PyData.canLay0])
theorem eqv_int (a b : Int) : PyData.eqv (.int a) (.int b) = (a == b) := by first | rfl | simp [PyData.eqv]
theorem cmp_eq_int (a b : Int) : cmp .Eq (.int a) (.int b) = some (a == b) := by simp [cmp, shapedB, shaped_int, eqv_int]
theorem cmp_ne_int (a b : Int) : cmp .NotEq (.int a) (.int b) = some (!(a == b)) := by simp [cmp, shapedB, shaped_int, eqv_int]
/-- the drawing of a digit -/
def shTake (call : CallF) : SF := blkS
  [sif (tcmp .Gt (ox (xit (ov 0) (ox (xc (.int (0)))))) (ox (xc (.int (0))))) [sset 3 false false (xbin .Mod (ox (xit (ov 0) (ox (xc (.int (0)))))) (ov 1)),
   ssub (ov 0) (xc (.int (0))) (xbin .FloorDiv (ox (xit (ov 0) (ox (xc (.int (0)))))) (ov 1)),
   sretv 3] [],
  ssub (ov 0) (xc (.int (2))) (xbin .Add (ox (xit (ov 0) (ox (xc (.int (2)))))) (ox (xc (.int (1))))),
  sset 2 false false (xbin .Mod (ox (xbin .Mult (ox (xbin .Add (ox (xbin .Add (ox (xit (ov 0) (ox (xc (.int (1)))))) (ox (xbin .Mult (ox (xbin .Mult (ox (xc (.int (65537)))) (ox (xit (ov 0) (ox (xc (.int (2)))))))) (ox (xit (ov 0) (ox (xc (.int (2)))))))))) (ox (xc (.int (11)))))) (ox (xc (.int (48271)))))) (ox (xc (.int (2305843009213693921))))),
  sset 2 false false (xbin .Mod (ox (xbin .Mult (ov 2) (ox (xbin .Add (ox (xbin .Mod (ov 2) (ox (xc (.int (1000003)))))) (ox (xbin .Mult (ox (xc (.int (99991)))) (ox (xit (ov 0) (ox (xc (.int (2)))))))))))) (ox (xc (.int (2305843009213693907))))),
  sret (xbin .Mod (ox (xbin .Add (ox (xbin .FloorDiv (ov 2) (ox (xc (.int (97)))))) (ox (xbin .FloorDiv (ov 2) (ox (xc (.int (1000033)))))))) (ov 1))]
/-- the state: the script, the drawing's numbers, what else -/
def Rg (s0 : MO) (tl : S) (k : Nat) (st : S) : Prop := ∃ a b c : Int, st = s0 :: .lst [.int a, .int b, .int c] :: tl ∧ 0 ≤ a ∧ 0 ≤ b ∧ b < 2 ^ 61 ∧ 0 ≤ c ∧ c ≤ k
theorem take_spec {call : CallF} {s0 : MO} {tl : S} {k : Nat} {st : S} {m : Int} (h : Rg s0 tl k st) (hk : k < 1000000) (hm : 0 < m) (hm2 : m < 2 ^ 30) :
    ∃ d st', runS (shTake call) 4 [mkRef 1, .int m] st = some ((.int d, false), st') ∧ 0 ≤ d ∧ d < m ∧ Rg s0 tl (k + 1) st' := by
  obtain ⟨a, b, c, rfl, ha, hb0, hb, hc0, hc⟩ := h
  by_cases h0 : 0 < a
  · refine ⟨a % m, s0 :: .lst [.int (a / m), .int b, .int c] :: tl, ?_, Int.emod_nonneg _ (by omega), Int.emod_lt_of_pos _ hm, a / m, b, c, rfl, Int.ediv_nonneg ha (by omega), hb0, hb, hc0, by omega⟩
    have hf : 0 < m ∧ m.natAbs.log2 < 9000 := fdiv_of 30 hm (by omega) (by omega)
    simp [runS, runB, shTake, blkS, sif, tcmp, ox, xit, ov, xc, bnd, ret, vw, view, viewRef, lift, item, L2.atI, L2.ixN, cmpM, cmp, sset, xbin, arithM, arith, sto, ssub, putOp, sretv, xv, noScr, refOf_mkRef, refOf_none, refOf_bool, refOf_int, refOf_str, refOf_list, refOf_tuple, noRef_mkRef, h0, hm, hf]
  · have c1 : 0 ≤ c + 1 ∧ c + 1 ≤ 1000000 := by omega
    have q1 : 0 ≤ 65537 * (c + 1) ∧ 65537 * (c + 1) ≤ 65537000000 := by omega
    have q2 : 0 ≤ 65537 * (c + 1) * (c + 1) := Int.mul_nonneg q1.1 c1.1
    have q3 : 65537 * (c + 1) * (c + 1) ≤ 65537000000 * 1000000 := Int.mul_le_mul q1.2 c1.2 c1.1 (by omega)
    generalize hx2 : 65537 * (c + 1) * (c + 1) = x2 at q2 q3
    generalize hm1 : (b + x2 + 11) * 48271 % 2305843009213693921 = m1
    have r1 : 0 ≤ m1 ∧ m1 < 2305843009213693921 := by rw [← hm1]; exact ⟨Int.emod_nonneg _ (by omega), Int.emod_lt_of_pos _ (by omega)⟩
    have r2 : 0 ≤ m1 % 1000003 ∧ m1 % 1000003 < 1000003 := ⟨Int.emod_nonneg _ (by omega), Int.emod_lt_of_pos _ (by omega)⟩
    generalize hx6 : m1 % 1000003 + 99991 * (c + 1) = x6
    have r3 : 0 ≤ x6 ∧ x6 ≤ 100000000000 := by omega
    generalize hm2' : m1 * x6 % 2305843009213693907 = m2
    have r4 : 0 ≤ m2 := by rw [← hm2']; exact Int.emod_nonneg _ (by omega)
    have k1 : mulOk 65537 (c + 1) = true := mulOk_of 20 20 (by omega) (by omega) (by omega)
    have k2 : mulOk (65537 * (c + 1)) (c + 1) = true := mulOk_of 60 20 (by omega) (by omega) (by omega)
    have k3 : mulOk (b + x2 + 11) 48271 = true := mulOk_of 100 20 (by omega) (by omega) (by omega)
    have k4 : mulOk 99991 (c + 1) = true := mulOk_of 20 20 (by omega) (by omega) (by omega)
    have k5 : mulOk m1 x6 = true := mulOk_of 64 64 (by omega) (by omega) (by omega)
    have k6 : Nat.log2 97 < 9000 := by decide +kernel
    have k7 : Nat.log2 1000033 < 9000 := by decide +kernel
    refine ⟨(m2 / 97 + m2 / 1000033) % m, s0 :: .lst [.int a, .int b, .int (c + 1)] :: tl, ?_, Int.emod_nonneg _ (by omega), Int.emod_lt_of_pos _ hm, a, b, c + 1, rfl, ha, hb0, hb, by omega, by omega⟩
    simp [runS, runB, shTake, blkS, sif, tcmp, ox, xit, ov, xc, bnd, ret, vw, view, viewRef, lift, item, L2.atI, L2.ixN, cmpM, cmp, sset, xbin, arithM, arith, sto, ssub, putOp, sret, xv, noScr, refOf_mkRef, refOf_none, refOf_bool, refOf_int, refOf_str, refOf_list, refOf_tuple, noRef_mkRef, h0, hm,
      k1, k2, k3, k4, k5, k6, k7, hx2, hm1, hx6, hm2']

/-! ### the steps of a block, of a loop -/
theorem blk_next {s : SF} {r : List SF} {env env1 : Env} {st st1 : S} (h : s env st = some (.next env1, st1)) : blkS (s :: r) env st = blkS r env1 st1 := by
  show bnd (s env) _ st = _
  unfold bnd
  rw [h]
theorem blk_ret {s : SF} {r : List SF} {env : Env} {d : D} {fl : Bool} {st st1 : S} (h : s env st = some (.ret d fl, st1)) : blkS (s :: r) env st = some (.ret d fl, st1) := by
  show bnd (s env) _ st = _
  unfold bnd
  rw [h]
  rfl
theorem for_spec {s : Src} {asgn : D → Env → Option Env} {body : SF} (I : List D → Env → S → Prop) (Q : Fl → S → Prop)
    (step : ∀ d r env st, I (d :: r) env st → s.ok env st = true ∧ ∃ env1, asgn d env = some env1 ∧ ∃ f st', body env1 st = some (f, st') ∧ (match f with
      | .next e => I r e st'
      | .cont e => I r e st'
      | .brk e => Q (.next e) st'
      | .ret d fl => Q (.ret d fl) st'))
    (done : ∀ env st, I [] env st → s.ok env st = true ∧ Q (.next env) st) : ∀ xs env st, I xs env st → ∃ f st', forLoop s asgn body xs env st = some (f, st') ∧ Q f st'
  | [], env, st, h => by
    obtain ⟨h1, h2⟩ := done env st h
    exact ⟨_, st, by unfold forLoop; rw [if_pos h1], h2⟩
  | d :: r, env, st, h => by
    obtain ⟨h1, env1, h2, f, st', h3, h4⟩ := step d r env st h
    unfold forLoop
    rw [if_pos h1, h2]
    simp only [h3]
    cases f with
    | next e => exact for_spec I Q step done r e st' h4
    | cont e => exact for_spec I Q step done r e st' h4
    | brk e => exact ⟨_, _, rfl, h4⟩
    | ret d fl => exact ⟨_, _, rfl, h4⟩
mutual
theorem same_refl : ∀ d : D, same d d = true
  | .none => rfl
  | .bool b => by simp [same]
  | .int b => by simp [same]
  | .str b => by simp [same]
  | .list xs => by simp only [same]; exact sames_refl xs
  | .tuple xs => by simp only [same]; exact sames_refl xs
  | .dict xs => by simp only [same]; exact sameKv_refl xs
theorem sames_refl : ∀ d : List D, sames d d = true
  | [] => by simp [sames]
  | d :: r => by simp only [sames, same_refl d, sames_refl r, Bool.and_self]
theorem sameKv_refl : ∀ d : List (D × D), sameKv d d = true
  | [] => by simp [sameKv]
  | (k, v) :: r => by simp only [sameKv, same_refl k, same_refl v, sameKv_refl r, Bool.and_self]
end
theorem cut_map {α β : Type} (f : α → β) (xs : List α) (lo hi : Option Int) : cut (xs.map f) lo hi = (cut xs lo hi).map f := by
  unfold cut
  rw [List.length_map, ← List.map_drop, ← List.map_take]
theorem cut_len {α : Type} (xs : List α) (lo hi : Option Int) : (cut xs lo hi).length ≤ xs.length := by
  unfold cut
  rw [List.length_take, List.length_drop]
  omega
def shHand (call : CallF) : SF := blkS
  [sset 1 true false (xlist [xc (.int (0)), xc (.int (0)), xc (.int (0))]),
  sif (tand (tcmp .Gt (ox (xbi "len" [ov 0])) (ox (xc (.int (0))))) (tcmp .GtE (ox (xit (ov 0) (ox (xc (.int (0)))))) (ox (xbin .Pow (ox (xc (.int (10)))) (ox (xc (.int (18)))))))) [sset 2 false false (xc (.int (1))),
   sfor false [3] (rpl (ox (xcut (ov 0) pn (ps (xc (.int (63))))))) [ssub (ov 1) (xc (.int (0))) (xbin .Add (ox (xit (ov 1) (ox (xc (.int (0)))))) (ox (xbin .Mult (ox (xbin .Mod (ox (xbi "abs" [ov 3])) (ox (xbin .Pow (ox (xc (.int (10)))) (ox (xc (.int (60)))))))) (ov 2)))),
    sset 2 false false (xbin .Mult (ov 2) (ox (xbin .Pow (ox (xc (.int (10)))) (ox (xc (.int (60)))))))]] [],
  sfor true [4, 3] (ren (ox (xcut (ov 0) pn (ps (xc (.int (63))))))) [sset 5 false false (xbin .Add (ox (xbin .Add (ox (xbin .Mod (ov 3) (ox (xc (.int (2305843009213693951)))))) (ox (xbin .Mult (ox (xc (.int (7919)))) (ov 4))))) (ox (xc (.int (3))))),
   ssub (ov 1) (xc (.int (1))) (xbin .Mod (ox (xbin .Add (ox (xbin .Mult (ox (xit (ov 1) (ox (xc (.int (1)))))) (ox (xc (.int (48271)))))) (ov 5))) (ox (xc (.int (2305843009213693951)))))],
  sretv 1]
abbrev fz (d : D) : Option SV := some (.frz d)
abbrev ow (d : D) : Option SV := some (.own d)
theorem ok_v {items : List D} {d : D} {env : Env} {st : S} (h : refOf? d = none) : Src.ok ⟨items, [(.v d, d)]⟩ env st = true := by
  simp [Src.ok, view, h, same_refl]
theorem enum_cons {m : Int} {ms : List Int} {n : Nat} : (((m :: ms).map PyData.int).zipIdx n).map (fun p => PyData.tuple [.int p.2, p.1]) = .tuple [.int n, .int m] :: ((ms.map PyData.int).zipIdx (n + 1)).map fun p => PyData.tuple [.int p.2, p.1] := rfl
def hand2 : List SF := [sset 5 false false (xbin .Add (ox (xbin .Add (ox (xbin .Mod (ov 3) (ox (xc (.int (2305843009213693951)))))) (ox (xbin .Mult (ox (xc (.int (7919)))) (ov 4))))) (ox (xc (.int (3))))),
   ssub (ov 1) (xc (.int (1))) (xbin .Mod (ox (xbin .Add (ox (xbin .Mult (ox (xit (ov 1) (ox (xc (.int (1)))))) (ox (xc (.int (48271)))))) (ov 5))) (ox (xc (.int (2305843009213693951)))))]
theorem hand_two {s0 : D} {a : Int} {st : S} {x2 : Option SV} {c n : Int} {b : Int} {e3 e4 e5 : Option SV} (hb0 : 0 ≤ b) (hb : b < 2 ^ 61) (hn0 : 0 ≤ n) (hn : n ≤ 63) :
    ∃ b', blkS hand2 [fz s0, ow (.list [.int a, .int b, .int 0]), x2, fz (.int c), fz (.int n), e5] st = some (.next [fz s0, ow (.list [.int a, .int b', .int 0]), x2, fz (.int c), fz (.int n), fz (.int (c % 2305843009213693951 + 7919 * n + 3))], st) ∧ 0 ≤ b' ∧ b' < 2 ^ 61 := by
  have k1 : mulOk 7919 n = true := mulOk_of 20 20 (by omega) (by omega) (by omega)
  have k2 : mulOk b 48271 = true := mulOk_of 64 20 (by omega) (by omega) (by omega)
  refine ⟨(b * 48271 + (c % 2305843009213693951 + 7919 * n + 3)) % 2305843009213693951, ?_, Int.emod_nonneg _ (by omega), Int.lt_trans (Int.emod_lt_of_pos _ (by omega)) (by omega)⟩
  simp [hand2, runS, runB, blkS, sif, tcmp, tand, tor, tnot, tv, ox, xit, ov, xv, xc, bnd, ret, vw, view, viewRef, lift, item, L2.atI, L2.ixN, cmpM, cmp, sset, xbin, arithM, arith, sto, ssub, putOp, sret, sretv, noScr, refOf_mkRef, refOf_none, refOf_bool, refOf_int, refOf_str, refOf_list, refOf_tuple, noRef_mkRef, xlist, argsS, opsS, views, xbi, xcut, pn, ps, slice, rpl, ren, asg, setE, freezeD, freezeE, k1, k2]
def hand1 : List SF := [ssub (ov 1) (xc (.int (0))) (xbin .Add (ox (xit (ov 1) (ox (xc (.int (0)))))) (ox (xbin .Mult (ox (xbin .Mod (ox (xbi "abs" [ov 3])) (ox (xbin .Pow (ox (xc (.int (10)))) (ox (xc (.int (60)))))))) (ov 2)))),
    sset 2 false false (xbin .Mult (ov 2) (ox (xbin .Pow (ox (xc (.int (10)))) (ox (xc (.int (60)))))))]
theorem abs_b (c : Int) : builtin "abs" [.int c] = some (.int (if c < 0 then -c else c), false) := by
  unfold builtin
  rw [if_neg (by decide +kernel), if_pos rfl]
  rfl
theorem hand_one {s0 : D} {a b : Int} {st : S} {c : Int} {f : Int} {e4 e5 : Option SV} (ha : 0 ≤ a) (hf : 0 ≤ f) (n : Nat) (hf2 : f < 2 ^ (200 * n)) (hn : n ≤ 64) :
    ∃ a' f', blkS hand1 [fz s0, ow (.list [.int a, .int b, .int 0]), fz (.int f), fz (.int c), e4, e5] st = some (.next [fz s0, ow (.list [.int a', .int b, .int 0]), fz (.int f'), fz (.int c), e4, e5], st) ∧ 0 ≤ a' ∧ 0 ≤ f' ∧ f' < 2 ^ (200 * (n + 1)) := by
  generalize hx : (if c < 0 then -c else c) % 1000000000000000000000000000000000000000000000000000000000000 = x
  have r1 : 0 ≤ x ∧ x < 2 ^ 200 := by
    rw [← hx]
    exact ⟨Int.emod_nonneg _ (by omega), Int.lt_trans (Int.emod_lt_of_pos _ (by omega)) (by decide +kernel)⟩
  have fN : f.natAbs < 2 ^ (200 * n) := by
    have : ((f.natAbs : Nat) : Int) < ((2 ^ (200 * n) : Nat) : Int) := by
      rw [Int.natAbs_of_nonneg hf]
      simpa using hf2
    exact Int.ofNat_lt.mp this
  have k1 : mulOk x f = true := mulOk_of 200 (200 * n) (by have := r1.2; omega) fN (by omega)
  have k2 : mulOk f 1000000000000000000000000000000000000000000000000000000000000 = true := mulOk_of (200 * n) 200 fN (by decide +kernel) (by omega)
  have hf3 : f * 1000000000000000000000000000000000000000000000000000000000000 < 2 ^ (200 * (n + 1)) := by
    rw [show 200 * (n + 1) = 200 * n + 200 by omega, Int.pow_add]
    exact Int.lt_of_lt_of_le (Int.mul_lt_mul_of_pos_right hf2 (by decide +kernel)) (Int.mul_le_mul_of_nonneg_left (by decide +kernel) (Int.le_of_lt (Int.pow_pos (by omega))))
  refine ⟨a + x * f, f * 1000000000000000000000000000000000000000000000000000000000000, ?_, by have := Int.mul_nonneg r1.1 hf; omega, Int.mul_nonneg hf (by omega), hf3⟩
  simp [hand1, runS, runB, blkS, sif, tcmp, tand, tor, tnot, tv, ox, xit, ov, xv, xc, bnd, ret, vw, view, viewRef, lift, item, L2.atI, L2.ixN, cmpM, cmp, sset, xbin, arithM, arith, sto, ssub, putOp, sret, sretv, noScr, refOf_mkRef, refOf_none, refOf_bool, refOf_int, refOf_str, refOf_list, refOf_tuple, noRef_mkRef, xlist, argsS, opsS, views, xbi, xcut, pn, ps, slice, rpl, ren, asg, setE, freezeD, freezeE, abs_b, hx, k1, k2]
theorem len_b (xs : List D) : builtin "len" [.list xs] = some (.int xs.length, false) := rfl
def rCut : OF := ox (xcut (ov 0) pn (ps (xc (.int (63)))))
theorem hand_src {ns : List Int} {tl : S} {e : List (Option SV)} : rpl rCut (fz (mkRef 0) :: e) (.scr ns :: tl) = some (⟨(cut ns none (some 63)).map .int, [(.v (.list ((cut ns none (some 63)).map .int)), .list ((cut ns none (some 63)).map .int))]⟩, .scr ns :: tl) ∧
    ren rCut (fz (mkRef 0) :: e) (.scr ns :: tl) = some (⟨enumD ((cut ns none (some 63)).map .int), [(.v (.list ((cut ns none (some 63)).map .int)), .list ((cut ns none (some 63)).map .int))]⟩, .scr ns :: tl) := by
  constructor <;> simp [rCut, runS, runB, blkS, sif, tcmp, tand, tor, tnot, tv, ox, xit, ov, xv, xc, bnd, ret, vw, view, viewRef, lift, item, L2.atI, L2.ixN, cmpM, cmp, sset, xbin, arithM, arith, sto, ssub, putOp, sret, sretv, noScr, refOf_mkRef, refOf_none, refOf_bool, refOf_int, refOf_str, refOf_list, refOf_tuple, noRef_mkRef, xlist, argsS, opsS, views, xbi, xcut, pn, ps, slice, rpl, ren, asg, setE, freezeD, freezeE, cut_map]
theorem hand_w2 {ns : List Int} {tl : S} (hn : ns.length ≤ 63) {a : Int} {x2 x3 x4 x5 : Option SV} : ∃ b e3 e4 e5, sfor true [4, 3] (ren rCut) hand2 [fz (mkRef 0), ow (.list [.int a, .int 0, .int 0]), x2, x3, x4, x5] (.scr ns :: tl) = some (.next [fz (mkRef 0), ow (.list [.int a, .int b, .int 0]), x2, e3, e4, e5], .scr ns :: tl) ∧ 0 ≤ b ∧ b < 2 ^ 61 := by
  unfold sfor bnd
  rw [hand_src.2]
  have hl := cut_len ns none (some 63)
  generalize cut ns none (some 63) = ms at hl
  have key := for_spec (s := ⟨enumD (ms.map .int), freezeD [(.v (.list (ms.map .int)), .list (ms.map .int))]⟩) (asgn := asg true [4, 3]) (body := blkS hand2)
    (fun r env st => st = .scr ns :: tl ∧ ∃ (ms' : List Int) (n : Nat) (b : Int) (e3 e4 e5 : Option SV), r = ((ms'.map PyData.int).zipIdx n).map (fun p => PyData.tuple [.int p.2, p.1]) ∧ n + ms'.length ≤ 63 ∧ env = [fz (mkRef 0), ow (.list [.int a, .int b, .int 0]), x2, e3, e4, e5] ∧ 0 ≤ b ∧ b < 2 ^ 61)
    (fun f st => st = .scr ns :: tl ∧ ∃ (b : Int) (e3 e4 e5 : Option SV), f = .next [fz (mkRef 0), ow (.list [.int a, .int b, .int 0]), x2, e3, e4, e5] ∧ 0 ≤ b ∧ b < 2 ^ 61)
    (fun d r env st h => by
      obtain ⟨rfl, ms', n, b, e3, e4, e5, h1, h2, rfl, h3, h4⟩ := h
      refine ⟨ok_v rfl, ?_⟩
      cases ms' with
      | nil => cases h1
      | cons m ms' =>
        rw [enum_cons] at h1
        injection h1 with h5 h6
        subst h5 h6
        simp only [List.length_cons] at h2
        obtain ⟨b', g1, g2, g3⟩ := hand_two (s0 := mkRef 0) (a := a) (st := .scr ns :: tl) (x2 := x2) (c := m) (n := (n : Int)) (b := b) (e3 := e3) (e4 := e4) (e5 := e5) h3 h4 (by omega) (by omega)
        exact ⟨_, rfl, _, _, g1, rfl, ms', n + 1, b', _, _, _, rfl, by omega, rfl, g2, g3⟩)
    (fun env st h => by
      obtain ⟨rfl, ms', n, b, e3, e4, e5, h1, h2, rfl, h3, h4⟩ := h
      exact ⟨ok_v rfl, rfl, b, e3, e4, e5, rfl, h3, h4⟩)
    (enumD (ms.map .int)) [fz (mkRef 0), ow (.list [.int a, .int 0, .int 0]), x2, x3, x4, x5] (.scr ns :: tl) ⟨rfl, ms, 0, 0, x3, x4, x5, rfl, by omega, rfl, by omega, by omega⟩
  obtain ⟨f, st', g1, rfl, b, e3, e4, e5, rfl, g2, g3⟩ := key
  exact ⟨b, e3, e4, e5, g1, g2, g3⟩
theorem hand_w1 {ns : List Int} {tl : S} (hn : ns.length ≤ 63) {x3 x4 x5 : Option SV} : ∃ a e2 e3, sfor false [3] (rpl rCut) hand1 [fz (mkRef 0), ow (.list [.int 0, .int 0, .int 0]), fz (.int 1), x3, x4, x5] (.scr ns :: tl) = some (.next [fz (mkRef 0), ow (.list [.int a, .int 0, .int 0]), e2, e3, x4, x5], .scr ns :: tl) ∧ 0 ≤ a := by
  unfold sfor bnd
  rw [hand_src.1]
  have hl := cut_len ns none (some 63)
  generalize cut ns none (some 63) = ms at hl
  have key := for_spec (s := ⟨ms.map .int, freezeD [(.v (.list (ms.map .int)), .list (ms.map .int))]⟩) (asgn := asg false [3]) (body := blkS hand1)
    (fun r env st => st = .scr ns :: tl ∧ ∃ (ms' : List Int) (n : Nat) (a f : Int) (e3 : Option SV), r = ms'.map PyData.int ∧ n + ms'.length ≤ 63 ∧ env = [fz (mkRef 0), ow (.list [.int a, .int 0, .int 0]), fz (.int f), e3, x4, x5] ∧ 0 ≤ a ∧ 0 ≤ f ∧ f < 2 ^ (200 * (n + 1)))
    (fun f st => st = .scr ns :: tl ∧ ∃ (a : Int) (e2 e3 : Option SV), f = .next [fz (mkRef 0), ow (.list [.int a, .int 0, .int 0]), e2, e3, x4, x5] ∧ 0 ≤ a)
    (fun d r env st h => by
      obtain ⟨rfl, ms', n, a, f, e3, h1, h2, rfl, h3, h4, h5⟩ := h
      refine ⟨ok_v rfl, ?_⟩
      cases ms' with
      | nil => cases h1
      | cons m ms' =>
        rw [List.map_cons] at h1
        injection h1 with h6 h7
        subst h6 h7
        simp only [List.length_cons] at h2
        obtain ⟨a', f', g1, g2, g3, g4⟩ := hand_one (s0 := mkRef 0) (a := a) (b := 0) (st := .scr ns :: tl) (c := m) (f := f) (e4 := x4) (e5 := x5) h3 h4 (n + 1) h5 (by omega)
        exact ⟨_, rfl, _, _, g1, rfl, ms', n + 1, a', f', _, rfl, by omega, rfl, g2, g3, g4⟩)
    (fun env st h => by
      obtain ⟨rfl, ms', n, a, f, e3, h1, h2, rfl, h3, h4, h5⟩ := h
      exact ⟨ok_v rfl, rfl, a, _, e3, rfl, h3⟩)
    (ms.map .int) [fz (mkRef 0), ow (.list [.int 0, .int 0, .int 0]), fz (.int 1), x3, x4, x5] (.scr ns :: tl) ⟨rfl, ms, 0, 0, 1, x3, rfl, by omega, rfl, by omega, by omega, by decide +kernel⟩
  obtain ⟨f, st', g1, rfl, a, e2, e3, rfl, g2⟩ := key
  exact ⟨a, e2, e3, g1, g2⟩
def handT : TF := tand (tcmp .Gt (ox (xbi "len" [ov 0])) (ox (xc (.int (0))))) (tcmp .GtE (ox (xit (ov 0) (ox (xc (.int (0)))))) (ox (xbin .Pow (ox (xc (.int (10)))) (ox (xc (.int (18)))))))
theorem hand_t {ns : List Int} {tl : S} {e : List (Option SV)} : ∃ b, handT (fz (mkRef 0) :: e) (.scr ns :: tl) = some (b, .scr ns :: tl) := by
  cases ns with
  | nil => exact ⟨false, by simp [handT, runS, runB, blkS, sif, tcmp, tand, tor, tnot, tv, ox, xit, ov, xv, xc, bnd, ret, vw, view, viewRef, lift, item, L2.atI, L2.ixN, cmpM, cmp, sset, xbin, arithM, arith, sto, ssub, putOp, sret, sretv, noScr, refOf_mkRef, refOf_none, refOf_bool, refOf_int, refOf_str, refOf_list, refOf_tuple, noRef_mkRef, xlist, argsS, opsS, views, xbi, xcut, pn, ps, slice, rpl, ren, asg, setE, freezeD, freezeE, len_b]⟩
  | cons n ns =>
    have h : (0 : Int) < (ns.length : Int) + 1 := by omega
    exact ⟨decide (1000000000000000000 ≤ n), by simp [handT, runS, runB, blkS, sif, tcmp, tand, tor, tnot, tv, ox, xit, ov, xv, xc, bnd, ret, vw, view, viewRef, lift, item, L2.atI, L2.ixN, cmpM, cmp, sset, xbin, arithM, arith, sto, ssub, putOp, sret, sretv, noScr, refOf_mkRef, refOf_none, refOf_bool, refOf_int, refOf_str, refOf_list, refOf_tuple, noRef_mkRef, xlist, argsS, opsS, views, xbi, xcut, pn, ps, slice, rpl, ren, asg, setE, freezeD, freezeE, len_b, h]⟩
theorem hand_spec {call : CallF} {ns : List Int} {tl : S} (hn : ns.length ≤ 63) : ∃ a b, runS (shHand call) 6 [mkRef 0] (.scr ns :: tl) = some ((.list [.int a, .int b, .int 0], true), .scr ns :: tl) ∧ 0 ≤ a ∧ 0 ≤ b ∧ b < 2 ^ 61 := by
  have e0 : runS (shHand call) 6 [mkRef 0] (.scr ns :: tl) = bnd (blkS [sset 1 true false (xlist [xc (.int (0)), xc (.int (0)), xc (.int (0))]), sif handT [sset 2 false false (xc (.int (1))), sfor false [3] (rpl rCut) hand1] [], sfor true [4, 3] (ren rCut) hand2, sretv 1] [fz (mkRef 0), none, none, none, none, none]) (fun f => (match f with
      | .ret d fl => ret (d, fl)
      | .next _ => ret (.none, false)
      | _ => (fail : M (D × Bool)))) (.scr ns :: tl) := by
    unfold runS
    rw [if_neg (by simp [noRef_mkRef])]
    rfl
  rw [e0]
  have s1 : sset 1 true false (xlist [xc (.int (0)), xc (.int (0)), xc (.int (0))]) [fz (mkRef 0), none, none, none, none, none] (.scr ns :: tl) = some (.next [fz (mkRef 0), ow (.list [.int 0, .int 0, .int 0]), none, none, none, none], .scr ns :: tl) := by
    simp [runS, runB, blkS, sif, tcmp, tand, tor, tnot, tv, ox, xit, ov, xv, xc, bnd, ret, vw, view, viewRef, lift, item, L2.atI, L2.ixN, cmpM, cmp, sset, xbin, arithM, arith, sto, ssub, putOp, sret, sretv, noScr, refOf_mkRef, refOf_none, refOf_bool, refOf_int, refOf_str, refOf_list, refOf_tuple, noRef_mkRef, xlist, argsS, opsS, views, xbi, xcut, pn, ps, slice, rpl, ren, asg, setE, freezeD, freezeE, line]
  obtain ⟨t, ht⟩ := hand_t (ns := ns) (tl := tl) (e := [ow (.list [.int 0, .int 0, .int 0]), none, none, none, none])
  have s2 : ∃ a e2 e3, 0 ≤ a ∧ sif handT [sset 2 false false (xc (.int (1))), sfor false [3] (rpl rCut) hand1] [] [fz (mkRef 0), ow (.list [.int 0, .int 0, .int 0]), none, none, none, none] (.scr ns :: tl) = some (.next [fz (mkRef 0), ow (.list [.int a, .int 0, .int 0]), e2, e3, none, none], .scr ns :: tl) := by
    unfold sif bnd
    rw [ht]
    cases t with
    | false => exact ⟨0, none, none, by omega, rfl⟩
    | true =>
      obtain ⟨a, e2, e3, g1, g2⟩ := hand_w1 (ns := ns) (tl := tl) hn (x3 := none) (x4 := none) (x5 := none)
      refine ⟨a, e2, e3, g2, ?_⟩
      show blkS [sset 2 false false (xc (.int (1))), sfor false [3] (rpl rCut) hand1] [fz (mkRef 0), ow (.list [.int 0, .int 0, .int 0]), none, none, none, none] (.scr ns :: tl) = _
      rw [blk_next (env1 := [fz (mkRef 0), ow (.list [.int 0, .int 0, .int 0]), fz (.int 1), none, none, none]) (st1 := .scr ns :: tl) (by simp [runS, runB, blkS, sif, tcmp, tand, tor, tnot, tv, ox, xit, ov, xv, xc, bnd, ret, vw, view, viewRef, lift, item, L2.atI, L2.ixN, cmpM, cmp, sset, xbin, arithM, arith, sto, ssub, putOp, sret, sretv, noScr, refOf_mkRef, refOf_none, refOf_bool, refOf_int, refOf_str, refOf_list, refOf_tuple, noRef_mkRef, xlist, argsS, opsS, views, xbi, xcut, pn, ps, slice, rpl, ren, asg, setE, freezeD, freezeE]), blk_next g1]
      rfl
  obtain ⟨a, e2, e3, ha, s2⟩ := s2
  obtain ⟨b, e3', e4, e5, s3, hb0, hb⟩ := hand_w2 (ns := ns) (tl := tl) hn (a := a) (x2 := e2) (x3 := e3) (x4 := none) (x5 := none)
  refine ⟨a, b, ?_, ha, hb0, hb⟩
  unfold bnd
  rw [blk_next s1, blk_next s2, blk_next s3, blk_ret (d := .list [.int a, .int b, .int 0]) (fl := true) (st1 := .scr ns :: tl) (by simp [runS, runB, blkS, sif, tcmp, tand, tor, tnot, tv, ox, xit, ov, xv, xc, bnd, ret, vw, view, viewRef, lift, item, L2.atI, L2.ixN, cmpM, cmp, sset, xbin, arithM, arith, sto, ssub, putOp, sret, sretv, noScr, refOf_mkRef, refOf_none, refOf_bool, refOf_int, refOf_str, refOf_list, refOf_tuple, noRef_mkRef, xlist, argsS, opsS, views, xbi, xcut, pn, ps, slice, rpl, ren, asg, setE, freezeD, freezeE])]
  rfl
/-! ### closed calls -/
/-- a def handed no reference answers the same in every state -/
theorem iso {funs : List (Str × FD)} {cs : List (Str × D)} {nf sf k : Nat} {f : Str} {ds : List D} {r : D × Bool} {st0 st1 : S} (hn : ds.all noRef = true) (h : callF funs cs nf sf k f ds st0 = some (r, st1)) (st : S)
    (hh : (match funs.lookup f with | some fd => fd.hp.contains ("{}" : Str) | none => false) = false := by rfl) : callF funs cs nf sf k f ds st = some (r, st) := by
  cases k with
  | zero => cases h
  | succ k =>
    unfold callF at h ⊢
    cases hf : funs.lookup f with
    | none => rw [hf] at h; cases h
    | some fd =>
      rw [hf] at h hh
      simp only at h hh ⊢
      have hn' : (ds.all noRef && !fd.hp.contains ("{}" : Str)) = true := by rw [hh, hn]; rfl
      by_cases hl : ds.length = fd.ps.length
      · rw [if_pos hl, if_pos hn'] at h ⊢
        cases hb : runBody ⟨fd.N, cs, funs, callF funs cs nf sf k, fd.own, fd.hp⟩ nf sf fd ds [] with
        | none => rw [hb] at h; cases h
        | some z =>
          obtain ⟨r2, st2⟩ := z
          rw [hb] at h
          simp only at h ⊢
          by_cases hz : noRef r2.1 = true
          · rw [if_pos hz] at h ⊢
            cases h
            rfl
          · rw [if_neg hz] at h; cases h
      · rw [if_neg hl] at h; cases h
def yes (o : Option ((D × Bool) × S)) : Bool := match o with
  | some ((.bool true, false), _) => true
  | _ => false
theorem yes_of {o : Option ((D × Bool) × S)} (h : yes o = true) : ∃ st, o = some ((.bool true, false), st) := by
  unfold yes at h
  split at h
  · exact ⟨_, rfl⟩
  · cases h
theorem atI_mem {α : Type} {xs : List α} {i : Int} (h0 : 0 ≤ i) (h : i < xs.length) : ∃ p, L2.atI xs i = some p ∧ p ∈ xs := by
  have hl : i.toNat < xs.length := by omega
  refine ⟨xs[i.toNat], ?_, List.getElem_mem hl⟩
  unfold L2.atI L2.ixN
  rw [if_pos h0, if_pos h]
  exact List.getElem?_eq_getElem hl
theorem runS_iso {b : SF} {n : Nat} {ds : List D} {r : D × Bool} {st1 : S} (hn : ds.all noRef = true) (h : runB b n ds [] = some (r, st1)) (hr : noRef r.1 = true) (st : S) : runS b n ds st = some (r, st) := by
  unfold runS
  rw [if_pos hn]
  simp only [h, hr, if_true]
theorem noref_of {d : D} (h : noRef d = true) : refOf? d = none := by
  cases e : refOf? d with
  | none => rfl
  | some i =>
    rw [refOf_mk e, noRef_mkRef] at h
    cases h
/-! ### comprehensions -/
theorem comp_pure {s : Src} {env : Env} {asgn : D → Option Env} {test : TF} {elt : XF} {f : D → D} {st : S} (hok : s.ok env st = true) : ∀ (xs acc : List D), (∀ d ∈ xs, ∃ env1, asgn d = some env1 ∧ test env1 st = some (true, st) ∧ ∃ fl, elt env1 st = some ((f d, fl), st)) → acc.length + xs.length ≤ line →
    compLoop s env asgn test elt xs acc st = some (acc ++ xs.map f, st)
  | [], acc, _, _ => by
    unfold compLoop
    rw [if_pos hok]
    simp
  | d :: r, acc, h, hl => by
    obtain ⟨env1, h1, h2, fl, h3⟩ := h d List.mem_cons_self
    rw [List.length_cons] at hl
    unfold compLoop
    rw [if_pos hok, h1]
    simp only [h2]
    rw [if_pos (by omega), h3]
    simp only
    rw [comp_pure hok r _ (fun e he => h e (List.mem_cons_of_mem _ he)) (by rw [List.length_append]; simp; omega)]
    simp
theorem all_yes (xs : List D) : builtin "all" [.list (xs.map fun _ => .bool true)] = some (.bool true, false) := by
  have h : ∀ xs : List D, allBools (xs.map fun _ => .bool true) = some (xs.map fun _ => true) := by
    intro xs
    induction xs with
    | nil => rfl
    | cons x xs ih => show (allBools (xs.map fun _ => .bool true)).map (true :: ·) = _; rw [ih]; rfl
  show (allBools (xs.map fun _ => .bool true)).map (fun bs => (PyData.bool (bs.all id), false)) = _
  rw [h]
  simp
theorem comp_filter {s : Src} {env : Env} {asgn : D → Option Env} {test : TF} {elt : XF} {t : D → Bool} {f : D → D} {st : S} (hok : s.ok env st = true) : ∀ (xs acc : List D),
    (∀ d ∈ xs, ∃ env1, asgn d = some env1 ∧ test env1 st = some (t d, st) ∧ (t d = true → ∃ fl, elt env1 st = some ((f d, fl), st))) → acc.length + xs.length ≤ line →
    compLoop s env asgn test elt xs acc st = some (acc ++ (xs.filter t).map f, st)
  | [], acc, _, _ => by
    unfold compLoop
    rw [if_pos hok]
    simp
  | d :: r, acc, h, hl => by
    obtain ⟨env1, h1, h2, h3⟩ := h d List.mem_cons_self
    rw [List.length_cons] at hl
    have ih := fun acc hl => comp_filter hok r acc (fun e he => h e (List.mem_cons_of_mem _ he)) hl
    unfold compLoop
    rw [if_pos hok, h1]
    simp only [h2]
    cases ht : t d with
    | true =>
      obtain ⟨fl, h4⟩ := h3 ht
      simp only
      rw [if_pos (by omega), h4]
      simp only
      rw [ih _ (by rw [List.length_append]; simp; omega)]
      simp [ht]
    | false =>
      simp only
      rw [ih _ (by omega)]
      simp [ht]
/-- a comprehension whose parts change the state -/
theorem comp_spec {s : Src} {env : Env} {asgn : D → Option Env} {test : TF} {elt : XF} (I : List D → List D → S → Prop)
    (step : ∀ d r acc st, I (d :: r) acc st → s.ok env st = true ∧ ∃ env1, asgn d = some env1 ∧ ∃ b st1, test env1 st = some (b, st1) ∧
      (b = true → acc.length < line ∧ ∃ p st2, elt env1 st1 = some (p, st2) ∧ I r (acc ++ [p.1]) st2) ∧ (b = false → I r acc st1))
    (done : ∀ acc st, I [] acc st → s.ok env st = true) : ∀ (xs acc : List D) (st : S), I xs acc st → ∃ ds st', compLoop s env asgn test elt xs acc st = some (ds, st') ∧ I [] ds st'
  | [], acc, st, h => ⟨acc, st, by unfold compLoop; rw [if_pos (done acc st h)], h⟩
  | d :: r, acc, st, h => by
    obtain ⟨h1, env1, h2, b, st1, h3, h4, h5⟩ := step d r acc st h
    unfold compLoop
    rw [if_pos h1, h2]
    simp only [h3]
    cases b with
    | true =>
      obtain ⟨h6, p, st2, h7, h8⟩ := h4 rfl
      simp only
      rw [if_pos h6, h7]
      exact comp_spec I step done r _ st2 h8
    | false => exact comp_spec I step done r _ st1 (h5 rfl)
theorem allB (f : D → Bool) : ∀ xs : List D, allBools (xs.map fun d => .bool (f d)) = some (xs.map f)
  | [] => rfl
  | x :: xs => by
    show (allBools (xs.map fun d => .bool (f d))).map (f x :: ·) = _
    rw [allB f xs]
    rfl
theorem all_b (f : D → Bool) (xs : List D) : builtin "all" [.list (xs.map fun d => .bool (f d))] = some (.bool (xs.all f), false) := by
  show (allBools (xs.map fun d => .bool (f d))).map (fun bs => (PyData.bool (bs.all id), false)) = _
  rw [allB]
  simp [List.all_map, Function.comp_def]
theorem any_b (f : D → Bool) (xs : List D) : builtin "any" [.list (xs.map fun d => .bool (f d))] = some (.bool (xs.any f), false) := by
  have e : builtin "any" [.list (xs.map fun d => .bool (f d))] = (allBools (xs.map fun d => .bool (f d))).map (fun bs => (PyData.bool (bs.any id), false)) := rfl
  rw [e, allB]
  simp [List.any_map, Function.comp_def]
/-! ### a state of a law -/
theorem rg_start {s0 : MO} {tl : S} {a b : Int} (h1 : 0 ≤ a) (h2 : 0 ≤ b) (h3 : b < 2 ^ 61) : Rg s0 tl 0 (s0 :: .lst [.int a, .int b, .int 0] :: tl) := ⟨a, b, 0, rfl, h1, h2, h3, Int.le_refl _, Int.le_refl _⟩
theorem bnd_eq {α β : Type} {m : M α} {f : α → M β} {st st1 : S} {a : α} (h : m st = some (a, st1)) : bnd m f st = f a st1 := by
  unfold bnd
  rw [h]
end Pz

/-! Pz18: evaluation by simp: the clauses' functions as rewriting rules; comprehensions whose parts leave the state. -/
namespace Pz
open PySem

/-! ### the plumbing -/
@[simp ↓] theorem bnd_ap {α β : Type} (m : M α) (f : α → M β) (st : S) : bnd m f st = match m st with
  | some (a, st1) => f a st1
  | none => none := rfl
@[simp] theorem ret_ap {α : Type} (a : α) (st : S) : ret a st = some (a, st) := rfl
@[simp] theorem fail_ap {α : Type} (st : S) : (fail : M α) st = none := rfl
@[simp] theorem lift_sm {α : Type} (a : α) (st : S) : lift (some a) st = some (a, st) := rfl
@[simp] theorem lift_nn {α : Type} (st : S) : (lift none : M α) st = none := rfl
@[simp] theorem ite_st {α : Type} (c : Prop) [Decidable c] (a b : M α) (st : S) : (if c then a else b) st = if c then a st else b st := by split <;> rfl
@[simp] theorem vw_ap (env : Env) (p : Op) (st : S) : vw env p st = match view env st p with
  | some d => some (d, st)
  | none => none := rfl
@[simp] theorem view_v (env : Env) (st : S) (d : D) : view env st (.v d) = match refOf? d with
  | none => some d
  | some i => viewRef st i := rfl
@[simp] theorem view_o (env : Env) (st : S) (j : Nat) : view env st (.o j) = match env[j]? with
  | some (some (.own d)) => some d
  | _ => none := rfl
@[simp] theorem refOf_dict_nil : refOf? (.dict []) = none := rfl
@[simp] theorem refOf_dict_s (x : Str) (v : D) (r : List (D × D)) : refOf? (.dict ((.str x, v) :: r)) = none := rfl
@[simp] theorem refOf_dict_i (x : Int) (v : D) (r : List (D × D)) : refOf? (.dict ((.int x, v) :: r)) = none := rfl
@[simp] theorem noRef_d0 : noRef (.dict []) = true := by simp [noRef, noRefKv]
@[simp] theorem noRef_dc (q v : D) (r : List (D × D)) : noRef (.dict ((q, v) :: r)) = (keyLike q && noRef q && noRef v && noRef (.dict r)) := by simp [noRef, noRefKv]
@[simp] theorem keyLike_n : keyLike .none = true := rfl
@[simp] theorem keyLike_b (b : Bool) : keyLike (.bool b) = true := rfl
@[simp] theorem keyLike_i (b : Int) : keyLike (.int b) = true := rfl
@[simp] theorem keyLike_s (b : Str) : keyLike (.str b) = true := rfl
@[simp] theorem keyLike_t (b : List D) : keyLike (.tuple b) = true := rfl
@[simp] theorem views_nil (env : Env) (st : S) : views env [] st = some ([], st) := rfl
@[simp ↓] theorem views_cons (env : Env) (p : Op) (r : List Op) (st : S) : views env (p :: r) st = (bnd (vw env p) fun d => bnd (views env r) fun ds => ret (d :: ds)) st := rfl
@[simp] theorem noScr_o (st : S) (j : Nat) : noScr st (.o j) = true := rfl
@[simp] theorem noScr_vv (st : S) (d : D) : noScr st (.v d) = match refOf? d with
  | none => true
  | some i => (match st[i]? with
    | some (.scr _) => false
    | _ => true) := rfl
@[simp] theorem noRef_n : noRef .none = true := rfl
@[simp] theorem noRef_b (b : Bool) : noRef (.bool b) = true := rfl
@[simp] theorem noRef_i (b : Int) : noRef (.int b) = true := rfl
@[simp] theorem noRef_s (b : Str) : noRef (.str b) = true := rfl
theorem noRefs_eq : ∀ xs : List D, noRefs xs = xs.all noRef
  | [] => by simp [noRefs]
  | x :: xs => by simp [noRefs, noRefs_eq xs]
@[simp] theorem noRef_t (xs : List D) : noRef (.tuple xs) = xs.all noRef := by rw [← noRefs_eq]; simp [noRef]
@[simp] theorem noRef_l (xs : List D) : noRef (.list xs) = xs.all noRef := by rw [← noRefs_eq]; simp [noRef]
/-! ### branches joined -/
@[simp] theorem ite_bt {p : Prop} [Decidable p] {u : Bool} {st : S} : (if p then some (u, st) else some (false, st)) = some (decide p && u, st) := by split <;> simp_all
@[simp] theorem ite_bt' {p : Prop} [Decidable p] {u : Bool} {st : S} : (if p then some (true, st) else some (u, st)) = some (decide p || u, st) := by split <;> simp_all
theorem ite_b {p : Prop} [Decidable p] {u v : Bool} {st : S} : (if p then some (u, st) else some (v, st)) = some (if p then u else v, st) := by split <;> simp_all
@[simp] theorem ite_d {p : Prop} [Decidable p] {x y : D} {f : Bool} {st : S} : (if p then some ((x, f), st) else some ((y, f), st)) = some ((if p then x else y, f), st) := by split <;> simp_all
@[simp] theorem ite_bool {p : Prop} [Decidable p] {x y : Bool} : (if p then PyData.bool x else PyData.bool y) = PyData.bool (if p then x else y) := by split <;> simp_all
@[simp] theorem ite_int {p : Prop} [Decidable p] {x y : Int} : (if p then PyData.int x else PyData.int y) = PyData.int (if p then x else y) := by split <;> simp_all
@[simp] theorem ite_and1 {p : Prop} [Decidable p] {u : Bool} : (if p then u else decide p) = (decide p && u) := by split <;> simp_all
@[simp] theorem ite_and2 {t u : Bool} : (if t = true then u else t) = (t && u) := by cases t <;> simp
@[simp] theorem ite_or1 {p : Prop} [Decidable p] {u : Bool} : (if p then decide p else u) = (decide p || u) := by split <;> simp_all
@[simp] theorem ite_or2 {t u : Bool} : (if t = true then t else u) = (t || u) := by cases t <;> simp
@[simp] theorem dec_nil {α : Type} {xs : List α} [Decidable (xs = [])] : decide (xs = []) = xs.isEmpty := by cases xs <;> simp
@[simp] theorem dec_none {α : Type} {o : Option α} [Decidable (o = none)] : decide (o = none) = o.isNone := by cases o <;> simp
@[simp] theorem ite_fl {p : Prop} [Decidable p] (x y : Fl) (st : S) : some ((if p then x else y), st) = if p then some (x, st) else some (y, st) := by split <;> rfl
@[simp] theorem ite_nest {α : Type} {p q : Prop} [Decidable p] [Decidable q] (x y : α) : (if p then (if q then x else y) else y) = if p ∧ q then x else y := by by_cases p <;> by_cases q <;> simp_all
/-! ### values -/
@[simp] theorem argsS_nil (env : Env) (st : S) : argsS [] env st = some ([], st) := rfl
@[simp ↓] theorem argsS_cons (e : XF) (r : List XF) (env : Env) (st : S) : argsS (e :: r) env st = (bnd (e env) fun p => bnd (argsS r env) fun ps => ret (p.1 :: ps)) st := rfl
@[simp] theorem opsS_nil (env : Env) (st : S) : opsS [] env st = some ([], st) := rfl
@[simp ↓] theorem opsS_cons (e : OF) (r : List OF) (env : Env) (st : S) : opsS (e :: r) env st = (bnd (e env) fun p => bnd (opsS r env) fun ps => ret (p :: ps)) st := rfl
@[simp] theorem xc_ap (d : D) (env : Env) (st : S) : xc d env st = some ((d, false), st) := rfl
@[simp ↓] theorem xv_ap (j : Nat) (env : Env) (st : S) : xv j env st = match env[j]? with
  | some (some (.frz d)) => some ((d, false), st)
  | _ => none := by unfold xv; generalize env[j]? = z; rcases z with _ | _ | _ | _ <;> rfl
@[simp ↓] theorem ov_ap (j : Nat) (env : Env) (st : S) : ov j env st = match env[j]? with
  | some (some (.own _)) => some (.o j, st)
  | some (some (.frz d)) => some (.v d, st)
  | _ => none := by unfold ov; generalize env[j]? = z; rcases z with _ | _ | _ | _ <;> rfl
@[simp ↓] theorem ox_ap (x : XF) (env : Env) (st : S) : ox x env st = (bnd (x env) fun p => ret (.v p.1)) st := rfl
@[simp ↓] theorem xbin_ap (op : Operator) (a b : OF) (env : Env) (st : S) : xbin op a b env st = (bnd (a env) fun p => bnd (b env) fun q => arithM env op p q) st := rfl
@[simp ↓] theorem xneg_ap (a : XF) (env : Env) (st : S) : xneg a env st = (bnd (a env) fun p => (match p.1 with
  | .int i => ret (.int (-i), false)
  | _ => fail)) st := rfl
@[simp ↓] theorem xnot_ap (a : OF) (env : Env) (st : S) : xnot a env st = (bnd (a env) fun p => bnd (vw env p) fun d => bnd (lift (truth d)) fun b => ret (.bool (!b), false)) st := rfl
@[simp ↓] theorem xand_ap (a b : XF) (env : Env) (st : S) : xand a b env st = (bnd (a env) fun p => bnd (lift (truth p.1)) fun t => if t = true then b env else ret p) st := rfl
@[simp ↓] theorem xor_ap (a b : XF) (env : Env) (st : S) : xor a b env st = (bnd (a env) fun p => bnd (lift (truth p.1)) fun t => if t = true then ret p else b env) st := rfl
@[simp ↓] theorem xcmp_ap (op : CmpOp) (a b : OF) (env : Env) (st : S) : xcmp op a b env st = (bnd (a env) fun p => bnd (b env) fun q => bnd (cmpM env op p q) fun t => ret (.bool t, false)) st := rfl
@[simp ↓] theorem xcmp2_ap (op op' : CmpOp) (a b c : OF) (env : Env) (st : S) : xcmp2 op op' a b c env st = (bnd (a env) fun p => bnd (b env) fun q => bnd (cmpM env op p q) fun t =>
  if t = true then bnd (c env) fun q' => bnd (cmpM env op' q q') fun t' => ret (.bool t', false) else ret (.bool false, false)) st := rfl
@[simp ↓] theorem xif_ap (t : TF) (a b : XF) (env : Env) (st : S) : xif t a b env st = (bnd (t env) fun k => if k = true then a env else b env) st := rfl
@[simp] theorem pn_ap (env : Env) (st : S) : pn env st = some (none, st) := rfl
@[simp ↓] theorem ps_ap (x : XF) (env : Env) (st : S) : ps x env st = (bnd (x env) fun p => (match p.1 with
  | .int i => ret (some i)
  | _ => fail)) st := rfl
@[simp ↓] theorem xcut_ap (a : OF) (lo hi : PF) (env : Env) (st : S) : xcut a lo hi env st = (bnd (a env) fun p => bnd (lo env) fun l => bnd (hi env) fun u => bnd (vw env p) fun d => lift (slice d l u)) st := rfl
@[simp ↓] theorem xrev_ap (a : OF) (env : Env) (st : S) : xrev a env st = (bnd (a env) fun p => bnd (vw env p) fun d => (match d with
  | .list xs => ret (.list xs.reverse, true)
  | .tuple xs => ret (.tuple xs.reverse, false)
  | _ => fail)) st := rfl
@[simp ↓] theorem xit_ap (a i : OF) (env : Env) (st : S) : xit a i env st = (bnd (a env) fun p => bnd (i env) fun q => bnd (vw env p) fun d => bnd (vw env q) fun k => bnd (lift (item d k)) fun r => ret (r, false)) st := rfl
@[simp ↓] theorem xtup_ap (es : List XF) (env : Env) (st : S) : xtup es env st = (bnd (argsS es env) fun ds => if ds.length ≤ line then ret (.tuple ds, false) else fail) st := rfl
@[simp ↓] theorem xlist_ap (es : List XF) (env : Env) (st : S) : xlist es env st = (bnd (argsS es env) fun ds => if ds.length ≤ line then ret (.list ds, true) else fail) st := rfl
@[simp] theorem xd0_ap (env : Env) (st : S) : xd0 env st = some ((.dict [], true), st) := rfl
@[simp ↓] theorem xbi_ap (f : Str) (es : List OF) (env : Env) (st : S) : xbi f es env st = (bnd (opsS es env) fun ps => bnd (views env ps) fun ds => lift (builtin f ds)) st := rfl
@[simp ↓] theorem xmeth_ap (o : OF) (m : Str) (es : List OF) (env : Env) (st : S) : xmeth o m es env st = (bnd (o env) fun p => bnd (vw env p) fun d0 => bnd (opsS es env) fun ps => bnd (vw env p) fun d => bnd (views env ps) fun ds =>
  if tyName d0 = tyName d then (match getF m d ds ps with | some r => ret (r, false) | none => lift (method m d ds)) else fail) st := rfl
@[simp] theorem getF_index (d : D) (ds : List D) (ps : List Op) : getF "index" d ds ps = none := rfl
@[simp] theorem getF_join (d : D) (ds : List D) (ps : List Op) : getF "join" d ds ps = none := rfl
@[simp] theorem getF_none (m : Str) (d q z : D) (ps : List Op) : getF m d [q] ps = none := by unfold getF; split <;> (try split) <;> simp_all
@[simp] theorem rkeys_ap (kvs : List (D × D)) (env : Env) (st : S) : rkeys kvs env st = some (⟨kvs.map (fun p : D × D => p.1), []⟩, st) := rfl
@[simp ↓] theorem xallw_ap (vs : List Nat) (tp : Bool) (js : List Nat) (j : Nat) (test : TF) (elt : XF) (env : Env) (st : S) : xallw vs tp js j test elt env st = (match env[j]? with
  | some (some (SV.own (PyData.dict kvs))) => (bnd (xlc vs tp js (rkeys kvs) test elt (env.set j (some (.frz (.dict kvs))))) fun p st => if st.isEmpty = true then lift (builtin "all" [p.1]) st else none) st
  | _ => none) := by
  unfold xallw
  cases env[j]? with
  | none => rfl
  | some o =>
    cases o with
    | none => rfl
    | some sv =>
      cases sv with
      | frz d => rfl
      | fn w => rfl
      | own d =>
        cases d with
        | dict kvs =>
          have e : xlc vs tp js (rkeys kvs) test elt (env.set j (some (.frz (.dict kvs)))) = bnd (compLoop ⟨kvs.map (fun p : D × D => p.1), []⟩ (wipeE (env.set j (some (.frz (.dict kvs)))) vs) (fun d => asg tp js d (wipeE (env.set j (some (.frz (.dict kvs)))) vs)) test elt (kvs.map (fun p : D × D => p.1)) []) (fun ds => ret (.list ds, true)) := rfl
          simp only [e]
          unfold bnd
          cases compLoop ⟨kvs.map (fun p : D × D => p.1), []⟩ (wipeE (env.set j (some (.frz (.dict kvs)))) vs) (fun d => asg tp js d (wipeE (env.set j (some (.frz (.dict kvs)))) vs)) test elt (kvs.map (fun p : D × D => p.1)) [] st with
          | none => rfl
          | some p => rfl
        | _ => rfl
@[simp ↓] theorem xtrv_ap (a : OF) (env : Env) (st : S) : xtrv a env st = (bnd (a env) fun p => bnd (vw env p) fun d => bnd (lift (revTupD d)) fun r => ret (r, false)) st := rfl
@[simp] theorem revTupD_t (xs : List D) : revTupD (.tuple xs) = some (.tuple xs.reverse) := rfl
@[simp ↓] theorem xlens_ap (a : OF) (env : Env) (st : S) : xlens a env st = (bnd (a env) fun p => bnd (vw env p) fun d => bnd (lift (lenSetD d)) fun r => ret (r, false)) st := rfl
@[simp ↓] theorem xcall_ap (call : CallF) (f : Str) (es : List XF) (env : Env) (st : S) : xcall call f es env st = (bnd (argsS es env) fun ds => call f ds) st := rfl
@[simp ↓] theorem xcallL_ap (funs : List (Str × FD)) (call : CallF) (j : Nat) (es : List XF) (env : Env) (st : S) : xcallL funs call j es env st = match env[j]? with
  | some (some (.fn g)) => (if (funs.lookup g).isSome = true ∧ isM g = false then (bnd (argsS es env) fun ds => call g ds) st else none)
  | _ => none := by
  unfold xcallL
  generalize env[j]? = z
  rcases z with _ | _ | _ | _ | g
  · rfl
  · rfl
  · rfl
  · rfl
  · cases h : funs.lookup g with
    | none => simp [h]
    | some fd => cases hm : isM g <;> simp [h, hm]
/-! ### instances -/
@[simp ↓] theorem xfld_ap (o : XF) (f : Str) (env : Env) (st : S) : xfld o f env st = (bnd (o env) fun p => fldM f p.1) st := rfl
@[simp ↓] theorem xmcall_ap (call : CallF) (o : XF) (m nm : Str) (es : List XF) (env : Env) (st : S) : xmcall call o m nm es env st = (bnd (o env) fun p => bnd (isInsM m p.1) fun _ => bnd (argsS es env) fun ds => call nm (p.1 :: ds)) st := rfl
@[simp ↓] theorem satt_ap (o : XF) (f : Str) (x : XF) (env : Env) (st : S) : satt o f x env st = (bnd (x env) fun p => bnd (heapD p) fun d => bnd (o env) fun q => bnd (setM f d q.1) fun _ => ret (.next env)) st := rfl
@[simp ↓] theorem srowA_ap (ts : List TgS) (x : XF) (env : Env) (st : S) : srowA ts x env st = (bnd (x env) fun p => (match p.1 with
  | .tuple ds => bnd (asgS ts ds env) fun env1 => ret (.next env1)
  | _ => fail)) st := rfl
@[simp] theorem asgS_nil (env : Env) (st : S) : asgS [] [] env st = some (env, st) := rfl
@[simp] theorem asgS_nm (j : Nat) (r : List TgS) (d : D) (ds : List D) (env : Env) (st : S) : asgS (.nm j :: r) (d :: ds) env st = asgS r ds (env.set j (some (.frz d))) st := rfl
@[simp ↓] theorem asgS_at (o : XF) (f : Str) (r : List TgS) (d : D) (ds : List D) (env : Env) (st : S) : asgS (.at_ o f :: r) (d :: ds) env st = (bnd (o env) fun q => bnd (setM f d q.1) fun _ => asgS r ds env) st := rfl
@[simp] theorem fldM_ref (f : Str) (i : Nat) (st : S) : fldM f (mkRef i) st = (match st[i]? with
    | some (.ins _ fs) => (match fs.lookup f with
      | some x => some ((x, false), st)
      | none => none)
    | _ => none) := by
  unfold fldM
  rw [refOf_mkRef]
  try rfl
@[simp] theorem isInsM_ref (f : Str) (i : Nat) (st : S) : isInsM f (mkRef i) st = (match st[i]? with
    | some (.ins _ fs) => if (fs.lookup f).isNone = true then some ((), st) else none
    | _ => none) := by
  unfold isInsM
  rw [refOf_mkRef]
  try rfl
@[simp] theorem setM_ref (f : Str) (x : D) (i : Nat) (st : S) : setM f x (mkRef i) st = (match st[i]? with
    | some (.ins c fs) => if fs.length < 1000 then some ((), st.set i (.ins c (putFD f x fs))) else none
    | _ => none) := by
  unfold setM
  rw [refOf_mkRef]
  try rfl
@[simp] theorem heapD_f (d : D) (st : S) : heapD (d, false) st = some (d, st) := rfl
@[simp] theorem heapD_t (xs : List D) (st : S) : heapD (.list xs, true) st = some (mkRef st.length, st ++ [.lst xs]) := rfl
def isTy : String → D → Bool
  | "bool", .bool _ => true
  | "int", .int _ => true
  | "int", .bool _ => true
  | "str", .str _ => true
  | "list", .list _ => true
  | "tuple", .tuple _ => true
  | "dict", .dict _ => true
  | _, _ => false
theorem isTy_eq (n : String) (h : n ∈ ["bool", "int", "str", "list", "tuple", "dict"]) (d : D) : (match (tyName d).bind fun t => isA t n with
  | some k => ret (PyData.bool k, false)
  | none => (fail : M (D × Bool))) = ret (.bool (isTy n d), false) := by
  simp only [List.mem_cons, List.not_mem_nil, or_false] at h
  rcases h with rfl | rfl | rfl | rfl | rfl | rfl <;> cases d <;> simp [tyName, isA, tyNames, isTy]
theorem xisa_ty {n : String} (h : n ∈ ["bool", "int", "str", "list", "tuple", "dict"]) (a : OF) (env : Env) (st : S) : xisa a n env st = (bnd (a env) fun p => bnd (vw env p) fun d => ret (.bool (isTy n d), false)) st := by
  unfold xisa
  rw [bnd_ap, bnd_ap]
  rcases a env st with _ | ⟨p, st1⟩
  · rfl
  simp only
  rw [bnd_ap, bnd_ap]
  rcases vw env p st1 with _ | ⟨d, st2⟩
  · rfl
  exact congrFun (isTy_eq n h d) st2
@[simp ↓] theorem xisa_bool (a : OF) (env : Env) (st : S) : xisa a "bool" env st = (bnd (a env) fun p => bnd (vw env p) fun d => ret (.bool (isTy "bool" d), false)) st := xisa_ty (n := "bool") (by simp) a env st
@[simp ↓] theorem xisa_int (a : OF) (env : Env) (st : S) : xisa a "int" env st = (bnd (a env) fun p => bnd (vw env p) fun d => ret (.bool (isTy "int" d), false)) st := xisa_ty (n := "int") (by simp) a env st
@[simp ↓] theorem xisa_str (a : OF) (env : Env) (st : S) : xisa a "str" env st = (bnd (a env) fun p => bnd (vw env p) fun d => ret (.bool (isTy "str" d), false)) st := xisa_ty (n := "str") (by simp) a env st
@[simp ↓] theorem xisa_list (a : OF) (env : Env) (st : S) : xisa a "list" env st = (bnd (a env) fun p => bnd (vw env p) fun d => ret (.bool (isTy "list" d), false)) st := xisa_ty (n := "list") (by simp) a env st
@[simp ↓] theorem xisa_tuple (a : OF) (env : Env) (st : S) : xisa a "tuple" env st = (bnd (a env) fun p => bnd (vw env p) fun d => ret (.bool (isTy "tuple" d), false)) st := xisa_ty (n := "tuple") (by simp) a env st
@[simp ↓] theorem xisa_dict (a : OF) (env : Env) (st : S) : xisa a "dict" env st = (bnd (a env) fun p => bnd (vw env p) fun d => ret (.bool (isTy "dict" d), false)) st := xisa_ty (n := "dict") (by simp) a env st
/-! isinstance, kind by kind -/
@[simp] theorem isTy_bool_bool (b : Bool) : isTy "bool" (.bool b) = true := rfl
@[simp] theorem isTy_int_bool (b : Bool) : isTy "int" (.bool b) = true := rfl
@[simp] theorem isTy_int_int (b : Int) : isTy "int" (.int b) = true := rfl
@[simp] theorem isTy_bool_int (b : Int) : isTy "bool" (.int b) = false := by simp [isTy]
@[simp] theorem isTy_str_str (b : Str) : isTy "str" (.str b) = true := rfl
@[simp] theorem isTy_list_list (b : List D) : isTy "list" (.list b) = true := rfl
@[simp] theorem isTy_tuple_tuple (b : List D) : isTy "tuple" (.tuple b) = true := rfl
@[simp] theorem isTy_dict_dict (b : List (D × D)) : isTy "dict" (.dict b) = true := rfl
@[simp] theorem isTy_str_bool (b : Bool) : isTy "str" (.bool b) = false := by simp [isTy]
@[simp] theorem isTy_list_bool (b : Bool) : isTy "list" (.bool b) = false := by simp [isTy]
@[simp] theorem isTy_tuple_bool (b : Bool) : isTy "tuple" (.bool b) = false := by simp [isTy]
@[simp] theorem isTy_dict_bool (b : Bool) : isTy "dict" (.bool b) = false := by simp [isTy]
@[simp] theorem isTy_str_int (b : Int) : isTy "str" (.int b) = false := by simp [isTy]
@[simp] theorem isTy_list_int (b : Int) : isTy "list" (.int b) = false := by simp [isTy]
@[simp] theorem isTy_tuple_int (b : Int) : isTy "tuple" (.int b) = false := by simp [isTy]
@[simp] theorem isTy_dict_int (b : Int) : isTy "dict" (.int b) = false := by simp [isTy]
@[simp] theorem isTy_bool_str (b : Str) : isTy "bool" (.str b) = false := by simp [isTy]
@[simp] theorem isTy_int_str (b : Str) : isTy "int" (.str b) = false := by simp [isTy]
@[simp] theorem isTy_list_str (b : Str) : isTy "list" (.str b) = false := by simp [isTy]
@[simp] theorem isTy_tuple_str (b : Str) : isTy "tuple" (.str b) = false := by simp [isTy]
@[simp] theorem isTy_dict_str (b : Str) : isTy "dict" (.str b) = false := by simp [isTy]
@[simp] theorem isTy_bool_list (b : List D) : isTy "bool" (.list b) = false := by simp [isTy]
@[simp] theorem isTy_int_list (b : List D) : isTy "int" (.list b) = false := by simp [isTy]
@[simp] theorem isTy_str_list (b : List D) : isTy "str" (.list b) = false := by simp [isTy]
@[simp] theorem isTy_tuple_list (b : List D) : isTy "tuple" (.list b) = false := by simp [isTy]
@[simp] theorem isTy_dict_list (b : List D) : isTy "dict" (.list b) = false := by simp [isTy]
@[simp] theorem isTy_bool_tuple (b : List D) : isTy "bool" (.tuple b) = false := by simp [isTy]
@[simp] theorem isTy_int_tuple (b : List D) : isTy "int" (.tuple b) = false := by simp [isTy]
@[simp] theorem isTy_str_tuple (b : List D) : isTy "str" (.tuple b) = false := by simp [isTy]
@[simp] theorem isTy_list_tuple (b : List D) : isTy "list" (.tuple b) = false := by simp [isTy]
@[simp] theorem isTy_dict_tuple (b : List D) : isTy "dict" (.tuple b) = false := by simp [isTy]
@[simp] theorem isTy_bool_dict (b : List (D × D)) : isTy "bool" (.dict b) = false := by simp [isTy]
@[simp] theorem isTy_int_dict (b : List (D × D)) : isTy "int" (.dict b) = false := by simp [isTy]
@[simp] theorem isTy_str_dict (b : List (D × D)) : isTy "str" (.dict b) = false := by simp [isTy]
@[simp] theorem isTy_list_dict (b : List (D × D)) : isTy "list" (.dict b) = false := by simp [isTy]
@[simp] theorem isTy_tuple_dict (b : List (D × D)) : isTy "tuple" (.dict b) = false := by simp [isTy]
@[simp] theorem isTy_none (n : String) : isTy n .none = false := by unfold isTy; split <;> simp_all
/-! ### operators -/
@[simp] theorem arithM_ap (env : Env) (op : Operator) (p q : Op) (st : S) : arithM env op p q st = match view env st p, view env st q with
  | some x, some y => if noScr st p && noScr st q then (match arith op x y with
    | some r => some (r, st)
    | none => none) else none
  | _, _ => none := rfl
@[simp] theorem cmpM_ap (env : Env) (op : CmpOp) (p q : Op) (st : S) : cmpM env op p q st = match view env st p, view env st q with
  | some x, some y => (match cmp op x y with
    | some b => some (b, st)
    | none => none)
  | _, _ => none := rfl
@[simp] theorem arith_add (a b : Int) : arith .Add (.int a) (.int b) = some (.int (a + b), false) := rfl
@[simp] theorem arith_sub (a b : Int) : arith .Sub (.int a) (.int b) = some (.int (a - b), false) := rfl
@[simp] theorem arith_mul (a b : Int) : arith .Mult (.int a) (.int b) = if mulOk a b then some (.int (a * b), false) else none := rfl
@[simp] theorem arith_rep (a : List D) (b : Int) : arith .Mult (.tuple a) (.int b) = if -1000 ≤ b ∧ b ≤ 1000 ∧ a.length ≤ 1000 then some (.tuple (List.replicate b.toNat a).flatten, false) else none := rfl
@[simp] theorem arith_repL (a : List D) (b : Int) : arith .Mult (.list a) (.int b) = if -1000 ≤ b ∧ b ≤ 1000 ∧ a.length ≤ 1000 then some (.list (List.replicate b.toNat a).flatten, true) else none := rfl
@[simp] theorem arith_mod (a b : Int) : arith .Mod (.int a) (.int b) = if 0 < b then some (.int (a % b), false) else none := rfl
@[simp] theorem arith_adds (a b : Str) : arith .Add (.str a) (.str b) = if a.length + b.length ≤ line then some (.str (a ++ b), false) else none := rfl
@[simp] theorem arith_addt (a b : List D) : arith .Add (.tuple a) (.tuple b) = if a.length + b.length ≤ line then some (.tuple (a ++ b), false) else none := rfl
@[simp] theorem arith_addl (a b : List D) : arith .Add (.list a) (.list b) = if a.length + b.length ≤ line then some (.list (a ++ b), true) else none := rfl
theorem ofString_inj {a b : String} (h : Str.ofString a = Str.ofString b) : a = b := by
  rw [Str.ofString_eq_toList, Str.ofString_eq_toList] at h
  injection h with h
  have h2 : a.toList.map Char.toNat = b.toList.map Char.toNat := congrArg Array.toList h
  have h3 : ∀ (xs ys : List Char), xs.map Char.toNat = ys.map Char.toNat → xs = ys := by
    intro xs
    induction xs with
    | nil => intro ys h; cases ys with | nil => rfl | cons y ys => cases h
    | cons x xs ih =>
      intro ys h
      cases ys with
      | nil => cases h
      | cons y ys =>
        injection h with h4 h5
        rw [ih ys h5]
        have : x = y := by
          apply Char.ext
          apply UInt32.toNat_inj.mp
          exact h4
        rw [this]
  exact String.toList_inj.mp (h3 _ _ h2)
@[simp] theorem ofString_beq (a b : String) : (Str.ofString a == Str.ofString b) = (a == b) := by
  by_cases h : a = b
  · subst h; simp
  · have h2 : Str.ofString a ≠ Str.ofString b := fun e => h (ofString_inj e)
    rw [beq_eq_false_iff_ne.mpr h2, beq_eq_false_iff_ne.mpr h]
@[simp] theorem ofString_eq_iff (a b : String) : (Str.ofString a = Str.ofString b) = (a = b) := propext ⟨ofString_inj, fun h => by rw [h]⟩
/-- may be compared, of that depth at most -/
def shp (n : Nat) (d : D) : Bool := d.canLay0 && decide (d.depth ≤ n)
@[simp] theorem shapedB_eq (d : D) : shapedB d = shp 64 d := rfl
@[simp] theorem shp_n (n : Nat) : shp n .none = true := by simp [shp, PyData.canLay0, PyData.depth]
@[simp] theorem shp_b (n : Nat) (b : Bool) : shp n (.bool b) = true := by simp [shp, PyData.canLay0, PyData.depth]
@[simp] theorem shp_i (n : Nat) (b : Int) : shp n (.int b) = true := by simp [shp, PyData.canLay0, PyData.depth]
@[simp] theorem shp_s (n : Nat) (b : Str) : shp n (.str b) = PyData.strOk b := by simp [shp, PyData.canLay0, PyData.depth]
@[simp] theorem shp_d (n : Nat) (b : List (D × D)) : shp n (.dict b) = false := by simp [shp, PyData.canLay0]
theorem shp_all (n : Nat) : ∀ xs : List D, (PyData.canLayAll0 xs && decide (PyData.depthAll xs ≤ n)) = xs.all (shp n)
  | [] => by simp [PyData.canLayAll0, PyData.depthAll]
  | x :: xs => by
    rw [List.all_cons, ← shp_all n xs]
    have e : ∀ a b : Nat, decide (max a b ≤ n) = (decide (a ≤ n) && decide (b ≤ n)) := fun a b => by rw [← Bool.decide_and]; exact decide_eq_decide.mpr Nat.max_le
    have e1 : PyData.canLayAll0 (x :: xs) = (x.canLay0 && PyData.canLayAll0 xs) := by simp only [PyData.canLayAll0]
    have e2 : PyData.depthAll (x :: xs) = max x.depth (PyData.depthAll xs) := by simp only [PyData.depthAll]
    unfold shp
    simp only [e1, e2, e]
    cases x.canLay0 <;> cases PyData.canLayAll0 xs <;> cases decide (x.depth ≤ n) <;> cases decide (PyData.depthAll xs ≤ n) <;> rfl
@[simp] theorem shp_t (n : Nat) (xs : List D) : shp (n + 1) (.tuple xs) = xs.all (shp n) := by
  rw [← shp_all]
  simp [shp, PyData.canLay0, PyData.depth]
@[simp] theorem shp_l (n : Nat) (xs : List D) : shp (n + 1) (.list xs) = xs.all (shp n) := by
  rw [← shp_all]
  simp [shp, PyData.canLay0, PyData.depth]
@[simp] theorem eqv_ii (a b : Int) : PyData.eqv (.int a) (.int b) = decide (a = b) := by simp only [PyData.eqv]; rfl
@[simp] theorem eqv_ss (a b : Str) : PyData.eqv (.str a) (.str b) = decide (a = b) := by simp only [PyData.eqv]; rfl
@[simp] theorem eqv_bb (a b : Bool) : PyData.eqv (.bool a) (.bool b) = decide (a = b) := by simp only [PyData.eqv]; rfl
@[simp] theorem eqv_tt (a b : List D) : PyData.eqv (.tuple a) (.tuple b) = PyData.eqvAll a b := by simp [PyData.eqv]
@[simp] theorem eqv_ll (a b : List D) : PyData.eqv (.list a) (.list b) = PyData.eqvAll a b := by simp [PyData.eqv]
@[simp] theorem eqvAll_nn : PyData.eqvAll [] [] = true := by simp [PyData.eqvAll]
@[simp] theorem eqvAll_nc (a : D) (b : List D) : PyData.eqvAll [] (a :: b) = false := by simp [PyData.eqvAll]
@[simp] theorem eqvAll_cn (a : D) (b : List D) : PyData.eqvAll (a :: b) [] = false := by simp [PyData.eqvAll]
@[simp] theorem eqvAll_cc (a c : D) (b d : List D) : PyData.eqvAll (a :: b) (c :: d) = (PyData.eqv a c && PyData.eqvAll b d) := by simp [PyData.eqvAll]
@[simp] theorem eqvAll_ln (xs : List D) : PyData.eqvAll xs [] = xs.isEmpty := by cases xs <;> simp
@[simp] theorem eqvAll_nl (xs : List D) : PyData.eqvAll [] xs = xs.isEmpty := by cases xs <;> simp
@[simp] theorem cmp_eq (x y : D) : cmp .Eq x y = if shapedB x && shapedB y then some (PyData.eqv x y) else none := by cases x <;> rfl
@[simp] theorem cmp_ne (x y : D) : cmp .NotEq x y = if shapedB x && shapedB y then some (!PyData.eqv x y) else none := by cases x <;> rfl
@[simp] theorem cmp_lt (a b : Int) : cmp .Lt (.int a) (.int b) = some (decide (a < b)) := rfl
@[simp] theorem cmp_le (a b : Int) : cmp .LtE (.int a) (.int b) = some (decide (a ≤ b)) := rfl
@[simp] theorem cmp_gt (a b : Int) : cmp .Gt (.int a) (.int b) = some (decide (b < a)) := rfl
@[simp] theorem cmp_ge (a b : Int) : cmp .GtE (.int a) (.int b) = some (decide (b ≤ a)) := rfl
def isNoneD : D → Bool
  | .none => true
  | _ => false
@[simp] theorem isNoneD_n : isNoneD .none = true := rfl
@[simp] theorem isNoneD_b (b : Bool) : isNoneD (.bool b) = false := rfl
@[simp] theorem isNoneD_i (b : Int) : isNoneD (.int b) = false := rfl
@[simp] theorem isNoneD_s (b : Str) : isNoneD (.str b) = false := rfl
@[simp] theorem isNoneD_l (b : List D) : isNoneD (.list b) = false := rfl
@[simp] theorem isNoneD_t (b : List D) : isNoneD (.tuple b) = false := rfl
@[simp] theorem isNoneD_d (b : List (D × D)) : isNoneD (.dict b) = false := rfl
@[simp] theorem cmp_isn (x : D) : cmp .Is x .none = some (isNoneD x) := by cases x <;> rfl
@[simp] theorem cmp_nisn (x : D) : cmp .IsNot x .none = some (!isNoneD x) := by cases x <;> rfl
@[simp] theorem cmp_int (x : D) (ys : List D) : cmp .In x (.tuple ys) = if shapedB x && shapedB (.list ys) then some (inAny x ys) else none := by cases x <;> rfl
@[simp] theorem cmp_inl (x : D) (ys : List D) : cmp .In x (.list ys) = if shapedB x && shapedB (.list ys) then some (inAny x ys) else none := by cases x <;> rfl
@[simp] theorem cmp_nint (x : D) (ys : List D) : cmp .NotIn x (.tuple ys) = if shapedB x && shapedB (.list ys) then some (!inAny x ys) else none := by cases x <;> rfl
@[simp] theorem cmp_ninl (x : D) (ys : List D) : cmp .NotIn x (.list ys) = if shapedB x && shapedB (.list ys) then some (!inAny x ys) else none := by cases x <;> rfl
@[simp] theorem truth_n : truth .none = some false := rfl
@[simp] theorem truth_b (b : Bool) : truth (.bool b) = some b := rfl
@[simp] theorem truth_i (b : Int) : truth (.int b) = some (b != 0) := rfl
@[simp] theorem truth_l (b : List D) : truth (.list b) = some (!b.isEmpty) := rfl
@[simp] theorem truth_t (b : List D) : truth (.tuple b) = some (!b.isEmpty) := rfl
@[simp] theorem item_t (xs : List D) (i : Int) : item (.tuple xs) (.int i) = L2.atI xs i := rfl
@[simp] theorem item_l (xs : List D) (i : Int) : item (.list xs) (.int i) = L2.atI xs i := rfl
@[simp] theorem slice_t (xs : List D) (lo hi : Option Int) : slice (.tuple xs) lo hi = some (.tuple (cut xs lo hi), false) := rfl
@[simp] theorem slice_l (xs : List D) (lo hi : Option Int) : slice (.list xs) lo hi = some (.list (cut xs lo hi), true) := rfl
@[simp] theorem cut_nil {α : Type} (lo hi : Option Int) : cut ([] : List α) lo hi = [] := by simp [cut]
@[simp] theorem cut_one {α : Type} (xs : List α) : cut xs (some 1) none = xs.tail := by
  unfold cut HT.sIx
  cases xs with
  | nil => rfl
  | cons x xs => simp
/-! ### built-in functions -/
@[simp] theorem bi_len (as : List D) : builtin "len" as = bLen as := by kernel_rfl
@[simp] theorem bi_abs (as : List D) : builtin "abs" as = bAbs as := by kernel_rfl
@[simp] theorem bi_min (as : List D) : builtin "min" as = bMin as := by kernel_rfl
@[simp] theorem bi_max (as : List D) : builtin "max" as = bMax as := by kernel_rfl
@[simp] theorem bi_int (as : List D) : builtin "int" as = bInt as := by kernel_rfl
@[simp] theorem bi_bool (as : List D) : builtin "bool" as = bBool as := by kernel_rfl
@[simp] theorem bi_all (as : List D) : builtin "all" as = bAll as := by kernel_rfl
@[simp] theorem bi_any (as : List D) : builtin "any" as = bAny as := by kernel_rfl
@[simp] theorem bi_tuple (as : List D) : builtin "tuple" as = bTuple as := by kernel_rfl
@[simp] theorem bi_list (as : List D) : builtin "list" as = bList as := by kernel_rfl
@[simp] theorem bi_repr (as : List D) : builtin "repr" as = bRepr as := by kernel_rfl
@[simp] theorem bi_sorted (as : List D) : builtin "sorted" as = bSorted as := by kernel_rfl
@[simp] theorem bLen_l (xs : List D) : bLen [.list xs] = some (.int xs.length, false) := rfl
@[simp] theorem bLen_t (xs : List D) : bLen [.tuple xs] = some (.int xs.length, false) := rfl
@[simp] theorem bInt_i (i : Int) : bInt [.int i] = some (.int i, false) := rfl
@[simp] theorem bInt_b (k : Bool) : bInt [.bool k] = some (.int (if k then 1 else 0), false) := rfl
@[simp] theorem bMin_i (i j : Int) : bMin [.int i, .int j] = some (.int (if j < i then j else i), false) := rfl
@[simp] theorem bMax_i (i j : Int) : bMax [.int i, .int j] = some (.int (if j > i then j else i), false) := rfl
@[simp] theorem bTuple_l (xs : List D) : bTuple [.list xs] = some (.tuple xs, false) := rfl
@[simp] theorem bTuple_t (xs : List D) : bTuple [.tuple xs] = some (.tuple xs, false) := rfl
@[simp] theorem bList_l (xs : List D) : bList [.list xs] = some (.list xs, true) := rfl
@[simp] theorem bList_t (xs : List D) : bList [.tuple xs] = some (.list xs, true) := rfl
theorem allBools_map {α : Type} (f : α → Bool) : ∀ xs : List α, allBools (xs.map fun a => .bool (f a)) = some (xs.map f)
  | [] => rfl
  | x :: xs => by
    show (allBools (xs.map fun a => .bool (f a))).map (f x :: ·) = _
    rw [allBools_map f xs]
    rfl
@[simp] theorem bAll_map {α : Type} (f : α → Bool) (xs : List α) : bAll [.list (xs.map fun a => .bool (f a))] = some (.bool (xs.all f), false) := by
  show (allBools (xs.map fun d => .bool (f d))).map (fun bs => (PyData.bool (bs.all id), false)) = _
  rw [allBools_map]
  simp [List.all_map, Function.comp_def]
@[simp] theorem bAny_map {α : Type} (f : α → Bool) (xs : List α) : bAny [.list (xs.map fun a => .bool (f a))] = some (.bool (xs.any f), false) := by
  show (allBools (xs.map fun d => .bool (f d))).map (fun bs => (PyData.bool (bs.any id), false)) = _
  rw [allBools_map]
  simp [List.any_map, Function.comp_def]
/-! ### methods -/
@[simp] theorem me_index (o : D) (as : List D) : method "index" o as = mIndex o as := by kernel_rfl
@[simp] theorem me_join (o : D) (as : List D) : method "join" o as = mJoin o as := by kernel_rfl
@[simp] theorem me_get (o : D) (as : List D) : method "get" o as = mGet o as := by kernel_rfl
@[simp] theorem mIndex_t (ys : List D) (x : D) : mIndex (.tuple ys) [x] = if shapedB x && shapedB (.list ys) then (indexOf x ys 0).map fun (j : Nat) => (PyData.int (j : Int), false) else none := rfl
@[simp] theorem mIndex_l (ys : List D) (x : D) : mIndex (.list ys) [x] = if shapedB x && shapedB (.list ys) then (indexOf x ys 0).map fun (j : Nat) => (PyData.int (j : Int), false) else none := rfl
@[simp] theorem indexOf_nil (x : D) (n : Nat) : indexOf x [] n = none := rfl
@[simp] theorem indexOf_cons (x y : D) (r : List D) (n : Nat) : indexOf x (y :: r) n = if PyData.eqv y x then some n else indexOf x r (n + 1) := rfl
/-! ### tests -/
@[simp] theorem tyes_ap (env : Env) (st : S) : tyes env st = some (true, st) := rfl
@[simp ↓] theorem tnot_ap (a : TF) (env : Env) (st : S) : tnot a env st = (bnd (a env) fun b => ret (!b)) st := rfl
@[simp ↓] theorem tand_ap (a b : TF) (env : Env) (st : S) : tand a b env st = (bnd (a env) fun t => if t = true then b env else ret false) st := rfl
@[simp ↓] theorem tor_ap (a b : TF) (env : Env) (st : S) : tor a b env st = (bnd (a env) fun t => if t = true then ret true else b env) st := rfl
@[simp ↓] theorem tcmp_ap (op : CmpOp) (a b : OF) (env : Env) (st : S) : tcmp op a b env st = (bnd (a env) fun p => bnd (b env) fun q => cmpM env op p q) st := rfl
@[simp ↓] theorem tcmp2_ap (op op' : CmpOp) (a b c : OF) (env : Env) (st : S) : tcmp2 op op' a b c env st = (bnd (a env) fun p => bnd (b env) fun q => bnd (cmpM env op p q) fun t =>
  if t = true then bnd (c env) fun q' => cmpM env op' q q' else ret false) st := rfl
@[simp ↓] theorem tif_ap (t a b : TF) (env : Env) (st : S) : tif t a b env st = (bnd (t env) fun k => if k = true then a env else b env) st := rfl
@[simp ↓] theorem tv_ap (o : OF) (env : Env) (st : S) : tv o env st = (bnd (o env) fun p => bnd (vw env p) fun d => lift (truth d)) st := rfl
/-! ### statements -/
def contS (r : List SF) (o : Option (Fl × S)) : Option (Fl × S) := match o with
  | some (.next env1, st1) => blkS r env1 st1
  | some (.ret d fl, st1) => some (.ret d fl, st1)
  | some (.brk env1, st1) => some (.brk env1, st1)
  | some (.cont env1, st1) => some (.cont env1, st1)
  | none => none
@[simp] theorem blkS_nil (env : Env) (st : S) : blkS [] env st = some (.next env, st) := rfl
@[simp ↓] theorem blkS_cons (s : SF) (r : List SF) (env : Env) (st : S) : blkS (s :: r) env st = contS r (s env st) := by
  unfold contS
  show bnd (s env) _ st = _
  rw [bnd_ap]
  rcases s env st with _ | ⟨_ | _ | _ | _, _⟩ <;> rfl
@[simp ↓] theorem contS_next (r : List SF) (env : Env) (st : S) : contS r (some (.next env, st)) = blkS r env st := rfl
@[simp ↓] theorem contS_ret (r : List SF) (d : D) (fl : Bool) (st : S) : contS r (some (.ret d fl, st)) = some (.ret d fl, st) := rfl
@[simp ↓] theorem contS_brk (r : List SF) (env : Env) (st : S) : contS r (some (.brk env, st)) = some (.brk env, st) := rfl
@[simp ↓] theorem contS_cont (r : List SF) (env : Env) (st : S) : contS r (some (.cont env, st)) = some (.cont env, st) := rfl
@[simp ↓] theorem contS_none (r : List SF) : contS r none = none := rfl
@[simp] theorem contS_ite (r : List SF) (p : Prop) [Decidable p] (a b : Option (Fl × S)) : contS r (if p then a else b) = if p then contS r a else contS r b := by split <;> rfl
def finB (o : Option (Fl × S)) : Option ((D × Bool) × S) := match o with
  | some (.ret d fl, st) => some ((d, fl), st)
  | some (.next _, st) => some ((.none, false), st)
  | _ => none
@[simp] theorem finB_ret (d : D) (fl : Bool) (st : S) : finB (some (.ret d fl, st)) = some ((d, fl), st) := rfl
@[simp] theorem finB_next (env : Env) (st : S) : finB (some (.next env, st)) = some ((.none, false), st) := rfl
@[simp] theorem finB_none : finB none = none := rfl
@[simp] theorem finB_ite (p : Prop) [Decidable p] (a b : Option (Fl × S)) : finB (if p then a else b) = if p then finB a else finB b := by split <;> rfl
theorem runB_ap (b : SF) (n : Nat) (ds : List D) (st : S) : runB b n ds st = finB (b (ds.map (fun d => some (.frz d)) ++ List.replicate (n - ds.length) none) st) := by
  unfold runB
  rw [bnd_ap]
  generalize b _ st = z
  rcases z with _ | ⟨_ | _ | _ | _, _⟩ <;> rfl
@[simp] theorem spass_ap (env : Env) (st : S) : spass env st = some (.next env, st) := rfl
@[simp] theorem sbrk_ap (env : Env) (st : S) : sbrk env st = some (.brk env, st) := rfl
@[simp] theorem scont_ap (env : Env) (st : S) : scont env st = some (.cont env, st) := rfl
@[simp] theorem sret0_ap (env : Env) (st : S) : sret0 env st = some (.ret .none false, st) := rfl
@[simp ↓] theorem sret_ap (x : XF) (env : Env) (st : S) : sret x env st = (bnd (x env) fun p => ret (.ret p.1 p.2)) st := rfl
@[simp ↓] theorem sretv_ap (j : Nat) (env : Env) (st : S) : sretv j env st = match env[j]? with
  | some (some (.own d)) => some (.ret d true, st)
  | some (some (.frz d)) => some (.ret d false, st)
  | _ => none := by
  unfold sretv xv
  generalize env[j]? = z
  rcases z with _ | _ | _ | _ <;> rfl
@[simp ↓] theorem sif_ap (t : TF) (a b : List SF) (env : Env) (st : S) : sif t a b env st = (bnd (t env) fun k => if k = true then blkS a env else blkS b env) st := rfl
@[simp ↓] theorem sset_ap (j : Nat) (o h : Bool) (x : XF) (env : Env) (st : S) : sset j o h x env st = (bnd (x env) fun p => bnd (sto j o h p env) fun env1 => ret (.next env1)) st := rfl
@[simp] theorem sto_ff (j : Nat) (p : D × Bool) (env : Env) (st : S) : sto j false false p env st = some (env.set j (fz p.1), st) := by simp [sto]
@[simp] theorem sto_f (j : Nat) (o h : Bool) (d : D) (env : Env) (st : S) : sto j o h (d, false) env st = some (env.set j (fz d), st) := by simp [sto]
@[simp] theorem sto_o (j : Nat) (h : Bool) (d : D) (env : Env) (st : S) : sto j true h (d, true) env st = some (env.set j (ow d), st) := by simp [sto]
@[simp] theorem sto_h (j : Nat) (xs : List D) (env : Env) (st : S) : sto j false true (.list xs, true) env st = some (env.set j (fz (mkRef st.length)), st ++ [.lst xs]) := by simp [sto]
@[simp ↓] theorem srow_ap (js : List Nat) (x : XF) (env : Env) (st : S) : srow js x env st = (bnd (x env) fun p => (match asg true js p.1 env with
  | some env1 => ret (.next env1)
  | none => fail)) st := rfl
@[simp ↓] theorem srowt_ap (js : List Nat) (es : List XF) (env : Env) (st : S) : srowt js es env st = (bnd (argsS es env) fun ds => (match setE env js ds with
  | some env1 => ret (.next env1)
  | none => fail)) st := rfl
@[simp ↓] theorem sex_ap (x : XF) (env : Env) (st : S) : sex x env st = (bnd (x env) fun _ => ret (.next env)) st := rfl
@[simp ↓] theorem ssub_ap (o : OF) (i x : XF) (env : Env) (st : S) : ssub o i x env st = (bnd (x env) fun q => bnd (o env) fun p => bnd (i env) fun k => bnd (vw env p) fun d => (match d, k.1 with
  | .list xs, .int n => (match L2.ixN xs.length n with
    | some j => bnd (putOp env p (xs.set j q.1)) fun env1 => ret (.next env1)
    | none => fail)
  | .dict kvs, n => (match keyOf n with
    | some j => if kvs.length < line then bnd (putD env p (dput kvs n j q.1)) fun env1 => ret (.next env1) else fail
    | none => fail)
  | _, _ => fail)) st := rfl
@[simp] theorem putOp_o (env : Env) (j : Nat) (new : List D) (st : S) : putOp env (.o j) new st = some (env.set j (ow (.list new)), st) := rfl
@[simp] theorem putD_o (env : Env) (j : Nat) (new : List (D × D)) (st : S) : putD env (.o j) new st = some (env.set j (ow (.dict new)), st) := rfl
@[simp ↓] theorem smut_ap (u : UF) (env : Env) (st : S) : smut u env st = (bnd (u env) fun p => ret (.next p.2)) st := rfl
@[simp ↓] theorem ssetm_ap (j : Nat) (u : UF) (env : Env) (st : S) : ssetm j u env st = (bnd (u env) fun p => ret (.next (p.2.set j (some (.frz p.1))))) st := rfl
@[simp ↓] theorem uapp_ap (o : OF) (x : XF) (env : Env) (st : S) : uapp o x env st = (bnd (o env) fun p => bnd (vw env p) fun d0 => (match d0 with
  | .list _ => bnd (x env) fun q => bnd (vw env p) fun d => (match d with
    | .list xs => if xs.length < line then bnd (putOp env p (xs ++ [q.1])) fun env1 => ret (.none, env1) else fail
    | _ => fail)
  | .dict _ => fail
  | _ => fail)) st := rfl
@[simp ↓] theorem uins_ap (o : OF) (x y : XF) (env : Env) (st : S) : uins o x y env st = (bnd (o env) fun p => bnd (vw env p) fun d0 => (match d0 with
  | .list _ => bnd (x env) fun q1 => bnd (y env) fun q => bnd (vw env p) fun d => (match d, q1.1 with
    | .list xs, .int i => if xs.length < line ∧ 0 ≤ i ∧ i ≤ xs.length then bnd (putOp env p (xs.take i.toNat ++ [q.1] ++ xs.drop i.toNat)) fun env1 => ret (.none, env1) else fail
    | _, _ => fail)
  | _ => fail)) st := rfl
@[simp ↓] theorem uupd_ap (o a : OF) (env : Env) (st : S) : uupd o a env st = (bnd (o env) fun p => bnd (vw env p) fun d0 => (match d0 with
  | .list _ => fail
  | .dict _ => bnd (a env) fun q => bnd (vw env p) fun d => bnd (vw env q) fun e => (match d, e with
    | .dict xs, .dict ys => if (frzOp q && decide (xs.length + ys.length ≤ line)) = true then bnd (putD env p (dmerge xs ys)) fun env1 => ret (.none, env1) else fail
    | _, _ => fail)
  | _ => fail)) st := rfl
@[simp] theorem frzOp_v (d : D) : frzOp (.v d) = (refOf? d).isNone := rfl
@[simp] theorem frzOp_o (j : Nat) : frzOp (.o j) = false := rfl
@[simp ↓] theorem upop_ap (o : OF) (x : XF) (env : Env) (st : S) : upop o x env st = (bnd (o env) fun p => bnd (vw env p) fun d0 => (match d0 with
  | .list _ => bnd (x env) fun q => bnd (vw env p) fun d => (match d, q.1 with
    | .list xs, .int i => if xs.length ≤ line then (match L2.ixN xs.length i with
      | some k => (match xs[k]? with
        | some y => bnd (putOp env p (xs.eraseIdx k)) fun env1 => ret (y, env1)
        | none => fail)
      | none => fail) else fail
    | _, _ => fail)
  | .dict _ => fail
  | _ => fail)) st := rfl
@[simp ↓] theorem urem_ap (o : OF) (x : XF) (env : Env) (st : S) : urem o x env st = (bnd (o env) fun p => bnd (vw env p) fun d0 => (match d0 with
  | .list _ => bnd (x env) fun q => bnd (vw env p) fun d => (match d with
    | .list xs => if (xs.length ≤ line && shapedB q.1 && shapedB (.list xs)) = true then (match indexOf q.1 xs 0 with
      | some k => bnd (putOp env p (xs.eraseIdx k)) fun env1 => ret (.none, env1)
      | none => fail) else fail
    | _ => fail)
  | .dict _ => fail
  | _ => fail)) st := rfl
@[simp ↓] theorem uext_ap (o a : OF) (env : Env) (st : S) : uext o a env st = (bnd (o env) fun p => bnd (vw env p) fun d0 => (match d0 with
  | .list _ => bnd (a env) fun q => bnd (vw env p) fun d => bnd (vw env q) fun e => (match d, e with
    | .list xs, .list ys => fun st => if noScr st q = true ∧ xs.length + ys.length ≤ line then bnd (putOp env p (xs ++ ys)) (fun env1 => ret (.none, env1)) st else none
    | .list xs, .tuple ys => fun st => if noScr st q = true ∧ xs.length + ys.length ≤ line then bnd (putOp env p (xs ++ ys)) (fun env1 => ret (.none, env1)) st else none
    | _, _ => fail)
  | .dict _ => fail
  | _ => fail)) st := rfl
@[simp] theorem putOp_r (env : Env) (i : Nat) (new : List D) (st : S) : putOp env (.v (mkRef i)) new st = match st[i]? with
  | some (.lst _) => some (env, st.set i (.lst new))
  | _ => none := rfl
theorem ixN_nat {n i : Nat} (h : i < n) : L2.ixN n (i : Int) = some i := by
  unfold L2.ixN
  rw [if_pos (by omega), if_pos (by omega)]
  simp
theorem atI_nat {α : Type} {xs : List α} {i : Nat} (h : i < xs.length) : L2.atI xs (i : Int) = some xs[i] := by
  unfold L2.atI
  rw [ixN_nat h]
  exact List.getElem?_eq_getElem h
@[simp] theorem atI_0 {α : Type} (x : α) (xs : List α) : L2.atI (x :: xs) 0 = some x := by
  have := atI_nat (xs := x :: xs) (i := 0) (by simp)
  simpa using this
@[simp] theorem atI_1 {α : Type} (x y : α) (xs : List α) : L2.atI (x :: y :: xs) 1 = some y := by
  have := atI_nat (xs := x :: y :: xs) (i := 1) (by simp)
  simpa using this
@[simp] theorem atI_2 {α : Type} (x y z : α) (xs : List α) : L2.atI (x :: y :: z :: xs) 2 = some z := by
  have := atI_nat (xs := x :: y :: z :: xs) (i := 2) (by simp)
  simpa using this
@[simp] theorem asg_f (j : Nat) (d : D) (env : Env) : asg false [j] d env = some (env.set j (fz d)) := rfl
@[simp] theorem asg_t (js : List Nat) (ds : List D) (env : Env) : asg true js (.tuple ds) env = setE env js ds := rfl
@[simp] theorem setE_nil (env : Env) : setE env [] [] = some env := rfl
@[simp] theorem setE_cons (env : Env) (j : Nat) (js : List Nat) (d : D) (ds : List D) : setE env (j :: js) (d :: ds) = setE (env.set j (fz d)) js ds := rfl
@[simp] theorem wipeE_nil (env : Env) : wipeE env [] = env := rfl
@[simp] theorem wipeE_cons (env : Env) (j : Nat) (r : List Nat) : wipeE env (j :: r) = (wipeE env r).set j none := rfl
@[simp ↓] theorem sfor_ap (tp : Bool) (js : List Nat) (src : RF) (b : List SF) (env : Env) (st : S) : sfor tp js src b env st = (bnd (src env) fun s => forLoop ⟨s.items, freezeD s.deps⟩ (asg tp js) (blkS b) s.items (freezeE env s.deps)) st := rfl
@[simp ↓] theorem sford_ap (tp : Bool) (js : List Nat) (j : Nat) (b : List SF) (env : Env) (st : S) : sford tp js j b env st = (match env[j]? with
  | some (some (SV.own (PyData.dict kvs))) => forLoop ⟨kvs.map (fun p : D × D => p.1), []⟩ (asg tp js) (blkS b) (kvs.map (fun p : D × D => p.1)) (env.set j (some (.frz (.dict kvs))))
  | _ => fail) st := rfl
/-! ### sources -/
@[simp ↓] theorem rr1_ap (a : XF) (env : Env) (st : S) : rr1 a env st = (bnd (a env) fun p => (match p.1 with
  | .int n => if small n then ret ⟨(List.range n.toNat).map fun (i : Nat) => PyData.int (0 + (i : Int)), []⟩ else fail
  | _ => fail)) st := rfl
@[simp ↓] theorem rr2_ap (a b : XF) (env : Env) (st : S) : rr2 a b env st = (bnd (a env) fun p => bnd (b env) fun q => (match p.1, q.1 with
  | .int i, .int j => if small i && small j then ret ⟨(List.range (j - i).toNat).map fun (k : Nat) => PyData.int (i + (k : Int)), []⟩ else fail
  | _, _ => fail)) st := rfl
@[simp ↓] theorem ren_ap (a : OF) (env : Env) (st : S) : ren a env st = (bnd (a env) fun p => bnd (vw env p) fun d => (match d with
  | .list xs => ret ⟨enumD xs, [(p, d)]⟩
  | .tuple xs => ret ⟨enumD xs, [(p, d)]⟩
  | _ => fail)) st := rfl
@[simp ↓] theorem rzip_ap (a b : OF) (env : Env) (st : S) : rzip a b env st = (bnd (a env) fun p => bnd (b env) fun q => bnd (vw env p) fun d => bnd (vw env q) fun e => (match d, e with
  | .list xs, .list ys => ret ⟨zipD xs ys, [(p, d), (q, e)]⟩
  | .tuple xs, .tuple ys => ret ⟨zipD xs ys, [(p, d), (q, e)]⟩
  | _, _ => fail)) st := rfl
@[simp ↓] theorem rpl_ap (a : OF) (env : Env) (st : S) : rpl a env st = (bnd (a env) fun p => bnd (vw env p) fun d => (match d with
  | .list xs => ret ⟨xs, [(p, d)]⟩
  | .tuple xs => ret ⟨xs, [(p, d)]⟩
  | .str z => ret ⟨signsD z, [(p, d)]⟩
  | _ => fail)) st := rfl
@[simp] theorem same_self (d : D) : same d d = true := same_refl d
@[simp] theorem ok_nil (items : List D) (env : Env) (st : S) : Src.ok ⟨items, []⟩ env st = true := rfl
@[simp] theorem ok_cons (items : List D) (p : Op) (d : D) (r : List (Op × D)) (env : Env) (st : S) : Src.ok ⟨items, (p, d) :: r⟩ env st = ((match view env st p with
  | some e => same e d
  | none => false) && Src.ok ⟨items, r⟩ env st) := rfl
@[simp] theorem freezeD_nil : freezeD [] = [] := rfl
@[simp] theorem freezeD_v (e d : D) (r : List (Op × D)) : freezeD ((.v e, d) :: r) = (.v e, d) :: freezeD r := rfl
@[simp] theorem freezeD_o (j : Nat) (d : D) (r : List (Op × D)) : freezeD ((.o j, d) :: r) = (.v d, d) :: freezeD r := rfl
@[simp] theorem freezeE_nil (env : Env) : freezeE env [] = env := rfl
@[simp] theorem freezeE_v (env : Env) (e d : D) (r : List (Op × D)) : freezeE env ((.v e, d) :: r) = freezeE env r := rfl
@[simp] theorem freezeE_o (env : Env) (j : Nat) (d : D) (r : List (Op × D)) : freezeE env ((.o j, d) :: r) = freezeE (env.set j (fz d)) r := rfl
@[simp] theorem le_line {n : Nat} (h : n ≤ 16777216) : n ≤ line := h
@[simp] theorem lt_line {n : Nat} (h : n < 16777216) : n < line := h
/-- short enough -/
def fitL {α : Type} (xs : List α) : Prop := xs.length ≤ line
theorem fit_of {α : Type} {xs : List α} (h : xs.length ≤ line) : fitL xs := h
@[simp] theorem fit_nil {α : Type} : fitL ([] : List α) := Nat.zero_le _
@[simp] theorem fit_cons {α : Type} (x : α) (xs : List α) : fitL (x :: xs) = (xs.length + 1 ≤ line) := rfl
@[simp] theorem fit_map {α β : Type} (f : α → β) (xs : List α) : fitL (xs.map f) = fitL xs := by unfold fitL; rw [List.length_map]
@[simp] theorem fit_tail {α : Type} {xs : List α} (h : fitL xs) : fitL xs.tail := by unfold fitL at *; rw [List.length_tail]; omega
@[simp] theorem fit_zip {α β : Type} {xs : List α} {ys : List β} (h : fitL xs) : fitL (xs.zip ys) := by unfold fitL at *; rw [List.length_zip]; omega
@[simp] theorem fit_zipD {xs ys : List D} (h : fitL xs) : fitL (zipD xs ys) := by unfold zipD; rw [fit_map]; exact fit_zip h
@[simp] theorem zipD_map {α β : Type} (f : α → D) (g : β → D) (xs : List α) (ys : List β) : zipD (xs.map f) (ys.map g) = (xs.zip ys).map fun p => .tuple [f p.1, g p.2] := by
  unfold zipD
  rw [List.zip_map, List.map_map]
  rfl
@[simp] theorem inAny_map {α : Type} (x : D) (f : α → D) (xs : List α) : inAny x (xs.map f) = xs.any fun a => PyData.eqv (f a) x := by
  unfold inAny
  rw [List.any_map]
  rfl
@[simp] theorem enumD_map {α : Type} (f : α → D) (xs : List α) : enumD (xs.map f) = xs.zipIdx.map fun p => .tuple [.int p.2, f p.1] := by
  unfold enumD
  rw [List.zipIdx_map, List.map_map]
  rfl
@[simp] theorem fit_zipIdx {α : Type} (xs : List α) : fitL (xs.zipIdx) = fitL xs := by unfold fitL; rw [List.length_zipIdx]
@[simp] theorem fit_filter {α : Type} {p : α → Bool} {xs : List α} (h : fitL xs) : fitL (xs.filter p) := Nat.le_trans (List.length_filter_le _ _) h
@[simp] theorem fit_range {n : Nat} (h : n ≤ line) : fitL (List.range n) := by unfold fitL; rw [List.length_range]; exact h
@[simp] theorem fit_reverse {α : Type} (xs : List α) : fitL xs.reverse = fitL xs := by unfold fitL; rw [List.length_reverse]
@[simp] theorem fit_cut {α : Type} {xs : List α} {lo hi : Option Int} (h : fitL xs) : fitL (cut xs lo hi) := Nat.le_trans (cut_len _ _ _) h
/-! ### dicts -/
@[simp] theorem keyOf_i (i : Int) : keyOf (.int i) = some (.inl i) := rfl
@[simp] theorem keyOf_s (x : Str) : keyOf (.str x) = some (.inr x) := rfl
@[simp] theorem dval_nil (k : L2.Key) : dval [] k = none := rfl
@[simp] theorem dval_cons (q v : D) (r : List (D × D)) (k : L2.Key) : dval ((q, v) :: r) k = if keyOf q = some k then some v else dval r k := by
  unfold dval
  by_cases h : keyOf q = some k <;> simp [h]
@[simp] theorem dput_nil (q : D) (k : L2.Key) (v : D) : dput [] q k v = [(q, v)] := rfl
@[simp] theorem dput_cons (a b : D) (r : List (D × D)) (q : D) (k : L2.Key) (v : D) : dput ((a, b) :: r) q k v = if keyOf a = some k then (a, v) :: r.map (fun p => if keyOf p.1 = some k then (p.1, v) else p) else (a, b) :: dput r q k v := by
  unfold dput
  by_cases h : keyOf a = some k
  · simp [h]
  · by_cases h2 : (r.any fun p => decide (keyOf p.1 = some k)) = true
    · rw [if_neg h, if_pos h2, if_pos (by rw [List.any_cons, h2, Bool.or_true]), List.map_cons, if_neg h]
    · rw [if_neg h, if_neg h2, if_neg (by rw [List.any_cons]; simpa [h] using h2)]
      rfl
@[simp] theorem dmerge_nil (kvs : List (D × D)) : dmerge kvs [] = kvs := rfl
@[simp] theorem dmerge_cons (kvs : List (D × D)) (q v : D) (r : List (D × D)) : dmerge kvs ((q, v) :: r) = match keyOf q with
  | some k => dmerge (dput kvs q k v) r
  | none => dmerge kvs r := by
  unfold dmerge
  rw [List.foldl_cons]
  cases keyOf q <;> rfl
@[simp] theorem pairsS_nil (env : Env) (st : S) : pairsS [] env st = some ([], st) := rfl
@[simp ↓] theorem pairsS_cons (k v : XF) (r : List (XF × XF)) (env : Env) (st : S) : pairsS ((k, v) :: r) env st = (bnd (k env) fun p => bnd (v env) fun q => if (keyOf p.1).isSome = true then bnd (pairsS r env) fun r => ret ((p.1, q.1) :: r) else fail) st := rfl
@[simp] theorem pairsH_nil (env : Env) (st : S) : pairsH [] env st = some ([], st) := rfl
@[simp ↓] theorem pairsH_cons (k v : XF) (r : List (XF × XF)) (env : Env) (st : S) : pairsH ((k, v) :: r) env st = (bnd (k env) fun p => bnd (v env) fun q => if (keyOf p.1).isSome = true then bnd (hpS q) fun d => bnd (pairsH r env) fun r => ret ((p.1, d) :: r) else fail) st := rfl
@[simp] theorem hpS_f (d : D) (st : S) : hpS (d, false) st = some (d, st) := rfl
@[simp] theorem hpS_t (xs : List D) (st : S) : hpS (.list xs, true) st = some (mkRef st.length, st ++ [.lst xs]) := rfl
@[simp ↓] theorem xdictH_ap (kvs : List (XF × XF)) (env : Env) (st : S) : xdictH kvs env st = (bnd (pairsH kvs env) fun kvs => ret (.dict (dmerge [] kvs), true)) st := rfl
@[simp ↓] theorem xtrg_ap (a : XF) (env : Env) (st : S) : xtrg a env st = (bnd (a env) fun p => (match p.1 with
  | .int n => if 0 ≤ n ∧ n ≤ 1000000 then ret (.tuple ((List.range n.toNat).map fun (i : Nat) => PyData.int (i : Int)), false) else fail
  | _ => fail)) st := rfl
@[simp ↓] theorem xdict_ap (kvs : List (XF × XF)) (env : Env) (st : S) : xdict kvs env st = (bnd (pairsS kvs env) fun kvs => ret (.dict (dmerge [] kvs), true)) st := rfl
@[simp] theorem cmp_ind (x : D) (kvs : List (D × D)) : cmp .In x (.dict kvs) = (keyOf x).map fun k => (dval kvs k).isSome := by cases x <;> rfl
@[simp] theorem cmp_nind (x : D) (kvs : List (D × D)) : cmp .NotIn x (.dict kvs) = (keyOf x).map fun k => !(dval kvs k).isSome := by cases x <;> rfl
@[simp] theorem item_d (kvs : List (D × D)) (q : D) : item (.dict kvs) q = (keyOf q).bind fun k => dval kvs k := rfl
/-! ### comprehensions that leave the state -/
open Classical in
/-- the value, if the state stays -/
noncomputable def stays {α : Type} (r : Option (α × S)) (st : S) : Option α := match r with
  | some (a, st1) => if st1 = st then some a else none
  | none => none
@[simp] theorem stays_some {α : Type} (a : α) (st : S) : stays (some (a, st)) st = some a := by simp [stays]
@[simp] theorem stays_none {α : Type} (st : S) : stays (none : Option (α × S)) st = none := rfl
theorem stays_eq {α : Type} {r : Option (α × S)} {st : S} {a : α} (h : stays r st = some a) : r = some (a, st) := by
  unfold stays at h
  split at h
  · split at h
    · injection h with h; subst h; rename_i e; subst e; rfl
    · cases h
  · cases h
/-- one item: left out, or its value -/
noncomputable def lcB (asgn : D → Option Env) (test : TF) (elt : XF) (st : S) (d : D) : Option (Option D) := match asgn d with
  | some env1 => (match stays (test env1 st) st with
    | some b => if b = true then (match stays (elt env1 st) st with
      | some p => some (some p.1)
      | none => none) else some none
    | none => none)
  | none => none
def mapO {α : Type} (f : α → Option (Option D)) : List α → Option (List D)
  | [] => some []
  | a :: r => (match f a with
    | some (some d) => (match mapO f r with
      | some ds => some (d :: ds)
      | none => none)
    | some none => mapO f r
    | none => none)
theorem mapO_congr {α : Type} {f g : α → Option (Option D)} : ∀ {xs ys : List α}, xs = ys → (∀ a, a ∈ ys → f a = g a) → mapO f xs = mapO g ys
  | xs, [], e, h => by subst e; rfl
  | xs, a :: r, e, h => by
    subst e
    unfold mapO
    rw [h a List.mem_cons_self, mapO_congr (rfl : r = r) (fun b hb => h b (List.mem_cons_of_mem _ hb))]
@[simp] theorem mapO_nil {α : Type} (f : α → Option (Option D)) : mapO f [] = some [] := rfl
@[simp] theorem mapO_cons {α : Type} (f : α → Option (Option D)) (a : α) (r : List α) : mapO f (a :: r) = match f a with
  | some (some d) => (match mapO f r with
    | some ds => some (d :: ds)
    | none => none)
  | some none => mapO f r
  | none => none := rfl
@[simp] theorem mapO_map {α β : Type} (g : β → α) (f : α → Option (Option D)) : ∀ xs : List β, mapO f (xs.map g) = mapO (fun b => f (g b)) xs
  | [] => rfl
  | b :: r => by
    rw [List.map_cons]
    unfold mapO
    rw [mapO_map g f r]
@[simp] theorem mapO_some {α : Type} (h : α → D) : ∀ xs : List α, mapO (fun a => some (some (h a))) xs = some (xs.map h)
  | [] => rfl
  | a :: r => by
    unfold mapO
    rw [mapO_some h r]
    rfl
@[simp] theorem mapO_if {α : Type} (p : α → Prop) [DecidablePred p] (h : α → D) : ∀ xs : List α, mapO (fun a => if p a then some (some (h a)) else some none) xs = some ((xs.filter fun a => decide (p a)).map h)
  | [] => rfl
  | a :: r => by
    unfold mapO
    rw [mapO_if p h r]
    by_cases hp : p a <;> simp [hp]
theorem mapO_comp {s : Src} {env : Env} {asgn : D → Option Env} {test : TF} {elt : XF} {st : S} (hok : s.ok env st = true) : ∀ (xs acc ds : List D), mapO (lcB asgn test elt st) xs = some ds → acc.length + xs.length ≤ line →
    compLoop s env asgn test elt xs acc st = some (acc ++ ds, st)
  | [], acc, ds, h, _ => by
    cases h
    unfold compLoop
    rw [if_pos hok, List.append_nil]
  | d :: r, acc, ds, h, hl => by
    rw [List.length_cons] at hl
    unfold mapO at h
    unfold compLoop
    rw [if_pos hok]
    unfold lcB at h
    cases h1 : asgn d with
    | none => rw [h1] at h; cases h
    | some env1 =>
      rw [h1] at h
      simp only at h ⊢
      cases h2 : stays (test env1 st) st with
      | none => rw [h2] at h; cases h
      | some b =>
        rw [h2] at h
        rw [stays_eq h2]
        cases b with
        | true =>
          simp only [if_true] at h ⊢
          cases h3 : stays (elt env1 st) st with
          | none => rw [h3] at h; cases h
          | some p =>
            rw [h3] at h
            rw [if_pos (by omega), stays_eq h3]
            simp only at h ⊢
            change (match mapO (lcB asgn test elt st) r with | some ds => some (p.1 :: ds) | none => none) = some ds at h
            cases h4 : mapO (lcB asgn test elt st) r with
            | none => rw [h4] at h; cases h
            | some es =>
              rw [h4] at h
              cases h
              rw [mapO_comp hok r _ es h4 (by rw [List.length_append]; simp; omega)]
              simp
        | false =>
          simp only [Bool.false_eq_true, if_false] at h ⊢
          exact mapO_comp hok r acc ds h (by omega)
/-- the same, sealed -/
def xlc0 (vs : List Nat) (tp : Bool) (js : List Nat) (src : RF) (test : TF) (elt : XF) : XF := xlc vs tp js src test elt
open Classical in
@[simp ↓] theorem xlc_ap (vs : List Nat) (tp : Bool) (js : List Nat) (src : RF) (test : TF) (elt : XF) (env : Env) (st : S) : xlc vs tp js src test elt env st = match stays (src env st) st with
  | some s => if s.ok (wipeE env vs) st = true ∧ fitL s.items then (match mapO (lcB (fun d => asg tp js d (wipeE env vs)) test elt st) s.items with
    | some ds => some ((.list ds, true), st)
    | none => xlc0 vs tp js src test elt env st) else xlc0 vs tp js src test elt env st
  | none => xlc0 vs tp js src test elt env st := by
  cases h1 : stays (src env st) st with
  | none => rfl
  | some s =>
    simp only
    by_cases h2 : s.ok (wipeE env vs) st = true ∧ fitL s.items
    · rw [if_pos h2]
      cases h3 : mapO (lcB (fun d => asg tp js d (wipeE env vs)) test elt st) s.items with
      | none => rfl
      | some ds =>
        unfold xlc
        rw [bnd_eq (stays_eq h1)]
        exact bnd_eq (f := fun ds => ret (PyData.list ds, true)) (mapO_comp h2.1 s.items [] ds h3 (by have := h2.2; unfold fitL at this; simpa using this))
    · rw [if_neg h2]
      rfl
@[simp] theorem lcB_ap (asgn : D → Option Env) (test : TF) (elt : XF) (st : S) (d : D) : lcB asgn test elt st d = match asgn d with
  | some env1 => (match stays (test env1 st) st with
    | some b => if b = true then (match stays (elt env1 st) st with
      | some p => some (some p.1)
      | none => none) else some none
    | none => none)
  | none => none := rfl
/-- things that all keep P, as things with P -/
structure Such {α : Type} (P : α → Prop) where
  val : α
  ok : P val
theorem lift_sub {α : Type} {P : α → Prop} : ∀ {xs : List α}, (∀ x ∈ xs, P x) → ∃ ys : List (Such P), xs = ys.map Such.val
  | [], _ => ⟨[], rfl⟩
  | x :: xs, h => by
    obtain ⟨ys, e⟩ := lift_sub (xs := xs) fun y hy => h y (List.mem_cons_of_mem _ hy)
    exact ⟨⟨x, h x List.mem_cons_self⟩ :: ys, by rw [List.map_cons, ← e]⟩
/-! ### loops -/
def forC (f : Env → S → Option (Fl × S)) (o : Option (Fl × S)) : Option (Fl × S) := match o with
  | some (.next env, st) => f env st
  | some (.cont env, st) => f env st
  | some (.brk env, st) => some (.next env, st)
  | some (.ret d fl, st) => some (.ret d fl, st)
  | none => none
@[simp] theorem forC_next (f : Env → S → Option (Fl × S)) (env : Env) (st : S) : forC f (some (.next env, st)) = f env st := rfl
@[simp] theorem forC_cont (f : Env → S → Option (Fl × S)) (env : Env) (st : S) : forC f (some (.cont env, st)) = f env st := rfl
@[simp] theorem forC_brk (f : Env → S → Option (Fl × S)) (env : Env) (st : S) : forC f (some (.brk env, st)) = some (.next env, st) := rfl
@[simp] theorem forC_ret (f : Env → S → Option (Fl × S)) (d : D) (fl : Bool) (st : S) : forC f (some (.ret d fl, st)) = some (.ret d fl, st) := rfl
@[simp] theorem forC_none (f : Env → S → Option (Fl × S)) : forC f none = none := rfl
@[simp] theorem forC_ite (f : Env → S → Option (Fl × S)) (p : Prop) [Decidable p] (a b : Option (Fl × S)) : forC f (if p then a else b) = if p then forC f a else forC f b := by split <;> rfl
@[simp] theorem forL_n (s : Src) (asgn : D → Env → Option Env) (body : Env → M Fl) (env : Env) (st : S) : forLoop s asgn body [] env st = if s.ok env st = true then some (.next env, st) else none := rfl
@[simp] theorem forL_c (s : Src) (asgn : D → Env → Option Env) (body : Env → M Fl) (d : D) (r : List D) (env : Env) (st : S) : forLoop s asgn body (d :: r) env st = if s.ok env st = true then (match asgn d env with
  | some env1 => forC (forLoop s asgn body r) (body env1 st)
  | none => none) else none := by
  unfold forLoop
  by_cases h : s.ok env st = true
  · rw [if_pos h, if_pos h]
    cases asgn d env with
    | none => rfl
    | some env1 =>
      simp only
      rcases body env1 st with _ | ⟨_ | _ | _ | _, _⟩ <;> rfl
  · rw [if_neg h, if_neg h]

@[simp] theorem walkF_n (body : Env → M Fl) (j : Nat) (env : Env) (st : S) : walkF body j [] env st = some (.next env, st) := rfl
@[simp] theorem walkF_c (body : Env → M Fl) (j : Nat) (g : Str) (r : List Str) (env : Env) (st : S) : walkF body j (g :: r) env st = forC (walkF body j r) (body (env.set j (some (.fn g))) st) := by
  show bnd (body (env.set j (some (.fn g)))) _ st = _
  rw [bnd_ap]
  rcases body (env.set j (some (.fn g))) st with _ | ⟨_ | _ | _ | _, _⟩ <;> rfl
@[simp] theorem walkF2_n (body : Env → M Fl) (j i : Nat) (env : Env) (st : S) : walkF2 body j i [] env st = some (.next env, st) := rfl
@[simp] theorem walkF2_c (body : Env → M Fl) (j i : Nat) (g : Str) (d : D) (r : List (Str × D)) (env : Env) (st : S) : walkF2 body j i ((g, d) :: r) env st = forC (walkF2 body j i r) (body ((env.set j (some (.fn g))).set i (some (.frz d))) st) := by
  show bnd (body ((env.set j (some (.fn g))).set i (some (.frz d)))) _ st = _
  rw [bnd_ap]
  rcases body ((env.set j (some (.fn g))).set i (some (.frz d))) st with _ | ⟨_ | _ | _ | _, _⟩ <;> rfl
@[simp ↓] theorem sforF2_ap (j i : Nat) (qs : List (Str × XF)) (b : List SF) (env : Env) (st : S) : sforF2 j i qs b env st = (bnd (argsS (qs.map (·.2)) env) fun ds => walkF2 (blkS b) j i ((qs.map (·.1)).zip ds) env) st := rfl
@[simp] theorem sforF_ap (j : Nat) (gs : List Str) (b : List SF) (env : Env) (st : S) : sforF j gs b env st = walkF (blkS b) j gs env st := rfl
/-- a loop over numbers, none of whose rounds ends it -/
theorem for_range {its : List D} {asgn : D → Env → Option Env} {body : Env → M Fl} {n : Nat} (I : Nat → Env → S → Prop)
    (step : ∀ i, i < n → ∀ env st, I i env st → ∃ env1, asgn (.int (i : Int)) env = some env1 ∧ ∃ f env2 st', body env1 st = some (f, st') ∧ (f = .next env2 ∨ f = .cont env2) ∧ I (i + 1) env2 st')
    {env : Env} {st : S} (h : I 0 env st) : ∃ env' st', forLoop ⟨its, []⟩ asgn body ((List.range n).map fun (i : Nat) => PyData.int (i : Int)) env st = some (.next env', st') ∧ I n env' st' := by
  have key : ∀ m i env st, i + m = n → I i env st → ∃ env' st', forLoop ⟨its, []⟩ asgn body ((List.range' i m).map fun (i : Nat) => PyData.int (i : Int)) env st = some (.next env', st') ∧ I n env' st' := by
    intro m
    induction m with
    | zero =>
      intro i env st e hi
      have : i = n := by omega
      subst this
      exact ⟨env, st, rfl, hi⟩
    | succ m ih =>
      intro i env st e hi
      obtain ⟨env1, h1, f, env2, st', h2, h3, h4⟩ := step i (by omega) env st hi
      obtain ⟨env', st'', h5, h6⟩ := ih (i + 1) env2 st' (by omega) h4
      refine ⟨env', st'', ?_, h6⟩
      rw [List.range'_succ, List.map_cons]
      unfold forLoop
      rw [if_pos (ok_nil its env st), h1]
      simp only [h2]
      rcases h3 with rfl | rfl
      · exact h5
      · exact h5
  have := key n 0 env st (by omega) h
  rw [← List.range_eq_range'] at this
  exact this
/-- a loop over things, none of whose rounds ends it -/
theorem for_list {α : Type} {s : Src} {asgn : D → Env → Option Env} {body : Env → M Fl} (enc : α → D) (I : List α → Env → S → Prop)
    (step : ∀ a r env st, I (a :: r) env st → s.ok env st = true ∧ ∃ env1, asgn (enc a) env = some env1 ∧ ∃ f env2 st', body env1 st = some (f, st') ∧ (f = .next env2 ∨ f = .cont env2) ∧ I r env2 st')
    (done : ∀ env st, I [] env st → s.ok env st = true) : ∀ (xs : List α) {env : Env} {st : S}, I xs env st → ∃ env' st', forLoop s asgn body (xs.map enc) env st = some (.next env', st') ∧ I [] env' st'
  | [], env, st, h => ⟨env, st, by unfold forLoop; rw [List.map_nil]; simp only [done env st h, if_true], h⟩
  | a :: r, env, st, h => by
    obtain ⟨h0, env1, h1, f, env2, st', h2, h3, h4⟩ := step a r env st h
    obtain ⟨env', st'', h5, h6⟩ := for_list enc I step done r h4
    refine ⟨env', st'', ?_, h6⟩
    rw [List.map_cons]
    unfold forLoop
    rw [if_pos h0, h1]
    simp only [h2]
    rcases h3 with rfl | rfl
    · exact h5
    · exact h5
/-- a loop that looks for the first thing that keeps p -/
theorem for_find {α : Type} {s : Src} {asgn : D → Env → Option Env} {body : Env → M Fl} {st : S} (enc : α → D) (p : α → Bool) (R : α → D) (fl : Bool) (E : Env → Prop)
    (ok : ∀ env, E env → s.ok env st = true)
    (step : ∀ a env, E env → ∃ env1, asgn (enc a) env = some env1 ∧ ∃ env2, E env2 ∧ body env1 st = some (if p a = true then .ret (R a) fl else .next env2, st)) : ∀ (xs : List α) {env : Env}, E env →
    ∃ env', E env' ∧ forLoop s asgn body (xs.map enc) env st = some (match xs.find? p with
      | some a => .ret (R a) fl
      | none => .next env', st)
  | [], env, h => ⟨env, h, by rw [List.map_nil, forL_n, if_pos (ok env h)]; rfl⟩
  | a :: r, env, h => by
    obtain ⟨env1, h1, env2, h2, h3⟩ := step a env h
    rw [List.map_cons, forL_c, if_pos (ok env h), h1]
    simp only [h3]
    cases hp : p a with
    | true => exact ⟨env, h, by simp [hp]⟩
    | false =>
      obtain ⟨env', h4, h5⟩ := for_find enc p R fl E ok step r h2
      exact ⟨env', h4, by simp only [hp, Bool.false_eq_true, if_false, forC_next, List.find?]; exact h5⟩
/-! ### draws -/
theorem Rg.mono {s0 : MO} {tl : S} {k k' : Nat} {st : S} (h : Rg s0 tl k st) (e : k ≤ k') : Rg s0 tl k' st := by
  obtain ⟨a, b, c, h1, h2, h3, h4, h5, h6⟩ := h
  exact ⟨a, b, c, h1, h2, h3, h4, h5, by omega⟩
/-- one of a list's things -/
theorem pick {xs : List D} {i : Int} (h0 : 0 ≤ i) (h : i < xs.length) : ∃ p, L2.atI xs i = some p ∧ p ∈ xs := atI_mem h0 h
theorem pick_map {α : Type} {f : α → D} {xs : List α} {i : Int} (h0 : 0 ≤ i) (h : i < xs.length) : ∃ p, L2.atI (xs.map f) i = some (f p) ∧ p ∈ xs := by
  obtain ⟨p, h1, h2⟩ := atI_mem (xs := xs.map f) h0 (by rw [List.length_map]; exact h)
  obtain ⟨a, h3, rfl⟩ := List.mem_map.mp h2
  exact ⟨a, h1, h3⟩
end Pz

/-! Pz19: comprehensions that draw. -/
namespace Pz
open PySem
/-- ys: of some of xs one each, in order -/
inductive Drawn {α β : Type} (N : α → Prop) (P : α → β → Prop) : List α → List β → Prop where
  | nil : Drawn N P [] []
  | skip {a : α} {xs : List α} {ys : List β} : N a → Drawn N P xs ys → Drawn N P (a :: xs) ys
  | take {a : α} {y : β} {xs : List α} {ys : List β} : P a y → Drawn N P xs ys → Drawn N P (a :: xs) (y :: ys)
theorem Drawn.len {α β : Type} {N : α → Prop} {P : α → β → Prop} {xs : List α} {ys : List β} (h : Drawn N P xs ys) : ys.length ≤ xs.length := by
  induction h with
  | nil => simp
  | skip n h ih => simp; omega
  | take p h ih => simp; omega
theorem Drawn.all {α β : Type} {N : α → Prop} {P : α → β → Prop} {xs : List α} {ys : List β} (h : Drawn N P xs ys) : ∀ y ∈ ys, ∃ a ∈ xs, P a y := by
  induction h with
  | nil => intro y hy; cases hy
  | skip n h ih => intro y hy; obtain ⟨a, h1, h2⟩ := ih y hy; exact ⟨a, List.mem_cons_of_mem _ h1, h2⟩
  | take p h ih =>
    intro y hy
    rcases List.mem_cons.mp hy with rfl | hy
    · exact ⟨_, List.mem_cons_self, p⟩
    · obtain ⟨a, h1, h2⟩ := ih y hy; exact ⟨a, List.mem_cons_of_mem _ h1, h2⟩
theorem Drawn.sub {α : Type} {N : α → Prop} {xs ys : List α} (h : Drawn N (fun a y => y = a) xs ys) : ys.Sublist xs := by
  induction h with
  | nil => exact List.Sublist.slnil
  | skip n h ih => exact ih.cons _
  | take p h ih => subst p; exact ih.cons_cons _
/-- what is never left out is there -/
theorem Drawn.has {α : Type} {N : α → Prop} {xs ys : List α} (h : Drawn N (fun a y => y = a) xs ys) {a : α} (ha : a ∈ xs) (hn : ¬ N a) : a ∈ ys := by
  induction h with
  | nil => cases ha
  | skip n h ih =>
    rcases List.mem_cons.mp ha with rfl | ha
    · exact absurd n hn
    · exact ih ha
  | take p h ih =>
    subst p
    rcases List.mem_cons.mp ha with rfl | ha
    · exact List.mem_cons_self
    · exact List.mem_cons_of_mem _ (ih ha)
theorem xlc_draw {vs : List Nat} {tp : Bool} {js : List Nat} {src : RF} {test : TF} {elt : XF} {env : Env} {st0 st : S} {s0 : MO} {tl : S} {k : Nat} {α β : Type} {enc : α → D} {deps : List (Op × D)} (xs : List α) (dec : β → D) (N : α → Prop) (P : α → β → Prop) (m B : Nat)
    (hsrc : src env st0 = some (⟨xs.map enc, deps⟩, st)) (hok : ∀ st, Src.ok ⟨xs.map enc, deps⟩ (wipeE env vs) st = true) (hl : fitL xs)
    (step : ∀ a ∈ xs, ∀ k st, Rg s0 tl k st → k < B → ∃ env1, asg tp js (enc a) (wipeE env vs) = some env1 ∧ ∃ b st1, test env1 st = some (b, st1) ∧
      ((b = false ∧ N a ∧ Rg s0 tl (k + m) st1) ∨ (b = true ∧ ∃ y fl st2, elt env1 st1 = some ((dec y, fl), st2) ∧ P a y ∧ Rg s0 tl (k + m) st2)))
    (r : Rg s0 tl k st) (hk : k + m * xs.length ≤ B) (hm : 0 < m) :
    ∃ (ys : List β) (st' : S), xlc vs tp js src test elt env st0 = some ((.list (ys.map dec), true), st') ∧ Drawn N P xs ys ∧ Rg s0 tl (k + m * xs.length) st' := by
  have key : ∀ (zs : List α) (acc : List D) (k : Nat) (st : S), (∀ a ∈ zs, a ∈ xs) → Rg s0 tl k st → k + m * zs.length ≤ B → acc.length + zs.length ≤ line →
      ∃ (ys : List β) (st' : S), compLoop ⟨xs.map enc, deps⟩ (wipeE env vs) (fun d => asg tp js d (wipeE env vs)) test elt (zs.map enc) acc st = some (acc ++ ys.map dec, st') ∧ Drawn N P zs ys ∧ Rg s0 tl (k + m * zs.length) st' := by
    intro zs
    induction zs with
    | nil =>
      intro acc k st _ r _ _
      exact ⟨[], st, by unfold compLoop; rw [List.map_nil]; simp only [hok st, if_true]; simp, .nil, r⟩
    | cons z zs ih =>
      intro acc k st hm r hk hl
      rw [List.length_cons] at hl hk ⊢
      rw [Nat.mul_add, Nat.mul_one] at hk ⊢
      obtain ⟨env1, h1, b, st1, h2, h3⟩ := step z (hm z List.mem_cons_self) k st r (by omega)
      rw [List.map_cons]
      unfold compLoop
      rw [if_pos (hok st), h1]
      simp only [h2]
      rcases h3 with ⟨rfl, hn, r1⟩ | ⟨rfl, y, fl, st2, h3, h4, r1⟩
      · obtain ⟨ys, st', h5, h6, h7⟩ := ih acc (k + m) st1 (fun a ha => hm a (List.mem_cons_of_mem _ ha)) r1 (by omega) (by omega)
        exact ⟨ys, st', h5, .skip hn h6, h7.mono (by omega)⟩
      · obtain ⟨ys, st', h5, h6, h7⟩ := ih (acc ++ [dec y]) (k + m) st2 (fun a ha => hm a (List.mem_cons_of_mem _ ha)) r1 (by omega) (by rw [List.length_append]; simp; omega)
        refine ⟨y :: ys, st', ?_, .take h4 h6, h7.mono (by omega)⟩
        simp only
        rw [if_pos (by omega), h3]
        simp only
        rw [h5]
        simp
  obtain ⟨ys, st', h1, h2, h3⟩ := key xs [] k st (fun a h => h) r hk (by unfold fitL at hl; simpa using hl)
  refine ⟨ys, st', ?_, h2, h3⟩
  unfold xlc
  rw [bnd_eq hsrc]
  refine (bnd_eq (f := fun ds => ret (PyData.list ds, true)) h1).trans ?_
  simp
/-- one of each -/
theorem xlc_drawn {vs : List Nat} {tp : Bool} {js : List Nat} {src : RF} {elt : XF} {env : Env} {st0 st : S} {s0 : MO} {tl : S} {k : Nat} {α β : Type} {enc : α → D} {deps : List (Op × D)} (xs : List α) (dec : β → D) (P : β → Prop) (m B : Nat)
    (hsrc : src env st0 = some (⟨xs.map enc, deps⟩, st)) (hok : ∀ st, Src.ok ⟨xs.map enc, deps⟩ (wipeE env vs) st = true) (hl : fitL xs)
    (step : ∀ a ∈ xs, ∀ k st, Rg s0 tl k st → k < B → ∃ env1, asg tp js (enc a) (wipeE env vs) = some env1 ∧ ∃ y fl st2, elt env1 st = some ((dec y, fl), st2) ∧ P y ∧ Rg s0 tl (k + m) st2)
    (r : Rg s0 tl k st) (hk : k + m * xs.length ≤ B) (hm : 0 < m) :
    ∃ (ys : List β) (st' : S), xlc vs tp js src tyes elt env st0 = some ((.list (ys.map dec), true), st') ∧ ys.length = xs.length ∧ (∀ y ∈ ys, P y) ∧ Rg s0 tl (k + m * xs.length) st' := by
  have key : ∀ (zs : List α) (acc : List D) (k : Nat) (st : S), (∀ a ∈ zs, a ∈ xs) → Rg s0 tl k st → k + m * zs.length ≤ B → acc.length + zs.length ≤ line →
      ∃ (ys : List β) (st' : S), compLoop ⟨xs.map enc, deps⟩ (wipeE env vs) (fun d => asg tp js d (wipeE env vs)) tyes elt (zs.map enc) acc st = some (acc ++ ys.map dec, st') ∧ ys.length = zs.length ∧ (∀ y ∈ ys, P y) ∧ Rg s0 tl (k + m * zs.length) st' := by
    intro zs
    induction zs with
    | nil =>
      intro acc k st _ r _ _
      exact ⟨[], st, by unfold compLoop; rw [List.map_nil]; simp only [hok st, if_true]; simp, rfl, (fun _ h => nomatch h), r⟩
    | cons z zs ih =>
      intro acc k st hm r hk hl
      rw [List.length_cons] at hl hk ⊢
      rw [Nat.mul_add, Nat.mul_one] at hk ⊢
      obtain ⟨env1, h1, y, fl, st2, h3, h4, r1⟩ := step z (hm z List.mem_cons_self) k st r (by omega)
      rw [List.map_cons]
      unfold compLoop
      rw [if_pos (hok st), h1]
      obtain ⟨ys, st', h5, h6, h7, h8⟩ := ih (acc ++ [dec y]) (k + m) st2 (fun a ha => hm a (List.mem_cons_of_mem _ ha)) r1 (by omega) (by rw [List.length_append]; simp; omega)
      refine ⟨y :: ys, st', ?_, by rw [List.length_cons, h6], ?_, h8.mono (by omega)⟩
      · simp only [tyes_ap]
        rw [if_pos (by omega), h3]
        simp only
        rw [h5]
        simp
      · intro x hx
        rcases List.mem_cons.mp hx with rfl | hx
        · exact h4
        · exact h7 x hx
  obtain ⟨ys, st', h1, h2, h3, h4⟩ := key xs [] k st (fun a h => h) r hk (by unfold fitL at hl; simpa using hl)
  refine ⟨ys, st', ?_, h2, h3, h4⟩
  unfold xlc
  rw [bnd_eq hsrc]
  refine (bnd_eq (f := fun ds => ret (PyData.list ds, true)) h1).trans ?_
  simp
theorem small_of {i : Int} (h0 : 0 ≤ i) (h : i < 1000000000) : small i = true := by simp [small]; omega
theorem rg_view {s0 : MO} {xs : List D} {tl : S} {k : Nat} {st : S} (r : Rg s0 (.lst xs :: tl) k st) : st[2]? = some (.lst xs) := by obtain ⟨a, b, c, rfl, _⟩ := r; rfl
theorem rg_set {s0 : MO} {xs ys : List D} {tl : S} {k : Nat} {st : S} (r : Rg s0 (.lst xs :: tl) k st) : Rg s0 (.lst ys :: tl) k (st.set 2 (.lst ys)) := by obtain ⟨a, b, c, rfl, h⟩ := r; exact ⟨a, b, c, rfl, h⟩
theorem rg_push {s0 : MO} {xs : List D} {tl : S} {k : Nat} {st : S} (r : Rg s0 tl k st) : Rg s0 (tl ++ [.lst xs]) k (st ++ [.lst xs]) := by obtain ⟨a, b, c, rfl, h⟩ := r; exact ⟨a, b, c, rfl, h⟩
theorem rg_len {s0 : MO} {tl : S} {k : Nat} {st : S} (r : Rg s0 tl k st) : st.length = tl.length + 2 := by obtain ⟨a, b, c, rfl, _⟩ := r; simp
end Pz

namespace Pz
open PySem PySem.Spec PyProof.Rows L2 RZ
namespace Law
abbrev zP : PySem.Program := PySem.Challenge.pw_callwishes_k41_broken_tales
abbrev zR : PySem.W.OpenRow := PySem.W.OpenLaw.row PySem.Challenge.rw_callwishes_k41_broken_tales
def top (i : Nat) : Stmt := PySem.Challenge.pw_callwishes_k41_broken_tales.main.body.getD i (.Pass ⟨0, 0, 0, 0⟩)
def row_fits : Row := { nm := "fits", st := top 1, ps := ["pattern", "line"], N := ["pattern", "line"] }
def row_is_in : Row := { nm := "is_in", st := top 4, ps := ["call", "line"], N := ["call", "line"] }
def row_is_held_by : Row := { nm := "is_held_by", st := top 5, ps := ["call", "line"], N := ["call", "line"] }
def row_calls_of : Row := { nm := "calls_of", st := top 6, ps := ["calls", "line"], N := ["calls", "line", "call"] }
def row_talks_of : Row := { nm := "talks_of", st := top 7, ps := ["calls", "line"], N := ["calls", "line", "call"] }
def row_holds_of : Row := { nm := "holds_of", st := top 8, ps := ["calls", "line"], N := ["calls", "line", "call"] }
def row_first_of : Row := { nm := "first_of", st := top 9, ps := ["some"], N := ["some"] }
def row_shown_to : Row := { nm := "shown_to", st := top 10, ps := ["calls", "line"], N := ["calls", "line", "call"] }
def row_does_ring : Row := { nm := "does_ring", st := top 11, ps := ["call", "line"], N := ["call", "line"] }
def row_rings_at : Row := { nm := "rings_at", st := top 12, ps := ["calls", "line"], N := ["calls", "line", "call"] }
def row_between : Row := { nm := "between", st := top 13, ps := ["calls", "one", "other"], N := ["calls", "one", "other", "call"] }
def row_has_free_hands : Row := { nm := "has_free_hands", st := top 14, ps := ["calls", "line"], N := ["calls", "line", "call"] }
def row_is_free : Row := { nm := "is_free", st := top 15, ps := ["calls", "line"], N := ["calls", "line"] }
def row_is_so : Row := { nm := "is_so", st := top 16, ps := ["calls", "night", "me", "hid", "test"], N := ["calls", "night", "me", "hid", "test"] }
def row_begun : Row := { nm := "begun", st := top 19, ps := ["house"], N := ["house", "wishes"] }
def row_other_of : Row := { nm := "other_of", st := top 20, ps := ["call", "line"], N := ["call", "line"] }
def row_can_also : Row := { nm := "can_also", st := top 21, ps := ["calls", "line", "other", "told"], N := ["calls", "line", "other", "told", "number", "act"] }
def row_can_join : Row := { nm := "can_join", st := top 22, ps := ["calls", "me"], N := ["calls", "me", "others", "call", "other"] }
def row_can_be_done : Row := { nm := "can_be_done", st := top 23, ps := ["calls", "me", "other", "act", "told"], N := ["calls", "me", "other", "act", "told"] }
def row_is_asked : Row := { nm := "is_asked", st := top 24, ps := ["wish", "point"], N := ["wish", "point", "kind", "me", "other", "hid"] }
def row_rule_for_points : Row := { nm := "rule_for_points", st := top 25, ps := ["wish", "mind", "scene", "point"], N := ["wish", "mind", "scene", "point", "rule", "kind", "me", "other", "hid", "calls", "night", "test"], dn := some "rule_for" }
def row_asked : Row := { nm := "asked", st := top 27, ps := ["house", "scene", "point"], N := ["house", "scene", "point", "minds", "told", "number", "wish", "rule", "act"], own := ["minds"], hp := ["told"] }
def row_are_fit : Row := { nm := "are_fit", st := top 29, ps := ["patterns", "lines"], N := ["patterns", "lines", "pattern", "line"] }
def row_rule_for : Row := { nm := "rule_for", st := top 30, ps := ["wish", "state", "calls", "night", "event"], N := ["wish", "state", "calls", "night", "event", "rule", "word", "lines", "hid", "test"] }
def row_rule_for_tales : Row := { nm := "rule_for_tales", st := top 30, ps := ["wish", "state", "calls", "night", "event"], N := ["wish", "state", "calls", "night", "event", "rule", "word", "lines", "hid", "test"], dn := some "rule_for" }
def row_led_on : Row := { nm := "led_on", st := top 32, ps := ["wish", "state", "calls", "night", "event"], N := ["wish", "state", "calls", "night", "event", "rule"] }
def row_told_on : Row := { nm := "told_on", st := top 33, ps := ["house", "tales", "calls", "night", "event"], N := ["house", "tales", "calls", "night", "event", "wish", "state"] }
def row_held_by : Row := { nm := "held_by", st := top 36, ps := ["call", "line"], N := ["call", "line"] }
def row_comes_to : Row := { nm := "comes_to", st := top 37, ps := ["call", "line"], N := ["call", "line"] }
def row_Walk___init__ : Row := { nm := "Walk.__init__", st := inCls 0 (top 38), ps := ["self", "house", "scene"], N := ["self", "house", "scene"], mn := some "__init__" }
def row_Walk_scene : Row := { nm := "Walk.scene", st := inCls 1 (top 38), ps := ["self"], N := ["self"], mn := some "scene" }
def row_Walk_tell : Row := { nm := "Walk.tell", st := inCls 2 (top 38), ps := ["self", "word", "lines", "hid"], N := ["self", "word", "lines", "hid", "event"], mn := some "tell" }
def row_Walk_ask : Row := { nm := "Walk.ask", st := inCls 3 (top 38), ps := ["self", "kind", "me", "other", "hid"], N := ["self", "kind", "me", "other", "hid", "acts"], mn := some "ask" }
def row_Walk_put : Row := { nm := "Walk.put", st := inCls 4 (top 38), ps := ["self", "call"], N := ["self", "call"], mn := some "put" }
def row_Walk_take_out : Row := { nm := "Walk.take_out", st := inCls 5 (top 38), ps := ["self", "call"], N := ["self", "call", "one"], mn := some "take_out" }
def row_Walk_put_for : Row := { nm := "Walk.put_for", st := inCls 6 (top 38), ps := ["self", "call", "how"], N := ["self", "call", "how", "made"], mn := some "put_for" }
def row_Walk_end : Row := { nm := "Walk.end", st := inCls 7 (top 38), ps := ["self", "calls"], N := ["self", "calls", "call"], mn := some "end" }
def row_Walk_busy_at : Row := { nm := "Walk.busy_at", st := inCls 8 (top 38), ps := ["self", "caller", "line", "hid"], N := ["self", "caller", "line", "hid"], mn := some "busy_at" }
def row_Walk_shut_out : Row := { nm := "Walk.shut_out", st := inCls 9 (top 38), ps := ["self", "caller", "line", "hid"], N := ["self", "caller", "line", "hid"], mn := some "shut_out" }
def row_Walk_send_on : Row := { nm := "Walk.send_on", st := inCls 10 (top 38), ps := ["self", "caller", "line", "where", "hid", "ways"], N := ["self", "caller", "line", "where", "hid", "ways"], mn := some "send_on" }
def row_Walk_decided : Row := { nm := "Walk.decided", st := inCls 11 (top 38), ps := ["self", "caller", "line", "hid", "ways", "acts"], N := ["self", "caller", "line", "hid", "ways", "acts", "number", "act"], mn := some "decided" }
def row_Walk_come : Row := { nm := "Walk.come", st := inCls 12 (top 38), ps := ["self", "caller", "line", "hid", "ways"], N := ["self", "caller", "line", "hid", "ways"], mn := some "come" }
def row_Walk_go_out : Row := { nm := "Walk.go_out", st := inCls 13 (top 38), ps := ["self", "caller", "line"], N := ["self", "caller", "line", "hid", "number", "act"], mn := some "go_out" }
def row_Walk_dial : Row := { nm := "Walk.dial", st := inCls 14 (top 38), ps := ["self", "caller", "line"], N := ["self", "caller", "line"], mn := some "dial" }
def row_Walk_talk_on : Row := { nm := "Walk.talk_on", st := inCls 15 (top 38), ps := ["self", "call"], N := ["self", "call", "made", "passing", "one"], mn := some "talk_on" }
def row_Walk_take : Row := { nm := "Walk.take", st := inCls 16 (top 38), ps := ["self", "line"], N := ["self", "line", "call"], mn := some "take" }
def row_Walk_hold : Row := { nm := "Walk.hold", st := inCls 17 (top 38), ps := ["self", "line"], N := ["self", "line", "call"], mn := some "hold" }
def row_Walk_drop : Row := { nm := "Walk.drop", st := inCls 18 (top 38), ps := ["self", "line"], N := ["self", "line", "kept", "left", "call"], own := ["left"], mn := some "drop" }
def row_Walk_take_up_again : Row := { nm := "Walk.take_up_again", st := inCls 19 (top 38), ps := ["self", "line", "held"], N := ["self", "line", "held", "shown", "some", "call"], mn := some "take_up_again" }
def row_Walk_flash : Row := { nm := "Walk.flash", st := inCls 20 (top 38), ps := ["self", "line"], N := ["self", "line", "number", "act", "held", "call"], mn := some "flash" }
def row_Walk_ring_long : Row := { nm := "Walk.ring_long", st := inCls 21 (top 38), ps := ["self", "call"], N := ["self", "call", "caller", "line", "how", "hid", "number", "act"], mn := some "ring_long" }
def row_Walk_wait : Row := { nm := "Walk.wait", st := inCls 22 (top 38), ps := ["self"], N := ["self", "backs", "call"], mn := some "wait" }
def row_Walk_turn : Row := { nm := "Walk.turn", st := inCls 23 (top 38), ps := ["self"], N := ["self"], mn := some "turn" }
def row_Walk_settle : Row := { nm := "Walk.settle", st := inCls 24 (top 38), ps := ["self", "used"], N := ["self", "used", "call", "line", "made", "number", "act", "me"], mn := some "settle" }
def row_Walk_do : Row := { nm := "Walk.do", st := inCls 25 (top 38), ps := ["self", "deed"], N := ["self", "deed"], mn := some "do" }
def row_stepped : Row := { nm := "stepped", st := top 39, ps := ["house", "scene", "deed"], N := ["house", "scene", "deed", "walk", "used", "line"] }
def row_ran : Row := { nm := "ran", st := top 41, ps := ["house", "deeds"], N := ["house", "deeds", "scene", "told", "deed", "events"], own := ["told"] }
def row_broken : Row := { nm := "broken", st := top 42, ps := ["scene"], N := ["scene", "number", "state"] }
def row_law_hand : Row := { nm := "_law_hand", st := top 44, ps := ["_law_script"], N := ["_law_script", "_law_state", "_law_far_here", "_law_cell", "_law_k", "_law_one"], own := ["_law_state"] }
def row_law_take : Row := { nm := "_law_take", st := top 45, ps := ["_law_state", "_law_many"], N := ["_law_state", "_law_many", "_law_mixed", "_law_digit"] }
def row_law_calls : Row := { nm := "_law_calls", st := top 46, ps := ["_law_state", "_law_n"], N := ["_law_state", "_law_n", "_law_hows", "_law_found", "_law_j", "_law_i", "_law_pair"], own := ["_law_found"] }
def row_law_pattern : Row := { nm := "_law_pattern", st := top 47, ps := ["_law_state", "_law_n"], N := ["_law_state", "_law_n", "_law_first", "_law_line"] }
def row_law_tests : Row := { nm := "_law_tests", st := top 48, ps := ["_law_state"], N := ["_law_state", "_law_words_here", "_law_many", "_law_some", "_law_k", "_law_word"] }
def row_law_words : Row := { nm := "_law_words", st := top 49, ps := [], N := ["_law_words_here", "_law_found", "_law_word"] }
def row_law_tale_rule : Row := { nm := "_law_tale_rule", st := top 50, ps := ["_law_state", "_law_n", "_law_states"], N := ["_law_state", "_law_n", "_law_states", "_law_words_here", "_law_patterns", "_law_after", "_law_word", "_law_many", "_law_k"] }
def row_law_far : Row := { nm := "_law_far", st := top 51, ps := ["_law_state", "_law_n", "_law_me"], N := ["_law_state", "_law_n", "_law_me"] }
def row_law_rule : Row := { nm := "_law_rule", st := top 52, ps := ["_law_state", "_law_n", "_law_me", "_law_states"], N := ["_law_state", "_law_n", "_law_me", "_law_states", "_law_kinds", "_law_kind", "_law_words_here", "_law_some", "_law_act", "_law_pattern_here"], own := ["_law_words_here"] }
def row_law_deeds : Row := { nm := "_law_deeds", st := top 53, ps := ["_law_n"], N := ["_law_n", "_law_found", "_law_i", "_law_word", "_law_j"], own := ["_law_found"] }
def row_law_house : Row := { nm := "_law_house", st := top 54, ps := ["_law_state", "_law_n", "_law_many", "_law_most"], N := ["_law_state", "_law_n", "_law_many", "_law_most", "_law_wishes", "_law_k", "_law_rules", "_law_tale", "_law_me", "_law_states", "_law_j"], own := ["_law_wishes"] }
def row_law_same : Row := { nm := "_law_same", st := top 55, ps := ["_law_found", "_law_due_here"], N := ["_law_found", "_law_due_here", "_law_one", "_law_other"] }
def row_law_due : Row := { nm := "_law_due", st := top 56, ps := ["_law_tales"], N := ["_law_tales", "_law_number", "_law_tale"] }
def row_law : Row := { nm := "law", st := top 57, ps := ["_law_script"], N := ["_law_script", "_law_state", "_law_n", "_law_turn", "_law_house_here", "_law_row", "_law_deed", "_law_minds", "_law_tales", "_law_scene", "_law_known", "_law_found", "_law_many", "_law_way", "_law_k", "_law_number"], hp := ["_law_state"] }
def rows : List Row := [row_fits, row_is_in, row_is_held_by, row_calls_of, row_talks_of, row_holds_of, row_first_of, row_shown_to, row_does_ring, row_rings_at, row_between, row_has_free_hands, row_is_free, row_is_so, row_begun, row_other_of, row_can_also, row_can_join, row_can_be_done, row_is_asked, row_rule_for_points, row_asked, row_are_fit, row_rule_for, row_rule_for_tales, row_led_on, row_told_on, row_held_by, row_comes_to, row_Walk___init__, row_Walk_scene, row_Walk_tell, row_Walk_ask, row_Walk_put, row_Walk_take_out, row_Walk_put_for, row_Walk_end, row_Walk_busy_at, row_Walk_shut_out, row_Walk_send_on, row_Walk_decided, row_Walk_come, row_Walk_go_out, row_Walk_dial, row_Walk_talk_on, row_Walk_take, row_Walk_hold, row_Walk_drop, row_Walk_take_up_again, row_Walk_flash, row_Walk_ring_long, row_Walk_wait, row_Walk_turn, row_Walk_settle, row_Walk_do, row_stepped, row_ran, row_broken, row_law_hand, row_law_take, row_law_calls, row_law_pattern, row_law_tests, row_law_words, row_law_tale_rule, row_law_far, row_law_rule, row_law_deeds, row_law_house, row_law_same, row_law_due, row_law]
def consts : List (Str × D) := [("IN_IT", .tuple [.str ("ring" : Str), .str ("show" : Str), .str ("talk" : Str), .str ("hold0" : Str), .str ("hold1" : Str)]), ("GOES_ON", .tuple [.str ("pass" : Str), .str ("hide" : Str), .str ("also" : Str)]), ("PASSING", .tuple [.str ("ring" : Str), .str ("show" : Str), .str ("busy" : Str), .str ("shut" : Str)])]
@[simp] theorem sok_0 : PyData.strOk ("ring" : Str) = true := by decide +kernel
@[simp] theorem sok_1 : PyData.strOk ("show" : Str) = true := by decide +kernel
@[simp] theorem sok_2 : PyData.strOk ("talk" : Str) = true := by decide +kernel
@[simp] theorem sok_3 : PyData.strOk ("hold0" : Str) = true := by decide +kernel
@[simp] theorem sok_4 : PyData.strOk ("hold1" : Str) = true := by decide +kernel
@[simp] theorem sok_5 : PyData.strOk ("pass" : Str) = true := by decide +kernel
@[simp] theorem sok_6 : PyData.strOk ("hide" : Str) = true := by decide +kernel
@[simp] theorem sok_7 : PyData.strOk ("also" : Str) = true := by decide +kernel
@[simp] theorem sok_8 : PyData.strOk ("busy" : Str) = true := by decide +kernel
@[simp] theorem sok_9 : PyData.strOk ("shut" : Str) = true := by decide +kernel
@[simp] theorem sok_10 : PyData.strOk ("back" : Str) = true := by decide +kernel
@[simp] theorem sok_11 : PyData.strOk ("night" : Str) = true := by decide +kernel
@[simp] theorem sok_12 : PyData.strOk ("day" : Str) = true := by decide +kernel
@[simp] theorem sok_13 : PyData.strOk ("hid" : Str) = true := by decide +kernel
@[simp] theorem sok_14 : PyData.strOk ("named" : Str) = true := by decide +kernel
@[simp] theorem sok_15 : PyData.strOk ("mute" : Str) = true := by decide +kernel
@[simp] theorem sok_16 : PyData.strOk ("held" : Str) = true := by decide +kernel
@[simp] theorem sok_17 : PyData.strOk ("bare" : Str) = true := by decide +kernel
@[simp] theorem sok_18 : PyData.strOk ("shown" : Str) = true := by decide +kernel
@[simp] theorem sok_19 : PyData.strOk ("clear" : Str) = true := by decide +kernel
@[simp] theorem sok_20 : PyData.strOk ("idle" : Str) = true := by decide +kernel
@[simp] theorem sok_21 : PyData.strOk ("swap" : Str) = true := by decide +kernel
@[simp] theorem sok_22 : PyData.strOk ("join" : Str) = true := by decide +kernel
@[simp] theorem sok_23 : PyData.strOk ("keep" : Str) = true := by decide +kernel
@[simp] theorem sok_24 : PyData.strOk ("free" : Str) = true := by decide +kernel
@[simp] theorem sok_25 : PyData.strOk ("ends" : Str) = true := by decide +kernel
@[simp] theorem sok_26 : PyData.strOk ("met" : Str) = true := by decide +kernel
@[simp] theorem sok_27 : PyData.strOk ("sent" : Str) = true := by decide +kernel
@[simp] theorem sok_28 : PyData.strOk ("send" : Str) = true := by decide +kernel
@[simp] theorem sok_29 : PyData.strOk ("rings" : Str) = true := by decide +kernel
@[simp] theorem sok_30 : PyData.strOk ("shows" : Str) = true := by decide +kernel
@[simp] theorem sok_31 : PyData.strOk ("comes" : Str) = true := by decide +kernel
@[simp] theorem sok_32 : PyData.strOk ("in" : Str) = true := by decide +kernel
@[simp] theorem sok_33 : PyData.strOk ("full" : Str) = true := by decide +kernel
@[simp] theorem sok_34 : PyData.strOk ("out" : Str) = true := by decide +kernel
@[simp] theorem sok_35 : PyData.strOk ("bar" : Str) = true := by decide +kernel
@[simp] theorem sok_36 : PyData.strOk ("talks" : Str) = true := by decide +kernel
@[simp] theorem sok_37 : PyData.strOk ("holds" : Str) = true := by decide +kernel
@[simp] theorem sok_38 : PyData.strOk ("drop" : Str) = true := by decide +kernel
@[simp] theorem sok_39 : PyData.strOk ("flash" : Str) = true := by decide +kernel
@[simp] theorem sok_40 : PyData.strOk ("joins" : Str) = true := by decide +kernel
@[simp] theorem sok_41 : PyData.strOk ("waits" : Str) = true := by decide +kernel
@[simp] theorem sok_42 : PyData.strOk ("long" : Str) = true := by decide +kernel
@[simp] theorem sok_43 : PyData.strOk ("frees" : Str) = true := by decide +kernel
@[simp] theorem sok_44 : PyData.strOk ("backs" : Str) = true := by decide +kernel
@[simp] theorem sok_45 : PyData.strOk ("dial" : Str) = true := by decide +kernel
@[simp] theorem sok_46 : PyData.strOk ("take" : Str) = true := by decide +kernel
@[simp] theorem sok_47 : PyData.strOk ("wait" : Str) = true := by decide +kernel
@[simp] theorem sok_48 : PyData.strOk ("done" : Str) = true := by decide +kernel
@[simp] theorem sok_49 : PyData.strOk ("used" : Str) = true := by decide +kernel
@[simp] theorem sok_50 : PyData.strOk ("turn" : Str) = true := by decide +kernel
theorem bd_fits : row_fits.binds := fun _ _ _ _ _ _ us hl => match us, hl with | [_, _], _ => rfl
theorem bd_is_in : row_is_in.binds := fun _ _ _ _ _ _ us hl => match us, hl with | [_, _], _ => rfl
theorem bd_is_held_by : row_is_held_by.binds := fun _ _ _ _ _ _ us hl => match us, hl with | [_, _], _ => rfl
theorem bd_calls_of : row_calls_of.binds := fun _ _ _ _ _ _ us hl => match us, hl with | [_, _], _ => rfl
theorem bd_talks_of : row_talks_of.binds := fun _ _ _ _ _ _ us hl => match us, hl with | [_, _], _ => rfl
theorem bd_holds_of : row_holds_of.binds := fun _ _ _ _ _ _ us hl => match us, hl with | [_, _], _ => rfl
theorem bd_first_of : row_first_of.binds := fun _ _ _ _ _ _ us hl => match us, hl with | [_], _ => rfl
theorem bd_shown_to : row_shown_to.binds := fun _ _ _ _ _ _ us hl => match us, hl with | [_, _], _ => rfl
theorem bd_does_ring : row_does_ring.binds := fun _ _ _ _ _ _ us hl => match us, hl with | [_, _], _ => rfl
theorem bd_rings_at : row_rings_at.binds := fun _ _ _ _ _ _ us hl => match us, hl with | [_, _], _ => rfl
theorem bd_between : row_between.binds := fun _ _ _ _ _ _ us hl => match us, hl with | [_, _, _], _ => rfl
theorem bd_has_free_hands : row_has_free_hands.binds := fun _ _ _ _ _ _ us hl => match us, hl with | [_, _], _ => rfl
theorem bd_is_free : row_is_free.binds := fun _ _ _ _ _ _ us hl => match us, hl with | [_, _], _ => rfl
theorem bd_is_so : row_is_so.binds := fun _ _ _ _ _ _ us hl => match us, hl with | [_, _, _, _, _], _ => rfl
theorem bd_begun : row_begun.binds := fun _ _ _ _ _ _ us hl => match us, hl with | [_], _ => rfl
theorem bd_other_of : row_other_of.binds := fun _ _ _ _ _ _ us hl => match us, hl with | [_, _], _ => rfl
theorem bd_can_also : row_can_also.binds := fun _ _ _ _ _ _ us hl => match us, hl with | [_, _, _, _], _ => rfl
theorem bd_can_join : row_can_join.binds := fun _ _ _ _ _ _ us hl => match us, hl with | [_, _], _ => rfl
theorem bd_can_be_done : row_can_be_done.binds := fun _ _ _ _ _ _ us hl => match us, hl with | [_, _, _, _, _], _ => rfl
theorem bd_is_asked : row_is_asked.binds := fun _ _ _ _ _ _ us hl => match us, hl with | [_, _], _ => rfl
theorem bd_rule_for_points : row_rule_for_points.binds := fun _ _ _ _ _ _ us hl => match us, hl with | [_, _, _, _], _ => rfl
theorem bd_asked : row_asked.binds := fun _ _ _ _ _ _ us hl => match us, hl with | [_, _, _], _ => rfl
theorem bd_are_fit : row_are_fit.binds := fun _ _ _ _ _ _ us hl => match us, hl with | [_, _], _ => rfl
theorem bd_rule_for : row_rule_for.binds := fun _ _ _ _ _ _ us hl => match us, hl with | [_, _, _, _, _], _ => rfl
theorem bd_rule_for_tales : row_rule_for_tales.binds := fun _ _ _ _ _ _ us hl => match us, hl with | [_, _, _, _, _], _ => rfl
theorem bd_led_on : row_led_on.binds := fun _ _ _ _ _ _ us hl => match us, hl with | [_, _, _, _, _], _ => rfl
theorem bd_told_on : row_told_on.binds := fun _ _ _ _ _ _ us hl => match us, hl with | [_, _, _, _, _], _ => rfl
theorem bd_held_by : row_held_by.binds := fun _ _ _ _ _ _ us hl => match us, hl with | [_, _], _ => rfl
theorem bd_comes_to : row_comes_to.binds := fun _ _ _ _ _ _ us hl => match us, hl with | [_, _], _ => rfl
theorem bd_Walk___init__ : row_Walk___init__.binds := fun _ _ _ _ _ _ us hl => match us, hl with | [_, _, _], _ => rfl
theorem bd_Walk_scene : row_Walk_scene.binds := fun _ _ _ _ _ _ us hl => match us, hl with | [_], _ => rfl
theorem bd_Walk_tell : row_Walk_tell.binds := fun _ _ _ _ _ _ us hl => match us, hl with | [_, _, _, _], _ => rfl
theorem bd_Walk_ask : row_Walk_ask.binds := fun _ _ _ _ _ _ us hl => match us, hl with | [_, _, _, _, _], _ => rfl
theorem bd_Walk_put : row_Walk_put.binds := fun _ _ _ _ _ _ us hl => match us, hl with | [_, _], _ => rfl
theorem bd_Walk_take_out : row_Walk_take_out.binds := fun _ _ _ _ _ _ us hl => match us, hl with | [_, _], _ => rfl
theorem bd_Walk_put_for : row_Walk_put_for.binds := fun _ _ _ _ _ _ us hl => match us, hl with | [_, _, _], _ => rfl
theorem bd_Walk_end : row_Walk_end.binds := fun _ _ _ _ _ _ us hl => match us, hl with | [_, _], _ => rfl
theorem bd_Walk_busy_at : row_Walk_busy_at.binds := fun _ _ _ _ _ _ us hl => match us, hl with | [_, _, _, _], _ => rfl
theorem bd_Walk_shut_out : row_Walk_shut_out.binds := fun _ _ _ _ _ _ us hl => match us, hl with | [_, _, _, _], _ => rfl
theorem bd_Walk_send_on : row_Walk_send_on.binds := fun _ _ _ _ _ _ us hl => match us, hl with | [_, _, _, _, _, _], _ => rfl
theorem bd_Walk_decided : row_Walk_decided.binds := fun _ _ _ _ _ _ us hl => match us, hl with | [_, _, _, _, _, _], _ => rfl
theorem bd_Walk_come : row_Walk_come.binds := fun _ _ _ _ _ _ us hl => match us, hl with | [_, _, _, _, _], _ => rfl
theorem bd_Walk_go_out : row_Walk_go_out.binds := fun _ _ _ _ _ _ us hl => match us, hl with | [_, _, _], _ => rfl
theorem bd_Walk_dial : row_Walk_dial.binds := fun _ _ _ _ _ _ us hl => match us, hl with | [_, _, _], _ => rfl
theorem bd_Walk_talk_on : row_Walk_talk_on.binds := fun _ _ _ _ _ _ us hl => match us, hl with | [_, _], _ => rfl
theorem bd_Walk_take : row_Walk_take.binds := fun _ _ _ _ _ _ us hl => match us, hl with | [_, _], _ => rfl
theorem bd_Walk_hold : row_Walk_hold.binds := fun _ _ _ _ _ _ us hl => match us, hl with | [_, _], _ => rfl
theorem bd_Walk_drop : row_Walk_drop.binds := fun _ _ _ _ _ _ us hl => match us, hl with | [_, _], _ => rfl
theorem bd_Walk_take_up_again : row_Walk_take_up_again.binds := fun _ _ _ _ _ _ us hl => match us, hl with | [_, _, _], _ => rfl
theorem bd_Walk_flash : row_Walk_flash.binds := fun _ _ _ _ _ _ us hl => match us, hl with | [_, _], _ => rfl
theorem bd_Walk_ring_long : row_Walk_ring_long.binds := fun _ _ _ _ _ _ us hl => match us, hl with | [_, _], _ => rfl
theorem bd_Walk_wait : row_Walk_wait.binds := fun _ _ _ _ _ _ us hl => match us, hl with | [_], _ => rfl
theorem bd_Walk_turn : row_Walk_turn.binds := fun _ _ _ _ _ _ us hl => match us, hl with | [_], _ => rfl
theorem bd_Walk_settle : row_Walk_settle.binds := fun _ _ _ _ _ _ us hl => match us, hl with | [_, _], _ => rfl
theorem bd_Walk_do : row_Walk_do.binds := fun _ _ _ _ _ _ us hl => match us, hl with | [_, _], _ => rfl
theorem bd_stepped : row_stepped.binds := fun _ _ _ _ _ _ us hl => match us, hl with | [_, _, _], _ => rfl
theorem bd_ran : row_ran.binds := fun _ _ _ _ _ _ us hl => match us, hl with | [_, _], _ => rfl
theorem bd_broken : row_broken.binds := fun _ _ _ _ _ _ us hl => match us, hl with | [_], _ => rfl
theorem bd_law_hand : row_law_hand.binds := fun _ _ _ _ _ _ us hl => match us, hl with | [_], _ => rfl
theorem bd_law_take : row_law_take.binds := fun _ _ _ _ _ _ us hl => match us, hl with | [_, _], _ => rfl
theorem bd_law_calls : row_law_calls.binds := fun _ _ _ _ _ _ us hl => match us, hl with | [_, _], _ => rfl
theorem bd_law_pattern : row_law_pattern.binds := fun _ _ _ _ _ _ us hl => match us, hl with | [_, _], _ => rfl
theorem bd_law_tests : row_law_tests.binds := fun _ _ _ _ _ _ us hl => match us, hl with | [_], _ => rfl
theorem bd_law_words : row_law_words.binds := fun _ _ _ _ _ _ us hl => match us, hl with | [], _ => rfl
theorem bd_law_tale_rule : row_law_tale_rule.binds := fun _ _ _ _ _ _ us hl => match us, hl with | [_, _, _], _ => rfl
theorem bd_law_far : row_law_far.binds := fun _ _ _ _ _ _ us hl => match us, hl with | [_, _, _], _ => rfl
theorem bd_law_rule : row_law_rule.binds := fun _ _ _ _ _ _ us hl => match us, hl with | [_, _, _, _], _ => rfl
theorem bd_law_deeds : row_law_deeds.binds := fun _ _ _ _ _ _ us hl => match us, hl with | [_], _ => rfl
theorem bd_law_house : row_law_house.binds := fun _ _ _ _ _ _ us hl => match us, hl with | [_, _, _, _], _ => rfl
theorem bd_law_same : row_law_same.binds := fun _ _ _ _ _ _ us hl => match us, hl with | [_, _], _ => rfl
theorem bd_law_due : row_law_due.binds := fun _ _ _ _ _ _ us hl => match us, hl with | [_], _ => rfl
theorem bd_law : row_law.binds := fun _ _ _ _ _ _ us hl => match us, hl with | [_], _ => rfl
def sh_fits (call : CallF) : SF := blkS
  [sret (xor (xcmp .Is (ov 0) (ox (xc (.none)))) (xcmp .In (ov 1) (ov 0)))]
theorem she_fits (call : CallF) : blk (sv ⟨row_fits.N, consts, rows.map Row.f, call, row_fits.own, row_fits.hp⟩ 24 12) (defScope row_fits.st) (defBody row_fits.st) = sh_fits call := by kernel_rfl
theorem ca_fits {k : Nat} (ds : List D) (hd : ds.length = 2) (st : S) : callF (rows.map Row.f) consts 24 12 (k + 1) "fits" ds st = runS (sh_fits (callF (rows.map Row.f) consts 24 12 k)) 2 ds st := call_eq (r := row_fits) (b := sh_fits) rfl she_fits hd st
def sh_is_in (call : CallF) : SF := blkS
  [sret (xor (xcmp .Eq (ox (xit (ov 0) (ox (xc (.int (0)))))) (ov 1)) (xand (xcmp .Eq (ox (xit (ov 0) (ox (xc (.int (1)))))) (ov 1)) (xcmp .In (ox (xit (ov 0) (ox (xc (.int (2)))))) (ox (xc (.tuple [.str ("ring" : Str), .str ("show" : Str), .str ("talk" : Str), .str ("hold0" : Str), .str ("hold1" : Str)]))))))]
theorem she_is_in (call : CallF) : blk (sv ⟨row_is_in.N, consts, rows.map Row.f, call, row_is_in.own, row_is_in.hp⟩ 24 12) (defScope row_is_in.st) (defBody row_is_in.st) = sh_is_in call := by kernel_rfl
theorem ca_is_in {k : Nat} (ds : List D) (hd : ds.length = 2) (st : S) : callF (rows.map Row.f) consts 24 12 (k + 1) "is_in" ds st = runS (sh_is_in (callF (rows.map Row.f) consts 24 12 k)) 2 ds st := call_eq (r := row_is_in) (b := sh_is_in) rfl she_is_in hd st
def sh_is_held_by (call : CallF) : SF := blkS
  [sret (xor (xand (xcmp .Eq (ox (xit (ov 0) (ox (xc (.int (0)))))) (ov 1)) (xcmp .Eq (ox (xit (ov 0) (ox (xc (.int (2)))))) (ox (xc (.str ("hold0" : Str)))))) (xand (xcmp .Eq (ox (xit (ov 0) (ox (xc (.int (1)))))) (ov 1)) (xcmp .Eq (ox (xit (ov 0) (ox (xc (.int (2)))))) (ox (xc (.str ("hold1" : Str)))))))]
theorem she_is_held_by (call : CallF) : blk (sv ⟨row_is_held_by.N, consts, rows.map Row.f, call, row_is_held_by.own, row_is_held_by.hp⟩ 24 12) (defScope row_is_held_by.st) (defBody row_is_held_by.st) = sh_is_held_by call := by kernel_rfl
theorem ca_is_held_by {k : Nat} (ds : List D) (hd : ds.length = 2) (st : S) : callF (rows.map Row.f) consts 24 12 (k + 1) "is_held_by" ds st = runS (sh_is_held_by (callF (rows.map Row.f) consts 24 12 k)) 2 ds st := call_eq (r := row_is_held_by) (b := sh_is_held_by) rfl she_is_held_by hd st
def sh_calls_of (call : CallF) : SF := blkS
  [sret (xbi "tuple" [ox (xlc [2] false [2] (rpl (ov 0)) (tv (ox (xcall call "is_in" [xv 2, xv 1]))) (xv 2))])]
theorem she_calls_of (call : CallF) : blk (sv ⟨row_calls_of.N, consts, rows.map Row.f, call, row_calls_of.own, row_calls_of.hp⟩ 24 12) (defScope row_calls_of.st) (defBody row_calls_of.st) = sh_calls_of call := by kernel_rfl
theorem ca_calls_of {k : Nat} (ds : List D) (hd : ds.length = 2) (st : S) : callF (rows.map Row.f) consts 24 12 (k + 1) "calls_of" ds st = runS (sh_calls_of (callF (rows.map Row.f) consts 24 12 k)) 3 ds st := call_eq (r := row_calls_of) (b := sh_calls_of) rfl she_calls_of hd st
def sh_talks_of (call : CallF) : SF := blkS
  [sret (xbi "tuple" [ox (xlc [2] false [2] (rpl (ov 0)) (tand (tcmp .Eq (ox (xit (ov 2) (ox (xc (.int (2)))))) (ox (xc (.str ("talk" : Str))))) (tcmp .In (ov 1) (ox (xcut (ov 2) pn (ps (xc (.int (2)))))))) (xv 2))])]
theorem she_talks_of (call : CallF) : blk (sv ⟨row_talks_of.N, consts, rows.map Row.f, call, row_talks_of.own, row_talks_of.hp⟩ 24 12) (defScope row_talks_of.st) (defBody row_talks_of.st) = sh_talks_of call := by kernel_rfl
theorem ca_talks_of {k : Nat} (ds : List D) (hd : ds.length = 2) (st : S) : callF (rows.map Row.f) consts 24 12 (k + 1) "talks_of" ds st = runS (sh_talks_of (callF (rows.map Row.f) consts 24 12 k)) 3 ds st := call_eq (r := row_talks_of) (b := sh_talks_of) rfl she_talks_of hd st
def sh_holds_of (call : CallF) : SF := blkS
  [sret (xbi "tuple" [ox (xlc [2] false [2] (rpl (ov 0)) (tv (ox (xcall call "is_held_by" [xv 2, xv 1]))) (xv 2))])]
theorem she_holds_of (call : CallF) : blk (sv ⟨row_holds_of.N, consts, rows.map Row.f, call, row_holds_of.own, row_holds_of.hp⟩ 24 12) (defScope row_holds_of.st) (defBody row_holds_of.st) = sh_holds_of call := by kernel_rfl
theorem ca_holds_of {k : Nat} (ds : List D) (hd : ds.length = 2) (st : S) : callF (rows.map Row.f) consts 24 12 (k + 1) "holds_of" ds st = runS (sh_holds_of (callF (rows.map Row.f) consts 24 12 k)) 3 ds st := call_eq (r := row_holds_of) (b := sh_holds_of) rfl she_holds_of hd st
def sh_first_of (call : CallF) : SF := blkS
  [sret (xif (tcmp .Gt (ox (xbi "len" [ov 0])) (ox (xc (.int (0))))) (xit (ov 0) (ox (xc (.int (0))))) (xc (.none)))]
theorem she_first_of (call : CallF) : blk (sv ⟨row_first_of.N, consts, rows.map Row.f, call, row_first_of.own, row_first_of.hp⟩ 24 12) (defScope row_first_of.st) (defBody row_first_of.st) = sh_first_of call := by kernel_rfl
theorem ca_first_of {k : Nat} (ds : List D) (hd : ds.length = 1) (st : S) : callF (rows.map Row.f) consts 24 12 (k + 1) "first_of" ds st = runS (sh_first_of (callF (rows.map Row.f) consts 24 12 k)) 1 ds st := call_eq (r := row_first_of) (b := sh_first_of) rfl she_first_of hd st
def sh_shown_to (call : CallF) : SF := blkS
  [sret (xcall call "first_of" [xlc [2] false [2] (rpl (ov 0)) (tand (tcmp .Eq (ox (xit (ov 2) (ox (xc (.int (2)))))) (ox (xc (.str ("show" : Str))))) (tcmp .Eq (ox (xit (ov 2) (ox (xc (.int (1)))))) (ov 1))) (xv 2)])]
theorem she_shown_to (call : CallF) : blk (sv ⟨row_shown_to.N, consts, rows.map Row.f, call, row_shown_to.own, row_shown_to.hp⟩ 24 12) (defScope row_shown_to.st) (defBody row_shown_to.st) = sh_shown_to call := by kernel_rfl
theorem ca_shown_to {k : Nat} (ds : List D) (hd : ds.length = 2) (st : S) : callF (rows.map Row.f) consts 24 12 (k + 1) "shown_to" ds st = runS (sh_shown_to (callF (rows.map Row.f) consts 24 12 k)) 3 ds st := call_eq (r := row_shown_to) (b := sh_shown_to) rfl she_shown_to hd st
def sh_does_ring (call : CallF) : SF := blkS
  [sret (xor (xand (xcmp .Eq (ox (xit (ov 0) (ox (xc (.int (2)))))) (ox (xc (.str ("ring" : Str))))) (xcmp .Eq (ox (xit (ov 0) (ox (xc (.int (1)))))) (ov 1))) (xand (xcmp .Eq (ox (xit (ov 0) (ox (xc (.int (2)))))) (ox (xc (.str ("back" : Str))))) (xcmp .Eq (ox (xit (ov 0) (ox (xc (.int (0)))))) (ov 1))))]
theorem she_does_ring (call : CallF) : blk (sv ⟨row_does_ring.N, consts, rows.map Row.f, call, row_does_ring.own, row_does_ring.hp⟩ 24 12) (defScope row_does_ring.st) (defBody row_does_ring.st) = sh_does_ring call := by kernel_rfl
theorem ca_does_ring {k : Nat} (ds : List D) (hd : ds.length = 2) (st : S) : callF (rows.map Row.f) consts 24 12 (k + 1) "does_ring" ds st = runS (sh_does_ring (callF (rows.map Row.f) consts 24 12 k)) 2 ds st := call_eq (r := row_does_ring) (b := sh_does_ring) rfl she_does_ring hd st
def sh_rings_at (call : CallF) : SF := blkS
  [sret (xcall call "first_of" [xlc [2] false [2] (rpl (ov 0)) (tv (ox (xcall call "does_ring" [xv 2, xv 1]))) (xv 2)])]
theorem she_rings_at (call : CallF) : blk (sv ⟨row_rings_at.N, consts, rows.map Row.f, call, row_rings_at.own, row_rings_at.hp⟩ 24 12) (defScope row_rings_at.st) (defBody row_rings_at.st) = sh_rings_at call := by kernel_rfl
theorem ca_rings_at {k : Nat} (ds : List D) (hd : ds.length = 2) (st : S) : callF (rows.map Row.f) consts 24 12 (k + 1) "rings_at" ds st = runS (sh_rings_at (callF (rows.map Row.f) consts 24 12 k)) 3 ds st := call_eq (r := row_rings_at) (b := sh_rings_at) rfl she_rings_at hd st
def sh_between (call : CallF) : SF := blkS
  [sret (xcall call "first_of" [xlc [3] false [3] (rpl (ov 0)) (tcmp .In (ox (xcut (ov 3) pn (ps (xc (.int (2)))))) (ox (xtup [xtup [xv 1, xv 2], xtup [xv 2, xv 1]]))) (xv 3)])]
theorem she_between (call : CallF) : blk (sv ⟨row_between.N, consts, rows.map Row.f, call, row_between.own, row_between.hp⟩ 24 12) (defScope row_between.st) (defBody row_between.st) = sh_between call := by kernel_rfl
theorem ca_between {k : Nat} (ds : List D) (hd : ds.length = 3) (st : S) : callF (rows.map Row.f) consts 24 12 (k + 1) "between" ds st = runS (sh_between (callF (rows.map Row.f) consts 24 12 k)) 4 ds st := call_eq (r := row_between) (b := sh_between) rfl she_between hd st
def sh_has_free_hands (call : CallF) : SF := blkS
  [sret (xbi "all" [ox (xlc [2] false [2] (rpl (ox (xcall call "calls_of" [xv 0, xv 1]))) tyes (xcall call "is_held_by" [xv 2, xv 1]))])]
theorem she_has_free_hands (call : CallF) : blk (sv ⟨row_has_free_hands.N, consts, rows.map Row.f, call, row_has_free_hands.own, row_has_free_hands.hp⟩ 24 12) (defScope row_has_free_hands.st) (defBody row_has_free_hands.st) = sh_has_free_hands call := by kernel_rfl
theorem ca_has_free_hands {k : Nat} (ds : List D) (hd : ds.length = 2) (st : S) : callF (rows.map Row.f) consts 24 12 (k + 1) "has_free_hands" ds st = runS (sh_has_free_hands (callF (rows.map Row.f) consts 24 12 k)) 3 ds st := call_eq (r := row_has_free_hands) (b := sh_has_free_hands) rfl she_has_free_hands hd st
def sh_is_free (call : CallF) : SF := blkS
  [sret (xcmp .Eq (ox (xcall call "calls_of" [xv 0, xv 1])) (ox (xtup [])))]
theorem she_is_free (call : CallF) : blk (sv ⟨row_is_free.N, consts, rows.map Row.f, call, row_is_free.own, row_is_free.hp⟩ 24 12) (defScope row_is_free.st) (defBody row_is_free.st) = sh_is_free call := by kernel_rfl
theorem ca_is_free {k : Nat} (ds : List D) (hd : ds.length = 2) (st : S) : callF (rows.map Row.f) consts 24 12 (k + 1) "is_free" ds st = runS (sh_is_free (callF (rows.map Row.f) consts 24 12 k)) 2 ds st := call_eq (r := row_is_free) (b := sh_is_free) rfl she_is_free hd st
def sh_is_so (call : CallF) : SF := blkS
  [sif (tcmp .In (ov 4) (ox (xtup [xc (.str ("night" : Str)), xc (.str ("day" : Str))]))) [sret (xcmp .Eq (ov 1) (ox (xmeth (ox (xtup [xc (.str ("day" : Str)), xc (.str ("night" : Str))])) "index" [ov 4])))] [],
  sif (tcmp .In (ov 4) (ox (xtup [xc (.str ("hid" : Str)), xc (.str ("named" : Str))]))) [sret (xcmp .Eq (ov 3) (ox (xmeth (ox (xtup [xc (.str ("named" : Str)), xc (.str ("hid" : Str))])) "index" [ov 4])))] [],
  sif (tcmp .In (ov 4) (ox (xtup [xc (.str ("talk" : Str)), xc (.str ("mute" : Str))]))) [sret (xcmp .Eq (ox (xcmp .NotEq (ox (xcall call "talks_of" [xv 0, xv 2])) (ox (xtup [])))) (ox (xcmp .Eq (ov 4) (ox (xc (.str ("talk" : Str)))))))] [],
  sif (tcmp .In (ov 4) (ox (xtup [xc (.str ("held" : Str)), xc (.str ("bare" : Str))]))) [sret (xcmp .Eq (ox (xcmp .NotEq (ox (xcall call "holds_of" [xv 0, xv 2])) (ox (xtup [])))) (ox (xcmp .Eq (ov 4) (ox (xc (.str ("held" : Str)))))))] [],
  sif (tcmp .In (ov 4) (ox (xtup [xc (.str ("shown" : Str)), xc (.str ("clear" : Str))]))) [sret (xcmp .Eq (ox (xcmp .IsNot (ox (xcall call "shown_to" [xv 0, xv 2])) (ox (xc (.none))))) (ox (xcmp .Eq (ov 4) (ox (xc (.str ("shown" : Str)))))))] [],
  sret (xcmp .Eq (ox (xcall call "is_free" [xv 0, xv 2])) (ox (xcmp .Eq (ov 4) (ox (xc (.str ("idle" : Str)))))))]
theorem she_is_so (call : CallF) : blk (sv ⟨row_is_so.N, consts, rows.map Row.f, call, row_is_so.own, row_is_so.hp⟩ 24 12) (defScope row_is_so.st) (defBody row_is_so.st) = sh_is_so call := by kernel_rfl
theorem ca_is_so {k : Nat} (ds : List D) (hd : ds.length = 5) (st : S) : callF (rows.map Row.f) consts 24 12 (k + 1) "is_so" ds st = runS (sh_is_so (callF (rows.map Row.f) consts 24 12 k)) 5 ds st := call_eq (r := row_is_so) (b := sh_is_so) rfl she_is_so hd st
def sh_begun (call : CallF) : SF := blkS
  [sset 1 false false (xit (ov 0) (ox (xc (.int (1))))),
  sret (xtup [xtup [], xc (.int (0)), xbin .Mult (ox (xtup [xc (.int (0))])) (ox (xbi "len" [ov 1])), xbin .Mult (ox (xtup [xc (.int (0))])) (ox (xbi "len" [ov 1]))])]
theorem she_begun (call : CallF) : blk (sv ⟨row_begun.N, consts, rows.map Row.f, call, row_begun.own, row_begun.hp⟩ 24 12) (defScope row_begun.st) (defBody row_begun.st) = sh_begun call := by kernel_rfl
theorem ca_begun {k : Nat} (ds : List D) (hd : ds.length = 1) (st : S) : callF (rows.map Row.f) consts 24 12 (k + 1) "begun" ds st = runS (sh_begun (callF (rows.map Row.f) consts 24 12 k)) 2 ds st := call_eq (r := row_begun) (b := sh_begun) rfl she_begun hd st
def sh_other_of (call : CallF) : SF := blkS
  [sif (tcmp .Eq (ox (xit (ov 0) (ox (xc (.int (0)))))) (ov 1)) [sret (xit (ov 0) (ox (xc (.int (1)))))] [],
  sret (xit (ov 0) (ox (xc (.int (0)))))]
theorem she_other_of (call : CallF) : blk (sv ⟨row_other_of.N, consts, rows.map Row.f, call, row_other_of.own, row_other_of.hp⟩ 24 12) (defScope row_other_of.st) (defBody row_other_of.st) = sh_other_of call := by kernel_rfl
theorem ca_other_of {k : Nat} (ds : List D) (hd : ds.length = 2) (st : S) : callF (rows.map Row.f) consts 24 12 (k + 1) "other_of" ds st = runS (sh_other_of (callF (rows.map Row.f) consts 24 12 k)) 2 ds st := call_eq (r := row_other_of) (b := sh_other_of) rfl she_other_of hd st
def sh_can_also (call : CallF) : SF := blkS
  [sif (tor (tcmp .Eq (ov 1) (ov 2)) (tor (tnot (tv (ox (xcall call "is_free" [xv 0, xv 1])))) (tcmp .IsNot (ox (xcall call "between" [xv 0, xv 1, xv 2])) (ox (xc (.none)))))) [sret (xc (.bool false))] [],
  sret (xcmp .NotIn (ox (xtup [xc (.str ("also" : Str)), xv 1])) (ox (xlc [4, 5] true [4, 5] (rpl (ov 3)) tyes (xv 5))))]
theorem she_can_also (call : CallF) : blk (sv ⟨row_can_also.N, consts, rows.map Row.f, call, row_can_also.own, row_can_also.hp⟩ 24 12) (defScope row_can_also.st) (defBody row_can_also.st) = sh_can_also call := by kernel_rfl
theorem ca_can_also {k : Nat} (ds : List D) (hd : ds.length = 4) (st : S) : callF (rows.map Row.f) consts 24 12 (k + 1) "can_also" ds st = runS (sh_can_also (callF (rows.map Row.f) consts 24 12 k)) 6 ds st := call_eq (r := row_can_also) (b := sh_can_also) rfl she_can_also hd st
def sh_can_join (call : CallF) : SF := blkS
  [sset 2 false false (xlc [3] false [3] (rpl (ox (xcall call "holds_of" [xv 0, xv 1]))) tyes (xcall call "other_of" [xv 3, xv 1])),
  sret (xand (xcmp .NotEq (ox (xcall call "talks_of" [xv 0, xv 1])) (ox (xtup []))) (xbi "any" [ox (xlc [4] false [4] (rpl (ov 2)) tyes (xcmp .Eq (ox (xcall call "talks_of" [xv 0, xv 4])) (ox (xtup []))))]))]
theorem she_can_join (call : CallF) : blk (sv ⟨row_can_join.N, consts, rows.map Row.f, call, row_can_join.own, row_can_join.hp⟩ 24 12) (defScope row_can_join.st) (defBody row_can_join.st) = sh_can_join call := by kernel_rfl
theorem ca_can_join {k : Nat} (ds : List D) (hd : ds.length = 2) (st : S) : callF (rows.map Row.f) consts 24 12 (k + 1) "can_join" ds st = runS (sh_can_join (callF (rows.map Row.f) consts 24 12 k)) 5 ds st := call_eq (r := row_can_join) (b := sh_can_join) rfl she_can_join hd st
def sh_can_be_done (call : CallF) : SF := blkS
  [sif (tcmp .Eq (ox (xit (ov 3) (ox (xc (.int (0)))))) (ox (xc (.str ("also" : Str))))) [sret (xcall call "can_also" [xv 0, xit (ov 3) (ox (xc (.int (1)))), xv 2, xv 4])] [],
  sif (tcmp .Eq (ox (xit (ov 3) (ox (xc (.int (0)))))) (ox (xc (.str ("show" : Str))))) [sret (xand (xcmp .NotEq (ox (xcall call "talks_of" [xv 0, xv 1])) (ox (xtup []))) (xcmp .Is (ox (xcall call "shown_to" [xv 0, xv 1])) (ox (xc (.none)))))] [],
  sif (tcmp .Eq (ox (xit (ov 3) (ox (xc (.int (0)))))) (ox (xc (.str ("ring" : Str))))) [sret (xcall call "is_free" [xv 0, xv 1])] [],
  sif (tcmp .Eq (ox (xit (ov 3) (ox (xc (.int (0)))))) (ox (xc (.str ("swap" : Str))))) [sret (xor (xcmp .NotEq (ox (xcall call "talks_of" [xv 0, xv 1])) (ox (xtup []))) (xand (xcmp .NotEq (ox (xcall call "holds_of" [xv 0, xv 1])) (ox (xtup []))) (xcall call "has_free_hands" [xv 0, xv 1])))] [],
  sif (tcmp .Eq (ox (xit (ov 3) (ox (xc (.int (0)))))) (ox (xc (.str ("join" : Str))))) [sret (xcall call "can_join" [xv 0, xv 1])] [],
  sret (xor (xcmp .NotEq (ox (xit (ov 3) (ox (xc (.int (0)))))) (ox (xc (.str ("keep" : Str))))) (xcmp .NotEq (ox (xcall call "talks_of" [xv 0, xv 1])) (ox (xtup []))))]
theorem she_can_be_done (call : CallF) : blk (sv ⟨row_can_be_done.N, consts, rows.map Row.f, call, row_can_be_done.own, row_can_be_done.hp⟩ 24 12) (defScope row_can_be_done.st) (defBody row_can_be_done.st) = sh_can_be_done call := by kernel_rfl
theorem ca_can_be_done {k : Nat} (ds : List D) (hd : ds.length = 5) (st : S) : callF (rows.map Row.f) consts 24 12 (k + 1) "can_be_done" ds st = runS (sh_can_be_done (callF (rows.map Row.f) consts 24 12 k)) 5 ds st := call_eq (r := row_can_be_done) (b := sh_can_be_done) rfl she_can_be_done hd st
def sh_is_asked (call : CallF) : SF := blkS
  [srow [2, 3, 4, 5] (xv 1),
  sif (tcmp .Eq (ov 2) (ox (xc (.str ("free" : Str))))) [sret (xcmp .NotEq (ox (xit (ov 0) (ox (xc (.int (0)))))) (ov 4))] [],
  sret (xcmp .Eq (ox (xit (ov 0) (ox (xc (.int (0)))))) (ov 3))]
theorem she_is_asked (call : CallF) : blk (sv ⟨row_is_asked.N, consts, rows.map Row.f, call, row_is_asked.own, row_is_asked.hp⟩ 24 12) (defScope row_is_asked.st) (defBody row_is_asked.st) = sh_is_asked call := by kernel_rfl
theorem ca_is_asked {k : Nat} (ds : List D) (hd : ds.length = 2) (st : S) : callF (rows.map Row.f) consts 24 12 (k + 1) "is_asked" ds st = runS (sh_is_asked (callF (rows.map Row.f) consts 24 12 k)) 6 ds st := call_eq (r := row_is_asked) (b := sh_is_asked) rfl she_is_asked hd st
def lb_rule_for_points_1 (call : CallF) : List SF :=
  [sif (tand (tcmp .Eq (ox (xit (ov 4) (ox (xc (.int (0)))))) (ov 1)) (tand (tcmp .Eq (ox (xit (ov 4) (ox (xc (.int (1)))))) (ov 5)) (tor (tcmp .Is (ov 7) (ox (xc (.none)))) (tv (ox (xcall call "fits" [xit (ov 4) (ox (xc (.int (2)))), xv 7])))))) [sif (tv (ox (xbi "all" [ox (xlc [11] false [11] (rpl (ox (xit (ov 4) (ox (xc (.int (3))))))) tyes (xcall call "is_so" [xv 9, xv 10, xit (ov 0) (ox (xc (.int (0)))), xv 8, xv 11]))]))) [sretv 4] []] []]
def sh_rule_for_points (call : CallF) : SF := blkS
  [srow [5, 6, 7, 8] (xv 3),
  srow [9, 10] (xcut (ov 2) pn (ps (xc (.int (2))))),
  sfor false [4] (rpl (ox (xit (ov 0) (ox (xc (.int (1))))))) (lb_rule_for_points_1 call),
  sret (xc (.none))]
theorem she_rule_for_points (call : CallF) : blk (sv ⟨row_rule_for_points.N, consts, rows.map Row.f, call, row_rule_for_points.own, row_rule_for_points.hp⟩ 24 12) (defScope row_rule_for_points.st) (defBody row_rule_for_points.st) = sh_rule_for_points call := by kernel_rfl
theorem ca_rule_for_points {k : Nat} (ds : List D) (hd : ds.length = 4) (st : S) : callF (rows.map Row.f) consts 24 12 (k + 1) "rule_for_points" ds st = runS (sh_rule_for_points (callF (rows.map Row.f) consts 24 12 k)) 12 ds st := call_eq (r := row_rule_for_points) (b := sh_rule_for_points) rfl she_rule_for_points hd st
def lb_asked_1 (call : CallF) : List SF :=
  [sset 7 false false (xc (.none)),
  sif (tv (ox (xcall call "is_asked" [xv 6, xv 2]))) [sset 7 false false (xcall call "rule_for_points" [xv 6, xit (ov 3) (ov 5), xv 1, xv 2])] [],
  sif (tcmp .IsNot (ov 7) (ox (xc (.none)))) [ssub (ov 3) (xv 5) (xit (ov 7) (ox (xc (.int (5))))),
   sset 8 false false (xit (ov 7) (ox (xc (.int (4))))),
   sif (tand (tcmp .NotEq (ox (xit (ov 8) (ox (xc (.int (0)))))) (ox (xc (.str ("pass" : Str))))) (tv (ox (xcall call "can_be_done" [xit (ov 1) (ox (xc (.int (0)))), xit (ov 6) (ox (xc (.int (0)))), xit (ov 2) (ox (xc (.int (2)))), xv 8, xv 4])))) [smut (uapp (ov 4) (xtup [xv 5, xv 8])),
    sif (tcmp .NotIn (ox (xit (ov 8) (ox (xc (.int (0)))))) (ox (xc (.tuple [.str ("pass" : Str), .str ("hide" : Str), .str ("also" : Str)])))) [sret (xtup [xbi "tuple" [ov 4], xbi "tuple" [ov 3]])] []] []] []]
def sh_asked (call : CallF) : SF := blkS
  [sset 3 true false (xbi "list" [ox (xit (ov 1) (ox (xc (.int (2)))))]),
  sset 4 false true (xlist []),
  sfor true [5, 6] (ren (ox (xit (ov 0) (ox (xc (.int (1))))))) (lb_asked_1 call),
  sret (xtup [xbi "tuple" [ov 4], xbi "tuple" [ov 3]])]
theorem she_asked (call : CallF) : blk (sv ⟨row_asked.N, consts, rows.map Row.f, call, row_asked.own, row_asked.hp⟩ 24 12) (defScope row_asked.st) (defBody row_asked.st) = sh_asked call := by kernel_rfl
theorem ca_asked {k : Nat} (ds : List D) (hd : ds.length = 3) (st : S) : callF (rows.map Row.f) consts 24 12 (k + 1) "asked" ds st = runS (sh_asked (callF (rows.map Row.f) consts 24 12 k)) 9 ds st := call_eq (r := row_asked) (b := sh_asked) rfl she_asked hd st
def sh_are_fit (call : CallF) : SF := blkS
  [sret (xand (xcmp .Eq (ox (xbi "len" [ov 0])) (ox (xbi "len" [ov 1]))) (xbi "all" [ox (xlc [2, 3] true [2, 3] (rzip (ov 0) (ov 1)) tyes (xcall call "fits" [xv 2, xv 3]))]))]
theorem she_are_fit (call : CallF) : blk (sv ⟨row_are_fit.N, consts, rows.map Row.f, call, row_are_fit.own, row_are_fit.hp⟩ 24 12) (defScope row_are_fit.st) (defBody row_are_fit.st) = sh_are_fit call := by kernel_rfl
theorem ca_are_fit {k : Nat} (ds : List D) (hd : ds.length = 2) (st : S) : callF (rows.map Row.f) consts 24 12 (k + 1) "are_fit" ds st = runS (sh_are_fit (callF (rows.map Row.f) consts 24 12 k)) 4 ds st := call_eq (r := row_are_fit) (b := sh_are_fit) rfl she_are_fit hd st
def lb_rule_for_1 (call : CallF) : List SF :=
  [sif (tand (tcmp .Eq (ox (xit (ov 5) (ox (xc (.int (0)))))) (ov 1)) (tand (tcmp .Eq (ox (xit (ov 5) (ox (xc (.int (1)))))) (ov 6)) (tv (ox (xcall call "are_fit" [xit (ov 5) (ox (xc (.int (2)))), xv 7]))))) [sif (tv (ox (xbi "all" [ox (xlc [9] false [9] (rpl (ox (xit (ov 5) (ox (xc (.int (3))))))) tyes (xcall call "is_so" [xv 2, xv 3, xit (ov 0) (ox (xc (.int (0)))), xv 8, xv 9]))]))) [sretv 5] []] []]
def sh_rule_for (call : CallF) : SF := blkS
  [srow [6, 7, 8] (xv 4),
  sfor false [5] (rpl (ox (xit (ov 0) (ox (xc (.int (2))))))) (lb_rule_for_1 call),
  sret (xc (.none))]
theorem she_rule_for (call : CallF) : blk (sv ⟨row_rule_for.N, consts, rows.map Row.f, call, row_rule_for.own, row_rule_for.hp⟩ 24 12) (defScope row_rule_for.st) (defBody row_rule_for.st) = sh_rule_for call := by kernel_rfl
theorem ca_rule_for {k : Nat} (ds : List D) (hd : ds.length = 5) (st : S) : callF (rows.map Row.f) consts 24 12 (k + 1) "rule_for" ds st = runS (sh_rule_for (callF (rows.map Row.f) consts 24 12 k)) 10 ds st := call_eq (r := row_rule_for) (b := sh_rule_for) rfl she_rule_for hd st
def lb_rule_for_tales_1 (call : CallF) : List SF :=
  [sif (tand (tcmp .Eq (ox (xit (ov 5) (ox (xc (.int (0)))))) (ov 1)) (tand (tcmp .Eq (ox (xit (ov 5) (ox (xc (.int (1)))))) (ov 6)) (tv (ox (xcall call "are_fit" [xit (ov 5) (ox (xc (.int (2)))), xv 7]))))) [sif (tv (ox (xbi "all" [ox (xlc [9] false [9] (rpl (ox (xit (ov 5) (ox (xc (.int (3))))))) tyes (xcall call "is_so" [xv 2, xv 3, xit (ov 0) (ox (xc (.int (0)))), xv 8, xv 9]))]))) [sretv 5] []] []]
def sh_rule_for_tales (call : CallF) : SF := blkS
  [srow [6, 7, 8] (xv 4),
  sfor false [5] (rpl (ox (xit (ov 0) (ox (xc (.int (2))))))) (lb_rule_for_tales_1 call),
  sret (xc (.none))]
theorem she_rule_for_tales (call : CallF) : blk (sv ⟨row_rule_for_tales.N, consts, rows.map Row.f, call, row_rule_for_tales.own, row_rule_for_tales.hp⟩ 24 12) (defScope row_rule_for_tales.st) (defBody row_rule_for_tales.st) = sh_rule_for_tales call := by kernel_rfl
theorem ca_rule_for_tales {k : Nat} (ds : List D) (hd : ds.length = 5) (st : S) : callF (rows.map Row.f) consts 24 12 (k + 1) "rule_for_tales" ds st = runS (sh_rule_for_tales (callF (rows.map Row.f) consts 24 12 k)) 10 ds st := call_eq (r := row_rule_for_tales) (b := sh_rule_for_tales) rfl she_rule_for_tales hd st
def sh_led_on (call : CallF) : SF := blkS
  [sif (tcmp .Is (ov 1) (ox (xc (.none)))) [sret (xc (.none))] [],
  sset 5 false false (xcall call "rule_for_tales" [xv 0, xv 1, xv 2, xv 3, xv 4]),
  sif (tcmp .Is (ov 5) (ox (xc (.none)))) [sretv 1] [],
  sret (xit (ov 5) (ox (xc (.int (4)))))]
theorem she_led_on (call : CallF) : blk (sv ⟨row_led_on.N, consts, rows.map Row.f, call, row_led_on.own, row_led_on.hp⟩ 24 12) (defScope row_led_on.st) (defBody row_led_on.st) = sh_led_on call := by kernel_rfl
theorem ca_led_on {k : Nat} (ds : List D) (hd : ds.length = 5) (st : S) : callF (rows.map Row.f) consts 24 12 (k + 1) "led_on" ds st = runS (sh_led_on (callF (rows.map Row.f) consts 24 12 k)) 6 ds st := call_eq (r := row_led_on) (b := sh_led_on) rfl she_led_on hd st
def sh_told_on (call : CallF) : SF := blkS
  [sret (xbi "tuple" [ox (xlc [5, 6] true [5, 6] (rzip (ox (xit (ov 0) (ox (xc (.int (1)))))) (ov 1)) tyes (xcall call "led_on" [xv 5, xv 6, xv 2, xv 3, xv 4]))])]
theorem she_told_on (call : CallF) : blk (sv ⟨row_told_on.N, consts, rows.map Row.f, call, row_told_on.own, row_told_on.hp⟩ 24 12) (defScope row_told_on.st) (defBody row_told_on.st) = sh_told_on call := by kernel_rfl
theorem ca_told_on {k : Nat} (ds : List D) (hd : ds.length = 5) (st : S) : callF (rows.map Row.f) consts 24 12 (k + 1) "told_on" ds st = runS (sh_told_on (callF (rows.map Row.f) consts 24 12 k)) 7 ds st := call_eq (r := row_told_on) (b := sh_told_on) rfl she_told_on hd st
def sh_held_by (call : CallF) : SF := blkS
  [sif (tcmp .Eq (ox (xit (ov 0) (ox (xc (.int (0)))))) (ov 1)) [sret (xbin .Add (ox (xcut (ov 0) pn (ps (xc (.int (2)))))) (ox (xtup [xc (.str ("hold0" : Str)), xit (ov 0) (ox (xc (.int (3))))])))] [],
  sret (xbin .Add (ox (xcut (ov 0) pn (ps (xc (.int (2)))))) (ox (xtup [xc (.str ("hold1" : Str)), xit (ov 0) (ox (xc (.int (3))))])))]
theorem she_held_by (call : CallF) : blk (sv ⟨row_held_by.N, consts, rows.map Row.f, call, row_held_by.own, row_held_by.hp⟩ 24 12) (defScope row_held_by.st) (defBody row_held_by.st) = sh_held_by call := by kernel_rfl
theorem ca_held_by {k : Nat} (ds : List D) (hd : ds.length = 2) (st : S) : callF (rows.map Row.f) consts 24 12 (k + 1) "held_by" ds st = runS (sh_held_by (callF (rows.map Row.f) consts 24 12 k)) 2 ds st := call_eq (r := row_held_by) (b := sh_held_by) rfl she_held_by hd st
def sh_comes_to (call : CallF) : SF := blkS
  [sif (tcmp .Eq (ox (xit (ov 0) (ox (xc (.int (2)))))) (ox (xc (.str ("back" : Str))))) [sret (xcmp .Eq (ox (xit (ov 0) (ox (xc (.int (0)))))) (ov 1))] [],
  sret (xand (xcmp .Eq (ox (xit (ov 0) (ox (xc (.int (1)))))) (ov 1)) (xcmp .In (ox (xit (ov 0) (ox (xc (.int (2)))))) (ox (xtup [xc (.str ("ring" : Str)), xc (.str ("show" : Str))]))))]
theorem she_comes_to (call : CallF) : blk (sv ⟨row_comes_to.N, consts, rows.map Row.f, call, row_comes_to.own, row_comes_to.hp⟩ 24 12) (defScope row_comes_to.st) (defBody row_comes_to.st) = sh_comes_to call := by kernel_rfl
theorem ca_comes_to {k : Nat} (ds : List D) (hd : ds.length = 2) (st : S) : callF (rows.map Row.f) consts 24 12 (k + 1) "comes_to" ds st = runS (sh_comes_to (callF (rows.map Row.f) consts 24 12 k)) 2 ds st := call_eq (r := row_comes_to) (b := sh_comes_to) rfl she_comes_to hd st
def sh_Walk___init__ (call : CallF) : SF := blkS
  [satt (xv 0) "house" (xv 1),
  srowA [.at_ (xv 0) "calls", .at_ (xv 0) "night", .at_ (xv 0) "minds", .at_ (xv 0) "tales"] (xv 2),
  satt (xv 0) "events" (xlist [])]
theorem she_Walk___init__ (call : CallF) : blk (sv ⟨row_Walk___init__.N, consts, rows.map Row.f, call, row_Walk___init__.own, row_Walk___init__.hp⟩ 24 12) (defScope row_Walk___init__.st) (defBody row_Walk___init__.st) = sh_Walk___init__ call := by kernel_rfl
theorem ca_Walk___init__ {k : Nat} (ds : List D) (hd : ds.length = 3) (st : S) : callF (rows.map Row.f) consts 24 12 (k + 1) "Walk.__init__" ds st = runS (sh_Walk___init__ (callF (rows.map Row.f) consts 24 12 k)) 3 ds st := call_eq (r := row_Walk___init__) (b := sh_Walk___init__) rfl she_Walk___init__ hd st
def sh_Walk_scene (call : CallF) : SF := blkS
  [sret (xtup [xfld (xv 0) "calls", xfld (xv 0) "night", xfld (xv 0) "minds", xfld (xv 0) "tales"])]
theorem she_Walk_scene (call : CallF) : blk (sv ⟨row_Walk_scene.N, consts, rows.map Row.f, call, row_Walk_scene.own, row_Walk_scene.hp⟩ 24 12) (defScope row_Walk_scene.st) (defBody row_Walk_scene.st) = sh_Walk_scene call := by kernel_rfl
theorem ca_Walk_scene {k : Nat} (ds : List D) (hd : ds.length = 1) (st : S) : callF (rows.map Row.f) consts 24 12 (k + 1) "Walk.scene" ds st = runS (sh_Walk_scene (callF (rows.map Row.f) consts 24 12 k)) 1 ds st := call_eq (r := row_Walk_scene) (b := sh_Walk_scene) rfl she_Walk_scene hd st
def sh_Walk_tell (call : CallF) : SF := blkS
  [sset 4 false false (xtup [xv 1, xv 2, xv 3]),
  smut (uapp (ox (xfld (xv 0) "events")) (xv 4)),
  satt (xv 0) "tales" (xcall call "told_on" [xfld (xv 0) "house", xfld (xv 0) "tales", xfld (xv 0) "calls", xfld (xv 0) "night", xv 4])]
theorem she_Walk_tell (call : CallF) : blk (sv ⟨row_Walk_tell.N, consts, rows.map Row.f, call, row_Walk_tell.own, row_Walk_tell.hp⟩ 24 12) (defScope row_Walk_tell.st) (defBody row_Walk_tell.st) = sh_Walk_tell call := by kernel_rfl
theorem ca_Walk_tell {k : Nat} (ds : List D) (hd : ds.length = 4) (st : S) : callF (rows.map Row.f) consts 24 12 (k + 1) "Walk.tell" ds st = runS (sh_Walk_tell (callF (rows.map Row.f) consts 24 12 k)) 5 ds st := call_eq (r := row_Walk_tell) (b := sh_Walk_tell) rfl she_Walk_tell hd st
def sh_Walk_ask (call : CallF) : SF := blkS
  [srowA [.nm 5, .at_ (xv 0) "minds"] (xcall call "asked" [xfld (xv 0) "house", xmcall call (xv 0) "scene" "Walk.scene" [], xtup [xv 1, xv 2, xv 3, xv 4]]),
  sretv 5]
theorem she_Walk_ask (call : CallF) : blk (sv ⟨row_Walk_ask.N, consts, rows.map Row.f, call, row_Walk_ask.own, row_Walk_ask.hp⟩ 24 12) (defScope row_Walk_ask.st) (defBody row_Walk_ask.st) = sh_Walk_ask call := by kernel_rfl
theorem ca_Walk_ask {k : Nat} (ds : List D) (hd : ds.length = 5) (st : S) : callF (rows.map Row.f) consts 24 12 (k + 1) "Walk.ask" ds st = runS (sh_Walk_ask (callF (rows.map Row.f) consts 24 12 k)) 6 ds st := call_eq (r := row_Walk_ask) (b := sh_Walk_ask) rfl she_Walk_ask hd st
def sh_Walk_put (call : CallF) : SF := blkS
  [satt (xv 0) "calls" (xbi "tuple" [ox (xbi "sorted" [ox (xbin .Add (ox (xfld (xv 0) "calls")) (ox (xtup [xv 1])))])])]
theorem she_Walk_put (call : CallF) : blk (sv ⟨row_Walk_put.N, consts, rows.map Row.f, call, row_Walk_put.own, row_Walk_put.hp⟩ 24 12) (defScope row_Walk_put.st) (defBody row_Walk_put.st) = sh_Walk_put call := by kernel_rfl
theorem ca_Walk_put {k : Nat} (ds : List D) (hd : ds.length = 2) (st : S) : callF (rows.map Row.f) consts 24 12 (k + 1) "Walk.put" ds st = runS (sh_Walk_put (callF (rows.map Row.f) consts 24 12 k)) 2 ds st := call_eq (r := row_Walk_put) (b := sh_Walk_put) rfl she_Walk_put hd st
def sh_Walk_take_out (call : CallF) : SF := blkS
  [satt (xv 0) "calls" (xbi "tuple" [ox (xlc [2] false [2] (rpl (ox (xfld (xv 0) "calls"))) (tcmp .NotEq (ov 2) (ov 1)) (xv 2))])]
theorem she_Walk_take_out (call : CallF) : blk (sv ⟨row_Walk_take_out.N, consts, rows.map Row.f, call, row_Walk_take_out.own, row_Walk_take_out.hp⟩ 24 12) (defScope row_Walk_take_out.st) (defBody row_Walk_take_out.st) = sh_Walk_take_out call := by kernel_rfl
theorem ca_Walk_take_out {k : Nat} (ds : List D) (hd : ds.length = 2) (st : S) : callF (rows.map Row.f) consts 24 12 (k + 1) "Walk.take_out" ds st = runS (sh_Walk_take_out (callF (rows.map Row.f) consts 24 12 k)) 3 ds st := call_eq (r := row_Walk_take_out) (b := sh_Walk_take_out) rfl she_Walk_take_out hd st
def sh_Walk_put_for (call : CallF) : SF := blkS
  [sset 3 false false (xbin .Add (ox (xcut (ov 1) pn (ps (xc (.int (2)))))) (ox (xtup [xv 2, xit (ov 1) (ox (xc (.int (3))))]))),
  sex (xmcall call (xv 0) "take_out" "Walk.take_out" [xv 1]),
  sex (xmcall call (xv 0) "put" "Walk.put" [xv 3]),
  sretv 3]
theorem she_Walk_put_for (call : CallF) : blk (sv ⟨row_Walk_put_for.N, consts, rows.map Row.f, call, row_Walk_put_for.own, row_Walk_put_for.hp⟩ 24 12) (defScope row_Walk_put_for.st) (defBody row_Walk_put_for.st) = sh_Walk_put_for call := by kernel_rfl
theorem ca_Walk_put_for {k : Nat} (ds : List D) (hd : ds.length = 3) (st : S) : callF (rows.map Row.f) consts 24 12 (k + 1) "Walk.put_for" ds st = runS (sh_Walk_put_for (callF (rows.map Row.f) consts 24 12 k)) 4 ds st := call_eq (r := row_Walk_put_for) (b := sh_Walk_put_for) rfl she_Walk_put_for hd st
def lb_Walk_end_1 (call : CallF) : List SF :=
  [sex (xmcall call (xv 0) "take_out" "Walk.take_out" [xv 2]),
  sex (xmcall call (xv 0) "tell" "Walk.tell" [xc (.str ("ends" : Str)), xcut (ov 2) pn (ps (xc (.int (2)))), xc (.int (0))])]
def sh_Walk_end (call : CallF) : SF := blkS
  [sfor false [2] (rpl (ov 1)) (lb_Walk_end_1 call)]
theorem she_Walk_end (call : CallF) : blk (sv ⟨row_Walk_end.N, consts, rows.map Row.f, call, row_Walk_end.own, row_Walk_end.hp⟩ 24 12) (defScope row_Walk_end.st) (defBody row_Walk_end.st) = sh_Walk_end call := by kernel_rfl
theorem ca_Walk_end {k : Nat} (ds : List D) (hd : ds.length = 2) (st : S) : callF (rows.map Row.f) consts 24 12 (k + 1) "Walk.end" ds st = runS (sh_Walk_end (callF (rows.map Row.f) consts 24 12 k)) 3 ds st := call_eq (r := row_Walk_end) (b := sh_Walk_end) rfl she_Walk_end hd st
def sh_Walk_busy_at (call : CallF) : SF := blkS
  [sex (xmcall call (xv 0) "put" "Walk.put" [xtup [xv 1, xv 2, xc (.str ("busy" : Str)), xv 3]]),
  sex (xmcall call (xv 0) "tell" "Walk.tell" [xc (.str ("busy" : Str)), xtup [xv 1, xv 2], xv 3]),
  sex (xmcall call (xv 0) "ask" "Walk.ask" [xc (.str ("met" : Str)), xv 1, xv 2, xv 3])]
theorem she_Walk_busy_at (call : CallF) : blk (sv ⟨row_Walk_busy_at.N, consts, rows.map Row.f, call, row_Walk_busy_at.own, row_Walk_busy_at.hp⟩ 24 12) (defScope row_Walk_busy_at.st) (defBody row_Walk_busy_at.st) = sh_Walk_busy_at call := by kernel_rfl
theorem ca_Walk_busy_at {k : Nat} (ds : List D) (hd : ds.length = 4) (st : S) : callF (rows.map Row.f) consts 24 12 (k + 1) "Walk.busy_at" ds st = runS (sh_Walk_busy_at (callF (rows.map Row.f) consts 24 12 k)) 4 ds st := call_eq (r := row_Walk_busy_at) (b := sh_Walk_busy_at) rfl she_Walk_busy_at hd st
def sh_Walk_shut_out (call : CallF) : SF := blkS
  [sex (xmcall call (xv 0) "put" "Walk.put" [xtup [xv 1, xv 2, xc (.str ("shut" : Str)), xv 3]]),
  sex (xmcall call (xv 0) "tell" "Walk.tell" [xc (.str ("shut" : Str)), xtup [xv 1, xv 2], xv 3])]
theorem she_Walk_shut_out (call : CallF) : blk (sv ⟨row_Walk_shut_out.N, consts, rows.map Row.f, call, row_Walk_shut_out.own, row_Walk_shut_out.hp⟩ 24 12) (defScope row_Walk_shut_out.st) (defBody row_Walk_shut_out.st) = sh_Walk_shut_out call := by kernel_rfl
theorem ca_Walk_shut_out {k : Nat} (ds : List D) (hd : ds.length = 4) (st : S) : callF (rows.map Row.f) consts 24 12 (k + 1) "Walk.shut_out" ds st = runS (sh_Walk_shut_out (callF (rows.map Row.f) consts 24 12 k)) 4 ds st := call_eq (r := row_Walk_shut_out) (b := sh_Walk_shut_out) rfl she_Walk_shut_out hd st
def sh_Walk_send_on (call : CallF) : SF := blkS
  [sex (xmcall call (xv 0) "tell" "Walk.tell" [xc (.str ("sent" : Str)), xtup [xv 1, xv 2, xv 3], xv 4]),
  sif (tor (tcmp .Eq (ov 3) (ov 1)) (tor (tcmp .In (ov 3) (ov 5)) (tcmp .IsNot (ox (xcall call "between" [xfld (xv 0) "calls", xv 1, xv 3])) (ox (xc (.none)))))) [sex (xmcall call (xv 0) "busy_at" "Walk.busy_at" [xv 1, xv 2, xv 4])] [sex (xmcall call (xv 0) "come" "Walk.come" [xv 1, xv 3, xv 4, xbin .Add (ov 5) (ox (xtup [xv 2]))])]]
theorem she_Walk_send_on (call : CallF) : blk (sv ⟨row_Walk_send_on.N, consts, rows.map Row.f, call, row_Walk_send_on.own, row_Walk_send_on.hp⟩ 24 12) (defScope row_Walk_send_on.st) (defBody row_Walk_send_on.st) = sh_Walk_send_on call := by kernel_rfl
theorem ca_Walk_send_on {k : Nat} (ds : List D) (hd : ds.length = 6) (st : S) : callF (rows.map Row.f) consts 24 12 (k + 1) "Walk.send_on" ds st = runS (sh_Walk_send_on (callF (rows.map Row.f) consts 24 12 k)) 6 ds st := call_eq (r := row_Walk_send_on) (b := sh_Walk_send_on) rfl she_Walk_send_on hd st
def lb_Walk_decided_1 (call : CallF) : List SF :=
  [sif (tcmp .Eq (ox (xit (ov 7) (ox (xc (.int (0)))))) (ox (xc (.str ("also" : Str))))) [sex (xmcall call (xv 0) "put" "Walk.put" [xtup [xv 1, xit (ov 7) (ox (xc (.int (1)))), xc (.str ("ring" : Str)), xv 3]]),
   sex (xmcall call (xv 0) "tell" "Walk.tell" [xc (.str ("rings" : Str)), xtup [xv 1, xit (ov 7) (ox (xc (.int (1))))], xv 3])] [],
  sif (tcmp .Eq (ox (xit (ov 7) (ox (xc (.int (0)))))) (ox (xc (.str ("shut" : Str))))) [sex (xmcall call (xv 0) "shut_out" "Walk.shut_out" [xv 1, xv 2, xv 3]),
   sret (xc (.bool true))] [],
  sif (tcmp .Eq (ox (xit (ov 7) (ox (xc (.int (0)))))) (ox (xc (.str ("send" : Str))))) [sex (xmcall call (xv 0) "send_on" "Walk.send_on" [xv 1, xv 2, xit (ov 7) (ox (xc (.int (1)))), xv 3, xv 4]),
   sret (xc (.bool true))] [],
  sif (tcmp .Eq (ox (xit (ov 7) (ox (xc (.int (0)))))) (ox (xc (.str ("show" : Str))))) [sex (xmcall call (xv 0) "put" "Walk.put" [xtup [xv 1, xv 2, xc (.str ("show" : Str)), xv 3]]),
   sex (xmcall call (xv 0) "tell" "Walk.tell" [xc (.str ("shows" : Str)), xtup [xv 1, xv 2], xv 3]),
   sret (xc (.bool true))] []]
def sh_Walk_decided (call : CallF) : SF := blkS
  [sfor true [6, 7] (rpl (ov 5)) (lb_Walk_decided_1 call),
  sret (xc (.bool false))]
theorem she_Walk_decided (call : CallF) : blk (sv ⟨row_Walk_decided.N, consts, rows.map Row.f, call, row_Walk_decided.own, row_Walk_decided.hp⟩ 24 12) (defScope row_Walk_decided.st) (defBody row_Walk_decided.st) = sh_Walk_decided call := by kernel_rfl
theorem ca_Walk_decided {k : Nat} (ds : List D) (hd : ds.length = 6) (st : S) : callF (rows.map Row.f) consts 24 12 (k + 1) "Walk.decided" ds st = runS (sh_Walk_decided (callF (rows.map Row.f) consts 24 12 k)) 8 ds st := call_eq (r := row_Walk_decided) (b := sh_Walk_decided) rfl she_Walk_decided hd st
def sh_Walk_come (call : CallF) : SF := blkS
  [sex (xmcall call (xv 0) "tell" "Walk.tell" [xc (.str ("comes" : Str)), xtup [xv 1, xv 2], xv 3]),
  sif (tv (ox (xmcall call (xv 0) "decided" "Walk.decided" [xv 1, xv 2, xv 3, xv 4, xmcall call (xv 0) "ask" "Walk.ask" [xc (.str ("in" : Str)), xv 2, xv 1, xv 3]]))) [sret0] [],
  sif (tv (ox (xcall call "is_free" [xfld (xv 0) "calls", xv 2]))) [sex (xmcall call (xv 0) "put" "Walk.put" [xtup [xv 1, xv 2, xc (.str ("ring" : Str)), xv 3]]),
   sex (xmcall call (xv 0) "tell" "Walk.tell" [xc (.str ("rings" : Str)), xtup [xv 1, xv 2], xv 3])] [sif (tnot (tv (ox (xmcall call (xv 0) "decided" "Walk.decided" [xv 1, xv 2, xv 3, xv 4, xmcall call (xv 0) "ask" "Walk.ask" [xc (.str ("full" : Str)), xv 2, xv 1, xv 3]])))) [sex (xmcall call (xv 0) "busy_at" "Walk.busy_at" [xv 1, xv 2, xv 3])] []]]
theorem she_Walk_come (call : CallF) : blk (sv ⟨row_Walk_come.N, consts, rows.map Row.f, call, row_Walk_come.own, row_Walk_come.hp⟩ 24 12) (defScope row_Walk_come.st) (defBody row_Walk_come.st) = sh_Walk_come call := by kernel_rfl
theorem ca_Walk_come {k : Nat} (ds : List D) (hd : ds.length = 5) (st : S) : callF (rows.map Row.f) consts 24 12 (k + 1) "Walk.come" ds st = runS (sh_Walk_come (callF (rows.map Row.f) consts 24 12 k)) 5 ds st := call_eq (r := row_Walk_come) (b := sh_Walk_come) rfl she_Walk_come hd st
def lb_Walk_go_out_1 (call : CallF) : List SF :=
  [sif (tcmp .Eq (ox (xit (ov 5) (ox (xc (.int (0)))))) (ox (xc (.str ("bar" : Str))))) [sex (xmcall call (xv 0) "shut_out" "Walk.shut_out" [xv 1, xv 2, xv 3]),
   sret0] [],
  sset 3 false false (xc (.int (1)))]
def sh_Walk_go_out (call : CallF) : SF := blkS
  [sset 3 false false (xc (.int (0))),
  sfor true [4, 5] (rpl (ox (xmcall call (xv 0) "ask" "Walk.ask" [xc (.str ("out" : Str)), xv 1, xv 2, xc (.int (0))]))) (lb_Walk_go_out_1 call),
  sex (xmcall call (xv 0) "come" "Walk.come" [xv 1, xv 2, xv 3, xtup []])]
theorem she_Walk_go_out (call : CallF) : blk (sv ⟨row_Walk_go_out.N, consts, rows.map Row.f, call, row_Walk_go_out.own, row_Walk_go_out.hp⟩ 24 12) (defScope row_Walk_go_out.st) (defBody row_Walk_go_out.st) = sh_Walk_go_out call := by kernel_rfl
theorem ca_Walk_go_out {k : Nat} (ds : List D) (hd : ds.length = 3) (st : S) : callF (rows.map Row.f) consts 24 12 (k + 1) "Walk.go_out" ds st = runS (sh_Walk_go_out (callF (rows.map Row.f) consts 24 12 k)) 6 ds st := call_eq (r := row_Walk_go_out) (b := sh_Walk_go_out) rfl she_Walk_go_out hd st
def sh_Walk_dial (call : CallF) : SF := blkS
  [sif (tand (tv (ox (xcall call "has_free_hands" [xfld (xv 0) "calls", xv 1]))) (tcmp .Is (ox (xcall call "between" [xfld (xv 0) "calls", xv 1, xv 2])) (ox (xc (.none))))) [sex (xmcall call (xv 0) "go_out" "Walk.go_out" [xv 1, xv 2])] []]
theorem she_Walk_dial (call : CallF) : blk (sv ⟨row_Walk_dial.N, consts, rows.map Row.f, call, row_Walk_dial.own, row_Walk_dial.hp⟩ 24 12) (defScope row_Walk_dial.st) (defBody row_Walk_dial.st) = sh_Walk_dial call := by kernel_rfl
theorem ca_Walk_dial {k : Nat} (ds : List D) (hd : ds.length = 3) (st : S) : callF (rows.map Row.f) consts 24 12 (k + 1) "Walk.dial" ds st = runS (sh_Walk_dial (callF (rows.map Row.f) consts 24 12 k)) 3 ds st := call_eq (r := row_Walk_dial) (b := sh_Walk_dial) rfl she_Walk_dial hd st
def sh_Walk_talk_on (call : CallF) : SF := blkS
  [sset 2 false false (xmcall call (xv 0) "put_for" "Walk.put_for" [xv 1, xc (.str ("talk" : Str))]),
  sex (xmcall call (xv 0) "tell" "Walk.tell" [xc (.str ("talks" : Str)), xcut (ov 2) pn (ps (xc (.int (2)))), xit (ov 2) (ox (xc (.int (3))))]),
  sset 3 false false (xlc [4] false [4] (rpl (ox (xcall call "calls_of" [xfld (xv 0) "calls", xit (ov 1) (ox (xc (.int (0))))]))) (tand (tcmp .Eq (ox (xit (ov 4) (ox (xc (.int (0)))))) (ox (xit (ov 1) (ox (xc (.int (0))))))) (tcmp .In (ox (xit (ov 4) (ox (xc (.int (2)))))) (ox (xc (.tuple [.str ("ring" : Str), .str ("show" : Str), .str ("busy" : Str), .str ("shut" : Str)]))))) (xv 4)),
  sex (xmcall call (xv 0) "end" "Walk.end" [xv 3])]
theorem she_Walk_talk_on (call : CallF) : blk (sv ⟨row_Walk_talk_on.N, consts, rows.map Row.f, call, row_Walk_talk_on.own, row_Walk_talk_on.hp⟩ 24 12) (defScope row_Walk_talk_on.st) (defBody row_Walk_talk_on.st) = sh_Walk_talk_on call := by kernel_rfl
theorem ca_Walk_talk_on {k : Nat} (ds : List D) (hd : ds.length = 2) (st : S) : callF (rows.map Row.f) consts 24 12 (k + 1) "Walk.talk_on" ds st = runS (sh_Walk_talk_on (callF (rows.map Row.f) consts 24 12 k)) 5 ds st := call_eq (r := row_Walk_talk_on) (b := sh_Walk_talk_on) rfl she_Walk_talk_on hd st
def sh_Walk_take (call : CallF) : SF := blkS
  [sset 2 false false (xcall call "rings_at" [xfld (xv 0) "calls", xv 1]),
  sif (tor (tcmp .Is (ov 2) (ox (xc (.none)))) (tcmp .NotEq (ox (xcall call "talks_of" [xfld (xv 0) "calls", xv 1])) (ox (xtup [])))) [sret0] [],
  sif (tcmp .Eq (ox (xit (ov 2) (ox (xc (.int (2)))))) (ox (xc (.str ("back" : Str))))) [sex (xmcall call (xv 0) "take_out" "Walk.take_out" [xv 2]),
   sex (xmcall call (xv 0) "go_out" "Walk.go_out" [xv 1, xit (ov 2) (ox (xc (.int (1))))])] [sex (xmcall call (xv 0) "talk_on" "Walk.talk_on" [xv 2])]]
theorem she_Walk_take (call : CallF) : blk (sv ⟨row_Walk_take.N, consts, rows.map Row.f, call, row_Walk_take.own, row_Walk_take.hp⟩ 24 12) (defScope row_Walk_take.st) (defBody row_Walk_take.st) = sh_Walk_take call := by kernel_rfl
theorem ca_Walk_take {k : Nat} (ds : List D) (hd : ds.length = 2) (st : S) : callF (rows.map Row.f) consts 24 12 (k + 1) "Walk.take" ds st = runS (sh_Walk_take (callF (rows.map Row.f) consts 24 12 k)) 3 ds st := call_eq (r := row_Walk_take) (b := sh_Walk_take) rfl she_Walk_take hd st
def lb_Walk_hold_1 (call : CallF) : List SF :=
  [sex (xmcall call (xv 0) "take_out" "Walk.take_out" [xv 2]),
  sex (xmcall call (xv 0) "put" "Walk.put" [xcall call "held_by" [xv 2, xv 1]]),
  sex (xmcall call (xv 0) "tell" "Walk.tell" [xc (.str ("holds" : Str)), xtup [xv 1, xcall call "other_of" [xv 2, xv 1]], xc (.int (0))])]
def sh_Walk_hold (call : CallF) : SF := blkS
  [sfor false [2] (rpl (ox (xcall call "talks_of" [xfld (xv 0) "calls", xv 1]))) (lb_Walk_hold_1 call)]
theorem she_Walk_hold (call : CallF) : blk (sv ⟨row_Walk_hold.N, consts, rows.map Row.f, call, row_Walk_hold.own, row_Walk_hold.hp⟩ 24 12) (defScope row_Walk_hold.st) (defBody row_Walk_hold.st) = sh_Walk_hold call := by kernel_rfl
theorem ca_Walk_hold {k : Nat} (ds : List D) (hd : ds.length = 2) (st : S) : callF (rows.map Row.f) consts 24 12 (k + 1) "Walk.hold" ds st = runS (sh_Walk_hold (callF (rows.map Row.f) consts 24 12 k)) 3 ds st := call_eq (r := row_Walk_hold) (b := sh_Walk_hold) rfl she_Walk_hold hd st
def sh_Walk_drop (call : CallF) : SF := blkS
  [sset 2 false false (xcmp .Gt (ox (xbi "len" [ox (xmcall call (xv 0) "ask" "Walk.ask" [xc (.str ("drop" : Str)), xv 1, xc (.none), xc (.int (0))])])) (ox (xc (.int (0))))),
  sif (tv (ov 2)) [sex (xmcall call (xv 0) "hold" "Walk.hold" [xv 1])] [],
  sset 3 true false (xlc [4] false [4] (rpl (ox (xcall call "calls_of" [xfld (xv 0) "calls", xv 1]))) (tv (ox (xcall call "comes_to" [xv 4, xv 1]))) (xv 4)),
  sif (tv (ov 2)) [smut (uext (ov 3) (ox (xcall call "holds_of" [xfld (xv 0) "calls", xv 1])))] [],
  sex (xmcall call (xv 0) "end" "Walk.end" [xlc [4] false [4] (rpl (ox (xcall call "calls_of" [xfld (xv 0) "calls", xv 1]))) (tcmp .NotIn (ov 4) (ov 3)) (xv 4)])]
theorem she_Walk_drop (call : CallF) : blk (sv ⟨row_Walk_drop.N, consts, rows.map Row.f, call, row_Walk_drop.own, row_Walk_drop.hp⟩ 24 12) (defScope row_Walk_drop.st) (defBody row_Walk_drop.st) = sh_Walk_drop call := by kernel_rfl
theorem ca_Walk_drop {k : Nat} (ds : List D) (hd : ds.length = 2) (st : S) : callF (rows.map Row.f) consts 24 12 (k + 1) "Walk.drop" ds st = runS (sh_Walk_drop (callF (rows.map Row.f) consts 24 12 k)) 5 ds st := call_eq (r := row_Walk_drop) (b := sh_Walk_drop) rfl she_Walk_drop hd st
def sh_Walk_take_up_again (call : CallF) : SF := blkS
  [sset 3 false false (xcall call "shown_to" [xfld (xv 0) "calls", xv 1]),
  sif (tcmp .IsNot (ov 3) (ox (xc (.none)))) [sex (xmcall call (xv 0) "talk_on" "Walk.talk_on" [xv 3]),
   sret0] [],
  sset 4 false false (xlc [5] false [5] (rpl (ov 2)) (tcmp .Eq (ox (xcall call "talks_of" [xfld (xv 0) "calls", xcall call "other_of" [xv 5, xv 1]])) (ox (xtup []))) (xv 5)),
  sif (tcmp .NotEq (ov 4) (ox (xlist []))) [sex (xmcall call (xv 0) "tell" "Walk.tell" [xc (.str ("talks" : Str)), xcut (ox (xit (ov 4) (ox (xc (.int (0)))))) pn (ps (xc (.int (2)))), xit (ox (xmcall call (xv 0) "put_for" "Walk.put_for" [xit (ov 4) (ox (xc (.int (0)))), xc (.str ("talk" : Str))])) (ox (xc (.int (3))))])] []]
theorem she_Walk_take_up_again (call : CallF) : blk (sv ⟨row_Walk_take_up_again.N, consts, rows.map Row.f, call, row_Walk_take_up_again.own, row_Walk_take_up_again.hp⟩ 24 12) (defScope row_Walk_take_up_again.st) (defBody row_Walk_take_up_again.st) = sh_Walk_take_up_again call := by kernel_rfl
theorem ca_Walk_take_up_again {k : Nat} (ds : List D) (hd : ds.length = 3) (st : S) : callF (rows.map Row.f) consts 24 12 (k + 1) "Walk.take_up_again" ds st = runS (sh_Walk_take_up_again (callF (rows.map Row.f) consts 24 12 k)) 6 ds st := call_eq (r := row_Walk_take_up_again) (b := sh_Walk_take_up_again) rfl she_Walk_take_up_again hd st
def lb_Walk_flash_1 (call : CallF) : List SF :=
  [sif (tcmp .Eq (ox (xcall call "talks_of" [xfld (xv 0) "calls", xcall call "other_of" [xv 5, xv 1]])) (ox (xtup []))) [sex (xmcall call (xv 0) "tell" "Walk.tell" [xc (.str ("talks" : Str)), xcut (ov 5) pn (ps (xc (.int (2)))), xit (ox (xmcall call (xv 0) "put_for" "Walk.put_for" [xv 5, xc (.str ("talk" : Str))])) (ox (xc (.int (3))))])] []]
def lb_Walk_flash_2 (call : CallF) : List SF :=
  [sset 4 false false (xcall call "holds_of" [xfld (xv 0) "calls", xv 1]),
  sif (tcmp .Eq (ox (xit (ov 3) (ox (xc (.int (0)))))) (ox (xc (.str ("swap" : Str))))) [sex (xmcall call (xv 0) "hold" "Walk.hold" [xv 1]),
   sex (xmcall call (xv 0) "take_up_again" "Walk.take_up_again" [xv 1, xv 4])] [sfor false [5] (rpl (ov 4)) (lb_Walk_flash_1 call),
   sex (xmcall call (xv 0) "tell" "Walk.tell" [xc (.str ("joins" : Str)), xtup [xv 1], xc (.int (0))])]]
def sh_Walk_flash (call : CallF) : SF := blkS
  [sfor true [2, 3] (rpl (ox (xmcall call (xv 0) "ask" "Walk.ask" [xc (.str ("flash" : Str)), xv 1, xc (.none), xc (.int (0))]))) (lb_Walk_flash_2 call)]
theorem she_Walk_flash (call : CallF) : blk (sv ⟨row_Walk_flash.N, consts, rows.map Row.f, call, row_Walk_flash.own, row_Walk_flash.hp⟩ 24 12) (defScope row_Walk_flash.st) (defBody row_Walk_flash.st) = sh_Walk_flash call := by kernel_rfl
theorem ca_Walk_flash {k : Nat} (ds : List D) (hd : ds.length = 2) (st : S) : callF (rows.map Row.f) consts 24 12 (k + 1) "Walk.flash" ds st = runS (sh_Walk_flash (callF (rows.map Row.f) consts 24 12 k)) 6 ds st := call_eq (r := row_Walk_flash) (b := sh_Walk_flash) rfl she_Walk_flash hd st
def lb_Walk_ring_long_1 (call : CallF) : List SF :=
  [sif (tcmp .Eq (ox (xit (ov 7) (ox (xc (.int (0)))))) (ox (xc (.str ("shut" : Str))))) [sex (xmcall call (xv 0) "put_for" "Walk.put_for" [xv 1, xc (.str ("shut" : Str))]),
   sex (xmcall call (xv 0) "tell" "Walk.tell" [xc (.str ("shut" : Str)), xtup [xv 2, xv 3], xv 5])] [sex (xmcall call (xv 0) "take_out" "Walk.take_out" [xv 1]),
   sex (xmcall call (xv 0) "send_on" "Walk.send_on" [xv 2, xv 3, xit (ov 7) (ox (xc (.int (1)))), xv 5, xtup []])]]
def sh_Walk_ring_long (call : CallF) : SF := blkS
  [srow [2, 3, 4, 5] (xv 1),
  sex (xmcall call (xv 0) "tell" "Walk.tell" [xc (.str ("waits" : Str)), xtup [xv 2, xv 3], xv 5]),
  sfor true [6, 7] (rpl (ox (xmcall call (xv 0) "ask" "Walk.ask" [xc (.str ("long" : Str)), xv 3, xv 2, xv 5]))) (lb_Walk_ring_long_1 call)]
theorem she_Walk_ring_long (call : CallF) : blk (sv ⟨row_Walk_ring_long.N, consts, rows.map Row.f, call, row_Walk_ring_long.own, row_Walk_ring_long.hp⟩ 24 12) (defScope row_Walk_ring_long.st) (defBody row_Walk_ring_long.st) = sh_Walk_ring_long call := by kernel_rfl
theorem ca_Walk_ring_long {k : Nat} (ds : List D) (hd : ds.length = 2) (st : S) : callF (rows.map Row.f) consts 24 12 (k + 1) "Walk.ring_long" ds st = runS (sh_Walk_ring_long (callF (rows.map Row.f) consts 24 12 k)) 8 ds st := call_eq (r := row_Walk_ring_long) (b := sh_Walk_ring_long) rfl she_Walk_ring_long hd st
def lb_Walk_wait_1 (call : CallF) : List SF :=
  [sif (tcmp .In (ov 2) (ox (xfld (xv 0) "calls"))) [sex (xmcall call (xv 0) "ring_long" "Walk.ring_long" [xv 2])] []]
def sh_Walk_wait (call : CallF) : SF := blkS
  [sset 1 false false (xlc [2] false [2] (rpl (ox (xfld (xv 0) "calls"))) (tcmp .Eq (ox (xit (ov 2) (ox (xc (.int (2)))))) (ox (xc (.str ("back" : Str))))) (xv 2)),
  sfor false [2] (rpl (ox (xlc [2] false [2] (rpl (ox (xfld (xv 0) "calls"))) (tcmp .Eq (ox (xit (ov 2) (ox (xc (.int (2)))))) (ox (xc (.str ("ring" : Str))))) (xv 2)))) (lb_Walk_wait_1 call),
  sex (xmcall call (xv 0) "end" "Walk.end" [xv 1])]
theorem she_Walk_wait (call : CallF) : blk (sv ⟨row_Walk_wait.N, consts, rows.map Row.f, call, row_Walk_wait.own, row_Walk_wait.hp⟩ 24 12) (defScope row_Walk_wait.st) (defBody row_Walk_wait.st) = sh_Walk_wait call := by kernel_rfl
theorem ca_Walk_wait {k : Nat} (ds : List D) (hd : ds.length = 1) (st : S) : callF (rows.map Row.f) consts 24 12 (k + 1) "Walk.wait" ds st = runS (sh_Walk_wait (callF (rows.map Row.f) consts 24 12 k)) 3 ds st := call_eq (r := row_Walk_wait) (b := sh_Walk_wait) rfl she_Walk_wait hd st
def sh_Walk_turn (call : CallF) : SF := blkS
  [satt (xv 0) "night" (xbin .Sub (ox (xc (.int (1)))) (ox (xfld (xv 0) "night"))),
  sex (xmcall call (xv 0) "tell" "Walk.tell" [xit (ox (xtup [xc (.str ("day" : Str)), xc (.str ("night" : Str))])) (ox (xfld (xv 0) "night")), xtup [], xc (.int (0))])]
theorem she_Walk_turn (call : CallF) : blk (sv ⟨row_Walk_turn.N, consts, rows.map Row.f, call, row_Walk_turn.own, row_Walk_turn.hp⟩ 24 12) (defScope row_Walk_turn.st) (defBody row_Walk_turn.st) = sh_Walk_turn call := by kernel_rfl
theorem ca_Walk_turn {k : Nat} (ds : List D) (hd : ds.length = 1) (st : S) : callF (rows.map Row.f) consts 24 12 (k + 1) "Walk.turn" ds st = runS (sh_Walk_turn (callF (rows.map Row.f) consts 24 12 k)) 1 ds st := call_eq (r := row_Walk_turn) (b := sh_Walk_turn) rfl she_Walk_turn hd st
def lb_Walk_settle_1 (call : CallF) : List SF :=
  [sif (tand (tcmp .Eq (ox (xcall call "talks_of" [xfld (xv 0) "calls", xit (ov 2) (ox (xc (.int (1))))])) (ox (xtup []))) (tcmp .Is (ox (xcall call "rings_at" [xfld (xv 0) "calls", xit (ov 2) (ox (xc (.int (1))))])) (ox (xc (.none))))) [sset 4 false false (xmcall call (xv 0) "put_for" "Walk.put_for" [xv 2, xc (.str ("ring" : Str))]),
   sex (xmcall call (xv 0) "tell" "Walk.tell" [xc (.str ("rings" : Str)), xcut (ov 4) pn (ps (xc (.int (2)))), xit (ov 4) (ox (xc (.int (3))))])] []]
def lb_Walk_settle_2 (call : CallF) : List SF :=
  [sset 7 false false (xit (ox (xit (ox (xit (ox (xfld (xv 0) "house")) (ox (xc (.int (1)))))) (ov 5))) (ox (xc (.int (0))))),
  sex (xmcall call (xv 0) "put" "Walk.put" [xtup [xv 7, xv 3, xc (.str ("back" : Str)), xc (.int (0))]]),
  sex (xmcall call (xv 0) "tell" "Walk.tell" [xc (.str ("backs" : Str)), xtup [xv 7, xv 3], xc (.int (0))])]
def lb_Walk_settle_3 (call : CallF) : List SF :=
  [sif (tv (ox (xcall call "is_free" [xfld (xv 0) "calls", xv 3]))) [sex (xmcall call (xv 0) "tell" "Walk.tell" [xc (.str ("frees" : Str)), xtup [xv 3], xc (.int (0))]),
   sfor true [5, 6] (rpl (ox (xmcall call (xv 0) "ask" "Walk.ask" [xc (.str ("free" : Str)), xc (.none), xv 3, xc (.int (0))]))) (lb_Walk_settle_2 call)] []]
def sh_Walk_settle (call : CallF) : SF := blkS
  [sfor false [2] (rpl (ox (xlc [2] false [2] (rpl (ox (xfld (xv 0) "calls"))) (tcmp .Eq (ox (xit (ov 2) (ox (xc (.int (2)))))) (ox (xc (.str ("show" : Str))))) (xv 2)))) (lb_Walk_settle_1 call),
  sfor false [3] (rpl (ov 1)) (lb_Walk_settle_3 call)]
theorem she_Walk_settle (call : CallF) : blk (sv ⟨row_Walk_settle.N, consts, rows.map Row.f, call, row_Walk_settle.own, row_Walk_settle.hp⟩ 24 12) (defScope row_Walk_settle.st) (defBody row_Walk_settle.st) = sh_Walk_settle call := by kernel_rfl
theorem ca_Walk_settle {k : Nat} (ds : List D) (hd : ds.length = 2) (st : S) : callF (rows.map Row.f) consts 24 12 (k + 1) "Walk.settle" ds st = runS (sh_Walk_settle (callF (rows.map Row.f) consts 24 12 k)) 8 ds st := call_eq (r := row_Walk_settle) (b := sh_Walk_settle) rfl she_Walk_settle hd st
def sh_Walk_do (call : CallF) : SF := blkS
  [sif (tcmp .Eq (ox (xit (ov 1) (ox (xc (.int (0)))))) (ox (xc (.str ("dial" : Str))))) [sex (xmcall call (xv 0) "dial" "Walk.dial" [xit (ov 1) (ox (xc (.int (1)))), xit (ov 1) (ox (xc (.int (2))))])] [sif (tcmp .Eq (ox (xit (ov 1) (ox (xc (.int (0)))))) (ox (xc (.str ("take" : Str))))) [sex (xmcall call (xv 0) "take" "Walk.take" [xit (ov 1) (ox (xc (.int (1))))])] [sif (tcmp .Eq (ox (xit (ov 1) (ox (xc (.int (0)))))) (ox (xc (.str ("drop" : Str))))) [sex (xmcall call (xv 0) "drop" "Walk.drop" [xit (ov 1) (ox (xc (.int (1))))])] [sif (tcmp .Eq (ox (xit (ov 1) (ox (xc (.int (0)))))) (ox (xc (.str ("flash" : Str))))) [sex (xmcall call (xv 0) "flash" "Walk.flash" [xit (ov 1) (ox (xc (.int (1))))])] [sif (tcmp .Eq (ox (xit (ov 1) (ox (xc (.int (0)))))) (ox (xc (.str ("wait" : Str))))) [sex (xmcall call (xv 0) "wait" "Walk.wait" [])] [sex (xmcall call (xv 0) "turn" "Walk.turn" [])]]]]]]
theorem she_Walk_do (call : CallF) : blk (sv ⟨row_Walk_do.N, consts, rows.map Row.f, call, row_Walk_do.own, row_Walk_do.hp⟩ 24 12) (defScope row_Walk_do.st) (defBody row_Walk_do.st) = sh_Walk_do call := by kernel_rfl
theorem ca_Walk_do {k : Nat} (ds : List D) (hd : ds.length = 2) (st : S) : callF (rows.map Row.f) consts 24 12 (k + 1) "Walk.do" ds st = runS (sh_Walk_do (callF (rows.map Row.f) consts 24 12 k)) 2 ds st := call_eq (r := row_Walk_do) (b := sh_Walk_do) rfl she_Walk_do hd st
def sh_stepped (call : CallF) : SF := blkS
  [sset 3 false false (xmake call [xv 0, xv 1]),
  sset 4 false false (xlc [5] false [5] (rr1 (xit (ov 0) (ox (xc (.int (0)))))) (tnot (tv (ox (xcall call "is_free" [xit (ov 1) (ox (xc (.int (0)))), xv 5])))) (xv 5)),
  sex (xmcall call (xv 3) "tell" "Walk.tell" [xit (ov 2) (ox (xc (.int (0)))), xcut (ov 2) (ps (xc (.int (1)))) pn, xc (.int (0))]),
  sex (xmcall call (xv 3) "do" "Walk.do" [xv 2]),
  sex (xmcall call (xv 3) "settle" "Walk.settle" [xv 4]),
  sex (xmcall call (xv 3) "tell" "Walk.tell" [xc (.str ("done" : Str)), xtup [], xc (.int (0))]),
  sret (xtup [xmcall call (xv 3) "scene" "Walk.scene" [], xbi "tuple" [ox (xfld (xv 3) "events")]])]
theorem she_stepped (call : CallF) : blk (sv ⟨row_stepped.N, consts, rows.map Row.f, call, row_stepped.own, row_stepped.hp⟩ 24 12) (defScope row_stepped.st) (defBody row_stepped.st) = sh_stepped call := by kernel_rfl
theorem ca_stepped {k : Nat} (ds : List D) (hd : ds.length = 3) (st : S) : callF (rows.map Row.f) consts 24 12 (k + 1) "stepped" ds st = runS (sh_stepped (callF (rows.map Row.f) consts 24 12 k)) 6 ds st := call_eq (r := row_stepped) (b := sh_stepped) rfl she_stepped hd st
def lb_ran_1 (call : CallF) : List SF :=
  [srow [2, 5] (xcall call "stepped" [xv 0, xv 2, xv 4]),
  smut (uapp (ov 3) (xv 5))]
def sh_ran (call : CallF) : SF := blkS
  [sset 2 false false (xcall call "begun" [xv 0]),
  sset 3 true false (xlist []),
  sfor false [4] (rpl (ov 1)) (lb_ran_1 call),
  sret (xtup [xv 2, xbi "tuple" [ov 3]])]
theorem she_ran (call : CallF) : blk (sv ⟨row_ran.N, consts, rows.map Row.f, call, row_ran.own, row_ran.hp⟩ 24 12) (defScope row_ran.st) (defBody row_ran.st) = sh_ran call := by kernel_rfl
theorem ca_ran {k : Nat} (ds : List D) (hd : ds.length = 2) (st : S) : callF (rows.map Row.f) consts 24 12 (k + 1) "ran" ds st = runS (sh_ran (callF (rows.map Row.f) consts 24 12 k)) 6 ds st := call_eq (r := row_ran) (b := sh_ran) rfl she_ran hd st
def sh_broken (call : CallF) : SF := blkS
  [sret (xbi "tuple" [ox (xlc [1, 2] true [1, 2] (ren (ox (xit (ov 0) (ox (xc (.int (3))))))) (tcmp .Is (ov 2) (ox (xc (.none)))) (xv 1))])]
theorem she_broken (call : CallF) : blk (sv ⟨row_broken.N, consts, rows.map Row.f, call, row_broken.own, row_broken.hp⟩ 24 12) (defScope row_broken.st) (defBody row_broken.st) = sh_broken call := by kernel_rfl
theorem ca_broken {k : Nat} (ds : List D) (hd : ds.length = 1) (st : S) : callF (rows.map Row.f) consts 24 12 (k + 1) "broken" ds st = runS (sh_broken (callF (rows.map Row.f) consts 24 12 k)) 3 ds st := call_eq (r := row_broken) (b := sh_broken) rfl she_broken hd st
def lb_law_hand_1 (call : CallF) : List SF :=
  [ssub (ov 1) (xc (.int (0))) (xbin .Add (ox (xit (ov 1) (ox (xc (.int (0)))))) (ox (xbin .Mult (ox (xbin .Mod (ox (xbi "abs" [ov 3])) (ox (xbin .Pow (ox (xc (.int (10)))) (ox (xc (.int (60)))))))) (ov 2)))),
  sset 2 false false (xbin .Mult (ov 2) (ox (xbin .Pow (ox (xc (.int (10)))) (ox (xc (.int (60)))))))]
def lb_law_hand_2 (call : CallF) : List SF :=
  [sset 5 false false (xbin .Add (ox (xbin .Add (ox (xbin .Mod (ov 3) (ox (xc (.int (2305843009213693951)))))) (ox (xbin .Mult (ox (xc (.int (7919)))) (ov 4))))) (ox (xc (.int (3))))),
  ssub (ov 1) (xc (.int (1))) (xbin .Mod (ox (xbin .Add (ox (xbin .Mult (ox (xit (ov 1) (ox (xc (.int (1)))))) (ox (xc (.int (48271)))))) (ov 5))) (ox (xc (.int (2305843009213693951)))))]
def sh_law_hand (call : CallF) : SF := blkS
  [sset 1 true false (xlist [xc (.int (0)), xc (.int (0)), xc (.int (0))]),
  sif (tand (tcmp .Gt (ox (xbi "len" [ov 0])) (ox (xc (.int (0))))) (tcmp .GtE (ox (xit (ov 0) (ox (xc (.int (0)))))) (ox (xbin .Pow (ox (xc (.int (10)))) (ox (xc (.int (18)))))))) [sset 2 false false (xc (.int (1))),
   sfor false [3] (rpl (ox (xcut (ov 0) pn (ps (xc (.int (63))))))) (lb_law_hand_1 call)] [],
  sfor true [4, 3] (ren (ox (xcut (ov 0) pn (ps (xc (.int (63))))))) (lb_law_hand_2 call),
  sretv 1]
theorem she_law_hand (call : CallF) : blk (sv ⟨row_law_hand.N, consts, rows.map Row.f, call, row_law_hand.own, row_law_hand.hp⟩ 24 12) (defScope row_law_hand.st) (defBody row_law_hand.st) = sh_law_hand call := by kernel_rfl
theorem ca_law_hand {k : Nat} (ds : List D) (hd : ds.length = 1) (st : S) : callF (rows.map Row.f) consts 24 12 (k + 1) "_law_hand" ds st = runS (sh_law_hand (callF (rows.map Row.f) consts 24 12 k)) 6 ds st := call_eq (r := row_law_hand) (b := sh_law_hand) rfl she_law_hand hd st
def sh_law_take (call : CallF) : SF := blkS
  [sif (tcmp .Gt (ox (xit (ov 0) (ox (xc (.int (0)))))) (ox (xc (.int (0))))) [sset 3 false false (xbin .Mod (ox (xit (ov 0) (ox (xc (.int (0)))))) (ov 1)),
   ssub (ov 0) (xc (.int (0))) (xbin .FloorDiv (ox (xit (ov 0) (ox (xc (.int (0)))))) (ov 1)),
   sretv 3] [],
  ssub (ov 0) (xc (.int (2))) (xbin .Add (ox (xit (ov 0) (ox (xc (.int (2)))))) (ox (xc (.int (1))))),
  sset 2 false false (xbin .Mod (ox (xbin .Mult (ox (xbin .Add (ox (xbin .Add (ox (xit (ov 0) (ox (xc (.int (1)))))) (ox (xbin .Mult (ox (xbin .Mult (ox (xc (.int (65537)))) (ox (xit (ov 0) (ox (xc (.int (2)))))))) (ox (xit (ov 0) (ox (xc (.int (2)))))))))) (ox (xc (.int (11)))))) (ox (xc (.int (48271)))))) (ox (xc (.int (2305843009213693921))))),
  sset 2 false false (xbin .Mod (ox (xbin .Mult (ov 2) (ox (xbin .Add (ox (xbin .Mod (ov 2) (ox (xc (.int (1000003)))))) (ox (xbin .Mult (ox (xc (.int (99991)))) (ox (xit (ov 0) (ox (xc (.int (2)))))))))))) (ox (xc (.int (2305843009213693907))))),
  sret (xbin .Mod (ox (xbin .Add (ox (xbin .FloorDiv (ov 2) (ox (xc (.int (97)))))) (ox (xbin .FloorDiv (ov 2) (ox (xc (.int (1000033)))))))) (ov 1))]
theorem she_law_take (call : CallF) : blk (sv ⟨row_law_take.N, consts, rows.map Row.f, call, row_law_take.own, row_law_take.hp⟩ 24 12) (defScope row_law_take.st) (defBody row_law_take.st) = sh_law_take call := by kernel_rfl
theorem ca_law_take {k : Nat} (ds : List D) (hd : ds.length = 2) (st : S) : callF (rows.map Row.f) consts 24 12 (k + 1) "_law_take" ds st = runS (sh_law_take (callF (rows.map Row.f) consts 24 12 k)) 4 ds st := call_eq (r := row_law_take) (b := sh_law_take) rfl she_law_take hd st
def lb_law_calls_1 (call : CallF) : List SF :=
  [sif (tcmp .Gt (ox (xcall call "_law_take" [xv 0, xc (.int (3))])) (ox (xc (.int (0))))) [sset 6 false false (xit (ox (xlist [xtup [xv 5, xv 4], xtup [xv 4, xv 5]])) (ox (xcall call "_law_take" [xv 0, xc (.int (2))]))),
   smut (uapp (ov 3) (xbin .Add (ov 6) (ox (xtup [xit (ov 2) (ox (xcall call "_law_take" [xv 0, xc (.int (8))])), xcall call "_law_take" [xv 0, xc (.int (2))]]))))] []]
def lb_law_calls_2 (call : CallF) : List SF :=
  [sfor false [5] (rr1 (xv 4)) (lb_law_calls_1 call)]
def sh_law_calls (call : CallF) : SF := blkS
  [sset 2 false false (xlist [xc (.str ("ring" : Str)), xc (.str ("show" : Str)), xc (.str ("talk" : Str)), xc (.str ("hold0" : Str)), xc (.str ("hold1" : Str)), xc (.str ("busy" : Str)), xc (.str ("shut" : Str)), xc (.str ("back" : Str))]),
  sset 3 true false (xlist []),
  sfor false [4] (rr1 (xv 1)) (lb_law_calls_2 call),
  sret (xbi "tuple" [ox (xbi "sorted" [ov 3])])]
theorem she_law_calls (call : CallF) : blk (sv ⟨row_law_calls.N, consts, rows.map Row.f, call, row_law_calls.own, row_law_calls.hp⟩ 24 12) (defScope row_law_calls.st) (defBody row_law_calls.st) = sh_law_calls call := by kernel_rfl
theorem ca_law_calls {k : Nat} (ds : List D) (hd : ds.length = 2) (st : S) : callF (rows.map Row.f) consts 24 12 (k + 1) "_law_calls" ds st = runS (sh_law_calls (callF (rows.map Row.f) consts 24 12 k)) 7 ds st := call_eq (r := row_law_calls) (b := sh_law_calls) rfl she_law_calls hd st
def sh_law_pattern (call : CallF) : SF := blkS
  [sif (tcmp .Eq (ox (xcall call "_law_take" [xv 0, xc (.int (2))])) (ox (xc (.int (0))))) [sret (xc (.none))] [],
  sset 2 false false (xcall call "_law_take" [xv 0, xv 1]),
  sret (xbi "tuple" [ox (xlc [3] false [3] (rr1 (xv 1)) (tor (tcmp .Eq (ov 3) (ov 2)) (tcmp .Eq (ox (xcall call "_law_take" [xv 0, xc (.int (3))])) (ox (xc (.int (0)))))) (xv 3))])]
theorem she_law_pattern (call : CallF) : blk (sv ⟨row_law_pattern.N, consts, rows.map Row.f, call, row_law_pattern.own, row_law_pattern.hp⟩ 24 12) (defScope row_law_pattern.st) (defBody row_law_pattern.st) = sh_law_pattern call := by kernel_rfl
theorem ca_law_pattern {k : Nat} (ds : List D) (hd : ds.length = 2) (st : S) : callF (rows.map Row.f) consts 24 12 (k + 1) "_law_pattern" ds st = runS (sh_law_pattern (callF (rows.map Row.f) consts 24 12 k)) 4 ds st := call_eq (r := row_law_pattern) (b := sh_law_pattern) rfl she_law_pattern hd st
def sh_law_tests (call : CallF) : SF := blkS
  [sset 1 false false (xlist [xc (.str ("night" : Str)), xc (.str ("day" : Str)), xc (.str ("talk" : Str)), xc (.str ("mute" : Str)), xc (.str ("held" : Str)), xc (.str ("bare" : Str)), xc (.str ("shown" : Str)), xc (.str ("clear" : Str)), xc (.str ("idle" : Str)), xc (.str ("used" : Str)), xc (.str ("hid" : Str)), xc (.str ("named" : Str))]),
  sset 2 false false (xit (ox (xlist [xc (.int (0)), xc (.int (0)), xc (.int (0)), xc (.int (1)), xc (.int (1)), xc (.int (1)), xc (.int (2)), xc (.int (3))])) (ox (xcall call "_law_take" [xv 0, xc (.int (8))]))),
  sset 3 false false (xlc [4] false [4] (rr1 (xv 2)) tyes (xit (ov 1) (ox (xcall call "_law_take" [xv 0, xc (.int (12))])))),
  sret (xbi "tuple" [ox (xlc [5] false [5] (rpl (ov 1)) (tcmp .In (ov 5) (ov 3)) (xv 5))])]
theorem she_law_tests (call : CallF) : blk (sv ⟨row_law_tests.N, consts, rows.map Row.f, call, row_law_tests.own, row_law_tests.hp⟩ 24 12) (defScope row_law_tests.st) (defBody row_law_tests.st) = sh_law_tests call := by kernel_rfl
theorem ca_law_tests {k : Nat} (ds : List D) (hd : ds.length = 1) (st : S) : callF (rows.map Row.f) consts 24 12 (k + 1) "_law_tests" ds st = runS (sh_law_tests (callF (rows.map Row.f) consts 24 12 k)) 6 ds st := call_eq (r := row_law_tests) (b := sh_law_tests) rfl she_law_tests hd st
def sh_law_words (call : CallF) : SF := blkS
  [sset 0 false false (xlist [xc (.str ("comes" : Str)), xc (.str ("rings" : Str)), xc (.str ("shows" : Str)), xc (.str ("busy" : Str)), xc (.str ("shut" : Str)), xc (.str ("talks" : Str)), xc (.str ("ends" : Str)), xc (.str ("waits" : Str)), xc (.str ("holds" : Str)), xc (.str ("backs" : Str)), xc (.str ("dial" : Str))]),
  sset 1 false false (xbin .Add (ox (xlc [2] false [2] (rpl (ov 0)) tyes (xtup [xv 2, xc (.int (2))]))) (ox (xlist [xtup [xc (.str ("sent" : Str)), xc (.int (3))]]))),
  sset 1 false false (xbin .Add (ov 1) (ox (xlc [2] false [2] (rpl (ox (xlist [xc (.str ("take" : Str)), xc (.str ("drop" : Str)), xc (.str ("flash" : Str)), xc (.str ("joins" : Str)), xc (.str ("frees" : Str))]))) tyes (xtup [xv 2, xc (.int (1))])))),
  sret (xbin .Add (ov 1) (ox (xlc [2] false [2] (rpl (ox (xlist [xc (.str ("wait" : Str)), xc (.str ("turn" : Str)), xc (.str ("night" : Str)), xc (.str ("day" : Str)), xc (.str ("done" : Str))]))) tyes (xtup [xv 2, xc (.int (0))]))))]
theorem she_law_words (call : CallF) : blk (sv ⟨row_law_words.N, consts, rows.map Row.f, call, row_law_words.own, row_law_words.hp⟩ 24 12) (defScope row_law_words.st) (defBody row_law_words.st) = sh_law_words call := by kernel_rfl
theorem ca_law_words {k : Nat} (ds : List D) (hd : ds.length = 0) (st : S) : callF (rows.map Row.f) consts 24 12 (k + 1) "_law_words" ds st = runS (sh_law_words (callF (rows.map Row.f) consts 24 12 k)) 3 ds st := call_eq (r := row_law_words) (b := sh_law_words) rfl she_law_words hd st
def sh_law_tale_rule (call : CallF) : SF := blkS
  [sset 3 false false (xcall call "_law_words" []),
  srow [6, 7] (xit (ov 3) (ox (xit (ox (xlist [xcall call "_law_take" [xv 0, xc (.int (22))], xc (.int (0)), xc (.int (1)), xc (.int (5))])) (ox (xcall call "_law_take" [xv 0, xc (.int (4))]))))),
  sset 4 false false (xbi "tuple" [ox (xlc [8] false [8] (rr1 (xv 7)) tyes (xcall call "_law_pattern" [xv 0, xv 1]))]),
  sset 5 false false (xit (ox (xlist [xc (.none), xc (.int (0)), xbin .Mod (ox (xc (.int (1)))) (ov 2), xcall call "_law_take" [xv 0, xv 2], xcall call "_law_take" [xv 0, xv 2]])) (ox (xcall call "_law_take" [xv 0, xc (.int (5))]))),
  sret (xtup [xcall call "_law_take" [xv 0, xv 2], xv 6, xv 4, xcall call "_law_tests" [xv 0], xv 5])]
theorem she_law_tale_rule (call : CallF) : blk (sv ⟨row_law_tale_rule.N, consts, rows.map Row.f, call, row_law_tale_rule.own, row_law_tale_rule.hp⟩ 24 12) (defScope row_law_tale_rule.st) (defBody row_law_tale_rule.st) = sh_law_tale_rule call := by kernel_rfl
theorem ca_law_tale_rule {k : Nat} (ds : List D) (hd : ds.length = 3) (st : S) : callF (rows.map Row.f) consts 24 12 (k + 1) "_law_tale_rule" ds st = runS (sh_law_tale_rule (callF (rows.map Row.f) consts 24 12 k)) 9 ds st := call_eq (r := row_law_tale_rule) (b := sh_law_tale_rule) rfl she_law_tale_rule hd st
def sh_law_far (call : CallF) : SF := blkS
  [sret (xbin .Mod (ox (xbin .Add (ox (xbin .Add (ov 2) (ox (xc (.int (1)))))) (ox (xcall call "_law_take" [xv 0, xbin .Sub (ov 1) (ox (xc (.int (1))))])))) (ov 1))]
theorem she_law_far (call : CallF) : blk (sv ⟨row_law_far.N, consts, rows.map Row.f, call, row_law_far.own, row_law_far.hp⟩ 24 12) (defScope row_law_far.st) (defBody row_law_far.st) = sh_law_far call := by kernel_rfl
theorem ca_law_far {k : Nat} (ds : List D) (hd : ds.length = 3) (st : S) : callF (rows.map Row.f) consts 24 12 (k + 1) "_law_far" ds st = runS (sh_law_far (callF (rows.map Row.f) consts 24 12 k)) 3 ds st := call_eq (r := row_law_far) (b := sh_law_far) rfl she_law_far hd st
def sh_law_rule (call : CallF) : SF := blkS
  [sset 4 false false (xlist [xc (.str ("in" : Str)), xc (.str ("full" : Str)), xc (.str ("in" : Str)), xc (.str ("flash" : Str)), xc (.str ("out" : Str)), xc (.str ("met" : Str)), xc (.str ("long" : Str)), xc (.str ("drop" : Str)), xc (.str ("free" : Str)), xc (.str ("flash" : Str)), xc (.str ("full" : Str)), xc (.str ("long" : Str))]),
  sset 5 false false (xit (ov 4) (ox (xcall call "_law_take" [xv 0, xc (.int (12))]))),
  sset 6 true false (xdict [(xc (.str ("out" : Str)), xlist [xc (.str ("bar" : Str)), xc (.str ("hide" : Str))]), (xc (.str ("in" : Str)), xlist [xc (.str ("shut" : Str)), xc (.str ("send" : Str)), xc (.str ("also" : Str))]), (xc (.str ("full" : Str)), xlist [xc (.str ("shut" : Str)), xc (.str ("send" : Str)), xc (.str ("show" : Str))]), (xc (.str ("met" : Str)), xlist [])]),
  smut (uupd (ov 6) (ox (xdict [(xc (.str ("long" : Str)), xlist [xc (.str ("shut" : Str)), xc (.str ("send" : Str))]), (xc (.str ("flash" : Str)), xlist [xc (.str ("swap" : Str)), xc (.str ("join" : Str))]), (xc (.str ("drop" : Str)), xlist [xc (.str ("keep" : Str))]), (xc (.str ("free" : Str)), xlist [xc (.str ("ring" : Str))])]))),
  sset 7 false false (xbin .Add (ox (xbin .Add (ox (xit (ov 6) (ov 5))) (ox (xit (ov 6) (ov 5))))) (ox (xlist [xc (.str ("pass" : Str))]))),
  sset 8 false false (xtup [xit (ov 7) (ox (xcall call "_law_take" [xv 0, xbi "len" [ov 7]]))]),
  sif (tcmp .In (ox (xit (ov 8) (ox (xc (.int (0)))))) (ox (xtup [xc (.str ("send" : Str)), xc (.str ("also" : Str))]))) [sset 8 false false (xbin .Add (ov 8) (ox (xtup [xcall call "_law_far" [xv 0, xv 1, xv 2]])))] [],
  sset 9 false false (xcall call "_law_pattern" [xv 0, xv 1]),
  sif (tcmp .In (ov 5) (ox (xtup [xc (.str ("flash" : Str)), xc (.str ("drop" : Str))]))) [sset 9 false false (xc (.none))] [],
  sret (xtup [xcall call "_law_take" [xv 0, xv 3], xv 5, xv 9, xcall call "_law_tests" [xv 0], xv 8, xcall call "_law_take" [xv 0, xv 3]])]
theorem she_law_rule (call : CallF) : blk (sv ⟨row_law_rule.N, consts, rows.map Row.f, call, row_law_rule.own, row_law_rule.hp⟩ 24 12) (defScope row_law_rule.st) (defBody row_law_rule.st) = sh_law_rule call := by kernel_rfl
theorem ca_law_rule {k : Nat} (ds : List D) (hd : ds.length = 4) (st : S) : callF (rows.map Row.f) consts 24 12 (k + 1) "_law_rule" ds st = runS (sh_law_rule (callF (rows.map Row.f) consts 24 12 k)) 10 ds st := call_eq (r := row_law_rule) (b := sh_law_rule) rfl she_law_rule hd st
def lb_law_deeds_1 (call : CallF) : List SF :=
  [smut (uext (ov 1) (ox (xlc [4] false [4] (rr1 (xv 0)) (tcmp .NotEq (ov 4) (ov 2)) (xtup [xc (.str ("dial" : Str)), xv 2, xv 4]))))]
def lb_law_deeds_2 (call : CallF) : List SF :=
  [smut (uext (ov 1) (ox (xlc [2] false [2] (rr1 (xv 0)) tyes (xtup [xv 3, xv 2]))))]
def sh_law_deeds (call : CallF) : SF := blkS
  [sset 1 true false (xlist []),
  sfor false [2] (rr1 (xv 0)) (lb_law_deeds_1 call),
  sfor false [3] (rpl (ox (xtup [xc (.str ("take" : Str)), xc (.str ("drop" : Str)), xc (.str ("flash" : Str))]))) (lb_law_deeds_2 call),
  sret (xbin .Add (ov 1) (ox (xlist [xtup [xc (.str ("wait" : Str))], xtup [xc (.str ("turn" : Str))]])))]
theorem she_law_deeds (call : CallF) : blk (sv ⟨row_law_deeds.N, consts, rows.map Row.f, call, row_law_deeds.own, row_law_deeds.hp⟩ 24 12) (defScope row_law_deeds.st) (defBody row_law_deeds.st) = sh_law_deeds call := by kernel_rfl
theorem ca_law_deeds {k : Nat} (ds : List D) (hd : ds.length = 1) (st : S) : callF (rows.map Row.f) consts 24 12 (k + 1) "_law_deeds" ds st = runS (sh_law_deeds (callF (rows.map Row.f) consts 24 12 k)) 5 ds st := call_eq (r := row_law_deeds) (b := sh_law_deeds) rfl she_law_deeds hd st
def lb_law_house_1 (call : CallF) : List SF :=
  [srow [8, 9] (xtup [xcall call "_law_take" [xv 0, xv 1], xbin .Add (ox (xc (.int (1)))) (ox (xcall call "_law_take" [xv 0, xc (.int (3))]))]),
  sset 6 false false (xlc [10] false [10] (rr1 (xcall call "_law_take" [xv 0, xbin .Add (ov 3) (ox (xc (.int (1))))])) tyes (xcall call "_law_rule" [xv 0, xv 1, xv 8, xv 9])),
  sset 7 false false (xlc [10] false [10] (rr1 (xcall call "_law_take" [xv 0, xbin .Add (ov 3) (ox (xc (.int (1))))])) tyes (xcall call "_law_tale_rule" [xv 0, xv 1, xv 9])),
  smut (uapp (ov 4) (xtup [xv 8, xbi "tuple" [ov 6], xbi "tuple" [ov 7]]))]
def sh_law_house (call : CallF) : SF := blkS
  [sset 4 true false (xlist []),
  sfor false [5] (rr1 (xv 2)) (lb_law_house_1 call),
  sret (xtup [xv 1, xbi "tuple" [ov 4], xbi "tuple" [ox (xcall call "_law_deeds" [xv 1])]])]
theorem she_law_house (call : CallF) : blk (sv ⟨row_law_house.N, consts, rows.map Row.f, call, row_law_house.own, row_law_house.hp⟩ 24 12) (defScope row_law_house.st) (defBody row_law_house.st) = sh_law_house call := by kernel_rfl
theorem ca_law_house {k : Nat} (ds : List D) (hd : ds.length = 4) (st : S) : callF (rows.map Row.f) consts 24 12 (k + 1) "_law_house" ds st = runS (sh_law_house (callF (rows.map Row.f) consts 24 12 k)) 11 ds st := call_eq (r := row_law_house) (b := sh_law_house) rfl she_law_house hd st
def sh_law_same (call : CallF) : SF := blkS
  [sif (tv (ox (xisa (ov 1) "tuple"))) [sif (tor (tnot (tv (ox (xisa (ov 0) "tuple")))) (tcmp .NotEq (ox (xbi "len" [ov 0])) (ox (xbi "len" [ov 1])))) [sret (xc (.bool false))] [],
   sret (xbi "all" [ox (xlc [2, 3] true [2, 3] (rzip (ov 0) (ov 1)) tyes (xcall call "_law_same" [xv 2, xv 3]))])] [],
  sif (tcmp .Is (ov 1) (ox (xc (.none)))) [sret (xcmp .Is (ov 0) (ox (xc (.none))))] [],
  sif (tv (ox (xisa (ov 1) "str"))) [sret (xand (xisa (ov 0) "str") (xcmp .Eq (ov 0) (ov 1)))] [],
  sif (tor (tv (ox (xisa (ov 1) "bool"))) (tv (ox (xisa (ov 0) "bool")))) [sret (xand (xisa (ov 0) "bool") (xand (xisa (ov 1) "bool") (xcmp .Eq (ov 0) (ov 1))))] [],
  sret (xand (xisa (ov 0) "int") (xcmp .Eq (ov 0) (ov 1)))]
theorem she_law_same (call : CallF) : blk (sv ⟨row_law_same.N, consts, rows.map Row.f, call, row_law_same.own, row_law_same.hp⟩ 24 12) (defScope row_law_same.st) (defBody row_law_same.st) = sh_law_same call := by kernel_rfl
theorem ca_law_same {k : Nat} (ds : List D) (hd : ds.length = 2) (st : S) : callF (rows.map Row.f) consts 24 12 (k + 1) "_law_same" ds st = runS (sh_law_same (callF (rows.map Row.f) consts 24 12 k)) 4 ds st := call_eq (r := row_law_same) (b := sh_law_same) rfl she_law_same hd st
def sh_law_due (call : CallF) : SF := blkS
  [sret (xbi "tuple" [ox (xlc [1, 2] true [1, 2] (ren (ov 0)) (tcmp .Is (ov 2) (ox (xc (.none)))) (xv 1))])]
theorem she_law_due (call : CallF) : blk (sv ⟨row_law_due.N, consts, rows.map Row.f, call, row_law_due.own, row_law_due.hp⟩ 24 12) (defScope row_law_due.st) (defBody row_law_due.st) = sh_law_due call := by kernel_rfl
theorem ca_law_due {k : Nat} (ds : List D) (hd : ds.length = 1) (st : S) : callF (rows.map Row.f) consts 24 12 (k + 1) "_law_due" ds st = runS (sh_law_due (callF (rows.map Row.f) consts 24 12 k)) 3 ds st := call_eq (r := row_law_due) (b := sh_law_due) rfl she_law_due hd st
def lb_law_1 (call : CallF) : List SF :=
  [srow [12, 13] (xtup [xcall call "_law_take" [xv 1, xc (.int (7))], xcall call "_law_take" [xv 1, xc (.int (4))]]),
  sset 7 false false (xbi "tuple" [ox (xlc [14] false [14] (rr1 (xv 12)) tyes (xcall call "_law_take" [xv 1, xc (.int (8))]))]),
  sset 8 false false (xlc [14] false [14] (rr1 (xv 12)) tyes (xit (ox (xlist [xc (.none), xcall call "_law_take" [xv 1, xc (.int (8))], xc (.int (0)), xc (.none)])) (ox (xit (ox (xlist [xv 13, xcall call "_law_take" [xv 1, xc (.int (4))]])) (ox (xbi "int" [ox (xcmp .Lt (ov 13) (ox (xc (.int (2)))))])))))),
  sset 9 false false (xtup [xcall call "_law_calls" [xv 1, xv 2], xcall call "_law_take" [xv 1, xc (.int (2))], xv 7, xbi "tuple" [ov 8]]),
  sif (tnot (tv (ox (xcall call "_law_same" [xcall call "broken" [xv 9], xcall call "_law_due" [xv 8]])))) [sret (xc (.bool false))] []]
def lb_law_2 (call : CallF) : List SF :=
  [sset 9 false false (xit (ox (xcall call "stepped" [xv 4, xv 9, xv 6])) (ox (xc (.int (0))))),
  sset 11 false false (xcall call "broken" [xv 9]),
  sif (tor (tnot (tv (ox (xcall call "_law_same" [xv 11, xcall call "_law_due" [xit (ov 9) (ox (xc (.int (3))))]])))) (tnot (tv (ox (xbi "all" [ox (xlc [15] false [15] (rpl (ov 10)) tyes (xcmp .In (ov 15) (ov 11)))]))))) [sret (xc (.bool false))] [],
  sset 10 false false (xv 11)]
def sh_law (call : CallF) : SF := blkS
  [sset 1 false true (xcall call "_law_hand" [xv 0]),
  sset 2 false false (xbin .Add (ox (xc (.int (2)))) (ox (xcall call "_law_take" [xv 1, xc (.int (3))]))),
  sfor false [3] (rr1 (xbin .Add (ox (xc (.int (1)))) (ox (xcall call "_law_take" [xv 1, xc (.int (6))])))) (lb_law_1 call),
  sset 4 false false (xcall call "_law_house" [xv 1, xv 2, xcall call "_law_take" [xv 1, xc (.int (5))], xc (.int (6))]),
  sset 5 false false (xbi "tuple" [ox (xlc [14] false [14] (rr1 (xcall call "_law_take" [xv 1, xc (.int (21))])) tyes (xit (ox (xit (ov 4) (ox (xc (.int (2)))))) (ox (xcall call "_law_take" [xv 1, xbi "len" [ox (xit (ov 4) (ox (xc (.int (2)))))]]))))]),
  srowt [9, 10] [xcall call "begun" [xv 4], xtup []],
  sfor false [6] (rpl (ov 5)) (lb_law_2 call),
  sret (xcmp .Eq (ox (xcall call "broken" [xit (ox (xcall call "ran" [xv 4, xv 5])) (ox (xc (.int (0))))])) (ov 10))]
theorem she_law (call : CallF) : blk (sv ⟨row_law.N, consts, rows.map Row.f, call, row_law.own, row_law.hp⟩ 24 12) (defScope row_law.st) (defBody row_law.st) = sh_law call := by kernel_rfl
theorem ca_law {k : Nat} (ds : List D) (hd : ds.length = 1) (st : S) : callF (rows.map Row.f) consts 24 12 (k + 1) "law" ds st = runS (sh_law (callF (rows.map Row.f) consts 24 12 k)) 16 ds st := call_eq (r := row_law) (b := sh_law) rfl she_law hd st
abbrev CF (k : Nat) := callF (rows.map Row.f) consts 24 12 k
@[simp] theorem sokh_ring : PyData.strOk ("ring" : Str) = true := by decide +kernel
@[simp] theorem sokh_show : PyData.strOk ("show" : Str) = true := by decide +kernel
@[simp] theorem sokh_talk : PyData.strOk ("talk" : Str) = true := by decide +kernel
@[simp] theorem sokh_hold0 : PyData.strOk ("hold0" : Str) = true := by decide +kernel
@[simp] theorem sokh_hold1 : PyData.strOk ("hold1" : Str) = true := by decide +kernel
@[simp] theorem sokh_busy : PyData.strOk ("busy" : Str) = true := by decide +kernel
@[simp] theorem sokh_shut : PyData.strOk ("shut" : Str) = true := by decide +kernel
@[simp] theorem sokh_back : PyData.strOk ("back" : Str) = true := by decide +kernel
inductive How where
  | ring | show | talk | hold0 | hold1 | busy | shut | back
  deriving DecidableEq
def How.str : How → Str
  | .ring => "ring"
  | .show => "show"
  | .talk => "talk"
  | .hold0 => "hold0"
  | .hold1 => "hold1"
  | .busy => "busy"
  | .shut => "shut"
  | .back => "back"
structure Call where
  a : Int
  b : Int
  how : How
  hid : Int
  deriving DecidableEq
def Call.d (c : Call) : D := .tuple [.int c.a, .int c.b, .str c.how.str, .int c.hid]
@[simp] theorem call_ref (c : Call) : refOf? c.d = none := rfl
@[simp] theorem call_isNone (c : Call) : isNoneD c.d = false := rfl
@[simp] theorem call_noRef (c : Call) : noRef c.d = true := by simp [Call.d]
@[simp] theorem how_ok (h : How) : PyData.strOk h.str = true := by cases h <;> decide +kernel
@[simp] theorem call_shp (n : Nat) (c : Call) : shp (n + 1) c.d = true := by simp [Call.d]
@[simp] theorem call_0 (c : Call) : item c.d (.int 0) = some (.int c.a) := rfl
@[simp] theorem call_1 (c : Call) : item c.d (.int 1) = some (.int c.b) := rfl
@[simp] theorem call_2 (c : Call) : item c.d (.int 2) = some (.str c.how.str) := rfl
@[simp] theorem call_3 (c : Call) : item c.d (.int 3) = some (.int c.hid) := rfl
@[simp] theorem call_ab (c : Call) : slice c.d none (some 2) = some (.tuple [.int c.a, .int c.b], false) := rfl
@[simp] theorem call_bc (c : Call) : slice c.d (some 1) (some 3) = some (.tuple [.int c.b, .str c.how.str], false) := rfl
@[simp] theorem how_ring (h : How) : (h.str = Str.ofString "ring") = (h = .ring) := by cases h <;> simp [How.str]
@[simp] theorem how_show (h : How) : (h.str = Str.ofString "show") = (h = .show) := by cases h <;> simp [How.str]
@[simp] theorem how_talk (h : How) : (h.str = Str.ofString "talk") = (h = .talk) := by cases h <;> simp [How.str]
@[simp] theorem how_hold0 (h : How) : (h.str = Str.ofString "hold0") = (h = .hold0) := by cases h <;> simp [How.str]
@[simp] theorem how_hold1 (h : How) : (h.str = Str.ofString "hold1") = (h = .hold1) := by cases h <;> simp [How.str]
@[simp] theorem how_busy (h : How) : (h.str = Str.ofString "busy") = (h = .busy) := by cases h <;> simp [How.str]
@[simp] theorem how_shut (h : How) : (h.str = Str.ofString "shut") = (h = .shut) := by cases h <;> simp [How.str]
@[simp] theorem how_back (h : How) : (h.str = Str.ofString "back") = (h = .back) := by cases h <;> simp [How.str]
abbrev callsD (cs : List Call) : D := .tuple (cs.map Call.d)

def How.inIt : How → Bool
  | .ring | .show | .talk | .hold0 | .hold1 => true
  | _ => false
def Call.isIn (c : Call) (l : Int) : Bool := decide (c.a = l) || (decide (c.b = l) && c.how.inIt)
theorem is_in_v {k : Nat} (c : Call) (l : Int) (st : S) : CF (k + 1) "is_in" [c.d, .int l] st = some ((.bool (c.isIn l), false), st) := by
  refine (ca_is_in [c.d, .int l] rfl st).trans (runS_iso (by simp) (st1 := []) ?_ rfl st)
  obtain ⟨a, b, how, hid⟩ := c
  cases how <;> simp [runB_ap, sh_is_in, Call.d, How.str, Call.isIn, How.inIt, inAny, L2.atI, L2.ixN]
def Call.isHeld (c : Call) (l : Int) : Bool := (decide (c.a = l) && decide (c.how = .hold0)) || (decide (c.b = l) && decide (c.how = .hold1))
theorem is_held_by_v {k : Nat} (c : Call) (l : Int) (st : S) : CF (k + 1) "is_held_by" [c.d, .int l] st = some ((.bool (c.isHeld l), false), st) := by
  refine (ca_is_held_by [c.d, .int l] rfl st).trans (runS_iso (by simp) (st1 := []) ?_ rfl st)
  obtain ⟨a, b, how, hid⟩ := c
  cases how <;> simp [runB_ap, sh_is_held_by, Call.d, How.str, Call.isHeld, inAny, L2.atI, L2.ixN]
def Call.talks (c : Call) (l : Int) : Bool := decide (c.how = .talk) && (decide (c.a = l) || decide (c.b = l))
def callsOf (cs : List Call) (l : Int) : List Call := cs.filter (·.isIn l)
def talksOf (cs : List Call) (l : Int) : List Call := cs.filter (·.talks l)
def holdsOf (cs : List Call) (l : Int) : List Call := cs.filter (·.isHeld l)
@[simp] theorem callsOf_fit {cs : List Call} {l : Int} (h : fitL cs) : fitL (callsOf cs l) := fit_filter h
@[simp] theorem talksOf_fit {cs : List Call} {l : Int} (h : fitL cs) : fitL (talksOf cs l) := fit_filter h
@[simp] theorem holdsOf_fit {cs : List Call} {l : Int} (h : fitL cs) : fitL (holdsOf cs l) := fit_filter h
theorem calls_of_v {k : Nat} {cs : List Call} (l : Int) (hl : fitL cs) (st : S) : CF (k + 2) "calls_of" [callsD cs, .int l] st = some ((callsD (callsOf cs l), false), st) := by
  refine (ca_calls_of [callsD cs, .int l] rfl st).trans (runS_iso (by simp) (st1 := []) ?_ (by simp) st)
  simp [runB_ap, sh_calls_of, is_in_v, callsOf, hl]
theorem talks_of_v {k : Nat} {cs : List Call} (l : Int) (hl : fitL cs) (st : S) : CF (k + 2) "talks_of" [callsD cs, .int l] st = some ((callsD (talksOf cs l), false), st) := by
  refine (ca_talks_of [callsD cs, .int l] rfl st).trans (runS_iso (by simp) (st1 := []) ?_ (by simp) st)
  simp [runB_ap, sh_talks_of, talksOf, Call.talks, inAny, hl]
theorem holds_of_v {k : Nat} {cs : List Call} (l : Int) (hl : fitL cs) (st : S) : CF (k + 2) "holds_of" [callsD cs, .int l] st = some ((callsD (holdsOf cs l), false), st) := by
  refine (ca_holds_of [callsD cs, .int l] rfl st).trans (runS_iso (by simp) (st1 := []) ?_ (by simp) st)
  simp [runB_ap, sh_holds_of, is_held_by_v, holdsOf, hl]

theorem has_free_hands_v {k : Nat} {cs : List Call} (l : Int) (hl : fitL cs) (st : S) : CF (k + 3) "has_free_hands" [callsD cs, .int l] st = some ((.bool ((callsOf cs l).all (·.isHeld l)), false), st) := by
  refine (ca_has_free_hands [callsD cs, .int l] rfl st).trans (runS_iso (by simp) (st1 := []) ?_ (by simp) st)
  simp [runB_ap, sh_has_free_hands, calls_of_v, is_held_by_v, hl]

theorem is_free_v {k : Nat} {cs : List Call} (l : Int) (hl : fitL cs) (st : S) : CF (k + 3) "is_free" [callsD cs, .int l] st = some ((.bool ((callsOf cs l).isEmpty), false), st) := by
  refine (ca_is_free [callsD cs, .int l] rfl st).trans (runS_iso (by simp) (st1 := []) ?_ (by simp) st)
  simp [runB_ap, sh_is_free, calls_of_v, hl]

def optD : Option Call → D
  | none => .none
  | some c => c.d
@[simp] theorem optD_none : optD none = .none := rfl
@[simp] theorem optD_some (c : Call) : optD (some c) = c.d := rfl
@[simp] theorem optD_ref (o : Option Call) : refOf? (optD o) = none := by cases o <;> simp
@[simp] theorem optD_noRef (o : Option Call) : noRef (optD o) = true := by cases o <;> simp
@[simp] theorem optD_shp (n : Nat) (o : Option Call) : shp (n + 1) (optD o) = true := by cases o <;> simp
@[simp] theorem optD_isNone (o : Option Call) : isNoneD (optD o) = !o.isSome := by cases o <;> rfl
theorem first_of_v {k : Nat} (cs : List Call) (st : S) : CF (k + 1) "first_of" [.list (cs.map Call.d)] st = some ((optD cs.head?, false), st) := by
  refine (ca_first_of [.list (cs.map Call.d)] rfl st).trans (runS_iso (by simp) (st1 := []) ?_ (by simp) st)
  cases cs with
  | nil => simp [runB_ap, sh_first_of]
  | cons c cs =>
    have h : (0 : Int) < (cs.length : Int) + 1 := by omega
    simp [runB_ap, sh_first_of, h, L2.atI, L2.ixN]
def Call.shows (c : Call) (l : Int) : Bool := decide (c.how = .show) && decide (c.b = l)
def shownTo (cs : List Call) (l : Int) : Option Call := (cs.filter (·.shows l)).head?
theorem shown_to_v {k : Nat} {cs : List Call} (l : Int) (hl : fitL cs) (st : S) : CF (k + 2) "shown_to" [callsD cs, .int l] st = some ((optD (shownTo cs l), false), st) := by
  refine (ca_shown_to [callsD cs, .int l] rfl st).trans (runS_iso (by simp) (st1 := []) ?_ (by simp) st)
  simp [runB_ap, sh_shown_to, first_of_v, shownTo, Call.shows, hl, -List.head?_filter]

def Call.rings (c : Call) (l : Int) : Bool := (decide (c.how = .ring) && decide (c.b = l)) || (decide (c.how = .back) && decide (c.a = l))
theorem does_ring_v {k : Nat} (c : Call) (l : Int) (st : S) : CF (k + 1) "does_ring" [c.d, .int l] st = some ((.bool (c.rings l), false), st) := by
  refine (ca_does_ring [c.d, .int l] rfl st).trans (runS_iso (by simp) (st1 := []) ?_ rfl st)
  obtain ⟨a, b, how, hid⟩ := c
  cases how <;> simp [runB_ap, sh_does_ring, Call.rings]
def ringsAt (cs : List Call) (l : Int) : Option Call := (cs.filter (·.rings l)).head?
theorem rings_at_v {k : Nat} {cs : List Call} (l : Int) (hl : fitL cs) (st : S) : CF (k + 2) "rings_at" [callsD cs, .int l] st = some ((optD (ringsAt cs l), false), st) := by
  refine (ca_rings_at [callsD cs, .int l] rfl st).trans (runS_iso (by simp) (st1 := []) ?_ (by simp) st)
  simp [runB_ap, sh_rings_at, first_of_v, does_ring_v, ringsAt, hl, -List.head?_filter]

def Call.betw (c : Call) (i j : Int) : Bool := (decide (i = c.a) && decide (j = c.b)) || (decide (j = c.a) && decide (i = c.b))
def betwOf (cs : List Call) (i j : Int) : Option Call := (cs.filter (·.betw i j)).head?
theorem between_v {k : Nat} {cs : List Call} (i j : Int) (hl : fitL cs) (st : S) : CF (k + 2) "between" [callsD cs, .int i, .int j] st = some ((optD (betwOf cs i j), false), st) := by
  refine (ca_between [callsD cs, .int i, .int j] rfl st).trans (runS_iso (by simp) (st1 := []) ?_ (by simp) st)
  simp [runB_ap, sh_between, first_of_v, betwOf, Call.betw, inAny, hl, -List.head?_filter]

@[simp] theorem sokt_night : PyData.strOk ("night" : Str) = true := by decide +kernel
@[simp] theorem sokt_day : PyData.strOk ("day" : Str) = true := by decide +kernel
@[simp] theorem sokt_talk : PyData.strOk ("talk" : Str) = true := by decide +kernel
@[simp] theorem sokt_mute : PyData.strOk ("mute" : Str) = true := by decide +kernel
@[simp] theorem sokt_held : PyData.strOk ("held" : Str) = true := by decide +kernel
@[simp] theorem sokt_bare : PyData.strOk ("bare" : Str) = true := by decide +kernel
@[simp] theorem sokt_shown : PyData.strOk ("shown" : Str) = true := by decide +kernel
@[simp] theorem sokt_clear : PyData.strOk ("clear" : Str) = true := by decide +kernel
@[simp] theorem sokt_idle : PyData.strOk ("idle" : Str) = true := by decide +kernel
@[simp] theorem sokt_used : PyData.strOk ("used" : Str) = true := by decide +kernel
@[simp] theorem sokt_hid : PyData.strOk ("hid" : Str) = true := by decide +kernel
@[simp] theorem sokt_named : PyData.strOk ("named" : Str) = true := by decide +kernel
inductive Tst where
  | night | day | talk | mute | held | bare | shown | clear | idle | used | hid | named
  deriving DecidableEq
def Tst.str : Tst → Str
  | .night => "night"
  | .day => "day"
  | .talk => "talk"
  | .mute => "mute"
  | .held => "held"
  | .bare => "bare"
  | .shown => "shown"
  | .clear => "clear"
  | .idle => "idle"
  | .used => "used"
  | .hid => "hid"
  | .named => "named"
def Tst.d (t : Tst) : D := .str t.str
@[simp] theorem tst_ok (t : Tst) : PyData.strOk t.str = true := by cases t <;> decide +kernel
@[simp] theorem tstD_noRef (t : Tst) : noRef t.d = true := rfl
@[simp] theorem tstD_ref (t : Tst) : refOf? t.d = none := rfl
@[simp] theorem tstD_shp (n : Nat) (t : Tst) : shp n t.d = true := by simp [Tst.d]

def isSo (cs : List Call) (night me hid : Int) : Tst → Bool
  | .night => decide (night = 1)
  | .day => decide (night = 0)
  | .talk => !(talksOf cs me).isEmpty
  | .mute => (talksOf cs me).isEmpty
  | .held => !(holdsOf cs me).isEmpty
  | .bare => (holdsOf cs me).isEmpty
  | .shown => (shownTo cs me).isSome
  | .clear => !(shownTo cs me).isSome
  | .idle => (callsOf cs me).isEmpty
  | .used => !(callsOf cs me).isEmpty
  | .hid => decide (hid = 1)
  | .named => decide (hid = 0)
theorem is_so_v {k : Nat} {cs : List Call} (night me hid : Int) (t : Tst) (hl : fitL cs) (st : S) : CF (k + 4) "is_so" [callsD cs, .int night, .int me, .int hid, .str t.str] st = some ((.bool (isSo cs night me hid t), false), st) := by
  refine (ca_is_so [callsD cs, .int night, .int me, .int hid, .str t.str] rfl st).trans (runS_iso (by simp) (st1 := []) ?_ (by simp) st)
  cases t <;> simp [runB_ap, sh_is_so, Tst.str, isSo, inAny, talks_of_v, holds_of_v, shown_to_v, is_free_v, hl]

/-- a word -/
structure Wd where
  name : String
  ok : PyData.strOk (Str.ofString name) = true
abbrev Wd.d (w : Wd) : D := .str (Str.ofString w.name)
@[simp] theorem wd_ok (w : Wd) : PyData.strOk (Str.ofString w.name) = true := w.ok
abbrev Pat := Option (List Int)
def Pat.d : Pat → D
  | none => .none
  | some xs => .tuple (xs.map .int)
@[simp] theorem patD_noRef (t : Pat) : noRef (Pat.d t) = true := by cases t <;> simp [Pat.d]
@[simp] theorem patD_ref (t : Pat) : refOf? (Pat.d t) = none := by cases t <;> simp [Pat.d]
def optI : Option Int → D
  | none => .none
  | some i => .int i
@[simp] theorem optI_n : optI none = .none := rfl
@[simp] theorem optI_s (i : Int) : optI (some i) = .int i := rfl
@[simp] theorem optI_noRef (t : Option Int) : noRef (optI t) = true := by cases t <;> simp [optI]
@[simp] theorem optI_ref (t : Option Int) : refOf? (optI t) = none := by cases t <;> simp [optI]
@[simp] theorem optI_isNone (o : Option Int) : isNoneD (optI o) = o.isNone := by cases o <;> rfl
structure TRule where
  s : Int
  word : Wd
  pats : List Pat
  tests : List Tst
  after : Option Int
def TRule.d (r : TRule) : D := .tuple [.int r.s, r.word.d, .tuple (r.pats.map Pat.d), .tuple (r.tests.map Tst.d), optI r.after]
@[simp] theorem trule_noRef (r : TRule) : noRef r.d = true := by simp [TRule.d]
@[simp] theorem trule_ref (r : TRule) : refOf? r.d = none := rfl
@[simp] theorem trule_0 (r : TRule) : item r.d (.int 0) = some (.int r.s) := rfl
@[simp] theorem trule_1 (r : TRule) : item r.d (.int 1) = some r.word.d := rfl
@[simp] theorem trule_2 (r : TRule) : item r.d (.int 2) = some (.tuple (r.pats.map Pat.d)) := rfl
@[simp] theorem trule_3 (r : TRule) : item r.d (.int 3) = some (.tuple (r.tests.map Tst.d)) := rfl
@[simp] theorem trule_4 (r : TRule) : item r.d (.int 4) = some (optI r.after) := rfl
@[simp] theorem trule_len (r : TRule) : bLen [r.d] = some (.int 5, false) := rfl
structure Act where
  word : Wd
  to : Option Int
def Act.d (a : Act) : D := .tuple (a.word.d :: (match a.to with | none => [] | some l => [.int l]))
@[simp] theorem act_noRef (r : Act) : noRef r.d = true := by obtain ⟨w, t⟩ := r; cases t <;> simp [Act.d]
@[simp] theorem act_ref (r : Act) : refOf? r.d = none := rfl
@[simp] theorem act_0 (r : Act) : item r.d (.int 0) = some r.word.d := by obtain ⟨w, t⟩ := r; cases t <;> rfl
structure Rule where
  s : Int
  kind : Wd
  pat : Pat
  tests : List Tst
  act : Act
  after : Int
def Rule.d (r : Rule) : D := .tuple [.int r.s, r.kind.d, Pat.d r.pat, .tuple (r.tests.map Tst.d), r.act.d, .int r.after]
@[simp] theorem rule_noRef (r : Rule) : noRef r.d = true := by simp [Rule.d]
@[simp] theorem rule_ref (r : Rule) : refOf? r.d = none := rfl
@[simp] theorem rule_0 (r : Rule) : item r.d (.int 0) = some (.int r.s) := rfl
@[simp] theorem rule_1 (r : Rule) : item r.d (.int 1) = some r.kind.d := rfl
@[simp] theorem rule_2 (r : Rule) : item r.d (.int 2) = some (Pat.d r.pat) := rfl
@[simp] theorem rule_3 (r : Rule) : item r.d (.int 3) = some (.tuple (r.tests.map Tst.d)) := rfl
@[simp] theorem rule_4 (r : Rule) : item r.d (.int 4) = some r.act.d := rfl
@[simp] theorem rule_5 (r : Rule) : item r.d (.int 5) = some (.int r.after) := rfl
structure Wish where
  me : Int
  rules : List Rule
  tale : List TRule
def Wish.d (w : Wish) : D := .tuple [.int w.me, .tuple (w.rules.map Rule.d), .tuple (w.tale.map TRule.d)]
@[simp] theorem wish_noRef (r : Wish) : noRef r.d = true := by simp [Wish.d]
@[simp] theorem wish_ref (r : Wish) : refOf? r.d = none := rfl
@[simp] theorem wish_0 (r : Wish) : item r.d (.int 0) = some (.int r.me) := rfl
@[simp] theorem wish_1 (r : Wish) : item r.d (.int 1) = some (.tuple (r.rules.map Rule.d)) := rfl
@[simp] theorem wish_2 (r : Wish) : item r.d (.int 2) = some (.tuple (r.tale.map TRule.d)) := rfl
structure Deed where
  word : Wd
  ls : List Int
def Deed.d (e : Deed) : D := .tuple (e.word.d :: e.ls.map .int)
@[simp] theorem deed_noRef (r : Deed) : noRef r.d = true := by simp [Deed.d]
@[simp] theorem deed_ref (r : Deed) : refOf? r.d = none := rfl
structure House where
  n : Int
  wishes : List Wish
  deeds : List Deed
def House.d (h : House) : D := .tuple [.int h.n, .tuple (h.wishes.map Wish.d), .tuple (h.deeds.map Deed.d)]
@[simp] theorem house_noRef (r : House) : noRef r.d = true := by simp [House.d]
@[simp] theorem house_ref (r : House) : refOf? r.d = none := rfl
@[simp] theorem house_0 (r : House) : item r.d (.int 0) = some (.int r.n) := rfl
@[simp] theorem house_1 (r : House) : item r.d (.int 1) = some (.tuple (r.wishes.map Wish.d)) := rfl
@[simp] theorem house_2 (r : House) : item r.d (.int 2) = some (.tuple (r.deeds.map Deed.d)) := rfl
structure TEvent where
  word : Wd
  lines : List Int
  hid : Int
def TEvent.d (e : TEvent) : D := .tuple [e.word.d, .tuple (e.lines.map .int), .int e.hid]
@[simp] theorem tev_noRef (e : TEvent) : noRef e.d = true := by simp [TEvent.d]
@[simp] theorem tev_ref (e : TEvent) : refOf? e.d = none := rfl
@[simp] theorem tev_asg (js : List Nat) (e : TEvent) (env : Env) : asg true js e.d env = setE env js [e.word.d, .tuple (e.lines.map .int), .int e.hid] := rfl
@[simp] theorem tev_0 (e : TEvent) : item e.d (.int 0) = some e.word.d := rfl
@[simp] theorem tev_1 (e : TEvent) : item e.d (.int 1) = some (.tuple (e.lines.map .int)) := rfl
@[simp] theorem tev_2 (e : TEvent) : item e.d (.int 2) = some (.int e.hid) := rfl

theorem is_so_d {k : Nat} {cs : List Call} (night me hid : Int) (t : Tst) (hl : fitL cs) (st : S) : CF (k + 4) "is_so" [callsD cs, .int night, .int me, .int hid, t.d] st = some ((.bool (isSo cs night me hid t), false), st) := is_so_v night me hid t hl st

def Pat.fits (p : Pat) (l : Int) : Bool := match p with
  | none => true
  | some xs => xs.any fun x => decide (x = l)
theorem fits_v {k : Nat} (p : Pat) (l : Int) (st : S) : CF (k + 1) "fits" [Pat.d p, .int l] st = some ((.bool (Pat.fits p l), false), st) := by
  refine (ca_fits [Pat.d p, .int l] rfl st).trans (runS_iso (by simp) (st1 := []) ?_ rfl st)
  cases p <;> simp [runB_ap, sh_fits, Pat.d, Pat.fits]

def areFit (ps : List Pat) (ls : List Int) : Bool := decide ((ps.length : Int) = ls.length) && (ps.zip ls).all fun p => Pat.fits p.1 p.2
theorem are_fit_v {k : Nat} (ps : List Pat) (ls : List Int) (h : fitL ps) (st : S) : CF (k + 2) "are_fit" [.tuple (ps.map Pat.d), .tuple (ls.map .int)] st = some ((.bool (areFit ps ls), false), st) := by
  refine (ca_are_fit [.tuple (ps.map Pat.d), .tuple (ls.map .int)] rfl st).trans (runS_iso (by simp) (st1 := []) ?_ rfl st)
  simp [runB_ap, sh_are_fit, fits_v, areFit, h]

def optT : Option TRule → D
  | none => .none
  | some r => r.d
@[simp] theorem optT_none : optT none = .none := rfl
@[simp] theorem optT_some (r : TRule) : optT (some r) = r.d := rfl
@[simp] theorem optT_noRef (o : Option TRule) : noRef (optT o) = true := by cases o <;> simp
@[simp] theorem optT_ref (o : Option TRule) : refOf? (optT o) = none := by cases o <;> simp
@[simp] theorem trule_isNone (r : TRule) : isNoneD r.d = false := rfl
def TRule.fires (r : TRule) (me s : Int) (cs : List Call) (night : Int) (e : TEvent) : Bool :=
  (decide (r.s = s) && (decide (r.word.name = e.word.name) && areFit r.pats e.lines)) && r.tests.all fun t => isSo cs night me e.hid t
/-- short enough, all of it -/
def TRule.fit (r : TRule) : Prop := fitL r.pats ∧ fitL r.tests
def Wish.tfit (w : Wish) : Prop := fitL w.tale ∧ ∀ r ∈ w.tale, r.fit
theorem tale_rule_v {k : Nat} (w : Wish) (s : Int) (cs : List Call) (night : Int) (e : TEvent) (hl : fitL cs) (hw : w.tfit) (st : S) :
    CF (k + 5) "rule_for_tales" [w.d, .int s, callsD cs, .int night, e.d] st = some ((optT (w.tale.find? fun r => r.fires w.me s cs night e), false), st) := by
  refine (ca_rule_for_tales [w.d, .int s, callsD cs, .int night, e.d] rfl st).trans (runS_iso (by simp) (st1 := []) ?_ (by simp) st)
  obtain ⟨ys, hy⟩ := lift_sub hw.2
  have hf := hw.1
  obtain ⟨env', ⟨x5, rfl⟩, h⟩ := for_find (s := ⟨w.tale.map TRule.d, [(.v (.tuple (w.tale.map TRule.d)), .tuple (w.tale.map TRule.d))]⟩) (asgn := asg false [5]) (body := blkS (lb_rule_for_tales_1 (CF (k + 4)))) (st := []) (fun y : Such TRule.fit => y.val.d) (fun y => y.val.fires w.me s cs night e) (fun y => y.val.d) false
    (fun env => ∃ x5, env = [fz w.d, fz (.int s), fz (callsD cs), fz (.int night), fz e.d, x5, fz e.word.d, fz (.tuple (e.lines.map .int)), fz (.int e.hid), none])
    (fun env h => by obtain ⟨x5, rfl⟩ := h; simp)
    (fun y env h => by
      obtain ⟨x5, rfl⟩ := h
      obtain ⟨r, hr⟩ := y
      refine ⟨_, rfl, _, ⟨fz r.d, rfl⟩, ?_⟩
      have a1 := are_fit_v (k := k + 2) r.pats e.lines hr.1
      have a2 := fun t => is_so_d (k := k) night w.me e.hid t hl
      have hr2 := hr.2
      simp only [TRule.fires]
      simp [lb_rule_for_tales_1, a1, a2, hr2, and_assoc])
    ys (env := [fz w.d, fz (.int s), fz (callsD cs), fz (.int night), fz e.d, none, fz e.word.d, fz (.tuple (e.lines.map .int)), fz (.int e.hid), none]) ⟨none, rfl⟩
  rw [hy, List.map_map] at h
  have e1 : w.tale.find? (fun r => r.fires w.me s cs night e) = (ys.find? fun y => y.val.fires w.me s cs night e).map Such.val := by rw [hy, List.find?_map]; rfl
  have e2 : List.map (fun y : Such TRule.fit => y.val.d) ys = w.tale.map TRule.d := by rw [hy, List.map_map]; rfl
  simp only [Function.comp_def, e2] at h
  simp [runB_ap, sh_rule_for_tales, e1, h]
  cases ys.find? (fun y => y.val.fires w.me s cs night e) <;> simp
def Wish.led (w : Wish) (s : Option Int) (cs : List Call) (night : Int) (e : TEvent) : Option Int := match s with
  | none => none
  | some s => (match w.tale.find? fun r => r.fires w.me s cs night e with
    | none => some s
    | some r => r.after)
theorem led_on_v {k : Nat} (w : Wish) (s : Option Int) (cs : List Call) (night : Int) (e : TEvent) (hl : fitL cs) (hw : w.tfit) (st : S) :
    CF (k + 6) "led_on" [w.d, optI s, callsD cs, .int night, e.d] st = some ((optI (w.led s cs night e), false), st) := by
  refine (ca_led_on [w.d, optI s, callsD cs, .int night, e.d] rfl st).trans (runS_iso (by simp) (st1 := []) ?_ (by simp) st)
  cases s with
  | none => simp [runB_ap, sh_led_on, optI, Wish.led]
  | some s =>
    have q := tale_rule_v (k := k) w s cs night e hl hw []
    simp [runB_ap, sh_led_on, optI, Wish.led, q]
    cases w.tale.find? (fun r => r.fires w.me s cs night e) <;> simp [optI]
structure Wish.TFit where
  w : Wish
  ok : w.tfit
def toldOn (ws : List Wish) (ts : List (Option Int)) (cs : List Call) (night : Int) (e : TEvent) : List (Option Int) := (ws.zip ts).map fun p => p.1.led p.2 cs night e
theorem told_on_v {k : Nat} (h : House) (ts : List (Option Int)) (cs : List Call) (night : Int) (e : TEvent) (hl : fitL cs) (hw : ∀ w ∈ h.wishes, w.tfit) (hf : fitL h.wishes) (st : S) :
    CF (k + 7) "told_on" [h.d, .tuple (ts.map optI), callsD cs, .int night, e.d] st = some ((.tuple ((toldOn h.wishes ts cs night e).map optI), false), st) := by
  refine (ca_told_on [h.d, .tuple (ts.map optI), callsD cs, .int night, e.d] rfl st).trans (runS_iso (by simp) (st1 := []) ?_ (by simp) st)
  obtain ⟨ys, hy⟩ := lift_sub hw
  have q : ∀ (y : Such Wish.tfit) (s : Option Int), CF (k + 6) "led_on" [y.val.d, optI s, callsD cs, .int night, e.d] [] = _ := fun y s => led_on_v y.val s cs night e hl y.ok []
  have e1 : h.wishes.map Wish.d = ys.map fun y => y.val.d := by rw [hy, List.map_map]; rfl
  have e2 : toldOn h.wishes ts cs night e = (ys.zip ts).map fun p => p.1.val.led p.2 cs night e := by unfold toldOn; rw [hy, List.zip_map_left, List.map_map]; rfl
  have hf2 : fitL ys := by rw [hy, fit_map] at hf; exact hf
  simp [runB_ap, sh_told_on, e1, e2, q, hf2]

structure Point where
  kind : Wd
  me : Option Int
  other : Option Int
  hid : Int
def Point.d (p : Point) : D := .tuple [p.kind.d, optI p.me, optI p.other, .int p.hid]
@[simp] theorem point_noRef (p : Point) : noRef p.d = true := by simp [Point.d]
@[simp] theorem point_ref (p : Point) : refOf? p.d = none := rfl
@[simp] theorem point_asg (js : List Nat) (p : Point) (env : Env) : asg true js p.d env = setE env js [p.kind.d, optI p.me, optI p.other, .int p.hid] := rfl
@[simp] theorem point_2 (p : Point) : item p.d (.int 2) = some (optI p.other) := rfl
structure Scene where
  cs : List Call
  night : Int
  minds : List Int
  tales : List (Option Int)
def Scene.d (s : Scene) : D := .tuple [callsD s.cs, .int s.night, .tuple (s.minds.map .int), .tuple (s.tales.map optI)]
@[simp] theorem scene_noRef (p : Scene) : noRef p.d = true := by simp [Scene.d]
@[simp] theorem scene_ref (p : Scene) : refOf? p.d = none := rfl
@[simp] theorem scene_0 (s : Scene) : item s.d (.int 0) = some (callsD s.cs) := rfl
@[simp] theorem scene_1 (s : Scene) : item s.d (.int 1) = some (.int s.night) := rfl
@[simp] theorem scene_2 (s : Scene) : item s.d (.int 2) = some (.tuple (s.minds.map .int)) := rfl
@[simp] theorem scene_3 (s : Scene) : item s.d (.int 3) = some (.tuple (s.tales.map optI)) := rfl
@[simp] theorem scene_01 (s : Scene) : slice s.d none (some 2) = some (.tuple [callsD s.cs, .int s.night], false) := rfl
@[simp] theorem optI_shp (n : Nat) (o : Option Int) : shp n (optI o) = true := by cases o <;> simp
@[simp] theorem eqv_int_opt (i : Int) (o : Option Int) : PyData.eqv (.int i) (optI o) = decide (o = some i) := by
  cases o with
  | none => simp [PyData.eqv]
  | some j => simp [eq_comm]
@[simp] theorem act_shp (n : Nat) (a : Act) : shp (n + 1) a.d = true := by obtain ⟨w, t⟩ := a; cases t <;> simp [Act.d]
theorem act_ext_eqv (a b : Act) : PyData.eqv a.d b.d = (decide (a.word.name = b.word.name) && decide (a.to = b.to)) := by
  obtain ⟨w, t⟩ := a
  obtain ⟨w', t'⟩ := b
  cases t <;> cases t' <;> simp [Act.d]

def otherOf (c : Call) (l : Int) : Int := if c.a = l then c.b else c.a
theorem other_of_v {k : Nat} (c : Call) (l : Int) (st : S) : CF (k + 1) "other_of" [c.d, .int l] st = some ((.int (otherOf c l), false), st) := by
  refine (ca_other_of [c.d, .int l] rfl st).trans (runS_iso (by simp) (st1 := []) ?_ rfl st)
  by_cases h : c.a = l <;> simp [runB_ap, sh_other_of, otherOf, h]
abbrev Told := List (Nat × Act)
def toldD (p : Nat × Act) : D := .tuple [.int (p.1 : Int), p.2.d]
@[simp] theorem told_ref (p : Nat × Act) : refOf? (toldD p) = none := rfl
@[simp] theorem told_noRef (p : Nat × Act) : noRef (toldD p) = true := by simp [toldD]
@[simp] theorem told_asg (js : List Nat) (p : Nat × Act) (env : Env) : asg true js (toldD p) env = setE env js [.int (p.1 : Int), p.2.d] := rfl
def isFree (cs : List Call) (l : Int) : Bool := (callsOf cs l).isEmpty
def canAlso (cs : List Call) (l : Int) (o : Int) (told : Told) : Bool := !(decide (l = o)) && isFree cs l && (betwOf cs l o).isNone && !(told.any fun p => decide (p.2.word.name = "also") && decide (p.2.to = some l))
theorem can_also_v {k j : Nat} {cs : List Call} {told : Told} (l o : Int) (hl : fitL cs) (ht : fitL told) {st : S} (hst : st[j]? = some (.lst (told.map toldD))) :
    CF (k + 4) "can_also" [callsD cs, .int l, .int o, mkRef j] st = some ((.bool (canAlso cs l o told), false), st) := by
  refine (ca_can_also [callsD cs, .int l, .int o, mkRef j] rfl st).trans ?_
  unfold runS
  rw [if_neg (by simp [noRef_mkRef])]
  have q1 := is_free_v (k := k) l hl st
  have q2 := between_v (k := k + 1) l o hl st
  have e1 : ∀ p : Nat × Act, PyData.eqv p.2.d (.tuple [.str (Str.ofString "also"), .int l]) = (decide (p.2.word.name = "also") && decide (p.2.to = some l)) := by
    intro p
    obtain ⟨i, w, t⟩ := p
    cases t <;> simp [Act.d]
  have c1 : ∀ x2 : Option SV, xlc [4, 5] true [4, 5] (rpl (ov 3)) tyes (xv 5) [fz (callsD cs), fz (.int l), fz (.int o), fz (mkRef j), none, none] st = some ((.list (told.map fun p => p.2.d), true), st) := by
    intro _
    simp [viewRef, hst, ht]
  have h1 : isFree cs l = (callsOf cs l).isEmpty := rfl
  simp only [runB_ap, sh_can_also]
  cases hf : (callsOf cs l).isEmpty <;> cases hb : (betwOf cs l o) <;> by_cases hlo : l = o <;> simp [canAlso, h1, hf, hb, hlo, q1, q2, c1 none, e1, -xlc_ap]
def canJoin (cs : List Call) (me : Int) : Bool := !(talksOf cs me).isEmpty && (holdsOf cs me).any fun c => (talksOf cs (otherOf c me)).isEmpty
theorem can_join_v {k : Nat} {cs : List Call} (me : Int) (hl : fitL cs) (st : S) : CF (k + 3) "can_join" [callsD cs, .int me] st = some ((.bool (canJoin cs me), false), st) := by
  refine (ca_can_join [callsD cs, .int me] rfl st).trans (runS_iso (by simp) (st1 := []) ?_ (by simp) st)
  have q1 := holds_of_v (k := k) me hl []
  have q2 := fun l => talks_of_v (k := k) l hl []
  have q3 := fun c => other_of_v (k := k + 1) c me []
  have hh : fitL (holdsOf cs me) := holdsOf_fit hl
  have c1 : xlc [3] false [3] (rpl (ox (xcall (CF (k + 2)) "holds_of" [xv 0, xv 1]))) tyes (xcall (CF (k + 2)) "other_of" [xv 3, xv 1]) [fz (callsD cs), fz (.int me), none, none, none] [] = some ((.list ((holdsOf cs me).map fun c => .int (otherOf c me)), true), []) := by
    simp [q1, q3, hh]
  have c2 : xlc [4] false [4] (rpl (ov 2)) tyes (xcmp .Eq (ox (xcall (CF (k + 2)) "talks_of" [xv 0, xv 4])) (ox (xtup []))) [fz (callsD cs), fz (.int me), fz (.list ((holdsOf cs me).map fun c => .int (otherOf c me))), none, none] [] = some ((.list ((holdsOf cs me).map fun c => .bool ((talksOf cs (otherOf c me)).isEmpty)), true), []) := by
    simp [q2, hh]
  cases ht : (talksOf cs me).isEmpty <;> simp [runB_ap, sh_can_join, c1, c2, q2, canJoin, ht, -xlc_ap]
def canDo (cs : List Call) (me : Int) (other : Option Int) (a : Act) (told : Told) : Bool :=
  if a.word.name = "also" then (match a.to, other with | some l, some o => canAlso cs l o told | _, _ => false)
  else if a.word.name = "show" then !(talksOf cs me).isEmpty && (shownTo cs me).isNone
  else if a.word.name = "ring" then isFree cs me
  else if a.word.name = "swap" then !(talksOf cs me).isEmpty || (!(holdsOf cs me).isEmpty && (callsOf cs me).all (·.isHeld me))
  else if a.word.name = "join" then canJoin cs me
  else !decide (a.word.name = "keep") || !(talksOf cs me).isEmpty
theorem can_be_done_v {k j : Nat} {cs : List Call} {told : Told} (me : Int) (other : Option Int) (a : Act) (hl : fitL cs) (ht : fitL told) (ha : a.word.name = "also" → ∃ l o, a.to = some l ∧ other = some o) {st : S} (hst : st[j]? = some (.lst (told.map toldD))) :
    CF (k + 5) "can_be_done" [callsD cs, .int me, optI other, a.d, mkRef j] st = some ((.bool (canDo cs me other a told), false), st) := by
  refine (ca_can_be_done [callsD cs, .int me, optI other, a.d, mkRef j] rfl st).trans ?_
  unfold runS
  rw [if_neg (by simp [noRef_mkRef])]
  have q1 := talks_of_v (k := k + 2) me hl st
  have q2 := shown_to_v (k := k + 2) me hl st
  have q3 := is_free_v (k := k + 1) me hl st
  have q4 := holds_of_v (k := k + 2) me hl st
  have q5 := has_free_hands_v (k := k + 1) me hl st
  have q6 := can_join_v (k := k + 1) me hl st
  have h1 : isFree cs me = (callsOf cs me).isEmpty := rfl
  unfold canDo
  by_cases g1 : a.word.name = "also"
  · obtain ⟨l, o, e1, e2⟩ := ha g1
    obtain ⟨w, t⟩ := a
    simp only at e1 g1
    subst e1 e2
    have q7 := can_also_v (k := k) l o hl ht hst
    have i1 : item (Act.d ⟨w, some l⟩) (.int 1) = some (.int l) := rfl
    simp [runB_ap, sh_can_be_done, g1, i1, q7]
  · by_cases g2 : a.word.name = "show"
    · cases hx : (talksOf cs me).isEmpty <;> simp [runB_ap, sh_can_be_done, g2, q1, q2, hx]
    · by_cases g3 : a.word.name = "ring"
      · simp [runB_ap, sh_can_be_done, g3, q3, h1]
      · by_cases g4 : a.word.name = "swap"
        · cases hx : (talksOf cs me).isEmpty <;> cases hy : (holdsOf cs me).isEmpty <;> simp [runB_ap, sh_can_be_done, g4, q1, q4, q5, hx, hy]
        · by_cases g5 : a.word.name = "join"
          · simp [runB_ap, sh_can_be_done, g5, q6]
          · by_cases g6 : a.word.name = "keep"
            · simp [runB_ap, sh_can_be_done, g6, q1]
            · simp [runB_ap, sh_can_be_done, g1, g2, g3, g4, g5, g6, q1]
def isAsked (w : Wish) (p : Point) : Bool := if p.kind.name = "free" then !decide (p.other = some w.me) else decide (p.me = some w.me)
theorem is_asked_v {k : Nat} (w : Wish) (p : Point) (st : S) : CF (k + 1) "is_asked" [w.d, p.d] st = some ((.bool (isAsked w p), false), st) := by
  refine (ca_is_asked [w.d, p.d] rfl st).trans (runS_iso (by simp) (st1 := []) ?_ rfl st)
  by_cases h : p.kind.name = "free" <;> simp [runB_ap, sh_is_asked, isAsked, h]

def optR : Option Rule → D
  | none => .none
  | some r => r.d
@[simp] theorem optR_none : optR none = .none := rfl
@[simp] theorem optR_some (r : Rule) : optR (some r) = r.d := rfl
@[simp] theorem optR_noRef (o : Option Rule) : noRef (optR o) = true := by cases o <;> simp
@[simp] theorem optR_ref (o : Option Rule) : refOf? (optR o) = none := by cases o <;> simp
@[simp] theorem rule_isNone (r : Rule) : isNoneD r.d = false := rfl
def patOk (p : Pat) : Option Int → Bool
  | none => true
  | some o => Pat.fits p o
def Rule.meets (r : Rule) (me : Int) (mind : Int) (cs : List Call) (night : Int) (p : Point) : Bool :=
  (decide (r.s = mind) && (decide (r.kind.name = p.kind.name) && patOk r.pat p.other)) && r.tests.all fun t => isSo cs night me p.hid t
def Rule.rfit (r : Rule) : Prop := fitL r.tests
def Wish.rfit (w : Wish) : Prop := fitL w.rules ∧ ∀ r ∈ w.rules, r.rfit
theorem rule_for_v {k : Nat} (w : Wish) (mind : Int) (sc : Scene) (p : Point) (hl : fitL sc.cs) (hw : w.rfit) (st : S) :
    CF (k + 5) "rule_for_points" [w.d, .int mind, sc.d, p.d] st = some ((optR (w.rules.find? fun r => r.meets w.me mind sc.cs sc.night p), false), st) := by
  refine (ca_rule_for_points [w.d, .int mind, sc.d, p.d] rfl st).trans (runS_iso (by simp) (st1 := []) ?_ (by simp) st)
  obtain ⟨ys, hy⟩ := lift_sub hw.2
  have hf := hw.1
  obtain ⟨env', ⟨x4, rfl⟩, h⟩ := for_find (s := ⟨w.rules.map Rule.d, [(.v (.tuple (w.rules.map Rule.d)), .tuple (w.rules.map Rule.d))]⟩) (asgn := asg false [4]) (body := blkS (lb_rule_for_points_1 (CF (k + 4)))) (st := []) (fun y : Such Rule.rfit => y.val.d) (fun y => y.val.meets w.me mind sc.cs sc.night p) (fun y => y.val.d) false
    (fun env => ∃ x4, env = [fz w.d, fz (.int mind), fz sc.d, fz p.d, x4, fz p.kind.d, fz (optI p.me), fz (optI p.other), fz (.int p.hid), fz (callsD sc.cs), fz (.int sc.night), none])
    (fun env h => by obtain ⟨x4, rfl⟩ := h; simp)
    (fun y env h => by
      obtain ⟨x4, rfl⟩ := h
      obtain ⟨r, hr⟩ := y
      refine ⟨_, rfl, _, ⟨fz r.d, rfl⟩, ?_⟩
      have a1 := fun o => fits_v (k := k + 3) r.pat o
      have a2 := fun t => is_so_d (k := k) sc.night w.me p.hid t hl
      have hr2 : fitL r.tests := hr
      have q : ∀ o : Option Int, tor (tcmp .Is (ov 7) (ox (xc (.none)))) (tv (ox (xcall (CF (k + 4)) "fits" [xit (ov 4) (ox (xc (.int (2)))), xv 7]))) [fz w.d, fz (.int mind), fz sc.d, fz p.d, fz r.d, fz p.kind.d, fz (optI p.me), fz (optI o), fz (.int p.hid), fz (callsD sc.cs), fz (.int sc.night), none] [] = some (patOk r.pat o, []) := by
        intro o
        cases o <;> simp [patOk, a1]
      simp only [Rule.meets]
      simp [lb_rule_for_points_1, q, a2, hr2, and_assoc, -tor_ap])
    ys (env := [fz w.d, fz (.int mind), fz sc.d, fz p.d, none, fz p.kind.d, fz (optI p.me), fz (optI p.other), fz (.int p.hid), fz (callsD sc.cs), fz (.int sc.night), none]) ⟨none, rfl⟩
  have e1 : w.rules.find? (fun r => r.meets w.me mind sc.cs sc.night p) = (ys.find? fun y => y.val.meets w.me mind sc.cs sc.night p).map Such.val := by rw [hy, List.find?_map]; rfl
  have e2 : List.map (fun y : Such Rule.rfit => y.val.d) ys = w.rules.map Rule.d := by rw [hy, List.map_map]; rfl
  simp only [e2] at h
  simp [runB_ap, sh_rule_for_points, e1, h]
  cases ys.find? (fun y => y.val.meets w.me mind sc.cs sc.night p) <;> simp
def goesOn (a : Act) : Bool := decide (a.word.name = "pass") || (decide (a.word.name = "hide") || decide (a.word.name = "also"))
/-- a point at which no rule that meets it can lack what its act needs -/
structure PointOk (p : Point) : Prop where
  other : p.kind.name = "in" → ∃ o, p.other = some o
def Rule.aimed (r : Rule) : Prop := r.act.word.name = "also" → r.kind.name = "in" ∧ ∃ l, r.act.to = some l
def ruleOf (sc : Scene) (p : Point) (w : Wish) (mind : Int) : Option Rule := if isAsked w p then w.rules.find? fun r => r.meets w.me mind sc.cs sc.night p else none
def askGo (sc : Scene) (p : Point) : List Wish → Nat → List Int → Told → Told × List Int
  | [], _, minds, told => (told, minds)
  | w :: ws, i, minds, told => match ruleOf sc p w (minds.getD i 0) with
    | none => askGo sc p ws (i + 1) minds told
    | some r => if (!decide (r.act.word.name = "pass") && canDo sc.cs w.me p.other r.act told) = true then
        (if goesOn r.act = true then askGo sc p ws (i + 1) (minds.set i r.after) (told ++ [(i, r.act)]) else (told ++ [(i, r.act)], minds.set i r.after))
      else askGo sc p ws (i + 1) (minds.set i r.after) told
def askD (t : Told × List Int) : D := .tuple [.tuple (t.1.map toldD), .tuple (t.2.map .int)]
structure Wish.AFit (w : Wish) : Prop where
  fit : w.rfit
  aim : ∀ r ∈ w.rules, r.aimed
theorem ask1_v {k : Nat} {h : House} {sc : Scene} {p : Point} (hl : fitL sc.cs) (hp : PointOk p) (w : Wish) (hw : w.AFit) {i : Nat} {minds : List Int} {told : Told} (hi : i < minds.length) (ht : told.length < 1000) {x7 x8 : Option SV} :
    blkS (lb_asked_1 (CF (k + 5))) [fz h.d, fz sc.d, fz p.d, ow (.list (minds.map .int)), fz (mkRef 0), fz (.int (i : Int)), fz w.d, x7, x8] [.lst (told.map toldD)] = some (match ruleOf sc p w (minds.getD i 0) with
      | none => (.next [fz h.d, fz sc.d, fz p.d, ow (.list (minds.map .int)), fz (mkRef 0), fz (.int (i : Int)), fz w.d, fz .none, x8], [.lst (told.map toldD)])
      | some r => if (!decide (r.act.word.name = "pass") && canDo sc.cs w.me p.other r.act told) = true then
          ((if goesOn r.act = true then .next [fz h.d, fz sc.d, fz p.d, ow (.list ((minds.set i r.after).map .int)), fz (mkRef 0), fz (.int (i : Int)), fz w.d, fz r.d, fz r.act.d] else .ret (askD (told ++ [(i, r.act)], minds.set i r.after)) false), [.lst ((told ++ [(i, r.act)]).map toldD)])
        else (.next [fz h.d, fz sc.d, fz p.d, ow (.list ((minds.set i r.after).map .int)), fz (mkRef 0), fz (.int (i : Int)), fz w.d, fz r.d, fz r.act.d], [.lst (told.map toldD)])) := by
  have q1 := is_asked_v (k := k + 4) w p [.lst (told.map toldD)]
  have hm : L2.atI (minds.map PyData.int) (i : Int) = some (.int (minds.getD i 0)) := by
    rw [atI_nat (by rw [List.length_map]; exact hi), List.getElem_map]
    simp [List.getD_eq_getElem?_getD, hi]
  generalize minds.getD i 0 = mi at hm ⊢
  have q2 := rule_for_v (k := k) w mi sc p hl hw.fit [.lst (told.map toldD)]
  have hix := ixN_nat hi
  have hft : fitL told := by unfold fitL line; omega
  have htl : told.length < line := by unfold line; omega
  cases ha : isAsked w p with
  | false =>
    have e : ruleOf sc p w mi = none := by simp [ruleOf, ha]
    rw [e]
    simp [lb_asked_1, q1, ha]
  | true =>
    have e : ruleOf sc p w mi = w.rules.find? fun r => r.meets w.me mi sc.cs sc.night p := by simp [ruleOf, ha]
    rw [e]
    cases hr : w.rules.find? (fun r => r.meets w.me mi sc.cs sc.night p) with
    | none =>
      rw [hr] at q2
      simp only [optR_none] at q2
      simp [lb_asked_1, q1, ha, hm, q2]
    | some r =>
      rw [hr] at q2
      simp only [optR_some] at q2
      have hmem := List.mem_of_find?_eq_some hr
      have hmeet := List.find?_some hr
      have haim : r.act.word.name = "also" → ∃ l o, r.act.to = some l ∧ p.other = some o := by
        intro hx
        obtain ⟨h1, l, h2⟩ := hw.aim r hmem hx
        simp only [Rule.meets, Bool.and_eq_true, decide_eq_true_eq] at hmeet
        obtain ⟨o, h3⟩ := hp.other (by rw [← hmeet.1.2.1]; exact h1)
        exact ⟨l, o, h2, h3⟩
      have q3 := can_be_done_v (k := k) (j := 0) (told := told) w.me p.other r.act hl hft haim (st := [.lst (told.map toldD)]) rfl
      simp only
      by_cases hp1 : r.act.word.name = "pass"
      · simp [lb_asked_1, q1, ha, hm, q2, hix, hp1]
      · cases hc : canDo sc.cs w.me p.other r.act told with
        | false =>
          rw [hc] at q3
          simp [lb_asked_1, q1, ha, hm, q2, hix, hp1, q3]
        | true =>
          rw [hc] at q3
          by_cases hh : r.act.word.name = "hide"
          · simp [lb_asked_1, q1, ha, hm, q2, hix, hp1, q3, htl, viewRef, goesOn, hh, inAny, toldD]
          · by_cases hal : r.act.word.name = "also"
            · simp [lb_asked_1, q1, ha, hm, q2, hix, hp1, q3, htl, viewRef, goesOn, hal, inAny, toldD]
            · have g1 : ¬ "pass" = r.act.word.name := fun e => hp1 e.symm
              have g2 : ¬ "hide" = r.act.word.name := fun e => hh e.symm
              have g3 : ¬ "also" = r.act.word.name := fun e => hal e.symm
              simp [lb_asked_1, q1, ha, hm, q2, hix, hp1, q3, htl, viewRef, goesOn, hh, hal, g1, g2, g3, inAny, toldD, askD]
theorem ask_loop {k : Nat} {h : House} {sc : Scene} {p : Point} {its : List D} {deps : List (Op × D)} (hok : ∀ env st, Src.ok ⟨its, deps⟩ env st = true) (hl : fitL sc.cs) (hp : PointOk p) : ∀ (ws : List Wish), (∀ w ∈ ws, w.AFit) → ∀ (i : Nat) (minds : List Int) (told : Told), i + ws.length ≤ minds.length → told.length + ws.length < 1000 → ∀ x5 x6 x7 x8 : Option SV,
    ∃ f st', forLoop ⟨its, deps⟩ (asg true [5, 6]) (blkS (lb_asked_1 (CF (k + 5)))) ((ws.zipIdx i).map fun q => PyData.tuple [.int (q.2 : Int), q.1.d]) [fz h.d, fz sc.d, fz p.d, ow (.list (minds.map .int)), fz (mkRef 0), x5, x6, x7, x8] [.lst (told.map toldD)] = some (f, st') ∧
      (f = .ret (askD (askGo sc p ws i minds told)) false ∨ ∃ y5 y6 y7 y8, f = .next [fz h.d, fz sc.d, fz p.d, ow (.list ((askGo sc p ws i minds told).2.map .int)), fz (mkRef 0), y5, y6, y7, y8] ∧ st' = [.lst ((askGo sc p ws i minds told).1.map toldD)])
  | [], _, i, minds, told, _, _, x5, x6, x7, x8 => ⟨_, _, by rw [List.zipIdx_nil, List.map_nil, forL_n, if_pos (hok _ _)]; rfl, .inr ⟨x5, x6, x7, x8, rfl, rfl⟩⟩
  | w :: ws, ha, i, minds, told, hi, ht, x5, x6, x7, x8 => by
    rw [List.length_cons] at hi ht
    have s := ask1_v (k := k) (h := h) hl hp w (ha w List.mem_cons_self) (i := i) (minds := minds) (told := told) (by omega) (by omega) (x7 := x7) (x8 := x8)
    have ih := ask_loop (k := k) (h := h) hok hl hp ws (fun w hw => ha w (List.mem_cons_of_mem _ hw)) (i + 1)
    rw [List.zipIdx_cons, List.map_cons, forL_c, if_pos (hok _ _)]
    have e : asg true [5, 6] (PyData.tuple [.int (i : Int), w.d]) [fz h.d, fz sc.d, fz p.d, ow (.list (minds.map .int)), fz (mkRef 0), x5, x6, x7, x8] = some [fz h.d, fz sc.d, fz p.d, ow (.list (minds.map .int)), fz (mkRef 0), fz (.int (i : Int)), fz w.d, x7, x8] := rfl
    simp only [e, s]
    unfold askGo
    cases hr : ruleOf sc p w (minds.getD i 0) with
    | none => exact ih minds told (by omega) (by omega) _ _ _ _
    | some r =>
      simp only
      by_cases hc : (!decide (r.act.word.name = "pass") && canDo sc.cs w.me p.other r.act told) = true
      · rw [if_pos hc, if_pos hc]
        by_cases hg : goesOn r.act = true
        · rw [if_pos hg, if_pos hg]
          exact ih (minds.set i r.after) (told ++ [(i, r.act)]) (by rw [List.length_set]; omega) (by rw [List.length_append]; simp; omega) _ _ _ _
        · rw [if_neg hg, if_neg hg]
          exact ⟨_, _, rfl, .inl rfl⟩
      · rw [if_neg hc, if_neg hc]
        exact ih (minds.set i r.after) told (by rw [List.length_set]; omega) (by omega) _ _ _ _
theorem asked_v {k : Nat} (h : House) (sc : Scene) (p : Point) (hl : fitL sc.cs) (hp : PointOk p) (hw : ∀ w ∈ h.wishes, w.AFit) (hm : h.wishes.length ≤ sc.minds.length) (hm2 : h.wishes.length < 900) (st : S) :
    CF (k + 6) "asked" [h.d, sc.d, p.d] st = some ((askD (askGo sc p h.wishes 0 sc.minds []), false), st) := by
  obtain ⟨f, st', h1, h2⟩ := ask_loop (k := k) (h := h) (sc := sc) (p := p) (its := (h.wishes.zipIdx).map fun q => PyData.tuple [.int (q.2 : Int), q.1.d]) (deps := [(.v (.tuple (h.wishes.map Wish.d)), .tuple (h.wishes.map Wish.d))]) (fun env st => by simp) hl hp h.wishes hw 0 sc.minds [] (by omega) (by simp; omega) none none none none
  have h3 : forLoop ⟨(h.wishes.zipIdx).map fun q => PyData.tuple [.int (q.2 : Int), q.1.d], [(.v (.tuple (h.wishes.map Wish.d)), .tuple (h.wishes.map Wish.d))]⟩ (asg true [5, 6]) (blkS (lb_asked_1 (CF (k + 5)))) ((h.wishes.zipIdx).map fun q => PyData.tuple [.int (q.2 : Int), q.1.d])
      [some (SV.frz h.d), some (SV.frz sc.d), some (SV.frz p.d), ow (.list (sc.minds.map .int)), fz (mkRef 0), none, none, none, none] [.lst []] = some (f, st') := h1
  refine (ca_asked [h.d, sc.d, p.d] rfl st).trans (runS_iso (st1 := st') (by simp) ?_ (by simp [askD]) st)
  rcases h2 with rfl | ⟨y5, y6, y7, y8, rfl, rfl⟩
  · simp [runB_ap, sh_asked, h3]
  · simp [runB_ap, sh_asked, h3, viewRef, askD]

theorem take_v {j : Nat} {s0 : MO} {tl : S} {k : Nat} {st : S} (r : Rg s0 tl k st) (hk : k < 1000000) {m : Int} (hm : 0 < m) (hm2 : m < 2 ^ 30) : ∃ d st', CF (j + 1) "_law_take" [mkRef 1, .int m] st = some ((.int d, false), st') ∧ 0 ≤ d ∧ d < m ∧ Rg s0 tl (k + 1) st' := by
  obtain ⟨d, st', h1, h2, h3, h4⟩ := take_spec (call := CF j) r hk (m := m) hm hm2
  exact ⟨d, st', (ca_law_take (k := j) [mkRef 1, .int m] rfl st).trans h1, h2, h3, h4⟩

def How.all : List How := [.ring, .show, .talk, .hold0, .hold1, .busy, .shut, .back]
def HOWS : D := .list [.str "ring", .str "show", .str "talk", .str "hold0", .str "hold1", .str "busy", .str "shut", .str "back"]
@[simp] theorem hows_ref : refOf? HOWS = none := rfl
@[simp] theorem hows_item (i : Int) : item HOWS (.int i) = L2.atI (How.all.map fun h => PyData.str h.str) i := rfl
/-- the lines of a call: from 0 to n - 1, the greater one, the lesser one -/
def Call.between (c : Call) (i j : Int) : Prop := (c.a = i ∧ c.b = j) ∨ (c.a = j ∧ c.b = i)
def Call.hi (c : Call) : Int := max c.a c.b
def Call.lo (c : Call) : Int := min c.a c.b
/-- calls of lines 0 .. n - 1, between each two of them at most one -/
structure Calls (n : Int) (cs : List Call) : Prop where
  rng : ∀ c ∈ cs, 0 ≤ c.a ∧ c.a < n ∧ 0 ≤ c.b ∧ c.b < n ∧ c.a ≠ c.b ∧ (c.hid = 0 ∨ c.hid = 1)
  one : cs.Pairwise fun c e => ¬ (c.hi = e.hi ∧ c.lo = e.lo)
def Calls.under (cs : List Call) (j i : Int) : Prop := ∀ c ∈ cs, c.hi < j ∨ (c.hi = j ∧ c.lo < i)
theorem calls1_v {m : Nat} {s0 : MO} {tl : S} {k k0 : Nat} {st : S} (r : Rg s0 tl k st) (hk : k < 900000) {n : Int} {cs : List Call} {i j : Int} {x6 : Option SV} (hi : 0 ≤ i) (hij : i < j) (hj : j < n) (hc : Calls n cs) (hu : Calls.under cs j i) (hl : cs.length + k0 ≤ k) :
    ∃ cs' x6' st', blkS (lb_law_calls_1 (CF (m + 1))) [fz (mkRef 1), fz (.int n), fz HOWS, ow (.list (cs.map Call.d)), fz (.int j), fz (.int i), x6] st = some (.next [fz (mkRef 1), fz (.int n), fz HOWS, ow (.list (cs'.map Call.d)), fz (.int j), fz (.int i), x6'], st') ∧ Calls n cs' ∧ Calls.under cs' j (i + 1) ∧ cs'.length + k0 ≤ k + 4 ∧ Rg s0 tl (k + 4) st' := by
  obtain ⟨d1, st1, e1, _, _, r1⟩ := take_v (j := m) r (by omega) (m := 3) (by omega) (by omega)
  by_cases h1 : 0 < d1
  · obtain ⟨d2, st2, e2, a2, b2, r2⟩ := take_v (j := m) r1 (by omega) (m := 2) (by omega) (by omega)
    obtain ⟨d3, st3, e3, a3, b3, r3⟩ := take_v (j := m) r2 (by omega) (m := 8) (by omega) (by omega)
    obtain ⟨d4, st4, e4, a4, b4, r4⟩ := take_v (j := m) r3 (by omega) (m := 2) (by omega) (by omega)
    obtain ⟨h, eh, _⟩ := pick_map (f := fun h : How => PyData.str h.str) (xs := How.all) a3 b3
    obtain ⟨c, ec, hb⟩ : ∃ c : Call, (L2.atI [PyData.tuple [.int i, .int j], PyData.tuple [.int j, .int i]] d2 = some (PyData.tuple [.int c.a, .int c.b])) ∧ c.between i j ∧ c.how = h ∧ c.hid = d4 := by
      have : d2 = 0 ∨ d2 = 1 := by omega
      rcases this with rfl | rfl
      · exact ⟨⟨i, j, h, d4⟩, rfl, .inl ⟨rfl, rfl⟩, rfl, rfl⟩
      · exact ⟨⟨j, i, h, d4⟩, rfl, .inr ⟨rfl, rfl⟩, rfl, rfl⟩
    obtain ⟨hb, rfl, rfl⟩ := hb
    have hll : cs.length < line := by unfold line; omega
    refine ⟨cs ++ [c], fz (.tuple [.int c.a, .int c.b]), st4, ?_, ⟨?_, ?_⟩, ?_, ?_, r4⟩
    · simp [lb_law_calls_1, e1, h1, e2, e3, e4, ec, eh, hll, Call.d]
    · intro e he
      rcases List.mem_append.mp he with he | he
      · exact hc.rng e he
      · rw [List.mem_singleton.mp he]
        rcases hb with ⟨h3, h4⟩ | ⟨h3, h4⟩ <;> rw [h3, h4] <;> refine ⟨by omega, by omega, by omega, by omega, by omega, by omega⟩
    · refine List.pairwise_append.mpr ⟨hc.one, List.pairwise_singleton _ _, fun e he f hf => ?_⟩
      rw [List.mem_singleton.mp hf]
      have := hu e he
      unfold Call.hi Call.lo at *
      rcases hb with ⟨h3, h4⟩ | ⟨h3, h4⟩ <;> rw [h3, h4] <;> omega
    · intro e he
      rcases List.mem_append.mp he with he | he
      · have := hu e he; omega
      · rw [List.mem_singleton.mp he]
        unfold Call.hi Call.lo
        rcases hb with ⟨h3, h4⟩ | ⟨h3, h4⟩ <;> rw [h3, h4] <;> omega
    · rw [List.length_append]; simp; omega
  · refine ⟨cs, x6, st1, ?_, hc, fun c h => ?_, by omega, r1.mono (by omega)⟩
    · simp [lb_law_calls_1, e1, h1]
    · have := hu c h; omega

theorem alike_call (c e : Call) : PySem.W.alike c.d e.d = true := by
  obtain ⟨a, b, how, hid⟩ := c
  obtain ⟨a', b', how', hid'⟩ := e
  simp [Call.d, PySem.W.alike, PySem.W.alikeAll]
def callLe (a b : Call) : Bool := PySem.W.dataLe false id a.d b.d
def sortC (cs : List Call) : List Call := cs.mergeSort callLe
theorem sort_calls {cs : List Call} (h : fitL cs) : bSorted [.list (cs.map Call.d)] = some (.list ((sortC cs).map Call.d), true) := by
  have e : (cs.map Call.d).mergeSort (PySem.W.dataLe false id) = (sortC cs).map Call.d := (List.map_mergeSort (r := callLe) (s := PySem.W.dataLe false id) (f := Call.d) (fun a _ b _ => rfl)).symm
  have h' : sortOk (cs.map Call.d) = true := by
    unfold fitL at h
    simp [sortOk, h, alike_call]
    simp [Call.d, PyData.depth, PyData.depthAll, PyData.hasDict, PyData.hasDictAll]
  show (if sortOk (cs.map Call.d) = true then some (PyData.list ((cs.map Call.d).mergeSort (PySem.W.dataLe false id)), true) else none) = _
  rw [if_pos h', e]
theorem sortC_perm (cs : List Call) : (sortC cs).Perm cs := List.mergeSort_perm _ _
theorem sortC_len (cs : List Call) : (sortC cs).length = cs.length := (sortC_perm cs).length_eq
theorem Calls.sort {n : Int} {cs : List Call} (h : Calls n cs) : Calls n (sortC cs) :=
  ⟨fun c hc => h.rng c ((sortC_perm cs).mem_iff.mp hc), ((sortC_perm cs).pairwise_iff fun {a b} hab e => hab ⟨e.1.symm, e.2.symm⟩).mpr h.one⟩
theorem calls2_v {m : Nat} {s0 : MO} {tl : S} {k k0 : Nat} {st : S} (r : Rg s0 tl k st) (hk : k < 800000) {n : Int} {cs : List Call} {j : Int} {x5 x6 : Option SV} (hj0 : 0 ≤ j) (hj : j < n) (hj2 : j < 1000) (hc : Calls n cs) (hu : Calls.under cs j 0) (hl : cs.length + k0 ≤ k) :
    ∃ cs' x5' x6' st', blkS (lb_law_calls_2 (CF (m + 1))) [fz (mkRef 1), fz (.int n), fz HOWS, ow (.list (cs.map Call.d)), fz (.int j), x5, x6] st = some (.next [fz (mkRef 1), fz (.int n), fz HOWS, ow (.list (cs'.map Call.d)), fz (.int j), x5', x6'], st') ∧ Calls n cs' ∧ Calls.under cs' (j + 1) 0 ∧ cs'.length + k0 ≤ k + 4 * j.toNat ∧ Rg s0 tl (k + 4 * j.toNat) st' := by
  obtain ⟨env', st', h1, cs', x5', x6', rfl, h2, h3, h4, h5⟩ := for_range (its := (List.range j.toNat).map fun (i : Nat) => PyData.int (i : Int)) (asgn := asg false [5]) (body := blkS (lb_law_calls_1 (CF (m + 1)))) (n := j.toNat)
    (fun i env st => ∃ cs x5 x6, env = [fz (mkRef 1), fz (.int n), fz HOWS, ow (.list (cs.map Call.d)), fz (.int j), x5, x6] ∧ Calls n cs ∧ Calls.under cs j i ∧ cs.length + k0 ≤ k + 4 * i ∧ Rg s0 tl (k + 4 * i) st)
    (fun i hi env st h => by
      obtain ⟨cs, x5, x6, rfl, h2, h3, h4, h5⟩ := h
      refine ⟨_, rfl, ?_⟩
      obtain ⟨cs', x6', st', g1, g2, g3, g4, g5⟩ := calls1_v (m := m) h5 (by omega) (n := n) (i := i) (j := j) (x6 := x6) (by omega) (by omega) hj h2 h3 h4
      exact ⟨_, _, st', g1, .inl rfl, cs', _, x6', rfl, g2, g3, by omega, g5⟩)
    ⟨cs, x5, x6, rfl, hc, hu, hl, r⟩
  refine ⟨cs', x5', x6', st', ?_, h2, fun c hc => ?_, h4, h5⟩
  · have hs : small j = true := by simp [small]; omega
    simp [lb_law_calls_2, hs, h1]
  · have := h3 c hc
    unfold Call.hi Call.lo at *
    omega
theorem law_calls_v {m : Nat} {s0 : MO} {tl : S} {k : Nat} {st : S} (r : Rg s0 tl k st) (hk : k < 700000) {n : Int} (hn0 : 0 ≤ n) (hn : n ≤ 4) :
    ∃ cs st', CF (m + 2) "_law_calls" [mkRef 1, .int n] st = some ((callsD cs, false), st') ∧ Calls n cs ∧ ((∃ cs0, cs = sortC cs0) ∧ cs.length ≤ 64) ∧ fitL cs ∧ Rg s0 tl (k + 64) st' := by
  obtain ⟨env', st', h1, cs', x4', x5', x6', rfl, h2, h3, h4, h5⟩ := for_range (its := (List.range n.toNat).map fun (i : Nat) => PyData.int (i : Int)) (asgn := asg false [4]) (body := blkS (lb_law_calls_2 (CF (m + 1)))) (n := n.toNat)
    (fun i env st => ∃ cs x4 x5 x6, env = [fz (mkRef 1), fz (.int n), fz HOWS, ow (.list (cs.map Call.d)), x4, x5, x6] ∧ Calls n cs ∧ Calls.under cs i 0 ∧ cs.length + k ≤ k + 16 * i ∧ Rg s0 tl (k + 16 * i) st)
    (fun i hi env st h => by
      obtain ⟨cs, x4, x5, x6, rfl, h2, h3, h4, h5⟩ := h
      refine ⟨_, rfl, ?_⟩
      obtain ⟨cs', x5', x6', st', g1, g2, g3, g4, g5⟩ := calls2_v (m := m) (k0 := k) h5 (by omega) (n := n) (j := i) (x5 := x5) (x6 := x6) (by omega) (by omega) (by omega) h2 h3 h4
      have : i ≤ 4 := by omega
      exact ⟨_, _, st', g1, .inl rfl, cs', _, x5', x6', rfl, g2, g3, by omega, g5.mono (by omega)⟩)
    (env := [fz (mkRef 1), fz (.int n), fz HOWS, ow (.list []), none, none, none]) (st := st) ⟨[], none, none, none, rfl, ⟨fun c h => (List.not_mem_nil h).elim, List.Pairwise.nil⟩, fun c h => (List.not_mem_nil h).elim, by simp, r⟩
  have hf : fitL cs' := by unfold fitL line; omega
  refine ⟨sortC cs', st', ?_, h2.sort, ⟨⟨cs', rfl⟩, by rw [sortC_len]; omega⟩, ?_, h5.mono (by omega)⟩
  · have hs : small n = true := by simp [small]; omega
    have e0 : (PyData.list [.str "ring", .str "show", .str "talk", .str "hold0", .str "hold1", .str "busy", .str "shut", .str "back"]) = HOWS := rfl
    refine (ca_law_calls (k := m + 1) [mkRef 1, .int n] rfl st).trans ?_
    unfold runS
    rw [if_neg (by simp [noRef_mkRef])]
    simp [runB_ap, sh_law_calls, e0, hs, h1, sort_calls hf]
  · unfold fitL line at *; rw [sortC_len]; exact hf

theorem hand_v {j : Nat} {ns : List Int} (hn : ns.length ≤ 63) : ∃ a b : Int, CF (j + 1) "_law_hand" [mkRef 0] [.scr ns] = some ((.list [.int a, .int b, .int 0], true), [.scr ns]) ∧ Rg (.scr ns) [] 0 [.scr ns, .lst [.int a, .int b, .int 0]] := by
  obtain ⟨a, b, h1, ha, hb0, hb⟩ := hand_spec (call := CF j) (ns := ns) (tl := []) hn
  exact ⟨a, b, (ca_law_hand (k := j) [mkRef 0] rfl [.scr ns]).trans h1, rg_start ha hb0 hb⟩

/-- a pattern of a house of n lines -/
def PatOk (n : Int) (p : Pat) : Prop := ∀ xs, p = some xs → xs ≠ [] ∧ xs.Pairwise (· < ·) ∧ ∀ x ∈ xs, 0 ≤ x ∧ x < n
theorem law_pattern_v {m : Nat} {s0 : MO} {tl : S} {k : Nat} {st : S} (r : Rg s0 tl k st) (hk : k < 900000) {n : Int} (hn0 : 1 ≤ n) (hn : n ≤ 4) :
    ∃ p st', CF (m + 2) "_law_pattern" [mkRef 1, .int n] st = some ((Pat.d p, false), st') ∧ PatOk n p ∧ Rg s0 tl (k + 6) st' := by
  obtain ⟨d1, st1, e1, a1, b1, r1⟩ := take_v (j := m) r (by omega) (m := 2) (by omega) (by omega)
  have hs : small n = true := by simp [small]; omega
  by_cases h1 : d1 = 0
  · subst h1
    refine ⟨none, st1, ?_, (fun xs h => nomatch h), r1.mono (by omega)⟩
    refine (ca_law_pattern (k := m + 1) [mkRef 1, .int n] rfl st).trans ?_
    unfold runS
    rw [if_neg (by simp [noRef_mkRef])]
    simp [runB_ap, sh_law_pattern, e1, Pat.d]
  · obtain ⟨d2, st2, e2, a2, b2, r2⟩ := take_v (j := m) r1 (by omega) (m := n) (by omega) (by omega)
    obtain ⟨ys, st3, e3, h3, r3⟩ := xlc_draw (vs := [3]) (tp := false) (js := [3]) (src := rr1 (xv 1)) (test := tor (tcmp .Eq (ov 3) (ov 2)) (tcmp .Eq (ox (xcall (CF (m + 1)) "_law_take" [xv 0, xc (.int (3))])) (ox (xc (.int (0)))))) (elt := xv 3)
      (env := [fz (mkRef 1), fz (.int n), fz (.int d2), none]) (st0 := st2) (st := st2) (s0 := s0) (tl := tl) (k := k + 1 + 1) (enc := fun i : Nat => PyData.int (i : Int)) (deps := []) (List.range n.toNat) (fun i : Nat => PyData.int (i : Int)) (fun i => (i : Int) ≠ d2) (fun a y => y = a) 1 1000000
      (by simp [hs]) (fun st => rfl) (by apply fit_range; unfold line; omega)
      (fun a ha k st r hk => by
        refine ⟨_, rfl, ?_⟩
        by_cases hq : (a : Int) = d2
        · exact ⟨true, st, by simp [hq], .inr ⟨rfl, a, false, st, by simp, rfl, r.mono (by omega)⟩⟩
        · obtain ⟨d4, st4, e4, a4, b4, r4⟩ := take_v (j := m) r hk (m := 3) (by omega) (by omega)
          refine ⟨decide (d4 = 0), st4, by simp [hq, e4], ?_⟩
          by_cases h4 : d4 = 0
          · exact .inr ⟨by simp [h4], a, false, st4, by simp, rfl, r4⟩
          · exact .inl ⟨by simp [h4], hq, r4⟩)
      r2 (by rw [List.length_range]; omega) (by omega)
    refine ⟨some (ys.map fun i : Nat => (i : Int)), st3, ?_, ?_, r3.mono (by rw [List.length_range]; omega)⟩
    · refine (ca_law_pattern (k := m + 1) [mkRef 1, .int n] rfl st).trans ?_
      unfold runS
      rw [if_neg (by simp [noRef_mkRef])]
      simp [runB_ap, sh_law_pattern, e1, h1, e2, e3, Pat.d, -xlc_ap]
    · intro xs hx
      cases hx
      refine ⟨?_, ?_, ?_⟩
      · have : d2.toNat ∈ ys := h3.has (a := d2.toNat) (List.mem_range.mpr (by omega)) (by simp; omega)
        intro e
        rw [List.map_eq_nil_iff] at e
        rw [e] at this
        cases this
      · have : ys.Pairwise (· < ·) := List.Pairwise.sublist h3.sub List.pairwise_lt_range
        exact List.pairwise_map.mpr (this.imp fun h => by omega)
      · intro x hx
        obtain ⟨i, hi, rfl⟩ := List.mem_map.mp hx
        have := List.mem_range.mp (h3.sub.mem hi)
        omega
theorem PatOk.len {n : Int} {p : Pat} (h : PatOk n p) (hn : n ≤ 4) {xs : List Int} (e : p = some xs) : xs.length ≤ 4 := by
  obtain ⟨_, h1, h2⟩ := h xs e
  match xs, h1, h2 with
  | [], _, _ => simp
  | [a], _, _ => simp
  | [a, b], _, _ => simp
  | [a, b, c], _, _ => simp
  | [a, b, c, d], _, _ => simp
  | a :: b :: c :: d :: e :: r, h1, h2 =>
    have := h2 a (by simp); have := h2 e (by simp)
    simp only [List.pairwise_cons] at h1
    have := h1.1 b (by simp); have := h1.2.1 c (by simp); have := h1.2.2.1 d (by simp); have := h1.2.2.2.1 e (by simp)
    omega

def TESTS : List Tst := [.night, .day, .talk, .mute, .held, .bare, .shown, .clear, .idle, .used, .hid, .named]
def TST : D := .list [.str "night", .str "day", .str "talk", .str "mute", .str "held", .str "bare", .str "shown", .str "clear", .str "idle", .str "used", .str "hid", .str "named"]
theorem tst_eq : TST = .list (TESTS.map Tst.d) := rfl
@[simp] theorem tst_ref : refOf? TST = none := rfl
@[simp] theorem tst_item (i : Int) : item TST (.int i) = L2.atI (TESTS.map Tst.d) i := rfl
@[simp] theorem tst_eqv (a b : Tst) : PyData.eqv a.d b.d = decide (a = b) := by cases a <;> cases b <;> simp [Tst.d, Tst.str]
/-- some tests in their order -/
def TestsOk (ts : List Tst) : Prop := ts.Sublist TESTS
theorem TestsOk.len {ts : List Tst} (h : TestsOk ts) : ts.length ≤ 12 := h.length_le

theorem law_tests_v {m : Nat} {s0 : MO} {tl : S} {k : Nat} {st : S} (r : Rg s0 tl k st) (hk : k < 900000) :
    ∃ ts st', CF (m + 2) "_law_tests" [mkRef 1] st = some ((.tuple (ts.map Tst.d), false), st') ∧ TestsOk ts ∧ Rg s0 tl (k + 4) st' := by
  obtain ⟨d1, st1, e1, a1, b1, r1⟩ := take_v (j := m) r (by omega) (m := 8) (by omega) (by omega)
  obtain ⟨c, ec, hc⟩ := pick_map (f := PyData.int) (xs := [0, 0, 0, 1, 1, 1, 2, 3]) a1 b1
  simp only [List.map_cons, List.map_nil] at ec
  have hc : 0 ≤ c ∧ c ≤ 3 := by simp at hc; omega
  obtain ⟨ys, st2, e2, h2, _, r2⟩ := xlc_drawn (vs := [4]) (tp := false) (js := [4]) (src := rr1 (xv 2)) (elt := xit (ov 1) (ox (xcall (CF (m + 1)) "_law_take" [xv 0, xc (.int (12))])))
    (env := [fz (mkRef 1), fz TST, fz (.int c), none, none, none]) (st0 := st1) (st := st1) (s0 := s0) (tl := tl) (k := k + 1) (enc := fun i : Nat => PyData.int (i : Int)) (deps := []) (List.range c.toNat) Tst.d (fun _ => True) 1 1000000
    (by have : small c = true := by simp [small]; omega
        simp [this]) (fun st => rfl) (by apply fit_range; unfold line; omega)
    (fun a ha k st r hk => by
      refine ⟨_, rfl, ?_⟩
      obtain ⟨d4, st4, e4, a4, b4, r4⟩ := take_v (j := m) r hk (m := 12) (by omega) (by omega)
      obtain ⟨t, et, _⟩ := pick_map (f := Tst.d) (xs := TESTS) a4 (by simp [TESTS]; omega)
      refine ⟨t, false, st4, ?_, trivial, r4⟩
      simp [e4, et])
    r1 (by rw [List.length_range]; omega) (by omega)
  refine ⟨TESTS.filter fun t => decide (t ∈ ys), st2, ?_, List.filter_sublist, r2.mono (by rw [List.length_range]; omega)⟩
  refine (ca_law_tests (k := m + 1) [mkRef 1] rfl st).trans ?_
  unfold runS
  rw [if_neg (by simp [noRef_mkRef])]
  have e0 : (PyData.list [.str "night", .str "day", .str "talk", .str "mute", .str "held", .str "bare", .str "shown", .str "clear", .str "idle", .str "used", .str "hid", .str "named"]) = TST := rfl
  have hl : xlc [5] false [5] (rpl (ov 1)) (tcmp .In (ov 5) (ov 3)) (xv 5) [fz (mkRef 1), fz TST, fz (.int c), fz (.list (ys.map Tst.d)), none, none] st2 = some ((.list ((TESTS.filter fun t => decide (t ∈ ys)).map Tst.d), true), st2) := by
    rw [tst_eq]
    have hf : fitL TESTS := by simp [TESTS]
    generalize TESTS = ts at hf ⊢
    simp [hf]
  simp [runB_ap, sh_law_tests, e1, ec, e2, e0, hl, -xlc_ap]

def W (s : String) (h : PyData.strOk (Str.ofString s) = true := by decide +kernel) : Wd := ⟨s, h⟩
def KIND12 : List Wd := [W "in", W "full", W "in", W "flash", W "out", W "met", W "long", W "drop", W "free", W "flash", W "full", W "long"]
def ACTSD : D := .dict [(.str "out", .list [.str "bar", .str "hide"]), (.str "in", .list [.str "shut", .str "send", .str "also"]), (.str "full", .list [.str "shut", .str "send", .str "show"]), (.str "met", .list []), (.str "long", .list [.str "shut", .str "send"]), (.str "flash", .list [.str "swap", .str "join"]), (.str "drop", .list [.str "keep"]), (.str "free", .list [.str "ring"])]
def actsOf (w : Wd) : List Wd :=
  if w.name = "out" then [W "bar", W "hide"] else if w.name = "in" then [W "shut", W "send", W "also"] else if w.name = "full" then [W "shut", W "send", W "show"]
  else if w.name = "long" then [W "shut", W "send"] else if w.name = "flash" then [W "swap", W "join"] else if w.name = "drop" then [W "keep"] else if w.name = "free" then [W "ring"] else []
theorem acts_item {w : Wd} (h : w ∈ KIND12) : item ACTSD w.d = some (.list ((actsOf w).map Wd.d)) := by
  simp only [KIND12, List.mem_cons, List.not_mem_nil, or_false] at h
  rcases h with rfl | rfl | rfl | rfl | rfl | rfl | rfl | rfl | rfl | rfl | rfl | rfl <;> simp [W, ACTSD, actsOf]
theorem acts_len (w : Wd) : (actsOf w).length ≤ 3 := by
  unfold actsOf
  repeat' split
  all_goals simp
/-- an act as the document has it for a wish of the line me -/
def ActOk (n me : Int) (a : Act) : Prop := if a.word.name = "send" ∨ a.word.name = "also" then ∃ l, a.to = some l ∧ 0 ≤ l ∧ l < n ∧ l ≠ me else a.to = none
structure RuleOk (n me : Int) (r : Rule) : Prop where
  s : 0 ≤ r.s ∧ r.s < 8
  kind : r.kind ∈ KIND12
  word : r.act.word ∈ actsOf r.kind ++ actsOf r.kind ++ [W "pass"]
  act : ActOk n me r.act
  pat : PatOk n r.pat
  bare : r.kind.name = "flash" ∨ r.kind.name = "drop" → r.pat = none
  tests : TestsOk r.tests
  after : 0 ≤ r.after ∧ r.after < 8

theorem law_far_v {m : Nat} {s0 : MO} {tl : S} {k : Nat} {st : S} (r : Rg s0 tl k st) (hk : k < 900000) {n me : Int} (hn0 : 2 ≤ n) (hn : n ≤ 4) (hm0 : 0 ≤ me) (hm : me < n) :
    ∃ l st', CF (m + 2) "_law_far" [mkRef 1, .int n, .int me] st = some ((.int l, false), st') ∧ 0 ≤ l ∧ l < n ∧ l ≠ me ∧ Rg s0 tl (k + 1) st' := by
  obtain ⟨d3, st3, e3, a3, b3, r3⟩ := take_v (j := m) r (by omega) (m := n - 1) (by omega) (by omega)
  have hp : 0 < n := by omega
  have hmod : 0 ≤ (me + 1 + d3) % n ∧ (me + 1 + d3) % n < n := ⟨Int.emod_nonneg _ (by omega), Int.emod_lt_of_pos _ hp⟩
  have hne : (me + 1 + d3) % n ≠ me := by
    intro e
    by_cases hlt : me + 1 + d3 < n
    · rw [Int.emod_eq_of_lt (by omega) hlt] at e; omega
    · have : (me + 1 + d3) % n = me + 1 + d3 - n := by
        rw [← Int.sub_emod_right, Int.emod_eq_of_lt (by omega) (by omega)]
      omega
  refine ⟨(me + 1 + d3) % n, st3, (ca_law_far (k := m + 1) [mkRef 1, .int n, .int me] rfl st).trans ?_, hmod.1, hmod.2, hne, r3⟩
  unfold runS
  rw [if_neg (by simp [noRef_mkRef])]
  simp [runB_ap, sh_law_far, e3, hp]
theorem law_rule_v {m : Nat} {s0 : MO} {tl : S} {k : Nat} {st : S} (r : Rg s0 tl k st) (hk : k < 800000) {n me : Int} (hn0 : 2 ≤ n) (hn : n ≤ 4) (hm0 : 0 ≤ me) (hm : me < n) {c : Int} (hc0 : 1 ≤ c) (hc : c ≤ 8) :
    ∃ q st', CF (m + 3) "_law_rule" [mkRef 1, .int n, .int me, .int c] st = some ((Rule.d q, false), st') ∧ RuleOk n me q ∧ Rg s0 tl (k + 15) st' := by
  obtain ⟨d1, st1, e1, a1, b1, r1⟩ := take_v (j := m + 1) r (by omega) (m := 12) (by omega) (by omega)
  obtain ⟨w, q1, hw⟩ := pick_map (f := Wd.d) (xs := KIND12) a1 b1
  replace q1 : L2.atI [PyData.str "in", .str "full", .str "in", .str "flash", .str "out", .str "met", .str "long", .str "drop", .str "free", .str "flash", .str "full", .str "long"] d1 = some w.d := q1
  have ha := acts_item hw
  have hal := acts_len w
  obtain ⟨d2, st2, e2, a2, b2, r2⟩ := take_v (j := m + 1) r1 (by omega) (m := ((actsOf w).length : Int) + (((actsOf w).length : Int) + 1)) (by omega) (by omega)
  obtain ⟨x, q2, hx⟩ := pick_map (f := Wd.d) (xs := actsOf w ++ actsOf w ++ [W "pass"]) a2 (by simp; omega)
  have hxn : x.name = "send" ∨ x.name = "also" ∨ ¬ (x.name = "send" ∨ x.name = "also") := by by_cases h1 : x.name = "send" <;> by_cases h2 : x.name = "also" <;> simp [h1, h2]
  obtain ⟨a, st3, e3, hao, haw, r3⟩ : ∃ (a : Act) (st3 : S), (∀ x4 x5 x6 x7 x9, sif (tcmp .In (ox (xit (ov 8) (ox (xc (.int (0)))))) (ox (xtup [xc (.str ("send" : Str)), xc (.str ("also" : Str))]))) [sset 8 false false (xbin .Add (ov 8) (ox (xtup [xcall (CF (m + 2)) "_law_far" [xv 0, xv 1, xv 2]])))] []
      [fz (mkRef 1), fz (.int n), fz (.int me), fz (.int c), x4, x5, x6, x7, fz (.tuple [x.d]), x9] st2 = some (.next [fz (mkRef 1), fz (.int n), fz (.int me), fz (.int c), x4, x5, x6, x7, fz a.d, x9], st3)) ∧ ActOk n me a ∧ a.word = x ∧ Rg s0 tl (k + 1 + 1 + 1) st3 := by
    by_cases h : x.name = "send" ∨ x.name = "also"
    · obtain ⟨l, st3, e3, a3, b3, c3, r3⟩ := law_far_v (m := m) r2 (by omega) hn0 hn hm0 hm
      refine ⟨⟨x, some l⟩, st3, fun x4 x5 x6 x7 x9 => ?_, ?_, rfl, r3⟩
      · rcases h with h | h <;> simp [inAny, h, e3, Act.d]
      · unfold ActOk
        rw [if_pos h]
        exact ⟨_, rfl, a3, b3, c3⟩
    · refine ⟨⟨x, none⟩, st2, fun x4 x5 x6 x7 x9 => ?_, ?_, rfl, r2.mono (by omega)⟩
      · have g1 : ¬ "send" = x.name := fun e => h (.inl e.symm)
        have g2 : ¬ "also" = x.name := fun e => h (.inr e.symm)
        simp [inAny, g1, g2, Act.d]
      · unfold ActOk
        rw [if_neg h]
  obtain ⟨p0, st4, e4, hpo0, r4⟩ := law_pattern_v (m := m) r3 (by omega) (n := n) (by omega) hn
  obtain ⟨p, hpo, hpb, e4b⟩ : ∃ (p : Pat), PatOk n p ∧ (w.name = "flash" ∨ w.name = "drop" → p = none) ∧ (∀ x4 x6 x7 x8 st, sif (tcmp .In (ov 5) (ox (xtup [xc (.str ("flash" : Str)), xc (.str ("drop" : Str))]))) [sset 9 false false (xc (.none))] []
      [fz (mkRef 1), fz (.int n), fz (.int me), fz (.int c), x4, fz w.d, x6, x7, x8, fz (Pat.d p0)] st = some (.next [fz (mkRef 1), fz (.int n), fz (.int me), fz (.int c), x4, fz w.d, x6, x7, x8, fz (Pat.d p)], st)) := by
    by_cases h : w.name = "flash" ∨ w.name = "drop"
    · exact ⟨none, (fun xs h => nomatch h), fun _ => rfl, fun x4 x6 x7 x8 st => by rcases h with h | h <;> simp [inAny, h, Pat.d]⟩
    · have g1 : ¬ "flash" = w.name := fun e => h (.inl e.symm)
      have g2 : ¬ "drop" = w.name := fun e => h (.inr e.symm)
      exact ⟨p0, hpo0, fun h' => absurd h' h, fun x4 x6 x7 x8 st => by simp [inAny, g1, g2]⟩
  obtain ⟨d5, st5, e5, a5, b5, r5⟩ := take_v (j := m + 1) r4 (by omega) (m := c) (by omega) (by omega)
  obtain ⟨ts, st6, e6, h6, r6⟩ := law_tests_v (m := m) r5 (by omega)
  obtain ⟨d7, st7, e7, a7, b7, r7⟩ := take_v (j := m + 1) r6 (by omega) (m := c) (by omega) (by omega)
  refine ⟨⟨d5, w, p, ts, a, d7⟩, st7, ?_, ⟨by simp only; omega, hw, by simp only [haw]; exact hx, hao, hpo, hpb, h6, by simp only; omega⟩, r7.mono (by omega)⟩
  refine (ca_law_rule (k := m + 2) [mkRef 1, .int n, .int me, .int c] rfl st).trans ?_
  unfold runS
  rw [if_neg (by simp [noRef_mkRef])]
  have ha' : item (PyData.dict [(.str "out", .list [.str "bar", .str "hide"]), (.str "in", .list [.str "shut", .str "send", .str "also"]), (.str "full", .list [.str "shut", .str "send", .str "show"]), (.str "met", .list []), (.str "long", .list [.str "shut", .str "send"]), (.str "flash", .list [.str "swap", .str "join"]), (.str "drop", .list [.str "keep"]), (.str "free", .list [.str "ring"])]) w.d = some (.list ((actsOf w).map Wd.d)) := ha
  have n1 : (actsOf w).length + (actsOf w).length ≤ line := by unfold line; omega
  have n2 : (actsOf w).length + (actsOf w).length + 1 ≤ line := by unfold line; omega
  have n3 : (actsOf w).length + ((actsOf w).length + 1) ≤ line := by unfold line; omega
  have q2' : L2.atI ((actsOf w).map Wd.d ++ ((actsOf w).map Wd.d ++ [.str (Str.ofString "pass")])) d2 = some x.d := by
    rw [List.map_append, List.map_append, List.append_assoc] at q2
    exact q2
  simp [runB_ap, sh_law_rule, e1, q1, ha', e2, n1, n2, n3, q2', e3, e4, e4b, e5, e6, e7, Rule.d, -item_d, -sif_ap]

theorem RuleOk.aimed {n me : Int} {r : Rule} (h : RuleOk n me r) : r.aimed := by
  intro hx
  have hw := h.word
  have hk := h.kind
  have ha := h.act
  unfold ActOk at ha
  rw [if_pos (.inr hx)] at ha
  obtain ⟨l, hl, _⟩ := ha
  refine ⟨?_, l, hl⟩
  obtain ⟨s, kind, pat, tests, act, after⟩ := r
  simp only at *
  obtain ⟨word, to⟩ := act
  simp only at *
  have hn := List.mem_map_of_mem (f := Wd.name) hw
  rw [hx] at hn
  simp only [KIND12, List.mem_cons, List.not_mem_nil, or_false] at hk
  rcases hk with rfl | rfl | rfl | rfl | rfl | rfl | rfl | rfl | rfl | rfl | rfl | rfl <;> first | rfl | (exfalso; simp [actsOf, W] at hn)

def W2 : List (Wd × Int) := [(⟨"comes", by decide +kernel⟩, 2), (⟨"rings", by decide +kernel⟩, 2), (⟨"shows", by decide +kernel⟩, 2), (⟨"busy", by decide +kernel⟩, 2), (⟨"shut", by decide +kernel⟩, 2), (⟨"talks", by decide +kernel⟩, 2), (⟨"ends", by decide +kernel⟩, 2), (⟨"waits", by decide +kernel⟩, 2), (⟨"holds", by decide +kernel⟩, 2), (⟨"backs", by decide +kernel⟩, 2), (⟨"dial", by decide +kernel⟩, 2), (⟨"sent", by decide +kernel⟩, 3),
  (⟨"take", by decide +kernel⟩, 1), (⟨"drop", by decide +kernel⟩, 1), (⟨"flash", by decide +kernel⟩, 1), (⟨"joins", by decide +kernel⟩, 1), (⟨"frees", by decide +kernel⟩, 1), (⟨"wait", by decide +kernel⟩, 0), (⟨"turn", by decide +kernel⟩, 0), (⟨"night", by decide +kernel⟩, 0), (⟨"day", by decide +kernel⟩, 0), (⟨"done", by decide +kernel⟩, 0)]
def w2D (p : Wd × Int) : D := .tuple [p.1.d, .int p.2]
def W2D : D := .list (W2.map w2D)
@[simp] theorem w2_ref : refOf? W2D = none := rfl
@[simp] theorem w2_item (i : Int) : item W2D (.int i) = L2.atI (W2.map w2D) i := rfl
@[simp] theorem w2_asg (js : List Nat) (p : Wd × Int) (env : Env) : asg true js (w2D p) env = setE env js [p.1.d, .int p.2] := rfl
theorem w2_many {p : Wd × Int} (h : p ∈ W2) : 0 ≤ p.2 ∧ p.2 ≤ 3 := by
  have : ∀ q ∈ W2.map Prod.snd, (0 : Int) ≤ q ∧ q ≤ 3 := by decide
  exact this p.2 (List.mem_map_of_mem h)
theorem law_words_v {k : Nat} (st : S) : CF (k + 1) "_law_words" [] st = some ((W2D, true), st) := iso (st0 := []) (st1 := []) rfl (by rw [ca_law_words [] rfl]; kernel_rfl) st
/-- one of the words -/
theorem word_pick {d1 d2 : Int} (a1 : 0 ≤ d1) (b1 : d1 < 22) (a2 : 0 ≤ d2) (b2 : d2 < 4) : ∃ i p, L2.atI [PyData.int d1, PyData.int 0, PyData.int 1, PyData.int 5] d2 = some (.int i) ∧ L2.atI (W2.map w2D) i = some (w2D p) ∧ p ∈ W2 := by
  obtain ⟨i, e1, h1⟩ := pick_map (f := PyData.int) (xs := [d1, 0, 1, 5]) a2 b2
  have hi : 0 ≤ i ∧ i < 22 := by simp at h1; omega
  obtain ⟨p, e2, h2⟩ := pick_map (f := w2D) (xs := W2) hi.1 hi.2
  exact ⟨i, p, e1, e2, h2⟩

structure TRuleOk (n : Int) (r : TRule) : Prop where
  s : 0 ≤ r.s ∧ r.s < 8
  arity : (r.word, (r.pats.length : Int)) ∈ W2
  pats : ∀ p ∈ r.pats, PatOk n p
  tests : TestsOk r.tests
  after : ∀ a, r.after = some a → 0 ≤ a ∧ a < 8
theorem TRuleOk.fit {n : Int} {r : TRule} (h : TRuleOk n r) : r.fit := by
  have h1 := w2_many h.arity
  have h2 := h.tests.len
  refine ⟨?_, ?_⟩ <;> unfold fitL line <;> omega
theorem law_tale_rule_v {m : Nat} {s0 : MO} {tl : S} {k : Nat} {st : S} (r : Rg s0 tl k st) (hk : k < 800000) {n : Int} (hn0 : 1 ≤ n) (hn : n ≤ 4) {c : Int} (hc0 : 1 ≤ c) (hc : c ≤ 8) :
    ∃ q st', CF (m + 3) "_law_tale_rule" [mkRef 1, .int n, .int c] st = some ((TRule.d q, false), st') ∧ TRuleOk n q ∧ Rg s0 tl (k + 32) st' := by
  obtain ⟨d1, st1, e1, a1, b1, r1⟩ := take_v (j := m + 1) r (by omega) (m := 22) (by omega) (by omega)
  obtain ⟨d2, st2, e2, a2, b2, r2⟩ := take_v (j := m + 1) r1 (by omega) (m := 4) (by omega) (by omega)
  obtain ⟨i, ⟨w, c2⟩, q1, q2, hp⟩ := word_pick a1 b1 a2 b2
  have hm := w2_many hp
  simp only at hm
  have hs : small c2 = true := by simp [small]; omega
  obtain ⟨ps, st3, e3, h3, h3', r3⟩ := xlc_drawn (vs := [8]) (tp := false) (js := [8]) (src := rr1 (xv 7)) (elt := xcall (CF (m + 2)) "_law_pattern" [xv 0, xv 1])
    (env := [fz (mkRef 1), fz (.int n), fz (.int c), fz W2D, none, none, fz w.d, fz (.int c2), none]) (st0 := st2) (st := st2) (s0 := s0) (tl := tl) (k := k + 1 + 1) (enc := fun i : Nat => PyData.int (i : Int)) (deps := []) (List.range c2.toNat) Pat.d (PatOk n) 6 850000
    (by simp [hs]) (fun st => rfl) (by apply fit_range; unfold line; omega)
    (fun a ha k st r hk => by
      refine ⟨_, rfl, ?_⟩
      obtain ⟨p, st', e, h, r'⟩ := law_pattern_v (m := m) r (by omega) hn0 hn
      exact ⟨p, false, st', by simp [e], h, r'⟩)
    r2 (by rw [List.length_range]; omega) (by omega)
  rw [List.length_range] at h3 r3
  obtain ⟨d4, st4, e4, a4, b4, r4⟩ := take_v (j := m + 1) r3 (by omega) (m := c) (by omega) (by omega)
  obtain ⟨d5, st5, e5, a5, b5, r5⟩ := take_v (j := m + 1) r4 (by omega) (m := c) (by omega) (by omega)
  obtain ⟨d6, st6, e6, a6, b6, r6⟩ := take_v (j := m + 1) r5 (by omega) (m := 5) (by omega) (by omega)
  obtain ⟨af, q3, h7⟩ := pick_map (f := optI) (xs := [none, some 0, some (1 % c), some d4, some d5]) a6 b6
  replace q3 : L2.atI [PyData.none, PyData.int 0, PyData.int (1 % c), PyData.int d4, PyData.int d5] d6 = some (optI af) := q3
  obtain ⟨d8, st8, e8, a8, b8, r8⟩ := take_v (j := m + 1) r6 (by omega) (m := c) (by omega) (by omega)
  obtain ⟨ts, st9, e9, h9, r9⟩ := law_tests_v (m := m) r8 (by omega)
  have hcp : 0 < c := by omega
  refine ⟨⟨d8, w, ps, ts, af⟩, st9, ?_, ⟨by simp only; omega, ?_, h3', h9, ?_⟩, r9.mono (by omega)⟩
  · refine (ca_law_tale_rule (k := m + 2) [mkRef 1, .int n, .int c] rfl st).trans ?_
    unfold runS
    rw [if_neg (by simp [noRef_mkRef])]
    simp [runB_ap, sh_law_tale_rule, law_words_v, e1, e2, q1, q2, e3, e4, e5, e6, q3, e8, e9, hcp, TRule.d, -xlc_ap]
  · simp only [h3]
    have : ((c2.toNat : Nat) : Int) = c2 := by omega
    rw [this]
    exact hp
  · intro a ha
    simp only at ha
    subst ha
    have hmod : 0 ≤ 1 % c ∧ 1 % c < c := ⟨Int.emod_nonneg _ (by omega), Int.emod_lt_of_pos _ hcp⟩
    simp at h7
    omega

def How.rk : How → Int
  | .back => 0
  | .busy => 1
  | .hold0 => 2
  | .hold1 => 3
  | .ring => 4
  | .show => 5
  | .shut => 6
  | .talk => 7
theorem rk_inj (h h' : How) : (h.rk = h'.rk) = (h = h') := by cases h <;> cases h' <;> simp [How.rk]
theorem rk_lt (h h' : How) : decide (h.str.cps.toList < h'.str.cps.toList) = decide (h.rk < h'.rk) := by
  cases h <;> cases h' <;> decide +kernel
theorem str_inj (h h' : How) : (h.str = h'.str) = (h = h') := by
  cases h <;> cases h' <;> simp <;> decide +kernel
theorem callLt_eq (a b : Call) : PySem.W.dataLt a.d b.d = decide (a.a < b.a ∨ a.a = b.a ∧ (a.b < b.b ∨ a.b = b.b ∧ (a.how.rk < b.how.rk ∨ a.how.rk = b.how.rk ∧ a.hid < b.hid))) := by
  unfold Call.d
  rw [PySem.W.dataLt_tuple, PySem.W.dataLt_cons (by simp [PySem.W.alike]), PySem.W.dataLt_cons (by simp [PySem.W.alike]), PySem.W.dataLt_cons (by simp [PySem.W.alike]), PySem.W.dataLt_cons (by simp [PySem.W.alike]), PySem.W.dataLt_int, PySem.W.dataLt_int, PySem.W.dataLt_int, PySem.W.dataLt_str, rk_lt]
  have e0 : PyProof.Rows.lexLt PyProof.Rows.itemOrd (PySem.W.keyToksAll []) (PySem.W.keyToksAll []) = false := PyProof.Rows.lex_irrefl _
  rw [e0]
  simp only [PyData.eqv, beq_iff_eq]
  have hs := str_inj a.how b.how
  rw [← rk_inj] at hs
  simp only [hs]
  by_cases h1 : a.a = b.a <;> by_cases h2 : a.b = b.b <;> by_cases h3 : a.how.rk = b.how.rk <;> by_cases h4 : a.hid = b.hid <;> simp [h1, h2, h3, h4]
theorem callLe_iff (a b : Call) : callLe a b = true ↔ (a.a < b.a ∨ a.a = b.a ∧ (a.b < b.b ∨ a.b = b.b ∧ (a.how.rk < b.how.rk ∨ a.how.rk = b.how.rk ∧ a.hid ≤ b.hid))) := by
  have e : callLe a b = !PySem.W.dataLt b.d a.d := rfl
  rw [e, callLt_eq, Bool.not_eq_true', decide_eq_false_iff_not]
  omega
theorem callLe_trans (a b c : Call) (h1 : callLe a b = true) (h2 : callLe b c = true) : callLe a c = true := by
  rw [callLe_iff] at *
  omega
theorem callLe_total (a b : Call) : (callLe a b || callLe b a) = true := by
  rw [Bool.or_eq_true, callLe_iff, callLe_iff]
  omega
theorem callLe_anti (a b : Call) (h1 : callLe a b = true) (h2 : callLe b a = true) : a = b := by
  rw [callLe_iff] at *
  have e : a.a = b.a ∧ a.b = b.b ∧ a.how.rk = b.how.rk ∧ a.hid = b.hid := by omega
  obtain ⟨a1, a2, a3, a4⟩ := a
  obtain ⟨b1, b2, b3, b4⟩ := b
  simp only [rk_inj] at e
  obtain ⟨rfl, rfl, rfl, rfl⟩ := e
  rfl
theorem sortC_pw (xs : List Call) : (sortC xs).Pairwise fun a b => callLe a b = true := List.pairwise_mergeSort callLe_trans callLe_total xs
theorem pw_uniq {xs ys : List Call} (hx : xs.Pairwise fun a b => callLe a b = true) (hy : ys.Pairwise fun a b => callLe a b = true) (h : xs.Perm ys) : xs = ys :=
  List.Perm.eq_of_pairwise (le := fun a b => callLe a b = true) (fun a b _ _ h1 h2 => callLe_anti a b h1 h2) hx hy h
theorem sortC_uniq {xs ys : List Call} (h : xs.Perm ys) : sortC xs = sortC ys := pw_uniq (sortC_pw xs) (sortC_pw ys) (((sortC_perm xs).trans h).trans (sortC_perm ys).symm)
theorem sortC_filter (xs : List Call) (p : Call → Bool) : (sortC xs).filter p = sortC (xs.filter p) :=
  pw_uniq ((sortC_pw xs).filter p) (sortC_pw _) (((sortC_perm xs).filter p).trans (sortC_perm _).symm)
theorem sortC_id {xs : List Call} (h : xs.Pairwise fun a b => callLe a b = true) : sortC xs = xs := pw_uniq (sortC_pw xs) h (sortC_perm xs)

/-! the walk of a deed: its state -/
structure Wk where
  cs : List Call
  night : Int
  minds : List Int
  tales : List (Option Int)
  evs : List TEvent
def Wk.sc (w : Wk) : Scene := ⟨w.cs, w.night, w.minds, w.tales⟩
def Wk.put (w : Wk) (c : Call) : Wk := { w with cs := sortC (w.cs ++ [c]) }
def Wk.out (w : Wk) (c : Call) : Wk := { w with cs := w.cs.filter fun e => !decide (e = c) }
def Call.as_ (c : Call) (how : How) : Call := ⟨c.a, c.b, how, c.hid⟩
def Wk.asC (w : Wk) (c : Call) (how : How) : Wk := (w.out c).put (c.as_ how)
def Wk.tell (h : House) (w : Wk) (word : Wd) (ls : List Int) (hid : Int) : Wk := { w with evs := w.evs ++ [⟨word, ls, hid⟩], tales := toldOn h.wishes w.tales w.cs w.night ⟨word, ls, hid⟩ }
def Wk.acts (h : House) (w : Wk) (p : Point) : Told := (askGo w.sc p h.wishes 0 w.minds []).1
def Wk.asked (h : House) (w : Wk) (p : Point) : Wk := { w with minds := (askGo w.sc p h.wishes 0 w.minds []).2 }
/-- a wish, a house as the document has them -/
structure WishW (n : Int) (w : Wish) : Prop where
  me : 0 ≤ w.me ∧ w.me < n
  len : w.rules.length ≤ 12
  rules : ∀ r ∈ w.rules, RuleOk n w.me r
  tfit : w.tfit
theorem WishW.afit {n : Int} {w : Wish} (h : WishW n w) : w.AFit :=
  ⟨⟨by have := h.len; unfold fitL line; omega, fun r hr => by
    have := (h.rules r hr).tests.len
    show fitL r.tests
    unfold fitL line; omega⟩, fun r hr => (h.rules r hr).aimed⟩
structure HOk (h : House) : Prop where
  n0 : 2 ≤ h.n
  n4 : h.n ≤ 4
  many : h.wishes.length ≤ 6
  ws : ∀ w ∈ h.wishes, WishW h.n w
structure WOk (h : House) (w : Wk) : Prop where
  cs : Calls h.n w.cs
  pw : w.cs.Pairwise fun a b => callLe a b = true
  minds : w.minds.length = h.wishes.length
  tales : w.tales.length = h.wishes.length
  night : w.night = 0 ∨ w.night = 1
  lines : ∀ e ∈ w.evs, e.lines.length ≤ 4
/-! at most six calls -/
theorem nodup_lenI : ∀ (xs ys : List Int), xs.Nodup → xs ⊆ ys → xs.length ≤ ys.length
  | [], _, _, _ => Nat.zero_le _
  | x :: xs, ys, h, hs => by
    have h := List.nodup_cons.mp h
    have hx : x ∈ ys := hs List.mem_cons_self
    have h1 := nodup_lenI xs (ys.erase x) h.2 fun y hy => (List.mem_erase_of_ne (fun e => h.1 (by rw [← e]; exact hy))).mpr (hs (List.mem_cons_of_mem _ hy))
    rw [List.length_erase_of_mem hx] at h1
    have := List.length_pos_of_mem hx
    rw [List.length_cons]
    omega
theorem Calls.six {n : Int} {cs : List Call} (h : Calls n cs) (hn : n ≤ 4) : cs.length ≤ 6 := by
  have nd : (cs.map fun c => 4 * c.hi + c.lo).Nodup := by
    refine List.pairwise_map.mpr (h.one.imp_of_mem fun {a b} ha hb hab e => hab ?_)
    have h1 := h.rng a ha
    have h2 := h.rng b hb
    unfold Call.hi Call.lo at *
    omega
  have sub : (cs.map fun c => 4 * c.hi + c.lo) ⊆ [4, 8, 9, 12, 13, 14] := by
    intro x hx
    obtain ⟨c, hc, rfl⟩ := List.mem_map.mp hx
    have h1 := h.rng c hc
    unfold Call.hi Call.lo
    simp only [List.mem_cons, List.not_mem_nil, or_false]
    omega
  have := nodup_lenI _ _ nd sub
  rw [List.length_map] at this
  exact this
theorem Calls.fit4 {n : Int} {cs : List Call} (h : Calls n cs) (hn : n ≤ 4) : fitL cs := by
  have := h.six hn
  unfold fitL line; omega
theorem HOk.fitW {h : House} (H : HOk h) : fitL h.wishes := by
  have := H.many
  unfold fitL line; omega
theorem WOk.fit {h : House} {w : Wk} (H : HOk h) (o : WOk h w) : fitL w.cs := o.cs.fit4 H.n4
/-! the heap -/
def fsW (h : House) (w : Wk) : List (Str × D) := [("house", h.d), ("calls", callsD w.cs), ("night", .int w.night), ("minds", .tuple (w.minds.map .int)), ("tales", .tuple (w.tales.map optI)), ("events", mkRef 1)]
def WS (h : House) (w : Wk) : S := [.ins wCls (fsW h w), .lst (w.evs.map TEvent.d)]
section
variable (h : House) (w : Wk)
@[simp] theorem WS_0 : (WS h w)[0]? = some (.ins wCls (fsW h w)) := rfl
@[simp] theorem WS_1 : (WS h w)[1]? = some (.lst (w.evs.map TEvent.d)) := rfl
@[simp] theorem fsW_house : (fsW h w).lookup ("house" : Str) = some h.d := by kernel_rfl
@[simp] theorem fsW_calls : (fsW h w).lookup ("calls" : Str) = some (callsD w.cs) := by kernel_rfl
@[simp] theorem fsW_night : (fsW h w).lookup ("night" : Str) = some (.int w.night) := by kernel_rfl
@[simp] theorem fsW_minds : (fsW h w).lookup ("minds" : Str) = some (.tuple (w.minds.map .int)) := by kernel_rfl
@[simp] theorem fsW_tales : (fsW h w).lookup ("tales" : Str) = some (.tuple (w.tales.map optI)) := by kernel_rfl
@[simp] theorem fsW_events : (fsW h w).lookup ("events" : Str) = some (mkRef 1) := by kernel_rfl
@[simp] theorem fsW_m1 : (fsW h w).lookup ("scene" : Str) = none := by kernel_rfl
@[simp] theorem fsW_m2 : (fsW h w).lookup ("tell" : Str) = none := by kernel_rfl
@[simp] theorem fsW_m3 : (fsW h w).lookup ("ask" : Str) = none := by kernel_rfl
@[simp] theorem fsW_m4 : (fsW h w).lookup ("put" : Str) = none := by kernel_rfl
@[simp] theorem fsW_m5 : (fsW h w).lookup ("take_out" : Str) = none := by kernel_rfl
@[simp] theorem fsW_m6 : (fsW h w).lookup ("put_for" : Str) = none := by kernel_rfl
@[simp] theorem fsW_m7 : (fsW h w).lookup ("end" : Str) = none := by kernel_rfl
@[simp] theorem fsW_m8 : (fsW h w).lookup ("busy_at" : Str) = none := by kernel_rfl
@[simp] theorem fsW_m9 : (fsW h w).lookup ("shut_out" : Str) = none := by kernel_rfl
@[simp] theorem fsW_m10 : (fsW h w).lookup ("send_on" : Str) = none := by kernel_rfl
@[simp] theorem fsW_m11 : (fsW h w).lookup ("decided" : Str) = none := by kernel_rfl
@[simp] theorem fsW_m12 : (fsW h w).lookup ("come" : Str) = none := by kernel_rfl
@[simp] theorem fsW_m13 : (fsW h w).lookup ("go_out" : Str) = none := by kernel_rfl
@[simp] theorem fsW_m14 : (fsW h w).lookup ("dial" : Str) = none := by kernel_rfl
@[simp] theorem fsW_m15 : (fsW h w).lookup ("talk_on" : Str) = none := by kernel_rfl
@[simp] theorem fsW_m16 : (fsW h w).lookup ("take" : Str) = none := by kernel_rfl
@[simp] theorem fsW_m17 : (fsW h w).lookup ("hold" : Str) = none := by kernel_rfl
@[simp] theorem fsW_m18 : (fsW h w).lookup ("drop" : Str) = none := by kernel_rfl
@[simp] theorem fsW_m19 : (fsW h w).lookup ("take_up_again" : Str) = none := by kernel_rfl
@[simp] theorem fsW_m20 : (fsW h w).lookup ("flash" : Str) = none := by kernel_rfl
@[simp] theorem fsW_m21 : (fsW h w).lookup ("ring_long" : Str) = none := by kernel_rfl
@[simp] theorem fsW_m22 : (fsW h w).lookup ("wait" : Str) = none := by kernel_rfl
@[simp] theorem fsW_m23 : (fsW h w).lookup ("turn" : Str) = none := by kernel_rfl
@[simp] theorem fsW_m24 : (fsW h w).lookup ("settle" : Str) = none := by kernel_rfl
@[simp] theorem fsW_m25 : (fsW h w).lookup ("do" : Str) = none := by kernel_rfl
@[simp] theorem fsW_len : (fsW h w).length = 6 := rfl
@[simp] theorem WS_calls (cs : List Call) : (WS h w).set 0 (.ins wCls (putFD ("calls" : Str) (.tuple (cs.map Call.d)) (fsW h w))) = WS h { w with cs := cs } := by kernel_rfl
@[simp] theorem WS_night (n : Int) : (WS h w).set 0 (.ins wCls (putFD ("night" : Str) (.int n) (fsW h w))) = WS h { w with night := n } := by kernel_rfl
@[simp] theorem WS_minds (ms : List Int) : (WS h w).set 0 (.ins wCls (putFD ("minds" : Str) (.tuple (ms.map .int)) (fsW h w))) = WS h { w with minds := ms } := by kernel_rfl
@[simp] theorem WS_tales (ts : List (Option Int)) : (WS h w).set 0 (.ins wCls (putFD ("tales" : Str) (.tuple (ts.map optI)) (fsW h w))) = WS h { w with tales := ts } := by kernel_rfl
@[simp] theorem WS_evs (e : TEvent) : (WS h w).set 1 (.lst (w.evs.map TEvent.d ++ [e.d])) = WS h { w with evs := w.evs ++ [e] } := by
  unfold WS fsW
  simp
end
@[simp] theorem mapO_ifn {α : Type} (p : α → Prop) [DecidablePred p] (h : α → D) (xs : List α) : mapO (fun a => if p a then some none else some (some (h a))) xs = some ((xs.filter fun a => !decide (p a)).map h) := by
  have e : (fun a => if p a then some none else some (some (h a))) = fun a => if ¬ p a then some (some (h a)) else some none := by
    funext a
    by_cases q : p a <;> simp [q]
  rw [e, mapO_if]
  simp
theorem in_calls_eqv (c e : Call) : PyData.eqv c.d e.d = decide (c = e) := by
  obtain ⟨a, b, h, i⟩ := c
  obtain ⟨a', b', h', i'⟩ := e
  have hs : (h.str = h'.str) ↔ h = h' := ⟨fun e => by cases h <;> cases h' <;> first | rfl | exact absurd e (by decide +kernel), fun e => by rw [e]⟩
  rw [Bool.eq_iff_iff]
  simp [Call.d, PyData.eqv, PyData.eqvAll, hs]
/-! the small methods -/
section
variable {h : House} (H : HOk h)
include H
theorem wtell_v {k : Nat} {w : Wk} (o : WOk h w) (he : w.evs.length < line) (word : Wd) (ls : List Int) (hid : Int) :
    CF (k + 8) "Walk.tell" [mkRef 0, word.d, .tuple (ls.map .int), .int hid] (WS h w) = some ((.none, false), WS h (w.tell h word ls hid)) := by
  refine (ca_Walk_tell (k := k + 7) [mkRef 0, word.d, .tuple (ls.map .int), .int hid] rfl _).trans ?_
  unfold runS
  rw [if_neg (by simp [noRef_mkRef])]
  have q := told_on_v (k := k) h w.tales w.cs w.night ⟨word, ls, hid⟩ (o.fit H) (fun v hv => (H.ws v hv).tfit) H.fitW
  have e1 : (TEvent.d ⟨word, ls, hid⟩) = .tuple [word.d, .tuple (ls.map .int), .int hid] := rfl
  rw [e1] at q
  have e2 := WS_evs h w ⟨word, ls, hid⟩
  rw [e1] at e2
  simp [runB_ap, sh_Walk_tell, viewRef, he, q, e2, Wk.tell]
theorem wscene_v {k : Nat} {w : Wk} : CF (k + 1) "Walk.scene" [mkRef 0] (WS h w) = some ((w.sc.d, false), WS h w) := by
  refine (ca_Walk_scene (k := k) [mkRef 0] rfl _).trans ?_
  unfold runS
  rw [if_neg (by simp [noRef_mkRef])]
  simp [runB_ap, sh_Walk_scene, Scene.d, Wk.sc]
theorem wask_v {k : Nat} {w : Wk} (o : WOk h w) (p : Point) (hp : PointOk p) :
    CF (k + 7) "Walk.ask" [mkRef 0, p.kind.d, optI p.me, optI p.other, .int p.hid] (WS h w) = some ((.tuple ((w.acts h p).map toldD), false), WS h (w.asked h p)) := by
  refine (ca_Walk_ask (k := k + 6) [mkRef 0, p.kind.d, optI p.me, optI p.other, .int p.hid] rfl _).trans ?_
  unfold runS
  rw [if_neg (by simp [noRef_mkRef])]
  have q0 := wscene_v H (k := k + 5) (w := w)
  have q : ∀ st, CF (k + 6) "asked" [h.d, w.sc.d, p.d] st = some ((askD (askGo w.sc p h.wishes 0 w.minds []), false), st) := asked_v (k := k) h w.sc p (o.fit H) hp (fun v hv => (H.ws v hv).afit) (by show _ ≤ w.minds.length; rw [o.minds]; omega) (by have := H.many; omega)
  have e1 : p.d = .tuple [p.kind.d, optI p.me, optI p.other, .int p.hid] := rfl
  rw [e1] at q
  have e2 := WS_minds h w (askGo w.sc p h.wishes 0 w.minds []).2
  simp [runB_ap, sh_Walk_ask, q0, q, askD, e2, Wk.acts, Wk.asked]
theorem wput_v {k : Nat} {w : Wk} (o : WOk h w) (c : Call) :
    CF (k + 1) "Walk.put" [mkRef 0, c.d] (WS h w) = some ((.none, false), WS h (w.put c)) := by
  refine (ca_Walk_put (k := k) [mkRef 0, c.d] rfl _).trans ?_
  unfold runS
  rw [if_neg (by simp [noRef_mkRef])]
  have h6 := o.cs.six H.n4
  have hf : fitL (w.cs ++ [c]) := by unfold fitL line; rw [List.length_append]; simp; omega
  have hz : w.cs.length + 1 ≤ line := by unfold line; omega
  have q := sort_calls hf
  simp only [List.map_append, List.map_cons, List.map_nil] at q
  have qt : bSorted [.tuple (w.cs.map Call.d ++ [c.d])] = some (.list ((sortC (w.cs ++ [c])).map Call.d), true) := q
  simp [runB_ap, sh_Walk_put, hz, qt, Wk.put]
theorem wout_v {k : Nat} {w : Wk} (o : WOk h w) (c : Call) :
    CF (k + 1) "Walk.take_out" [mkRef 0, c.d] (WS h w) = some ((.none, false), WS h (w.out c)) := by
  refine (ca_Walk_take_out (k := k) [mkRef 0, c.d] rfl _).trans ?_
  unfold runS
  rw [if_neg (by simp [noRef_mkRef])]
  have hf := o.fit H
  simp [runB_ap, sh_Walk_take_out, hf, in_calls_eqv, Wk.out]
end

/-! the deeds, as plain functions of a walk -/
@[simp] theorem W_name (s : String) (h : PyData.strOk (Str.ofString s) = true) : (W s h).name = s := rfl
def How.word : How → Wd
  | .ring => W "rings"
  | .show => W "shows"
  | .shut => W "shut"
  | _ => W "busy"
def Wk.stay (h : House) (w : Wk) (a b : Int) (how : How) (hid : Int) : Wk := (w.put ⟨a, b, how, hid⟩).tell h how.word [a, b] hid
def Wk.busy (h : House) (w : Wk) (a b hid : Int) : Wk := (w.stay h a b .busy hid).asked h ⟨W "met", some a, some b, hid⟩
def Wk.acted (h : House) (send : Wk → Int → Wk) (a b hid : Int) : Told → Wk → Wk × Bool
  | [], w => (w, false)
  | q :: r, w =>
    if q.2.word.name = "also" then Wk.acted h send a b hid r (w.stay h a (q.2.to.getD 0) .ring hid)
    else if q.2.word.name = "shut" then (w.stay h a b .shut hid, true)
    else if q.2.word.name = "send" then (send w (q.2.to.getD 0), true)
    else (w.stay h a b .show hid, true)
def Wk.sent (h : House) (come : Wk → Int → List Int → Wk) (a b hid : Int) (ways : List Int) (w : Wk) (x : Int) : Wk :=
  if x = a ∨ x ∈ ways ∨ (betwOf w.cs a x).isSome = true then (w.tell h (W "sent") [a, b, x] hid).busy h a b hid else come (w.tell h (W "sent") [a, b, x] hid) x (ways ++ [b])
def pIn (a b hid : Int) : Point := ⟨W "in", some b, some a, hid⟩
def pFull (a b hid : Int) : Point := ⟨W "full", some b, some a, hid⟩
/-- a call that came to a line: what is done to it at the in point -/
def Wk.act1 (h : House) (send : Wk → Int → Wk) (a b hid : Int) (w : Wk) : Wk × Bool := Wk.acted h send a b hid ((w.tell h (W "comes") [a, b] hid).acts h (pIn a b hid)) ((w.tell h (W "comes") [a, b] hid).asked h (pIn a b hid))
def Wk.act2 (h : House) (send : Wk → Int → Wk) (a b hid : Int) (w : Wk) : Wk × Bool := Wk.acted h send a b hid (w.acts h (pFull a b hid)) (w.asked h (pFull a b hid))
def Wk.came (h : House) (send : Wk → Int → Wk) (a b hid : Int) (w : Wk) : Wk :=
  if (w.act1 h send a b hid).2 = true then (w.act1 h send a b hid).1
  else if isFree (w.act1 h send a b hid).1.cs b = true then (w.act1 h send a b hid).1.stay h a b .ring hid
  else if ((w.act1 h send a b hid).1.act2 h send a b hid).2 = true then ((w.act1 h send a b hid).1.act2 h send a b hid).1
  else ((w.act1 h send a b hid).1.act2 h send a b hid).1.busy h a b hid
def Wk.come (h : House) (a hid : Int) : Nat → Wk → Int → List Int → Wk
  | 0, w, _, _ => w
  | f + 1, w, b, ways => w.came h (Wk.sent h (Wk.come h a hid f) a b hid ways) a b hid
/-! what keeps: put, out, tell, asked -/
def apart (cs : List Call) (a b : Int) : Prop := ∀ c ∈ cs, c.betw a b = false
theorem apart_iff {cs : List Call} {a b : Int} : (betwOf cs a b).isSome = false ↔ apart cs a b := by
  unfold betwOf apart
  constructor
  · intro h c hc
    cases hb : c.betw a b
    · rfl
    · have : c ∈ cs.filter (·.betw a b) := List.mem_filter.mpr ⟨hc, hb⟩
      cases e : cs.filter (·.betw a b) with
      | nil => rw [e] at this; cases this
      | cons x xs => rw [e] at h; simp at h
  · intro h
    have : cs.filter (·.betw a b) = [] := List.filter_eq_nil_iff.mpr fun c hc e => by rw [h c hc] at e; cases e
    rw [this]; rfl
theorem apart_perm {cs ds : List Call} (p : cs.Perm ds) {a b : Int} (h : apart cs a b) : apart ds a b := fun c hc => h c (p.mem_iff.mpr hc)
structure CallOk (n a b hid : Int) : Prop where
  ra : 0 ≤ a ∧ a < n
  rb : 0 ≤ b ∧ b < n
  ne : a ≠ b
  hid : hid = 0 ∨ hid = 1
theorem betw_comm (c : Call) (a b : Int) : c.betw a b = c.betw b a := by unfold Call.betw; rw [Bool.or_comm]
theorem Calls.add {n : Int} {cs : List Call} (h : Calls n cs) {c : Call} (o : CallOk n c.a c.b c.hid) (hap : apart cs c.a c.b) : Calls n (cs ++ [c]) := by
  refine ⟨fun e he => ?_, ?_⟩
  · rcases List.mem_append.mp he with he | he
    · exact h.rng e he
    · rw [List.mem_singleton] at he
      subst he
      exact ⟨o.ra.1, o.ra.2, o.rb.1, o.rb.2, o.ne, o.hid⟩
  · refine List.pairwise_append.mpr ⟨h.one, List.pairwise_singleton _ _, fun e he d hd => ?_⟩
    rw [List.mem_singleton] at hd
    subst hd
    intro ⟨h1, h2⟩
    have h3 := hap e he
    have h4 := h.rng e he
    simp only [Call.betw, Bool.or_eq_false_iff, Bool.and_eq_false_iff, decide_eq_false_iff_not] at h3
    unfold Call.hi at h1
    unfold Call.lo at h2
    omega
theorem Calls.filter {n : Int} {cs : List Call} (h : Calls n cs) (p : Call → Bool) : Calls n (cs.filter p) := ⟨fun c hc => h.rng c (List.mem_filter.mp hc).1, h.one.sublist List.filter_sublist⟩
theorem Calls.nodup {n : Int} {cs : List Call} (h : Calls n cs) : cs.Nodup := h.one.imp fun {a b} hab e => hab (by rw [e]; exact ⟨rfl, rfl⟩)
theorem Calls.out_apart {n : Int} {cs : List Call} (h : Calls n cs) {c : Call} (hc : c ∈ cs) : apart (cs.filter fun e => !decide (e = c)) c.a c.b := by
  intro e he
  obtain ⟨h1, h2⟩ := List.mem_filter.mp he
  simp only [Bool.not_eq_true', decide_eq_false_iff_not] at h2
  cases hb : e.betw c.a c.b
  · rfl
  · exfalso
    have h3 := h.rng e h1
    have h4 := h.rng c hc
    have h5 : e.hi = c.hi ∧ e.lo = c.lo := by
      simp only [Call.betw, Bool.or_eq_true, Bool.and_eq_true, decide_eq_true_eq] at hb
      unfold Call.hi Call.lo
      omega
    rcases List.mem_iff_getElem.mp h1 with ⟨i, hi, ei⟩
    rcases List.mem_iff_getElem.mp hc with ⟨j, hj, ej⟩
    have hp := List.pairwise_iff_getElem.mp h.one
    rcases Nat.lt_trichotomy i j with hl | hl | hl
    · exact hp i j hi hj hl (by rw [ei, ej]; exact h5)
    · subst hl; exact h2 (ei.symm.trans ej)
    · exact hp j i hj hi hl (by rw [ei, ej]; exact ⟨h5.1.symm, h5.2.symm⟩)
section
variable {h : House} {w : Wk}
theorem WOk.put (o : WOk h w) {a b hid : Int} {how : How} (c : CallOk h.n a b hid) (hap : apart w.cs a b) : WOk h (w.put ⟨a, b, how, hid⟩) :=
  ⟨(o.cs.add (c := ⟨a, b, how, hid⟩) c hap).sort, sortC_pw _, o.minds, o.tales, o.night, o.lines⟩
theorem WOk.out (o : WOk h w) (c : Call) : WOk h (w.out c) := ⟨o.cs.filter _, o.pw.sublist List.filter_sublist, o.minds, o.tales, o.night, o.lines⟩
theorem toldOn_len (ws : List Wish) (ts : List (Option Int)) (cs : List Call) (night : Int) (e : TEvent) (hl : ts.length = ws.length) : (toldOn ws ts cs night e).length = ws.length := by
  unfold toldOn
  rw [List.length_map, List.length_zip, hl, Nat.min_self]
theorem WOk.tell (o : WOk h w) (x : Wd) (ls : List Int) (hid : Int) (hl : ls.length ≤ 4 := by simp) : WOk h (w.tell h x ls hid) := ⟨o.cs, o.pw, o.minds, toldOn_len _ _ _ _ _ o.tales, o.night, fun e he => by
  rcases List.mem_append.mp he with he | he
  · exact o.lines e he
  · rw [List.mem_singleton] at he
    subst he
    exact hl⟩
theorem askGo_len (sc : Scene) (p : Point) : ∀ (ws : List Wish) (i : Nat) (minds : List Int) (told : Told), (askGo sc p ws i minds told).2.length = minds.length
  | [], _, _, _ => rfl
  | w :: ws, i, minds, told => by
    unfold askGo
    split
    · exact askGo_len sc p ws _ _ _
    · split
      · split
        · rw [askGo_len sc p ws, List.length_set]
        · rw [List.length_set]
      · rw [askGo_len sc p ws, List.length_set]
theorem WOk.asked (o : WOk h w) (p : Point) : WOk h (w.asked h p) := ⟨o.cs, o.pw, (askGo_len _ _ _ _ _ _).trans o.minds, o.tales, o.night, o.lines⟩
end
@[simp] theorem tell_cs (h : House) (w : Wk) (x : Wd) (ls : List Int) (hid : Int) : (w.tell h x ls hid).cs = w.cs := rfl
@[simp] theorem asked_cs (h : House) (w : Wk) (p : Point) : (w.asked h p).cs = w.cs := rfl
@[simp] theorem tell_evs (h : House) (w : Wk) (x : Wd) (ls : List Int) (hid : Int) : (w.tell h x ls hid).evs.length = w.evs.length + 1 := by simp [Wk.tell]
@[simp] theorem asked_evs (h : House) (w : Wk) (p : Point) : (w.asked h p).evs = w.evs := rfl
@[simp] theorem put_evs (w : Wk) (c : Call) : (w.put c).evs = w.evs := rfl
@[simp] theorem out_evs (w : Wk) (c : Call) : (w.out c).evs = w.evs := rfl
@[simp] theorem put_cs (w : Wk) (c : Call) : (w.put c).cs = sortC (w.cs ++ [c]) := rfl
@[simp] theorem out_cs (w : Wk) (c : Call) : (w.out c).cs = w.cs.filter fun e => !decide (e = c) := rfl
@[simp] theorem stay_evs (h : House) (w : Wk) (a b : Int) (how : How) (hid : Int) : (w.stay h a b how hid).evs.length = w.evs.length + 1 := by simp [Wk.stay]
@[simp] theorem stay_cs (h : House) (w : Wk) (a b : Int) (how : How) (hid : Int) : (w.stay h a b how hid).cs = sortC (w.cs ++ [⟨a, b, how, hid⟩]) := rfl
@[simp] theorem busy_evs (h : House) (w : Wk) (a b hid : Int) : (w.busy h a b hid).evs.length = w.evs.length + 1 := by simp [Wk.busy]
theorem mem_put {w : Wk} {c e : Call} : e ∈ (w.put c).cs ↔ e ∈ w.cs ∨ e = c := by
  rw [put_cs, (sortC_perm _).mem_iff, List.mem_append, List.mem_singleton]
theorem mem_out {w : Wk} {c e : Call} : e ∈ (w.out c).cs ↔ e ∈ w.cs ∧ e ≠ c := by
  rw [out_cs, List.mem_filter]; simp
section
variable {h : House} {w : Wk}
theorem WOk.stay (o : WOk h w) {a b hid : Int} (how : How) (c : CallOk h.n a b hid) (hap : apart w.cs a b) : WOk h (w.stay h a b how hid) := (o.put c hap).tell _ _ _
theorem WOk.busy (o : WOk h w) {a b hid : Int} (c : CallOk h.n a b hid) (hap : apart w.cs a b) : WOk h (w.busy h a b hid) := (o.stay .busy c hap).asked _
theorem stay_apart {a x hid : Int} {how : How} {i j : Int} (hap : apart w.cs i j) (hij : ¬ ((a = i ∧ x = j) ∨ (a = j ∧ x = i))) : apart (w.stay h a x how hid).cs i j := by
  intro c hc
  rcases mem_put.mp hc with hc | rfl
  · exact hap c hc
  · simp only [Call.betw, Bool.or_eq_false_iff, Bool.and_eq_false_iff, decide_eq_false_iff_not]
    omega
end
/-! the acts told -/
theorem askGo_mem (sc : Scene) (p : Point) : ∀ (ws : List Wish) (i : Nat) (minds : List Int) (told : Told), ∀ q ∈ (askGo sc p ws i minds told).1, q ∈ told ∨ ∃ v r t', (∃ m, q.1 = i + m ∧ ws[m]? = some v) ∧ r ∈ v.rules ∧ isAsked v p = true ∧ r.act = q.2 ∧ r.kind.name = p.kind.name ∧ r.act.word.name ≠ "pass" ∧ canDo sc.cs v.me p.other r.act t' = true
  | [], _, _, _, q, hq => .inl hq
  | w :: ws, i, minds, told, q, hq => by
    have lift : ∀ (mm : List Int) (tt : Told), (q ∈ tt → q ∈ told ∨ ∃ v r t', (∃ m, q.1 = i + m ∧ (w :: ws)[m]? = some v) ∧ r ∈ v.rules ∧ isAsked v p = true ∧ r.act = q.2 ∧ r.kind.name = p.kind.name ∧ r.act.word.name ≠ "pass" ∧ canDo sc.cs v.me p.other r.act t' = true) → q ∈ (askGo sc p ws (i + 1) mm tt).1 → q ∈ told ∨ ∃ v r t', (∃ m, q.1 = i + m ∧ (w :: ws)[m]? = some v) ∧ r ∈ v.rules ∧ isAsked v p = true ∧ r.act = q.2 ∧ r.kind.name = p.kind.name ∧ r.act.word.name ≠ "pass" ∧ canDo sc.cs v.me p.other r.act t' = true := by
      intro mm tt hn h
      rcases askGo_mem sc p ws (i + 1) mm tt q h with h | ⟨v, r, t', ⟨m, h1, h2⟩, hr⟩
      · exact hn h
      · exact .inr ⟨v, r, t', ⟨m + 1, by omega, by simpa using h2⟩, hr⟩
    unfold askGo at hq
    cases hr : ruleOf sc p w (minds.getD i 0) with
    | none => rw [hr] at hq; exact lift _ _ .inl hq
    | some r =>
      rw [hr] at hq
      simp only at hq
      by_cases hc : (!decide (r.act.word.name = "pass") && canDo sc.cs w.me p.other r.act told) = true
      · have hnew : q ∈ told ++ [(i, r.act)] → q ∈ told ∨ ∃ v r t', (∃ m, q.1 = i + m ∧ (w :: ws)[m]? = some v) ∧ r ∈ v.rules ∧ isAsked v p = true ∧ r.act = q.2 ∧ r.kind.name = p.kind.name ∧ r.act.word.name ≠ "pass" ∧ canDo sc.cs v.me p.other r.act t' = true := by
          intro h
          rcases List.mem_append.mp h with h | h
          · exact .inl h
          · rw [List.mem_singleton] at h
            subst h
            unfold ruleOf at hr
            by_cases ha : isAsked w p = true
            · rw [if_pos ha] at hr
              have hm := List.find?_some hr
              simp only [Rule.meets, Bool.and_eq_true, decide_eq_true_eq] at hm
              simp only [Bool.and_eq_true, Bool.not_eq_true', decide_eq_false_iff_not] at hc
              exact .inr ⟨w, r, told, ⟨0, rfl, rfl⟩, List.mem_of_find?_eq_some hr, ha, rfl, hm.1.2.1, hc.1, hc.2⟩
            · rw [if_neg ha] at hr; cases hr
        rw [if_pos hc] at hq
        by_cases hg : goesOn r.act = true
        · rw [if_pos hg] at hq
          exact lift _ _ hnew hq
        · rw [if_neg hg] at hq
          exact hnew hq
      · rw [if_neg hc] at hq
        exact lift _ _ .inl hq
/-- only the last of the told acts need not go on -/
theorem askGo_shape (sc : Scene) (p : Point) : ∀ (ws : List Wish) (i : Nat) (minds : List Int) (told : Told), ∃ l r, (askGo sc p ws i minds told).1 = told ++ l ++ r ∧ (∀ q ∈ l, goesOn q.2 = true) ∧ (∀ q ∈ r, goesOn q.2 = false) ∧ r.length ≤ 1 ∧ l.length + r.length ≤ ws.length
  | [], _, _, told => ⟨[], [], by simp [askGo], by simp, by simp, by simp, by simp⟩
  | w :: ws, i, minds, told => by
    have keep : ∀ mm, ∃ l r, (askGo sc p ws (i + 1) mm told).1 = told ++ l ++ r ∧ (∀ q ∈ l, goesOn q.2 = true) ∧ (∀ q ∈ r, goesOn q.2 = false) ∧ r.length ≤ 1 ∧ l.length + r.length ≤ (w :: ws).length := fun mm => by
      obtain ⟨l, r, h1, h2, h3, h4, h5⟩ := askGo_shape sc p ws (i + 1) mm told
      exact ⟨l, r, h1, h2, h3, h4, by rw [List.length_cons]; omega⟩
    unfold askGo
    cases hr : ruleOf sc p w (minds.getD i 0) with
    | none => exact keep _
    | some r =>
      simp only
      by_cases hc : (!decide (r.act.word.name = "pass") && canDo sc.cs w.me p.other r.act told) = true
      · rw [if_pos hc]
        by_cases hg : goesOn r.act = true
        · rw [if_pos hg]
          obtain ⟨l, r', h1, h2, h3, h4, h5⟩ := askGo_shape sc p ws (i + 1) (minds.set i r.after) (told ++ [(i, r.act)])
          refine ⟨(i, r.act) :: l, r', by rw [h1]; simp, fun q hq => ?_, h3, h4, by simp only [List.length_cons]; omega⟩
          rcases List.mem_cons.mp hq with rfl | hq
          · exact hg
          · exact h2 q hq
        · rw [if_neg hg]
          refine ⟨[], [(i, r.act)], by simp, by simp, fun q hq => ?_, by simp, by simp⟩
          rw [List.mem_singleton] at hq
          subst hq
          exact Bool.not_eq_true _ ▸ hg
      · rw [if_neg hc]
        exact keep _
def alsoOf (q : Nat × Act) (x : Int) : Prop := q.2.word.name = "also" ∧ q.2.to = some x
theorem canDo_also {cs : List Call} {me : Int} {o : Int} {a : Act} {told : Told} (h : canDo cs me (some o) a told = true) (ha : a.word.name = "also") : ∃ x, a.to = some x ∧ x ≠ o ∧ isFree cs x = true ∧ apart cs x o ∧ ∀ q ∈ told, ¬ alsoOf q x := by
  unfold canDo at h
  rw [if_pos ha] at h
  cases ht : a.to with
  | none => rw [ht] at h; simp at h
  | some x =>
    rw [ht] at h
    simp only [canAlso, Bool.and_eq_true, Bool.not_eq_true', decide_eq_false_iff_not] at h
    refine ⟨x, rfl, h.1.1.1, h.1.1.2, apart_iff.mp ?_, fun q hq hx => ?_⟩
    · have := h.1.2
      cases hb : betwOf cs x o
      · rfl
      · rw [hb] at this; simp at this
    · have h2 := h.2
      rw [List.any_eq_false] at h2
      have := h2 q hq
      simp only [Bool.and_eq_true, decide_eq_true_eq] at this
      exact this hx
/-- no line is asked in twice beside -/
theorem askGo_also (sc : Scene) (p : Point) {o : Int} (hp : p.other = some o) : ∀ (ws : List Wish) (i : Nat) (minds : List Int) (told : Told), (told.Pairwise fun q q' => ∀ x, alsoOf q x → ¬ alsoOf q' x) → (askGo sc p ws i minds told).1.Pairwise fun q q' => ∀ x, alsoOf q x → ¬ alsoOf q' x
  | [], _, _, _, h => h
  | w :: ws, i, minds, told, h => by
    unfold askGo
    cases hr : ruleOf sc p w (minds.getD i 0) with
    | none => exact askGo_also sc p hp ws _ _ _ h
    | some r =>
      simp only
      by_cases hc : (!decide (r.act.word.name = "pass") && canDo sc.cs w.me p.other r.act told) = true
      · have hn : (told ++ [(i, r.act)]).Pairwise fun q q' => ∀ x, alsoOf q x → ¬ alsoOf q' x := by
          refine List.pairwise_append.mpr ⟨h, List.pairwise_singleton _ _, fun q hq q' hq' x hx hx' => ?_⟩
          rw [List.mem_singleton] at hq'
          subst hq'
          rw [hp, Bool.and_eq_true] at hc
          obtain ⟨y, h1, _, _, _, h5⟩ := canDo_also hc.2 hx'.1
          have : x = y := by
            have := hx'.2
            simp only at this
            rw [h1] at this
            cases this; rfl
          subst this
          exact h5 q hq hx
        rw [if_pos hc]
        by_cases hg : goesOn r.act = true
        · rw [if_pos hg]; exact askGo_also sc p hp ws _ _ _ hn
        · rw [if_neg hg]; exact hn
      · rw [if_neg hc]; exact askGo_also sc p hp ws _ _ _ h

structure InActs (n a b : Int) (cs : List Call) (told : Told) : Prop where
  word : ∀ q ∈ told, q.2.word.name = "also" ∨ q.2.word.name = "shut" ∨ q.2.word.name = "send" ∨ q.2.word.name = "show"
  to : ∀ q ∈ told, q.2.word.name = "also" ∨ q.2.word.name = "send" → ∃ x, q.2.to = some x ∧ 0 ≤ x ∧ x < n ∧ x ≠ b
  also : ∀ q ∈ told, ∀ x, alsoOf q x → x ≠ a ∧ apart cs a x
  dist : told.Pairwise fun q q' => ∀ x, alsoOf q x → ¬ alsoOf q' x
  shape : ∃ l r, told = l ++ r ∧ (∀ q ∈ l, q.2.word.name = "also") ∧ (∀ q ∈ r, q.2.word.name ≠ "also") ∧ r.length ≤ 1
  len : told.length ≤ 6
theorem RuleOk.words {n me : Int} {r : Rule} (h : RuleOk n me r) (hp : r.act.word.name ≠ "pass") : r.act.word ∈ actsOf r.kind := by
  have := h.word
  simp only [List.mem_append, List.mem_singleton] at this
  rcases this with (h | h) | h
  · exact h
  · exact h
  · rw [h] at hp; exact absurd rfl hp
theorem RuleOk.to {n me : Int} {r : Rule} (h : RuleOk n me r) (hp : r.act.word.name = "also" ∨ r.act.word.name = "send") : ∃ x, r.act.to = some x ∧ 0 ≤ x ∧ x < n ∧ x ≠ me := by
  have := h.act
  unfold ActOk at this
  rwa [if_pos (hp.elim .inr .inl)] at this
theorem apart_comm {cs : List Call} {a b : Int} (h : apart cs a b) : apart cs b a := fun c hc => (betw_comm c a b) ▸ h c hc
section
variable {h : House} (H : HOk h) {w : Wk}
include H
/-- where from an act told comes -/
theorem acts_from (p : Point) : ∀ q ∈ w.acts h p, ∃ v r t', h.wishes[q.1]? = some v ∧ v ∈ h.wishes ∧ RuleOk h.n v.me r ∧ isAsked v p = true ∧ r.act = q.2 ∧ r.kind.name = p.kind.name ∧ r.act.word ∈ actsOf r.kind ∧ canDo w.cs v.me p.other r.act t' = true := by
  intro q hq
  rcases askGo_mem w.sc p h.wishes 0 w.minds [] q hq with h0 | ⟨v, r, t', ⟨m, h1, h2⟩, h3, h4, h5, h6, h7, h8⟩
  · cases h0
  · have hv := List.mem_of_getElem? h2
    have hr := (H.ws v hv).rules r h3
    rw [Nat.zero_add] at h1
    rw [← h1] at h2
    exact ⟨v, r, t', h2, hv, hr, h4, h5, h6, hr.words h7, h8⟩
theorem acts_shape (p : Point) : ∃ l r, w.acts h p = l ++ r ∧ (∀ q ∈ l, goesOn q.2 = true) ∧ (∀ q ∈ r, goesOn q.2 = false) ∧ r.length ≤ 1 ∧ (w.acts h p).length ≤ 6 := by
  obtain ⟨l, r, h1, h2, h3, h4, h5⟩ := askGo_shape w.sc p h.wishes 0 w.minds []
  rw [List.nil_append] at h1
  refine ⟨l, r, h1, h2, h3, h4, ?_⟩
  have := H.many
  have e : (w.acts h p).length = l.length + r.length := by unfold Wk.acts; rw [h1, List.length_append]
  omega
theorem isAsked_me {v : Wish} {p : Point} (hk : p.kind.name ≠ "free") (ha : isAsked v p = true) : p.me = some v.me := by
  unfold isAsked at ha
  rw [if_neg hk] at ha
  exact of_decide_eq_true ha
theorem in_acts {a b hid : Int} : InActs h.n a b w.cs (w.acts h (pIn a b hid)) := by
  have hf := acts_from H (w := w) (pIn a b hid)
  have hme : ∀ v : Wish, isAsked v (pIn a b hid) = true → v.me = b := fun v hv => by
    have := isAsked_me H (by simp [pIn, pFull]) hv
    exact (Option.some.inj this).symm
  have hacts : ∀ r : Rule, r.kind.name = "in" → actsOf r.kind = [W "shut", W "send", W "also"] := fun r hr => by simp [actsOf, hr]
  have hword : ∀ q ∈ w.acts h (pIn a b hid), q.2.word.name = "shut" ∨ q.2.word.name = "send" ∨ q.2.word.name = "also" := fun q hq => by
    obtain ⟨v, r, t', _, hv, hr, h4, h5, h6, h7, h8⟩ := hf q hq
    rw [hacts r h6, h5] at h7
    simp only [List.mem_cons, List.not_mem_nil, or_false] at h7
    rcases h7 with e | e | e <;> rw [e] <;> simp
  obtain ⟨l, r, h1, h2, h3, h4, h5⟩ := acts_shape H (w := w) (pIn a b hid)
  refine ⟨fun q hq => ?_, fun q hq hw => ?_, fun q hq x hx => ?_, askGo_also w.sc (pIn a b hid) rfl h.wishes 0 w.minds [] .nil, ⟨l, r, h1, fun q hq => ?_, fun q hq => ?_, h4⟩, h5⟩
  · rcases hword q hq with e | e | e
    · exact .inr (.inl e)
    · exact .inr (.inr (.inl e))
    · exact .inl e
  · obtain ⟨v, r, t', _, hv, hr, h4, h5, h6, h7, h8⟩ := hf q hq
    rw [← h5] at hw
    obtain ⟨x, e1, e2, e3, e4⟩ := hr.to hw
    exact ⟨x, by rw [← h5]; exact e1, e2, e3, by rw [← hme v h4]; exact e4⟩
  · obtain ⟨v, r, t', _, hv, hr, h4, h5, h6, h7, h8⟩ := hf q hq
    rw [h5] at h8
    obtain ⟨y, e1, e2, e3, e4, _⟩ := canDo_also h8 hx.1
    have e : y = x := by have := hx.2; rw [e1] at this; exact Option.some.inj this
    subst e
    exact ⟨e2, apart_comm e4⟩
  · have := h2 q hq
    have hw := hword q (by rw [h1]; exact List.mem_append_left _ hq)
    unfold goesOn at this
    simp only [Bool.or_eq_true, decide_eq_true_eq] at this
    rcases hw with e | e | e
    · rw [e] at this; simp at this
    · rw [e] at this; simp at this
    · exact e
  · have := h3 q hq
    unfold goesOn at this
    simp only [Bool.or_eq_false_iff, decide_eq_false_iff_not] at this
    exact this.2.2
theorem full_acts {a b hid : Int} : InActs h.n a b w.cs (w.acts h (pFull a b hid)) := by
  have hf := acts_from H (w := w) (pFull a b hid)
  have hme : ∀ v : Wish, isAsked v (pFull a b hid) = true → v.me = b := fun v hv => by
    have := isAsked_me H (by simp [pIn, pFull]) hv
    exact (Option.some.inj this).symm
  have hacts : ∀ r : Rule, r.kind.name = "full" → actsOf r.kind = [W "shut", W "send", W "show"] := fun r hr => by simp [actsOf, hr]
  have hword : ∀ q ∈ w.acts h (pFull a b hid), q.2.word.name = "shut" ∨ q.2.word.name = "send" ∨ q.2.word.name = "show" := fun q hq => by
    obtain ⟨v, r, t', _, hv, hr, h4, h5, h6, h7, h8⟩ := hf q hq
    rw [hacts r h6, h5] at h7
    simp only [List.mem_cons, List.not_mem_nil, or_false] at h7
    rcases h7 with e | e | e <;> rw [e] <;> simp
  have hno : ∀ q ∈ w.acts h (pFull a b hid), q.2.word.name ≠ "also" := fun q hq => by rcases hword q hq with e | e | e <;> rw [e] <;> decide
  have hng : ∀ q ∈ w.acts h (pFull a b hid), goesOn q.2 = false := fun q hq => by unfold goesOn; rcases hword q hq with e | e | e <;> rw [e] <;> decide
  obtain ⟨l, r, h1, h2, h3, h4, h5⟩ := acts_shape H (w := w) (pFull a b hid)
  have hl : l = [] := by
    cases l with
    | nil => rfl
    | cons q l =>
      have := hng q (by rw [h1]; simp)
      rw [h2 q List.mem_cons_self] at this
      cases this
  subst hl
  refine ⟨fun q hq => ?_, fun q hq hw => ?_, fun q hq x hx => absurd hx.1 (hno q hq), List.Pairwise.imp_of_mem (R := fun _ _ => True) (fun {q q'} hq _ _ x hx => absurd hx.1 (hno q hq)) (List.pairwise_of_forall fun _ _ => trivial), ⟨[], w.acts h (pFull a b hid), rfl, by simp, hno, by rw [h1]; exact h4⟩, h5⟩
  · rcases hword q hq with e | e | e
    · exact .inr (.inl e)
    · exact .inr (.inr (.inl e))
    · exact .inr (.inr (.inr e))
  · obtain ⟨v, r, t', _, hv, hr, h4, h5, h6, h7, h8⟩ := hf q hq
    rw [← h5] at hw
    obtain ⟨x, e1, e2, e3, e4⟩ := hr.to hw
    exact ⟨x, by rw [← h5]; exact e1, e2, e3, by rw [← hme v h4]; exact e4⟩
/-- at points of other kinds at most one act is told -/
theorem acts_one (p : Point) (hk : p.kind.name ≠ "in") (hk2 : p.kind.name ≠ "out") : (w.acts h p).length ≤ 1 := by
  obtain ⟨l, r, h1, h2, h3, h4, h5⟩ := acts_shape H (w := w) p
  have hl : l = [] := by
    cases l with
    | nil => rfl
    | cons q l =>
      exfalso
      have hg := h2 q List.mem_cons_self
      obtain ⟨v, r, t', _, hv, hr, h4, h5, h6, h7, h8⟩ := acts_from H (w := w) p q (by rw [h1]; simp)
      rw [← h5] at hg
      have hk' : r.kind.name ≠ "in" := by rw [h6]; exact hk
      have hk2' : r.kind.name ≠ "out" := by rw [h6]; exact hk2
      unfold goesOn at hg
      simp only [Bool.or_eq_true, decide_eq_true_eq] at hg
      unfold actsOf at h7
      rw [if_neg hk2', if_neg hk'] at h7
      have hs : ∀ x ∈ [W "shut", W "send", W "show", W "swap", W "join", W "keep", W "ring"], ¬ (x.name = "pass" ∨ x.name = "hide" ∨ x.name = "also") := by decide
      have hm : r.act.word ∈ [W "shut", W "send", W "show", W "swap", W "join", W "keep", W "ring"] := by
        clear hg
        repeat' split at h7
        all_goals (simp only [List.mem_cons, List.not_mem_nil, or_false] at h7 ⊢)
        all_goals (first | (rcases h7 with e | e | e <;> simp [e]) | (rcases h7 with e | e <;> simp [e]) | simp [h7])
      exact hs _ hm hg
  rw [h1, hl]
  exact h4
omit H in
theorem InActs.nil {n a b : Int} {cs : List Call} {q : Nat × Act} {r : Told} (I : InActs n a b cs (q :: r)) (hq : q.2.word.name ≠ "also") : r = [] := by
  obtain ⟨l, r', h1, h2, h3, h4⟩ := I.shape
  cases l with
  | nil =>
    rw [List.nil_append] at h1
    rw [← h1] at h4
    cases r with
    | nil => rfl
    | cons x xs => simp only [List.length_cons] at h4; omega
  | cons y l =>
    rw [List.cons_append] at h1
    injection h1 with e1 e2
    subst e1
    exact absurd (h2 q List.mem_cons_self) hq
omit H in
theorem InActs.tail {n a b : Int} {hid : Int} {q : Nat × Act} {r : Told} (I : InActs n a b w.cs (q :: r)) {x : Int} (hq : alsoOf q x) : InActs n a b (w.stay h a x .ring hid).cs r := by
  refine ⟨fun p hp => I.word p (List.mem_cons_of_mem _ hp), fun p hp => I.to p (List.mem_cons_of_mem _ hp), fun p hp y hy => ?_, (List.pairwise_cons.mp I.dist).2, ?_, by have := I.len; rw [List.length_cons] at this; omega⟩
  · obtain ⟨h1, h2⟩ := I.also p (List.mem_cons_of_mem _ hp) y hy
    refine ⟨h1, stay_apart h2 fun e => ?_⟩
    rcases e with ⟨_, e⟩ | ⟨e, _⟩
    · subst e
      exact (List.pairwise_cons.mp I.dist).1 p hp x hq hy
    · exact h1 e.symm
  · obtain ⟨l, r', h1, h2, h3, h4⟩ := I.shape
    cases l with
    | nil => exact absurd hq.1 (h3 q (by rw [List.nil_append] at h1; rw [← h1]; exact List.mem_cons_self))
    | cons y l =>
      rw [List.cons_append] at h1
      injection h1 with e1 e2
      exact ⟨l, r', e2, fun p hp => h2 p (List.mem_cons_of_mem _ hp), h3, h4⟩
structure SendOk (h : House) (a b : Int) (S : Nat) (send : Wk → Int → Wk) : Prop where
  pos : 1 ≤ S
  ok : ∀ (w : Wk) (x : Int), WOk h w → apart w.cs a b → 0 ≤ x → x < h.n → x ≠ b → WOk h (send w x) ∧ (send w x).evs.length ≤ w.evs.length + S
omit H in
theorem acted_ok {send : Wk → Int → Wk} {a b hid : Int} {S : Nat} (hs : SendOk h a b S send) (c : CallOk h.n a b hid) : ∀ (told : Told) (w : Wk), InActs h.n a b w.cs told → WOk h w → apart w.cs a b →
    WOk h (w.acted h send a b hid told).1 ∧ (w.acted h send a b hid told).1.evs.length ≤ w.evs.length + told.length + S ∧ ((w.acted h send a b hid told).2 = false → apart (w.acted h send a b hid told).1.cs a b ∧ (w.acted h send a b hid told).1.evs.length ≤ w.evs.length + told.length)
  | [], w, _, o, hap => ⟨o, by show w.evs.length ≤ _; simp, fun _ => ⟨hap, by show w.evs.length ≤ _; simp⟩⟩
  | q :: r, w, I, o, hap => by
    have hp := hs.pos
    unfold Wk.acted
    by_cases h1 : q.2.word.name = "also"
    · rw [if_pos h1]
      obtain ⟨x, e1, e2, e3, e4⟩ := I.to q List.mem_cons_self (.inl h1)
      have ha : alsoOf q x := ⟨h1, e1⟩
      obtain ⟨e5, e6⟩ := I.also q List.mem_cons_self x ha
      rw [e1]
      show WOk h (Wk.acted h send a b hid r (w.stay h a x .ring hid)).1 ∧ _
      have hx : CallOk h.n a x hid := ⟨c.ra, ⟨e2, e3⟩, fun e => e5 e.symm, c.hid⟩
      have := acted_ok hs c r (w.stay h a x .ring hid) (I.tail ha) (o.stay .ring hx e6) (stay_apart hap (by have := c.ne; omega))
      rw [stay_evs] at this
      obtain ⟨i1, i2, i3⟩ := this
      refine ⟨i1, by rw [List.length_cons]; show (Wk.acted h send a b hid r (w.stay h a x .ring hid)).1.evs.length ≤ _; omega, fun hh => ?_⟩
      have i4 := i3 hh
      exact ⟨i4.1, by rw [List.length_cons]; show (Wk.acted h send a b hid r (w.stay h a x .ring hid)).1.evs.length ≤ _; have := i4.2; omega⟩
    · rw [if_neg h1]
      by_cases h2 : q.2.word.name = "shut"
      · rw [if_pos h2]
        exact ⟨o.stay _ c hap, by rw [stay_evs, List.length_cons]; omega, fun e => by cases e⟩
      · rw [if_neg h2]
        by_cases h3 : q.2.word.name = "send"
        · rw [if_pos h3]
          obtain ⟨x, e1, e2, e3, e4⟩ := I.to q List.mem_cons_self (.inr h3)
          rw [e1]
          obtain ⟨i1, i2⟩ := hs.ok w x o hap e2 e3 e4
          exact ⟨i1, by rw [List.length_cons]; show (send w x).evs.length ≤ _; omega, fun e => by cases e⟩
        · rw [if_neg h3]
          exact ⟨o.stay _ c hap, by rw [stay_evs, List.length_cons]; omega, fun e => by cases e⟩
/-- the ways a call came by, and how often it can still be sent on -/
structure WaysOk (n a b : Int) (ways : List Int) (f : Nat) : Prop where
  nd : ways.Nodup
  rng : ∀ x ∈ ways, 0 ≤ x ∧ x < n ∧ x ≠ a ∧ x ≠ b
  len : ways.length + f = 3
theorem WaysOk.more {a b hid : Int} {ways : List Int} {f : Nat} (k : WaysOk h.n a b ways f) (c : CallOk h.n a b hid) : ∃ f', f = f' + 1 := by
  cases f with
  | succ f => exact ⟨f, rfl⟩
  | zero =>
    exfalso
    have hn := H.n4
    have nd : (a :: b :: ways).Nodup := List.nodup_cons.mpr ⟨fun e => by
      rcases List.mem_cons.mp e with e | e
      · exact c.ne e
      · exact (k.rng a e).2.2.1 rfl, List.nodup_cons.mpr ⟨fun e => (k.rng b e).2.2.2 rfl, k.nd⟩⟩
    have sub : (a :: b :: ways) ⊆ [0, 1, 2, 3] := by
      intro x hx
      have : 0 ≤ x ∧ x < h.n := by
        rcases List.mem_cons.mp hx with rfl | hx
        · exact c.ra
        · rcases List.mem_cons.mp hx with rfl | hx
          · exact c.rb
          · exact ⟨(k.rng x hx).1, (k.rng x hx).2.1⟩
      simp only [List.mem_cons, List.not_mem_nil, or_false]
      omega
    have h1 := nodup_lenI _ _ nd sub
    have h2 := k.len
    simp only [List.length_cons, List.length_nil] at h1
    omega
omit H in
theorem WaysOk.on {a b hid x : Int} {ways : List Int} {f : Nat} (k : WaysOk h.n a b ways (f + 1)) (c : CallOk h.n a b hid) (hx : x ≠ b) (hw : x ∉ ways) : WaysOk h.n a x (ways ++ [b]) f := by
  refine ⟨List.nodup_append.mpr ⟨k.nd, by simp, fun y hy z hz e => ?_⟩, fun y hy => ?_, by have := k.len; rw [List.length_append]; simp; omega⟩
  · rw [List.mem_singleton] at hz
    subst e hz
    exact (k.rng y hy).2.2.2 rfl
  · rcases List.mem_append.mp hy with hy | hy
    · obtain ⟨h1, h2, h3, h4⟩ := k.rng y hy
      exact ⟨h1, h2, h3, fun e => hw (by rw [← e]; exact hy)⟩
    · rw [List.mem_singleton] at hy
      subst hy
      exact ⟨c.rb.1, c.rb.2, fun e => c.ne e.symm, fun e => hx e.symm⟩
omit H in
theorem sent_ok {a b hid : Int} {ways : List Int} {f : Nat} (k : WaysOk h.n a b ways (f + 1)) (c : CallOk h.n a b hid) {T : Nat} {come : Wk → Int → List Int → Wk}
    (hc : ∀ (w : Wk) (x : Int), CallOk h.n a x hid → WaysOk h.n a x (ways ++ [b]) f → WOk h w → apart w.cs a x → WOk h (come w x (ways ++ [b])) ∧ (come w x (ways ++ [b])).evs.length ≤ w.evs.length + T) : SendOk h a b (T + 2) (Wk.sent h come a b hid ways) := by
  refine ⟨by omega, fun w x o hap h0 h1 hx => ?_⟩
  unfold Wk.sent
  by_cases hb : x = a ∨ x ∈ ways ∨ (betwOf w.cs a x).isSome = true
  · rw [if_pos hb]
    exact ⟨(o.tell _ _ _).busy c hap, by rw [busy_evs, tell_evs]; omega⟩
  · rw [if_neg hb]
    have h2 : x ≠ a := fun e => hb (.inl e)
    have h3 : x ∉ ways := fun e => hb (.inr (.inl e))
    have h4 : apart w.cs a x := apart_iff.mp (by cases e : (betwOf w.cs a x).isSome; · rfl
                                                 · exact absurd (.inr (.inr e)) hb)
    obtain ⟨i1, i2⟩ := hc (w.tell h (W "sent") [a, b, x] hid) x ⟨c.ra, ⟨h0, h1⟩, fun e => h2 e.symm, c.hid⟩ (k.on c hx h3) (o.tell _ _ _) h4
    rw [tell_evs] at i2
    exact ⟨i1, by omega⟩
theorem act1_ok {send : Wk → Int → Wk} {a b hid : Int} {S : Nat} (hs : SendOk h a b S send) (c : CallOk h.n a b hid) (o : WOk h w) (hap : apart w.cs a b) :
    WOk h (w.act1 h send a b hid).1 ∧ (w.act1 h send a b hid).1.evs.length ≤ w.evs.length + 7 + S ∧ ((w.act1 h send a b hid).2 = false → apart (w.act1 h send a b hid).1.cs a b ∧ (w.act1 h send a b hid).1.evs.length ≤ w.evs.length + 7) := by
  have I := in_acts H (w := w.tell h (W "comes") [a, b] hid) (a := a) (b := b) (hid := hid)
  have hl := I.len
  have := acted_ok hs c _ ((w.tell h (W "comes") [a, b] hid).asked h (pIn a b hid)) I ((o.tell _ _ _).asked _) hap
  rw [asked_evs, tell_evs] at this
  obtain ⟨i1, i2, i3⟩ := this
  exact ⟨i1, by unfold Wk.act1; omega, fun e => ⟨(i3 e).1, by have := (i3 e).2; unfold Wk.act1; omega⟩⟩
theorem act2_ok {send : Wk → Int → Wk} {a b hid : Int} {S : Nat} (hs : SendOk h a b S send) (c : CallOk h.n a b hid) (o : WOk h w) (hap : apart w.cs a b) :
    WOk h (w.act2 h send a b hid).1 ∧ (w.act2 h send a b hid).1.evs.length ≤ w.evs.length + 6 + S ∧ ((w.act2 h send a b hid).2 = false → apart (w.act2 h send a b hid).1.cs a b ∧ (w.act2 h send a b hid).1.evs.length ≤ w.evs.length + 6) := by
  have I := full_acts H (w := w) (a := a) (b := b) (hid := hid)
  have hl := I.len
  have := acted_ok hs c _ (w.asked h (pFull a b hid)) I (o.asked _) hap
  rw [asked_evs] at this
  obtain ⟨i1, i2, i3⟩ := this
  exact ⟨i1, by unfold Wk.act2; omega, fun e => ⟨(i3 e).1, by have := (i3 e).2; unfold Wk.act2; omega⟩⟩
theorem came_ok {send : Wk → Int → Wk} {a b hid : Int} {S : Nat} (hs : SendOk h a b S send) (c : CallOk h.n a b hid) (o : WOk h w) (hap : apart w.cs a b) :
    WOk h (w.came h send a b hid) ∧ (w.came h send a b hid).evs.length ≤ w.evs.length + 14 + S := by
  obtain ⟨i1, i2, i3⟩ := act1_ok H hs c o hap
  unfold Wk.came
  by_cases h1 : (w.act1 h send a b hid).2 = true
  · rw [if_pos h1]; exact ⟨i1, by omega⟩
  · rw [if_neg h1]
    obtain ⟨j1, j2⟩ := i3 (Bool.not_eq_true _ ▸ h1)
    by_cases h2 : isFree (w.act1 h send a b hid).1.cs b = true
    · rw [if_pos h2]; exact ⟨i1.stay _ c j1, by rw [stay_evs]; omega⟩
    · rw [if_neg h2]
      obtain ⟨k1, k2, k3⟩ := act2_ok H hs c i1 j1
      by_cases h3 : ((w.act1 h send a b hid).1.act2 h send a b hid).2 = true
      · rw [if_pos h3]; exact ⟨k1, by omega⟩
      · rw [if_neg h3]
        obtain ⟨l1, l2⟩ := k3 (Bool.not_eq_true _ ▸ h3)
        exact ⟨k1.busy c l1, by rw [busy_evs]; omega⟩
theorem come_ok {a hid : Int} : ∀ (f : Nat) (w : Wk) (b : Int) (ways : List Int), CallOk h.n a b hid → WaysOk h.n a b ways f → WOk h w → apart w.cs a b →
    WOk h (w.come h a hid f b ways) ∧ (w.come h a hid f b ways).evs.length ≤ w.evs.length + 20 * f
  | 0, w, b, ways, c, k, _, _ => by obtain ⟨f', e⟩ := k.more H c; cases e
  | f + 1, w, b, ways, c, k, o, hap => by
    have hs : SendOk h a b (20 * f + 2) (Wk.sent h (Wk.come h a hid f) a b hid ways) := sent_ok k c fun w x cx kx ox hx => come_ok f w x (ways ++ [b]) cx kx ox hx
    obtain ⟨i1, i2⟩ := came_ok H hs c o hap
    exact ⟨i1, by show (w.came h _ a b hid).evs.length ≤ _; omega⟩
theorem come_send {a b hid : Int} {f : Nat} {ways : List Int} (c : CallOk h.n a b hid) (k : WaysOk h.n a b ways (f + 1)) : SendOk h a b (20 * f + 2) (Wk.sent h (Wk.come h a hid f) a b hid ways) := sent_ok k c fun w x cx kx ox hx => come_ok H f w x (ways ++ [b]) cx kx ox hx
end

inductive Dd where
  | dial (a b : Int) | take (l : Int) | drop (l : Int) | flash (l : Int) | wait | turn
def Dd.word : Dd → Wd
  | .dial _ _ => W "dial"
  | .take _ => W "take"
  | .drop _ => W "drop"
  | .flash _ => W "flash"
  | .wait => W "wait"
  | .turn => W "turn"
def Dd.lines : Dd → List Int
  | .dial a b => [a, b]
  | .take l => [l]
  | .drop l => [l]
  | .flash l => [l]
  | .wait => []
  | .turn => []
@[simp] theorem Dd.lines_len (x : Dd) : x.lines.length ≤ 4 := by cases x <;> simp [Dd.lines]
def Dd.d (x : Dd) : D := .tuple (x.word.d :: x.lines.map .int)
def Dd.ok (n : Int) : Dd → Prop
  | .dial a b => 0 ≤ a ∧ a < n ∧ 0 ≤ b ∧ b < n ∧ a ≠ b
  | .take l => 0 ≤ l ∧ l < n
  | .drop l => 0 ≤ l ∧ l < n
  | .flash l => 0 ≤ l ∧ l < n
  | .wait => True
  | .turn => True
/-- all deeds of a house -/
def Dd.deed (x : Dd) : Deed := ⟨x.word, x.lines⟩
theorem deed_d (x : Dd) : x.deed.d = x.d := rfl
def allDd (n : Int) : List Dd :=
  if n = 2 then [.dial 0 1, .dial 1 0, .take 0, .take 1, .drop 0, .drop 1, .flash 0, .flash 1, .wait, .turn]
  else if n = 3 then [.dial 0 1, .dial 0 2, .dial 1 0, .dial 1 2, .dial 2 0, .dial 2 1, .take 0, .take 1, .take 2, .drop 0, .drop 1, .drop 2, .flash 0, .flash 1, .flash 2, .wait, .turn]
  else [.dial 0 1, .dial 0 2, .dial 0 3, .dial 1 0, .dial 1 2, .dial 1 3, .dial 2 0, .dial 2 1, .dial 2 3, .dial 3 0, .dial 3 1, .dial 3 2, .take 0, .take 1, .take 2, .take 3, .drop 0, .drop 1, .drop 2, .drop 3, .flash 0, .flash 1, .flash 2, .flash 3, .wait, .turn]
theorem allDd_ok {n : Int} (hn0 : 2 ≤ n) (hn : n ≤ 4) : ∀ x ∈ allDd n, x.ok n := by
  have h : n = 2 ∨ n = 3 ∨ n = 4 := by omega
  rcases h with rfl | rfl | rfl <;> simp [allDd, Dd.ok]

/-! the other deeds -/
def pOut (a b : Int) : Point := ⟨W "out", some a, some b, 0⟩
def pDrop (l : Int) : Point := ⟨W "drop", some l, none, 0⟩
def pFlash (l : Int) : Point := ⟨W "flash", some l, none, 0⟩
def pLong (c : Call) : Point := ⟨W "long", some c.b, some c.a, c.hid⟩
def pFree (l : Int) : Point := ⟨W "free", none, some l, 0⟩
def hidAs (t : Told) : Int := if t.any (fun q => decide (q.2.word.name = "hide")) = true then 1 else 0
def barred (t : Told) : Bool := t.any fun q => decide (q.2.word.name = "bar")
def Wk.goOut (h : House) (w : Wk) (a b : Int) : Wk :=
  if barred (w.acts h (pOut a b)) = true then (w.asked h (pOut a b)).stay h a b .shut (hidAs (w.acts h (pOut a b)))
  else (w.asked h (pOut a b)).come h a (hidAs (w.acts h (pOut a b))) 3 b []
def Wk.ends (h : House) : List Call → Wk → Wk
  | [], w => w
  | c :: r, w => Wk.ends h r ((w.out c).tell h (W "ends") [c.a, c.b] 0)
def Wk.talks (h : House) (w : Wk) (c : Call) : Wk := (w.asC c .talk).tell h (W "talks") [c.a, c.b] c.hid
def How.passing : How → Bool
  | .ring => true
  | .show => true
  | .busy => true
  | .shut => true
  | _ => false
def Wk.talkOn (h : House) (w : Wk) (c : Call) : Wk := (w.talks h c).ends h ((w.talks h c).cs.filter fun e => decide (e.a = c.a) && e.how.passing)
def Wk.take (h : House) (w : Wk) (l : Int) : Wk := match ringsAt w.cs l with
  | none => w
  | some c => if (talksOf w.cs l).isEmpty = false then w else if c.how = .back then (w.out c).goOut h l c.b else w.talkOn h c
def heldAs (c : Call) (l : Int) : How := if c.a = l then .hold0 else .hold1
def Wk.hold1 (h : House) (l : Int) (w : Wk) (c : Call) : Wk := (w.asC c (heldAs c l)).tell h (W "holds") [l, otherOf c l] 0
def Wk.holdAll (h : House) (l : Int) : List Call → Wk → Wk
  | [], w => w
  | c :: r, w => Wk.holdAll h l r (w.hold1 h l c)
def Wk.hold (h : House) (w : Wk) (l : Int) : Wk := w.holdAll h l (talksOf w.cs l)
def Call.comesTo (c : Call) (l : Int) : Bool := if c.how = .back then decide (c.a = l) else decide (c.b = l) && (decide (c.how = .ring) || decide (c.how = .show))
def Wk.dropKept (h : House) (w : Wk) (l : Int) : Bool := !(w.acts h (pDrop l)).isEmpty
def Wk.dropW (h : House) (w : Wk) (l : Int) : Wk := if w.dropKept h l = true then (w.asked h (pDrop l)).hold h l else w.asked h (pDrop l)
def Wk.drop (h : House) (w : Wk) (l : Int) : Wk := (w.dropW h l).ends h ((callsOf (w.dropW h l).cs l).filter fun c => !(c.comesTo l || (w.dropKept h l && c.isHeld l)))
def Wk.takeUp (h : House) (w : Wk) (l : Int) (held : List Call) : Wk := match shownTo w.cs l with
  | some c => w.talkOn h c
  | none => match held.filter fun c => (talksOf w.cs (otherOf c l)).isEmpty with
    | [] => w
    | c :: _ => w.talks h c
def Wk.joinAll (h : House) (l : Int) : List Call → Wk → Wk
  | [], w => w
  | c :: r, w => Wk.joinAll h l r (if (talksOf w.cs (otherOf c l)).isEmpty = true then w.talks h c else w)
def Wk.flashed (h : House) (w : Wk) (l : Int) : Told → Wk
  | [] => w
  | q :: _ => if q.2.word.name = "swap" then (w.hold h l).takeUp h l (holdsOf w.cs l) else (w.joinAll h l (holdsOf w.cs l)).tell h (W "joins") [l] 0
def Wk.flash (h : House) (w : Wk) (l : Int) : Wk := (w.asked h (pFlash l)).flashed h l (w.acts h (pFlash l))
def Wk.longed (h : House) (w : Wk) (c : Call) : Told → Wk
  | [] => w
  | q :: _ => if q.2.word.name = "shut" then (w.out c).stay h c.a c.b .shut c.hid else Wk.sent h (Wk.come h c.a c.hid 2) c.a c.b c.hid [] (w.out c) (q.2.to.getD 0)
def Wk.waits (h : House) (w : Wk) (c : Call) : Wk := w.tell h (W "waits") [c.a, c.b] c.hid
def Wk.ringLong (h : House) (w : Wk) (c : Call) : Wk := ((w.waits h c).asked h (pLong c)).longed h c ((w.waits h c).acts h (pLong c))
def Wk.longAll (h : House) : List Call → Wk → Wk
  | [], w => w
  | c :: r, w => Wk.longAll h r (if c ∈ w.cs then w.ringLong h c else w)
def Wk.wait (h : House) (w : Wk) : Wk := (w.longAll h (w.cs.filter fun c => decide (c.how = .ring))).ends h (w.cs.filter fun c => decide (c.how = .back))
def Wk.turn (h : House) (w : Wk) : Wk := ({ w with night := 1 - w.night } : Wk).tell h (if w.night = 1 then W "day" else W "night") [] 0
def Wk.show1 (h : House) (w : Wk) (c : Call) : Wk := if (talksOf w.cs c.b).isEmpty = true ∧ ringsAt w.cs c.b = none then (w.asC c .ring).tell h (W "rings") [c.a, c.b] c.hid else w
def Wk.showAll (h : House) : List Call → Wk → Wk
  | [], w => w
  | c :: r, w => Wk.showAll h r (w.show1 h c)
def House.lineOf (h : House) (i : Nat) : Int := ((h.wishes[i]?).map Wish.me).getD 0
def Wk.backed (h : House) (l : Int) : Told → Wk → Wk
  | [], w => w
  | q :: _, w => (w.put ⟨h.lineOf q.1, l, .back, 0⟩).tell h (W "backs") [h.lineOf q.1, l] 0
def Wk.freed (h : House) (w : Wk) (l : Int) : Wk := ((w.tell h (W "frees") [l] 0).asked h (pFree l)).backed h l ((w.tell h (W "frees") [l] 0).acts h (pFree l))
def Wk.freeAll (h : House) : List Int → Wk → Wk
  | [], w => w
  | l :: r, w => Wk.freeAll h r (if isFree w.cs l = true then w.freed h l else w)
def Wk.settle (h : House) (w : Wk) (used : List Int) : Wk := (w.showAll h (w.cs.filter fun c => decide (c.how = .show))).freeAll h used
def Wk.dial (h : House) (w : Wk) (a b : Int) : Wk := if (callsOf w.cs a).all (·.isHeld a) = true ∧ (betwOf w.cs a b).isSome = false then w.goOut h a b else w
def Wk.doIt (h : House) (w : Wk) : Dd → Wk
  | .dial a b => w.dial h a b
  | .take l => w.take h l
  | .drop l => w.drop h l
  | .flash l => w.flash h l
  | .wait => w.wait h
  | .turn => w.turn h
def Scene.wk (sc : Scene) : Wk := ⟨sc.cs, sc.night, sc.minds, sc.tales, []⟩
def usedIn (h : House) (sc : Scene) : List Int := ((List.range h.n.toNat).map fun (i : Nat) => (i : Int)).filter fun l => !isFree sc.cs l
def stepW (h : House) (sc : Scene) (x : Dd) : Wk := ((((sc.wk.tell h x.word x.lines 0).doIt h x).settle h (usedIn h sc)).tell h (W "done") [] 0)
/-! what they keep -/
theorem Calls.ok {n : Int} {cs : List Call} (h : Calls n cs) {c : Call} (hc : c ∈ cs) : CallOk n c.a c.b c.hid := by
  have := h.rng c hc
  exact ⟨⟨this.1, this.2.1⟩, ⟨this.2.2.1, this.2.2.2.1⟩, this.2.2.2.2.1, this.2.2.2.2.2⟩
theorem mem_asC {w : Wk} {c e : Call} {how : How} : e ∈ (w.asC c how).cs ↔ (e ∈ w.cs ∧ e ≠ c) ∨ e = c.as_ how := by
  unfold Wk.asC
  rw [mem_put, mem_out]
section
variable {h : House} {w : Wk}
theorem WOk.asC (o : WOk h w) {c : Call} (hc : c ∈ w.cs) (how : How) : WOk h (w.asC c how) := (o.out c).put (how := how) (o.cs.ok hc) (o.cs.out_apart hc)
@[simp] theorem asC_evs (w : Wk) (c : Call) (how : How) : (w.asC c how).evs = w.evs := rfl
theorem ends_ok : ∀ (cs : List Call) (w : Wk), WOk h w → WOk h (w.ends h cs) ∧ (w.ends h cs).evs.length = w.evs.length + cs.length
  | [], w, o => ⟨o, rfl⟩
  | c :: r, w, o => by
    obtain ⟨h1, h2⟩ := ends_ok r ((w.out c).tell h (W "ends") [c.a, c.b] 0) ((o.out c).tell _ _ _)
    refine ⟨h1, ?_⟩
    show (Wk.ends h r _).evs.length = _
    rw [h2, tell_evs, List.length_cons, out_evs]
    omega
theorem WOk.talks (o : WOk h w) {c : Call} (hc : c ∈ w.cs) : WOk h (w.talks h c) := (o.asC hc .talk).tell _ _ _
@[simp] theorem talks_evs (h : House) (w : Wk) (c : Call) : (w.talks h c).evs.length = w.evs.length + 1 := by simp [Wk.talks]
theorem len_filter {α : Type} (xs : List α) (p : α → Bool) : (xs.filter p).length ≤ xs.length := List.length_filter_le p xs
section
variable (H : HOk h)
include H
theorem talkOn_ok (o : WOk h w) {c : Call} (hc : c ∈ w.cs) : WOk h (w.talkOn h c) ∧ (w.talkOn h c).evs.length ≤ w.evs.length + 7 := by
  have o1 := o.talks hc
  obtain ⟨h1, h2⟩ := ends_ok (h := h) ((w.talks h c).cs.filter fun e => decide (e.a = c.a) && e.how.passing) _ o1
  have h3 := o1.cs.six H.n4
  have h4 := len_filter (w.talks h c).cs fun e => decide (e.a = c.a) && e.how.passing
  rw [talks_evs] at h2
  exact ⟨h1, by unfold Wk.talkOn; omega⟩
omit H in
theorem hidAs_ok (t : Told) : hidAs t = 0 ∨ hidAs t = 1 := by
  unfold hidAs
  split
  · exact .inr rfl
  · exact .inl rfl
theorem goOut_ok (o : WOk h w) {a b : Int} (ra : 0 ≤ a ∧ a < h.n) (rb : 0 ≤ b ∧ b < h.n) (ne : a ≠ b) (hap : apart w.cs a b) : WOk h (w.goOut h a b) ∧ (w.goOut h a b).evs.length ≤ w.evs.length + 60 := by
  have c : CallOk h.n a b (hidAs (w.acts h (pOut a b))) := ⟨ra, rb, ne, hidAs_ok _⟩
  unfold Wk.goOut
  by_cases hb : barred (w.acts h (pOut a b)) = true
  · rw [if_pos hb]
    exact ⟨(o.asked _).stay _ c hap, by rw [stay_evs, asked_evs]; omega⟩
  · rw [if_neg hb]
    obtain ⟨i1, i2⟩ := come_ok H 3 (w.asked h (pOut a b)) b [] c ⟨.nil, by simp, rfl⟩ (o.asked _) hap
    rw [asked_evs] at i2
    exact ⟨i1, by omega⟩
omit H in
theorem rings_mem {cs : List Call} {l : Int} {c : Call} (h : ringsAt cs l = some c) : c ∈ cs ∧ c.rings l = true := List.mem_filter.mp (List.mem_of_head? h)
omit H in
theorem shown_mem {cs : List Call} {l : Int} {c : Call} (h : shownTo cs l = some c) : c ∈ cs ∧ c.shows l = true := List.mem_filter.mp (List.mem_of_head? h)
omit H in
theorem rings_back {c : Call} {l : Int} (h : c.rings l = true) (hb : c.how = .back) : c.a = l := by
  unfold Call.rings at h
  rw [hb] at h
  simpa using h
theorem take_ok (o : WOk h w) (l : Int) : WOk h (w.take h l) ∧ (w.take h l).evs.length ≤ w.evs.length + 60 := by
  unfold Wk.take
  cases hr : ringsAt w.cs l with
  | none => exact ⟨o, by show w.evs.length ≤ _; omega⟩
  | some c =>
    obtain ⟨hc, hl⟩ := rings_mem hr
    simp only
    split
    · exact ⟨o, by omega⟩
    · split
      · rename_i hb
        have e := rings_back hl hb
        have k := o.cs.ok hc
        have := goOut_ok H (o.out c) (a := l) (b := c.b) (e ▸ k.ra) k.rb (e ▸ k.ne) (e ▸ o.cs.out_apart hc)
        rw [out_evs] at this
        exact this
      · obtain ⟨i1, i2⟩ := talkOn_ok H o hc
        exact ⟨i1, by omega⟩
omit H in
theorem holdAll_ok (l : Int) : ∀ (cs : List Call) (w : Wk), WOk h w → cs.Nodup → (∀ c ∈ cs, c ∈ w.cs) → WOk h (w.holdAll h l cs) ∧ (w.holdAll h l cs).evs.length = w.evs.length + cs.length
  | [], w, o, _, _ => ⟨o, rfl⟩
  | c :: r, w, o, nd, hm => by
    have hc := hm c List.mem_cons_self
    obtain ⟨n1, n2⟩ := List.nodup_cons.mp nd
    obtain ⟨h1, h2⟩ := holdAll_ok l r (w.hold1 h l c) ((o.asC hc _).tell _ _ _) n2 fun e he => mem_asC.mpr (.inl ⟨hm e (List.mem_cons_of_mem _ he), fun x => n1 (x ▸ he)⟩)
    refine ⟨h1, ?_⟩
    show (Wk.holdAll h l r _).evs.length = _
    rw [h2]
    unfold Wk.hold1
    rw [tell_evs, asC_evs, List.length_cons]
    omega
omit H in
theorem nd_filter {n : Int} {cs : List Call} (h : Calls n cs) (p : Call → Bool) : (cs.filter p).Nodup := h.nodup.sublist List.filter_sublist
omit H in
theorem hold_ok (o : WOk h w) (l : Int) : WOk h (w.hold h l) ∧ (w.hold h l).evs.length = w.evs.length + (talksOf w.cs l).length := holdAll_ok l _ w o (nd_filter o.cs _) fun c hc => (List.mem_filter.mp hc).1
theorem fit6 (o : WOk h w) (p : Call → Bool) : (w.cs.filter p).length ≤ 6 := Nat.le_trans (len_filter _ _) (o.cs.six H.n4)
theorem dropW_ok (o : WOk h w) (l : Int) : WOk h (w.dropW h l) ∧ (w.dropW h l).evs.length ≤ w.evs.length + 6 := by
  unfold Wk.dropW
  split
  · obtain ⟨i1, i2⟩ := hold_ok (o.asked (pDrop l)) l
    rw [asked_cs, asked_evs] at i2
    exact ⟨i1, by rw [i2]; have := fit6 H o (·.talks l); show _ + (w.cs.filter _).length ≤ _; omega⟩
  · exact ⟨o.asked _, by rw [asked_evs]; omega⟩
theorem drop_ok (o : WOk h w) (l : Int) : WOk h (w.drop h l) ∧ (w.drop h l).evs.length ≤ w.evs.length + 12 := by
  obtain ⟨i1, i2⟩ := dropW_ok H o l
  obtain ⟨j1, j2⟩ := ends_ok (h := h) ((callsOf (w.dropW h l).cs l).filter fun c => !(c.comesTo l || (w.dropKept h l && c.isHeld l))) _ i1
  have h3 := fit6 H i1 (·.isIn l)
  have h4 := len_filter (callsOf (w.dropW h l).cs l) fun c => !(c.comesTo l || (w.dropKept h l && c.isHeld l))
  have h5 : (callsOf (w.dropW h l).cs l).length ≤ 6 := h3
  exact ⟨j1, by unfold Wk.drop; omega⟩
theorem takeUp_ok (o : WOk h w) (l : Int) {held : List Call} (hm : ∀ c ∈ held, c ∈ w.cs) : WOk h (w.takeUp h l held) ∧ (w.takeUp h l held).evs.length ≤ w.evs.length + 7 := by
  unfold Wk.takeUp
  cases hs : shownTo w.cs l with
  | some c => exact talkOn_ok H o (shown_mem hs).1
  | none =>
    simp only
    cases hf : held.filter fun c => (talksOf w.cs (otherOf c l)).isEmpty with
    | nil => exact ⟨o, by show w.evs.length ≤ _; omega⟩
    | cons c r =>
      have hc : c ∈ held.filter fun c => (talksOf w.cs (otherOf c l)).isEmpty := by rw [hf]; exact List.mem_cons_self
      exact ⟨o.talks (hm c (List.mem_filter.mp hc).1), by simp only [talks_evs]; omega⟩
omit H in
theorem joinAll_ok (l : Int) : ∀ (cs : List Call) (w : Wk), WOk h w → cs.Nodup → (∀ c ∈ cs, c ∈ w.cs) → WOk h (w.joinAll h l cs) ∧ (w.joinAll h l cs).evs.length ≤ w.evs.length + cs.length
  | [], w, o, _, _ => ⟨o, Nat.le_refl _⟩
  | c :: r, w, o, nd, hm => by
    have hc := hm c List.mem_cons_self
    obtain ⟨n1, n2⟩ := List.nodup_cons.mp nd
    unfold Wk.joinAll
    by_cases ht : (talksOf w.cs (otherOf c l)).isEmpty = true
    · rw [if_pos ht]
      obtain ⟨h1, h2⟩ := joinAll_ok l r (w.talks h c) (o.talks hc) n2 fun e he => mem_asC.mpr (.inl ⟨hm e (List.mem_cons_of_mem _ he), fun x => n1 (x ▸ he)⟩)
      rw [talks_evs] at h2
      exact ⟨h1, by rw [List.length_cons]; omega⟩
    · rw [if_neg ht]
      obtain ⟨h1, h2⟩ := joinAll_ok l r w o n2 fun e he => hm e (List.mem_cons_of_mem _ he)
      exact ⟨h1, by rw [List.length_cons]; omega⟩
omit H in
/-- what is held stays when more is held -/
theorem holdAll_mem (l : Int) : ∀ (cs : List Call) (w : Wk) (e : Call), e ∉ cs → e ∈ w.cs → e ∈ (w.holdAll h l cs).cs
  | [], _, _, _, hm => hm
  | c :: r, w, e, hn, hm => holdAll_mem l r (w.hold1 h l c) e (fun x => hn (List.mem_cons_of_mem _ x)) (mem_asC.mpr (.inl ⟨hm, fun x => hn (x ▸ List.mem_cons_self)⟩))
omit H in
theorem held_stays {l : Int} {c : Call} (hc : c ∈ holdsOf w.cs l) : c ∈ (w.hold h l).cs := by
  obtain ⟨h1, h2⟩ := List.mem_filter.mp hc
  refine holdAll_mem l _ w c (fun x => ?_) h1
  have h3 := (List.mem_filter.mp x).2
  obtain ⟨a, b, how, hid⟩ := c
  cases how <;> simp [Call.isHeld, Call.talks] at h2 h3
theorem flash_ok (o : WOk h w) (l : Int) : WOk h (w.flash h l) ∧ (w.flash h l).evs.length ≤ w.evs.length + 14 := by
  have o1 := o.asked (pFlash l)
  unfold Wk.flash
  cases w.acts h (pFlash l) with
  | nil => exact ⟨o1, by show w.evs.length ≤ _; omega⟩
  | cons q r =>
    simp only [Wk.flashed]
    split
    · obtain ⟨i1, i2⟩ := hold_ok o1 l
      obtain ⟨j1, j2⟩ := takeUp_ok H i1 l (held := holdsOf (w.asked h (pFlash l)).cs l) fun c hc => held_stays hc
      have h3 : (talksOf (w.asked h (pFlash l)).cs l).length ≤ 6 := fit6 H o1 (·.talks l)
      rw [asked_evs] at i2
      exact ⟨j1, by omega⟩
    · obtain ⟨i1, i2⟩ := joinAll_ok (h := h) l (holdsOf (w.asked h (pFlash l)).cs l) _ o1 (nd_filter o1.cs _) fun c hc => (List.mem_filter.mp hc).1
      have h3 : (holdsOf (w.asked h (pFlash l)).cs l).length ≤ 6 := fit6 H o1 (·.isHeld l)
      rw [asked_evs] at i2
      exact ⟨i1.tell _ _ _, by rw [tell_evs]; omega⟩
omit H in
theorem long_ways {c : Call} : WaysOk h.n c.a c.b [] 3 := ⟨.nil, by simp, rfl⟩
theorem long_word {c : Call} : ∀ q ∈ w.acts h (pLong c), q.2.word.name = "shut" ∨ (q.2.word.name = "send" ∧ ∃ x, q.2.to = some x ∧ 0 ≤ x ∧ x < h.n ∧ x ≠ c.b) := by
  intro q hq
  obtain ⟨v, r, t', _, hv, hr, h4, h5, h6, h7, h8⟩ := acts_from H (w := w) (pLong c) q hq
  have e : actsOf r.kind = [W "shut", W "send"] := by simp [actsOf, h6, pLong]
  rw [e] at h7
  simp only [List.mem_cons, List.not_mem_nil, or_false] at h7
  have hme := isAsked_me H (by simp [pLong]) h4
  have hme : c.b = v.me := Option.some.inj hme
  rcases h7 with h7 | h7
  · left; rw [← h5, h7]; rfl
  · right
    have hw : r.act.word.name = "send" := by rw [h7]; rfl
    refine ⟨by rw [← h5]; exact hw, ?_⟩
    rw [← h5, hme]
    exact hr.to (.inr hw)
theorem ringLong_ok (o : WOk h w) {c : Call} (hc : c ∈ w.cs) : WOk h (w.ringLong h c) ∧ (w.ringLong h c).evs.length ≤ w.evs.length + 50 := by
  have o0 : WOk h (w.waits h c) := o.tell _ _ _
  have o1 := o0.asked (pLong c)
  have k := o.cs.ok hc
  have e0 : (w.waits h c).evs.length = w.evs.length + 1 := by unfold Wk.waits; rw [tell_evs]
  unfold Wk.ringLong
  have hw := long_word H (w := w.waits h c) (c := c)
  cases hq : (w.waits h c).acts h (pLong c) with
  | nil => exact ⟨o1, by show (w.waits h c).evs.length ≤ _; omega⟩
  | cons q r =>
    simp only [Wk.longed]
    split
    · exact ⟨(o1.out c).stay _ k (o.cs.out_apart hc), by rw [stay_evs, out_evs, asked_evs]; omega⟩
    · rename_i hne
      rcases hw q (by rw [hq]; exact List.mem_cons_self) with hs | ⟨hs, x, e1, e2, e3, e4⟩
      · exact absurd hs hne
      · rw [e1]
        have hs := come_send H k (f := 2) (ways := []) long_ways
        have := hs.ok (((w.waits h c).asked h (pLong c)).out c) x (o1.out c) (o.cs.out_apart hc) e2 e3 e4
        rw [out_evs, asked_evs] at this
        exact ⟨this.1, Nat.le_trans this.2 (by omega)⟩
theorem longAll_ok : ∀ (cs : List Call) (w : Wk), WOk h w → WOk h (w.longAll h cs) ∧ (w.longAll h cs).evs.length ≤ w.evs.length + 50 * cs.length
  | [], w, o => ⟨o, Nat.le_refl _⟩
  | c :: r, w, o => by
    unfold Wk.longAll
    by_cases hc : c ∈ w.cs
    · rw [if_pos hc]
      obtain ⟨i1, i2⟩ := ringLong_ok H o hc
      obtain ⟨j1, j2⟩ := longAll_ok r _ i1
      exact ⟨j1, by rw [List.length_cons]; omega⟩
    · rw [if_neg hc]
      obtain ⟨j1, j2⟩ := longAll_ok r _ o
      exact ⟨j1, by rw [List.length_cons]; omega⟩
theorem wait_ok (o : WOk h w) : WOk h (w.wait h) ∧ (w.wait h).evs.length ≤ w.evs.length + 306 := by
  obtain ⟨i1, i2⟩ := longAll_ok H (w.cs.filter fun c => decide (c.how = .ring)) w o
  obtain ⟨j1, j2⟩ := ends_ok (h := h) (w.cs.filter fun c => decide (c.how = .back)) _ i1
  have h1 := fit6 H o fun c => decide (c.how = .ring)
  have h2 := fit6 H o fun c => decide (c.how = .back)
  exact ⟨j1, by unfold Wk.wait; omega⟩
omit H in
theorem turn_ok (o : WOk h w) : WOk h (w.turn h) ∧ (w.turn h).evs.length = w.evs.length + 1 := by
  have o1 : WOk h ({ w with night := 1 - w.night } : Wk) := ⟨o.cs, o.pw, o.minds, o.tales, by have := o.night; show 1 - w.night = 0 ∨ 1 - w.night = 1; omega, o.lines⟩
  exact ⟨o1.tell _ _ _, by unfold Wk.turn; rw [tell_evs]⟩
omit H in
theorem show1_ok (o : WOk h w) {c : Call} (hc : c ∈ w.cs) : WOk h (w.show1 h c) ∧ (w.show1 h c).evs.length ≤ w.evs.length + 1 := by
  unfold Wk.show1
  split
  · exact ⟨(o.asC hc _).tell _ _ _, by rw [tell_evs, asC_evs]; omega⟩
  · exact ⟨o, by omega⟩
omit H in
theorem show1_mem {c e : Call} (he : e ∈ w.cs) (hne : e ≠ c) : e ∈ (w.show1 h c).cs := by
  unfold Wk.show1
  split
  · exact mem_asC.mpr (.inl ⟨he, hne⟩)
  · exact he
omit H in
theorem showAll_ok : ∀ (cs : List Call) (w : Wk), WOk h w → cs.Nodup → (∀ c ∈ cs, c ∈ w.cs) → WOk h (w.showAll h cs) ∧ (w.showAll h cs).evs.length ≤ w.evs.length + cs.length
  | [], w, o, _, _ => ⟨o, Nat.le_refl _⟩
  | c :: r, w, o, nd, hm => by
    obtain ⟨n1, n2⟩ := List.nodup_cons.mp nd
    obtain ⟨i1, i2⟩ := show1_ok o (hm c List.mem_cons_self)
    obtain ⟨h1, h2⟩ := showAll_ok r (w.show1 h c) i1 n2 fun e he => show1_mem (hm e (List.mem_cons_of_mem _ he)) fun x => n1 (x ▸ he)
    exact ⟨h1, by show (Wk.showAll h r _).evs.length ≤ _; rw [List.length_cons]; omega⟩
theorem free_word {l : Int} : ∀ q ∈ w.acts h (pFree l), (∃ v, h.wishes[q.1]? = some v ∧ v.me ≠ l ∧ 0 ≤ v.me ∧ v.me < h.n ∧ isFree w.cs v.me = true) := by
  intro q hq
  obtain ⟨v, r, t', e, hv, hr, h4, h5, h6, h7, h8⟩ := acts_from H (w := w) (pFree l) q hq
  have e2 : actsOf r.kind = [W "ring"] := by simp [actsOf, h6, pFree]
  rw [e2, List.mem_singleton] at h7
  refine ⟨v, e, fun hx => ?_, (H.ws v hv).me.1, (H.ws v hv).me.2, ?_⟩
  · unfold isAsked at h4
    rw [if_pos (by simp [pFree])] at h4
    simp [pFree, hx] at h4
  · unfold canDo at h8
    simpa [h7] using h8
omit H in
theorem free_apart {n : Int} {cs : List Call} (hc : Calls n cs) {a b : Int} (ha : isFree cs a = true) (hb : isFree cs b = true) : apart cs a b := by
  intro c h1
  unfold isFree callsOf at ha hb
  have e1 := List.filter_eq_nil_iff.mp (List.isEmpty_iff.mp ha) c h1
  have e2 := List.filter_eq_nil_iff.mp (List.isEmpty_iff.mp hb) c h1
  unfold Call.isIn at e1 e2
  simp only [Bool.or_eq_true, Bool.and_eq_true, decide_eq_true_eq, not_or] at e1 e2
  unfold Call.betw
  simp only [Bool.or_eq_false_iff, Bool.and_eq_false_iff, decide_eq_false_iff_not]
  exact ⟨.inl fun e => e1.1 e.symm, .inl fun e => e2.1 e.symm⟩
theorem freed_ok (o : WOk h w) {l : Int} (hl : 0 ≤ l ∧ l < h.n) (hf : isFree w.cs l = true) : WOk h (w.freed h l) ∧ (w.freed h l).evs.length ≤ w.evs.length + 2 := by
  have o0 : WOk h (w.tell h (W "frees") [l] 0) := o.tell _ _ _
  have o1 := o0.asked (pFree l)
  unfold Wk.freed
  have hw := free_word H (w := w.tell h (W "frees") [l] 0) (l := l)
  cases hq : (w.tell h (W "frees") [l] 0).acts h (pFree l) with
  | nil => exact ⟨o1, by show (w.tell h (W "frees") [l] 0).evs.length ≤ _; rw [tell_evs]; omega⟩
  | cons q r =>
    obtain ⟨v, e1, e2, e3, e4, e5⟩ := hw q (by rw [hq]; exact List.mem_cons_self)
    have e : h.lineOf q.1 = v.me := by unfold House.lineOf; rw [e1]; rfl
    simp only [Wk.backed]
    rw [e]
    exact ⟨(o1.put ⟨⟨e3, e4⟩, hl, e2, .inl rfl⟩ (free_apart o.cs e5 hf)).tell _ _ _, by rw [tell_evs, put_evs, asked_evs, tell_evs]; omega⟩
theorem freeAll_ok : ∀ (ls : List Int) (w : Wk), WOk h w → (∀ l ∈ ls, 0 ≤ l ∧ l < h.n) → WOk h (w.freeAll h ls) ∧ (w.freeAll h ls).evs.length ≤ w.evs.length + 2 * ls.length
  | [], w, o, _ => ⟨o, Nat.le_refl _⟩
  | l :: r, w, o, hl => by
    unfold Wk.freeAll
    by_cases hf : isFree w.cs l = true
    · rw [if_pos hf]
      obtain ⟨i1, i2⟩ := freed_ok H o (hl l List.mem_cons_self) hf
      obtain ⟨j1, j2⟩ := freeAll_ok r _ i1 fun l' h' => hl l' (List.mem_cons_of_mem _ h')
      exact ⟨j1, by rw [List.length_cons]; omega⟩
    · rw [if_neg hf]
      obtain ⟨j1, j2⟩ := freeAll_ok r _ o fun l' h' => hl l' (List.mem_cons_of_mem _ h')
      exact ⟨j1, by rw [List.length_cons]; omega⟩
theorem settle_ok (o : WOk h w) {used : List Int} (hu : ∀ l ∈ used, 0 ≤ l ∧ l < h.n) : WOk h (w.settle h used) ∧ (w.settle h used).evs.length ≤ w.evs.length + 6 + 2 * used.length := by
  obtain ⟨i1, i2⟩ := showAll_ok (h := h) (w.cs.filter fun c => decide (c.how = .show)) w o (nd_filter o.cs _) fun c hc => (List.mem_filter.mp hc).1
  obtain ⟨j1, j2⟩ := freeAll_ok H used _ i1 hu
  have h1 := fit6 H o fun c => decide (c.how = .show)
  exact ⟨j1, by unfold Wk.settle; omega⟩
theorem doIt_ok (o : WOk h w) (x : Dd) (hx : x.ok h.n) : WOk h (w.doIt h x) ∧ (w.doIt h x).evs.length ≤ w.evs.length + 306 := by
  cases x with
  | dial a b =>
    obtain ⟨h1, h2, h3, h4, h5⟩ := hx
    show WOk h (w.dial h a b) ∧ (w.dial h a b).evs.length ≤ _
    unfold Wk.dial
    split
    · rename_i hc
      obtain ⟨i1, i2⟩ := goOut_ok H o ⟨h1, h2⟩ ⟨h3, h4⟩ h5 (apart_iff.mp hc.2)
      exact ⟨i1, by omega⟩
    · exact ⟨o, by omega⟩
  | take l => obtain ⟨i1, i2⟩ := take_ok H o l; exact ⟨i1, Nat.le_trans i2 (by omega)⟩
  | drop l => obtain ⟨i1, i2⟩ := drop_ok H o l; exact ⟨i1, Nat.le_trans i2 (by omega)⟩
  | flash l => obtain ⟨i1, i2⟩ := flash_ok H o l; exact ⟨i1, Nat.le_trans i2 (by omega)⟩
  | wait => exact wait_ok H o
  | turn => obtain ⟨i1, i2⟩ := turn_ok o; exact ⟨i1, Nat.le_trans (Nat.le_of_eq i2) (by omega)⟩
end
end
structure ScOk (h : House) (sc : Scene) : Prop where
  cs : Calls h.n sc.cs
  pw : sc.cs.Pairwise fun a b => callLe a b = true
  minds : sc.minds.length = h.wishes.length
  tales : sc.tales.length = h.wishes.length
  night : sc.night = 0 ∨ sc.night = 1
theorem ScOk.wk {h : House} {sc : Scene} (s : ScOk h sc) : WOk h sc.wk := ⟨s.cs, s.pw, s.minds, s.tales, s.night, by intro e he; cases he⟩
theorem used_ok {h : House} (H : HOk h) (sc : Scene) : (∀ l ∈ usedIn h sc, 0 ≤ l ∧ l < h.n) ∧ (usedIn h sc).length ≤ 4 := by
  have h1 := H.n0
  have h2 := H.n4
  refine ⟨fun l hl => ?_, Nat.le_trans (len_filter _ _) (by rw [List.length_map, List.length_range]; omega)⟩
  obtain ⟨m, _⟩ := List.mem_filter.mp hl
  obtain ⟨i, hi, rfl⟩ := List.mem_map.mp m
  have := List.mem_range.mp hi
  omega
theorem step_ok {h : House} (H : HOk h) {sc : Scene} (s : ScOk h sc) (x : Dd) (hx : x.ok h.n) : WOk h (stepW h sc x) ∧ (stepW h sc x).evs.length ≤ 400 := by
  have o1 : WOk h (sc.wk.tell h x.word x.lines 0) := s.wk.tell _ _ _
  obtain ⟨i1, i2⟩ := doIt_ok H o1 x hx
  obtain ⟨u1, u2⟩ := used_ok H sc
  obtain ⟨j1, j2⟩ := settle_ok H i1 u1
  rw [tell_evs] at i2
  have e : sc.wk.evs.length = 0 := rfl
  exact ⟨j1.tell _ _ _, by unfold stepW; rw [tell_evs]; omega⟩

theorem lt_line {n : Nat} (h : n < 2000) : n < line := by unfold line; omega
/-- a loop that walks on -/
theorem for_walk {α : Type} {s : Src} {asgn : D → Env → Option Env} {body : Env → M Fl} (h : House) (enc : α → D) (g : List α → Wk → Wk) (f : α → Wk → Wk) (P : List α → Wk → Prop) (E : Env → Prop)
    (g0 : ∀ w, g [] w = w) (g1 : ∀ a r w, g (a :: r) w = g r (f a w)) (hok : ∀ env st, E env → s.ok env st = true)
    (step : ∀ a r w env, P (a :: r) w → E env → P r (f a w) ∧ ∃ env1, asgn (enc a) env = some env1 ∧ ∃ env2, E env2 ∧ body env1 (WS h w) = some (.next env2, WS h (f a w))) :
    ∀ (xs : List α) (w : Wk) (env : Env), P xs w → E env → ∃ env', E env' ∧ forLoop s asgn body (xs.map enc) env (WS h w) = some (.next env', WS h (g xs w))
  | [], w, env, _, e => ⟨env, e, by rw [List.map_nil, forL_n, if_pos (hok _ _ e), g0]⟩
  | a :: r, w, env, p, e => by
    obtain ⟨p1, env1, h1, env2, h2, h3⟩ := step a r w env p e
    obtain ⟨env', h4, h5⟩ := for_walk h enc g f P E g0 g1 hok step r (f a w) env2 p1 h2
    refine ⟨env', h4, ?_⟩
    rw [List.map_cons, forL_c, if_pos (hok _ _ e), h1, g1]
    simp only [h3]
    exact h5
@[simp] theorem as_a (c : Call) (how : How) : (c.as_ how).a = c.a := rfl
@[simp] theorem as_b (c : Call) (how : How) : (c.as_ how).b = c.b := rfl
@[simp] theorem as_how (c : Call) (how : How) : (c.as_ how).how = how := rfl
@[simp] theorem as_hid (c : Call) (how : How) : (c.as_ how).hid = c.hid := rfl
theorem as_d (c : Call) (how : How) : (c.as_ how).d = .tuple [.int c.a, .int c.b, .str how.str, .int c.hid] := rfl
section
variable {h : House} (H : HOk h)
include H
theorem wtells_v {K : Nat} (hK : 8 ≤ K) {w : Wk} (o : WOk h w) (he : w.evs.length < 2000) (s : String) (ls : List Int) (hid : Int) (hs : PyData.strOk (Str.ofString s) = true := by decide +kernel) :
    CF K "Walk.tell" [mkRef 0, .str (Str.ofString s), .tuple (ls.map .int), .int hid] (WS h w) = some ((.none, false), WS h (w.tell h (W s hs) ls hid)) := by
  obtain ⟨k, rfl⟩ := Nat.exists_eq_add_of_le' hK
  exact wtell_v H o (lt_line he) (W s hs) ls hid
theorem wasks_v {K : Nat} (hK : 7 ≤ K) {w : Wk} (o : WOk h w) (p : Point) (hp : p.kind.name = "in" → ∃ x, p.other = some x) :
    CF K "Walk.ask" [mkRef 0, p.kind.d, optI p.me, optI p.other, .int p.hid] (WS h w) = some ((.tuple ((w.acts h p).map toldD), false), WS h (w.asked h p)) := by
  obtain ⟨k, rfl⟩ := Nat.exists_eq_add_of_le' hK
  exact wask_v H o p ⟨hp⟩
theorem wputs_v {K : Nat} (hK : 1 ≤ K) {w : Wk} (o : WOk h w) (a b : Int) (how : How) (hid : Int) :
    CF K "Walk.put" [mkRef 0, .tuple [.int a, .int b, .str how.str, .int hid]] (WS h w) = some ((.none, false), WS h (w.put ⟨a, b, how, hid⟩)) := by
  obtain ⟨k, rfl⟩ := Nat.exists_eq_add_of_le' hK
  exact wput_v H o ⟨a, b, how, hid⟩
theorem wouts_v {K : Nat} (hK : 1 ≤ K) {w : Wk} (o : WOk h w) (c : Call) : CF K "Walk.take_out" [mkRef 0, c.d] (WS h w) = some ((.none, false), WS h (w.out c)) := by
  obtain ⟨k, rfl⟩ := Nat.exists_eq_add_of_le' hK
  exact wout_v H o c
theorem wputfor_v {K : Nat} (hK : 2 ≤ K) {w : Wk} (o : WOk h w) (c : Call) (how : How) :
    CF K "Walk.put_for" [mkRef 0, c.d, .str how.str] (WS h w) = some (((c.as_ how).d, false), WS h (w.asC c how)) := by
  obtain ⟨k, rfl⟩ := Nat.exists_eq_add_of_le' hK
  refine (ca_Walk_put_for (k := k + 1) [mkRef 0, c.d, .str how.str] rfl _).trans ?_
  unfold runS
  rw [if_neg (by simp [noRef_mkRef])]
  have q1 := wouts_v H (K := k + 1) (by omega) o c
  have q2 := wputs_v H (K := k + 1) (by omega) (o.out c) c.a c.b how c.hid
  simp [runB_ap, sh_Walk_put_for, q1, q2, Wk.asC, as_d]
  rfl
theorem wend_v {K : Nat} (hK : 9 ≤ K) (cs : List Call) {w : Wk} (o : WOk h w) (he : w.evs.length + cs.length < 2000) :
    CF K "Walk.end" [mkRef 0, .list (cs.map Call.d)] (WS h w) = some ((.none, false), WS h (w.ends h cs)) := by
  obtain ⟨k, rfl⟩ := Nat.exists_eq_add_of_le' hK
  refine (ca_Walk_end (k := k + 8) [mkRef 0, .list (cs.map Call.d)] rfl _).trans ?_
  unfold runS
  rw [if_neg (by simp [noRef_mkRef])]
  obtain ⟨env', ⟨x, rfl⟩, hl⟩ := for_walk (s := ⟨cs.map Call.d, [(Op.v (PyData.list (cs.map Call.d)), PyData.list (cs.map Call.d))]⟩) (asgn := asg false [2]) (body := blkS (lb_Walk_end_1 (CF (k + 8)))) h Call.d (Wk.ends h) (fun c w => (w.out c).tell h (W "ends") [c.a, c.b] 0)
    (fun r w => WOk h w ∧ w.evs.length + r.length < 2000) (fun env => ∃ x, env = [fz (mkRef 0), fz (.list (cs.map Call.d)), x]) (fun _ => rfl) (fun _ _ _ => rfl) (fun env st _ => by simp)
    (fun c r w env p e => by
      obtain ⟨x, rfl⟩ := e
      obtain ⟨o, he⟩ := p
      rw [List.length_cons] at he
      refine ⟨⟨(o.out c).tell _ _ _, by rw [tell_evs, out_evs]; omega⟩, _, rfl, ?_⟩
      have q1 := wouts_v H (K := k + 8) (by omega) o c
      have q2 := wtells_v H (K := k + 8) (by omega) (o.out c) (by rw [out_evs]; omega) "ends" [c.a, c.b] 0
      refine ⟨[fz (mkRef 0), fz (.list (cs.map Call.d)), fz c.d], ⟨_, rfl⟩, ?_⟩
      simp at q2
      simp [lb_Walk_end_1, q1, q2])
    cs w [fz (mkRef 0), fz (.list (cs.map Call.d)), none] ⟨o, he⟩ ⟨_, rfl⟩
  simp [runB_ap, sh_Walk_end, hl]
theorem wbusy_v {K : Nat} (hK : 9 ≤ K) {w : Wk} (o : WOk h w) (he : w.evs.length < 2000) {a b hid : Int} (c : CallOk h.n a b hid) (hap : apart w.cs a b) :
    CF K "Walk.busy_at" [mkRef 0, .int a, .int b, .int hid] (WS h w) = some ((.none, false), WS h (w.busy h a b hid)) := by
  obtain ⟨k, rfl⟩ := Nat.exists_eq_add_of_le' hK
  refine (ca_Walk_busy_at (k := k + 8) [mkRef 0, .int a, .int b, .int hid] rfl _).trans ?_
  unfold runS
  rw [if_neg (by simp [noRef_mkRef])]
  have q1 := wputs_v H (K := k + 8) (by omega) o a b .busy hid
  have q2 := wtells_v H (K := k + 8) (by omega) (o.put (how := .busy) c hap) he "busy" [a, b] hid
  have q3 : CF (k + 8) "Walk.ask" [mkRef 0, .str "met", .int a, .int b, .int hid] (WS h (w.stay h a b .busy hid)) = some ((.tuple (((w.stay h a b .busy hid).acts h ⟨W "met", some a, some b, hid⟩).map toldD), false), WS h (w.busy h a b hid)) := wasks_v H (K := k + 8) (by omega) (o.stay .busy c hap) ⟨W "met", some a, some b, hid⟩ (by simp)
  simp [How.str] at q1 q2
  simp [Wk.stay, How.word] at q3
  simp [runB_ap, sh_Walk_busy_at, q1, q2, q3]
theorem wshut_v {K : Nat} (hK : 9 ≤ K) {w : Wk} (o : WOk h w) (he : w.evs.length < 2000) {a b hid : Int} (c : CallOk h.n a b hid) (hap : apart w.cs a b) :
    CF K "Walk.shut_out" [mkRef 0, .int a, .int b, .int hid] (WS h w) = some ((.none, false), WS h (w.stay h a b .shut hid)) := by
  obtain ⟨k, rfl⟩ := Nat.exists_eq_add_of_le' hK
  refine (ca_Walk_shut_out (k := k + 8) [mkRef 0, .int a, .int b, .int hid] rfl _).trans ?_
  unfold runS
  rw [if_neg (by simp [noRef_mkRef])]
  have q1 := wputs_v H (K := k + 8) (by omega) o a b .shut hid
  have q2 := wtells_v H (K := k + 8) (by omega) (o.put (how := .shut) c hap) he "shut" [a, b] hid
  simp [How.str] at q1 q2
  simp [runB_ap, sh_Walk_shut_out, q1, q2, Wk.stay, How.word]
theorem wsend_v {K T : Nat} (hK : 10 ≤ K) {a b hid : Int} {ways : List Int} {f : Nat} (k : WaysOk h.n a b ways (f + 1)) (c : CallOk h.n a b hid)
    (hc : ∀ (w : Wk) (x : Int), CallOk h.n a x hid → WaysOk h.n a x (ways ++ [b]) f → WOk h w → apart w.cs a x → w.evs.length + T < 2000 → CF K "Walk.come" [mkRef 0, .int a, .int x, .int hid, .tuple ((ways ++ [b]).map .int)] (WS h w) = some ((.none, false), WS h (w.come h a hid f x (ways ++ [b]))))
    (w : Wk) (x : Int) (o : WOk h w) (hap : apart w.cs a b) (h0 : 0 ≤ x) (h1 : x < h.n) (hx : x ≠ b) (he : w.evs.length + T + 2 < 2000) :
    CF (K + 1) "Walk.send_on" [mkRef 0, .int a, .int b, .int x, .int hid, .tuple (ways.map .int)] (WS h w) = some ((.none, false), WS h (w.sent h (Wk.come h a hid f) a b hid ways x)) := by
  refine (ca_Walk_send_on (k := K) [mkRef 0, .int a, .int b, .int x, .int hid, .tuple (ways.map .int)] rfl _).trans ?_
  unfold runS
  rw [if_neg (by simp [noRef_mkRef])]
  have q1 := wtells_v H (K := K) (by omega) o (by omega) "sent" [a, b, x] hid
  have o1 : WOk h (w.tell h (W "sent") [a, b, x] hid) := o.tell _ _ _
  have q2 := wbusy_v H (K := K) (by omega) o1 (by rw [tell_evs]; omega) c hap
  obtain ⟨k', rfl⟩ : ∃ k', K = k' + 2 := ⟨K - 2, by omega⟩
  have q3 := between_v (k := k') a x (o.fit H) (WS h (w.tell h (W "sent") [a, b, x] hid))
  have hlen : ways.length ≤ 3 := by have := k.len; omega
  simp at q1
  have hlen2 : ways.length + 1 ≤ line := by unfold line; omega
  unfold Wk.sent
  by_cases hb1 : x = a
  · subst hb1
    simp [runB_ap, sh_Walk_send_on, q1, q2]
  · by_cases hb2 : x ∈ ways
    · have e2 : (ways.map PyData.int).any (fun y => PyData.eqv y (.int x)) = true := by
        rw [List.any_map]; exact List.any_eq_true.mpr ⟨x, hb2, by simp⟩
      simp [runB_ap, sh_Walk_send_on, q1, q2, hb1, hb2]
    · cases hb3 : betwOf w.cs a x with
      | some e =>
        rw [hb3] at q3
        simp at q3
        simp [runB_ap, sh_Walk_send_on, q1, q2, q3, hb1, hb2]
      | none =>
        rw [hb3] at q3
        have q4 := hc (w.tell h (W "sent") [a, b, x] hid) x ⟨c.ra, ⟨h0, h1⟩, fun e => hb1 e.symm, c.hid⟩ (k.on c hx hb2) o1 (apart_iff.mp (by rw [tell_cs, hb3]; rfl)) (by rw [tell_evs]; omega)
        simp at q3 q4
        simp [runB_ap, sh_Walk_send_on, q1, q3, q4, hb1, hb2, hlen2]
end

section
variable {h : House} (H : HOk h)
include H
theorem wdecided_loop {K S : Nat} {V : D} (hK : 9 ≤ K) {send : Wk → Int → Wk} {a b hid : Int} (c : CallOk h.n a b hid) (hs : SendOk h a b S send) (hv : ∀ (w : Wk) (x : Int), WOk h w → apart w.cs a b → 0 ≤ x → x < h.n → x ≠ b → w.evs.length + S < 2000 → CF K "Walk.send_on" [mkRef 0, .int a, .int b, .int x, .int hid, V] (WS h w) = some ((.none, false), WS h (send w x)))
    {s : Src} (hok : ∀ env st, s.ok env st = true) {T : D} : ∀ (told : Told) (w : Wk) (x6 x7 : Option SV), InActs h.n a b w.cs told → WOk h w → apart w.cs a b → w.evs.length + told.length + S < 2000 →
    ∃ f, forLoop s (asg true [6, 7]) (blkS (lb_Walk_decided_1 (CF K))) (told.map toldD) [fz (mkRef 0), fz (.int a), fz (.int b), fz (.int hid), fz V, fz T, x6, x7] (WS h w) = some (f, WS h (w.acted h send a b hid told).1) ∧
      (((w.acted h send a b hid told).2 = true ∧ f = .ret (.bool true) false) ∨ ((w.acted h send a b hid told).2 = false ∧ ∃ y6 y7, f = .next [fz (mkRef 0), fz (.int a), fz (.int b), fz (.int hid), fz V, fz T, y6, y7]))
  | [], w, x6, x7, _, _, _, _ => ⟨_, by rw [List.map_nil, forL_n, if_pos (hok _ _)]; rfl, .inr ⟨rfl, x6, x7, rfl⟩⟩
  | q :: r, w, x6, x7, I, o, hap, he => by
    rw [List.length_cons] at he
    have hp := hs.pos
    rw [List.map_cons, forL_c, if_pos (hok _ _)]
    have ea : asg true [6, 7] (toldD q) [fz (mkRef 0), fz (.int a), fz (.int b), fz (.int hid), fz V, fz T, x6, x7] = some [fz (mkRef 0), fz (.int a), fz (.int b), fz (.int hid), fz V, fz T, fz (.int (q.1 : Int)), fz q.2.d] := rfl
    unfold Wk.acted
    simp only [ea]
    by_cases h1 : q.2.word.name = "also"
    · obtain ⟨x, e1, e2, e3, e4⟩ := I.to q List.mem_cons_self (.inl h1)
      obtain ⟨e5, e6⟩ := I.also q List.mem_cons_self x ⟨h1, e1⟩
      have hx : CallOk h.n a x hid := ⟨c.ra, ⟨e2, e3⟩, fun e => e5 e.symm, c.hid⟩
      have i1 : item q.2.d (.int 1) = some (.int x) := by obtain ⟨i, w, t⟩ := q; simp only at e1; subst e1; rfl
      have q1 := wputs_v H (K := K) (by omega) o a x .ring hid
      have q2 := wtells_v H (K := K) (by omega) (o.put (how := .ring) hx e6) (by rw [put_evs]; omega) "rings" [a, x] hid
      simp [How.str] at q1 q2
      have hb : blkS (lb_Walk_decided_1 (CF K)) [fz (mkRef 0), fz (.int a), fz (.int b), fz (.int hid), fz V, fz T, fz (.int (q.1 : Int)), fz q.2.d] (WS h w) = some (.next [fz (mkRef 0), fz (.int a), fz (.int b), fz (.int hid), fz V, fz T, fz (.int (q.1 : Int)), fz q.2.d], WS h (w.stay h a x .ring hid)) := by
        simp [lb_Walk_decided_1, h1, i1, q1, q2, Wk.stay, How.word]
      rw [hb, if_pos h1, e1]
      exact wdecided_loop hK c hs hv hok r (w.stay h a x .ring hid) _ _ (I.tail ⟨h1, e1⟩) (o.stay .ring hx e6) (stay_apart hap (by have := c.ne; omega)) (by rw [stay_evs]; omega)
    · rw [if_neg h1]
      by_cases h2 : q.2.word.name = "shut"
      · rw [if_pos h2]
        have q1 := wshut_v H (K := K) hK o (by omega) c hap
        have hb : blkS (lb_Walk_decided_1 (CF K)) [fz (mkRef 0), fz (.int a), fz (.int b), fz (.int hid), fz V, fz T, fz (.int (q.1 : Int)), fz q.2.d] (WS h w) = some (.ret (.bool true) false, WS h (w.stay h a b .shut hid)) := by
          simp [lb_Walk_decided_1, h2, q1]
        rw [hb]
        exact ⟨_, rfl, .inl ⟨rfl, rfl⟩⟩
      · rw [if_neg h2]
        by_cases h3 : q.2.word.name = "send"
        · obtain ⟨x, e1, e2, e3, e4⟩ := I.to q List.mem_cons_self (.inr h3)
          have i1 : item q.2.d (.int 1) = some (.int x) := by obtain ⟨i, w, t⟩ := q; simp only at e1; subst e1; rfl
          have q1 := hv w x o hap e2 e3 e4 (by omega)
          have hb : blkS (lb_Walk_decided_1 (CF K)) [fz (mkRef 0), fz (.int a), fz (.int b), fz (.int hid), fz V, fz T, fz (.int (q.1 : Int)), fz q.2.d] (WS h w) = some (.ret (.bool true) false, WS h (send w x)) := by
            simp [lb_Walk_decided_1, h3, i1, q1]
          rw [hb, if_pos h3, e1]
          exact ⟨_, rfl, .inl ⟨rfl, rfl⟩⟩
        · rw [if_neg h3]
          have h4 : q.2.word.name = "show" := by
            rcases I.word q List.mem_cons_self with e | e | e | e
            · exact absurd e h1
            · exact absurd e h2
            · exact absurd e h3
            · exact e
          have q1 := wputs_v H (K := K) (by omega) o a b .show hid
          have q2 := wtells_v H (K := K) (by omega) (o.put (how := .show) c hap) (by rw [put_evs]; omega) "shows" [a, b] hid
          simp [How.str] at q1 q2
          have hb : blkS (lb_Walk_decided_1 (CF K)) [fz (mkRef 0), fz (.int a), fz (.int b), fz (.int hid), fz V, fz T, fz (.int (q.1 : Int)), fz q.2.d] (WS h w) = some (.ret (.bool true) false, WS h (w.stay h a b .show hid)) := by
            simp [lb_Walk_decided_1, h4, q1, q2, Wk.stay, How.word]
          rw [hb]
          exact ⟨_, rfl, .inl ⟨rfl, rfl⟩⟩
theorem wdecided_v {K S : Nat} {V : D} (hK : 9 ≤ K) {send : Wk → Int → Wk} {a b hid : Int} (c : CallOk h.n a b hid) (hs : SendOk h a b S send) (hV : noRef V = true) (hv : ∀ (w : Wk) (x : Int), WOk h w → apart w.cs a b → 0 ≤ x → x < h.n → x ≠ b → w.evs.length + S < 2000 → CF K "Walk.send_on" [mkRef 0, .int a, .int b, .int x, .int hid, V] (WS h w) = some ((.none, false), WS h (send w x)))
    (told : Told) (w : Wk) (I : InActs h.n a b w.cs told) (o : WOk h w) (hap : apart w.cs a b) (he : w.evs.length + told.length + S < 2000) :
    CF (K + 1) "Walk.decided" [mkRef 0, .int a, .int b, .int hid, V, .tuple (told.map toldD)] (WS h w) = some ((.bool (w.acted h send a b hid told).2, false), WS h (w.acted h send a b hid told).1) := by
  refine (ca_Walk_decided (k := K) [mkRef 0, .int a, .int b, .int hid, V, .tuple (told.map toldD)] rfl _).trans ?_
  unfold runS
  rw [if_neg (by simp [noRef_mkRef])]
  obtain ⟨f, h1, h2⟩ := wdecided_loop H hK c hs hv (s := ⟨told.map toldD, [(Op.v (.tuple (told.map toldD)), .tuple (told.map toldD))]⟩) (fun env st => by simp) (T := .tuple (told.map toldD)) told w none none I o hap he
  rcases h2 with ⟨h2, rfl⟩ | ⟨h2, y6, y7, rfl⟩
  · rw [h2]; simp [runB_ap, sh_Walk_decided, h1]
  · rw [h2]; simp [runB_ap, sh_Walk_decided, h1]
end

section
variable {h : House} (H : HOk h)
include H
theorem wcome_v {a hid : Int} : ∀ (f K : Nat), 10 + 3 * f ≤ K → ∀ (w : Wk) (b : Int) (ways : List Int), CallOk h.n a b hid → WaysOk h.n a b ways f → WOk h w → apart w.cs a b → w.evs.length + 20 * f < 2000 →
    CF K "Walk.come" [mkRef 0, .int a, .int b, .int hid, .tuple (ways.map .int)] (WS h w) = some ((.none, false), WS h (w.come h a hid f b ways))
  | 0, _, _, _, _, _, c, k, _, _, _ => by obtain ⟨f', e⟩ := k.more H c; cases e
  | f + 1, K, hK, w, b, ways, c, k, o, hap, he => by
    obtain ⟨m, rfl⟩ : ∃ m, K = m + 3 := ⟨K - 3, by omega⟩
    have hs : SendOk h a b (20 * f + 2) (Wk.sent h (Wk.come h a hid f) a b hid ways) := come_send H c k
    have hv : ∀ (w : Wk) (x : Int), WOk h w → apart w.cs a b → 0 ≤ x → x < h.n → x ≠ b → w.evs.length + (20 * f + 2) < 2000 → CF (m + 1) "Walk.send_on" [mkRef 0, .int a, .int b, .int x, .int hid, .tuple (ways.map .int)] (WS h w) = some ((.none, false), WS h (w.sent h (Wk.come h a hid f) a b hid ways x)) :=
      fun w x o hap h0 h1 hx he => wsend_v H (K := m) (T := 20 * f) (by omega) k c (fun w' x' c' k' o' hap' he' => wcome_v f m (by omega) w' x' (ways ++ [b]) c' k' o' hap' he') w x o hap h0 h1 hx (by omega)
    refine (ca_Walk_come (k := m + 2) [mkRef 0, .int a, .int b, .int hid, .tuple (ways.map .int)] rfl _).trans ?_
    unfold runS
    rw [if_neg (by simp [noRef_mkRef])]
    have hw : noRef (.tuple (ways.map PyData.int)) = true := by simp
    have o1 : WOk h (w.tell h (W "comes") [a, b] hid) := o.tell _ _ _
    have I1 := in_acts H (w := w.tell h (W "comes") [a, b] hid) (a := a) (b := b) (hid := hid)
    have l1 := I1.len
    have q1 := wtells_v H (K := m + 2) (by omega) o (by omega) "comes" [a, b] hid
    have q2 : CF (m + 2) "Walk.ask" [mkRef 0, .str "in", .int b, .int a, .int hid] (WS h (w.tell h (W "comes") [a, b] hid)) = some ((.tuple (((w.tell h (W "comes") [a, b] hid).acts h (pIn a b hid)).map toldD), false), WS h ((w.tell h (W "comes") [a, b] hid).asked h (pIn a b hid))) := wasks_v H (K := m + 2) (by omega) o1 (pIn a b hid) fun _ => ⟨a, rfl⟩
    have q3 : CF (m + 2) "Walk.decided" [mkRef 0, .int a, .int b, .int hid, .tuple (ways.map .int), .tuple (((w.tell h (W "comes") [a, b] hid).acts h (pIn a b hid)).map toldD)] (WS h ((w.tell h (W "comes") [a, b] hid).asked h (pIn a b hid))) = some ((.bool (w.act1 h (Wk.sent h (Wk.come h a hid f) a b hid ways) a b hid).2, false), WS h (w.act1 h (Wk.sent h (Wk.come h a hid f) a b hid ways) a b hid).1) :=
      wdecided_v H (K := m + 1) (by omega) c hs hw hv _ _ I1 (o1.asked _) hap (by rw [asked_evs, tell_evs]; omega)
    obtain ⟨i1, i2, i3⟩ := act1_ok H hs c o hap
    simp at q1
    show _ = some ((PyData.none, false), WS h (w.came h (Wk.sent h (Wk.come h a hid f) a b hid ways) a b hid))
    unfold Wk.came
    cases hd : (w.act1 h (Wk.sent h (Wk.come h a hid f) a b hid ways) a b hid).2 with
    | true =>
      rw [hd] at q3
      simp [runB_ap, sh_Walk_come, q1, q2, q3]
    | false =>
      rw [hd] at q3
      obtain ⟨j1, j2⟩ := i3 hd
      generalize w.act1 h (Wk.sent h (Wk.come h a hid f) a b hid ways) a b hid = W1 at q3 i1 i2 i3 j1 j2 hd ⊢
      have q4 : CF (m + 2) "is_free" [callsD W1.1.cs, .int b] (WS h W1.1) = some ((.bool (isFree W1.1.cs b), false), WS h W1.1) := by
        obtain ⟨m', rfl⟩ : ∃ m', m = m' + 1 := ⟨m - 1, by omega⟩
        exact is_free_v (k := m') b (i1.fit H) _
      cases hf : isFree W1.1.cs b with
      | true =>
        rw [hf] at q4
        have q5 := wputs_v H (K := m + 2) (by omega) i1 a b .ring hid
        have q6 := wtells_v H (K := m + 2) (by omega) (i1.put (how := .ring) c j1) (by rw [put_evs]; omega) "rings" [a, b] hid
        simp [How.str] at q5 q6
        simp [runB_ap, sh_Walk_come, q1, q2, q3, q4, q5, q6, Wk.stay, How.word]
      | false =>
        rw [hf] at q4
        have I2 := full_acts H (w := W1.1) (a := a) (b := b) (hid := hid)
        have l2 := I2.len
        have q5 : CF (m + 2) "Walk.ask" [mkRef 0, .str "full", .int b, .int a, .int hid] (WS h W1.1) = some ((.tuple ((W1.1.acts h (pFull a b hid)).map toldD), false), WS h (W1.1.asked h (pFull a b hid))) := wasks_v H (K := m + 2) (by omega) i1 (pFull a b hid) fun _ => ⟨a, rfl⟩
        have q6 : CF (m + 2) "Walk.decided" [mkRef 0, .int a, .int b, .int hid, .tuple (ways.map .int), .tuple ((W1.1.acts h (pFull a b hid)).map toldD)] (WS h (W1.1.asked h (pFull a b hid))) = some ((.bool (W1.1.act2 h (Wk.sent h (Wk.come h a hid f) a b hid ways) a b hid).2, false), WS h (W1.1.act2 h (Wk.sent h (Wk.come h a hid f) a b hid ways) a b hid).1) :=
          wdecided_v H (K := m + 1) (by omega) c hs hw hv _ _ I2 (i1.asked _) j1 (by rw [asked_evs]; omega)
        obtain ⟨k1, k2, k3⟩ := act2_ok H hs c i1 j1
        cases hg : (W1.1.act2 h (Wk.sent h (Wk.come h a hid f) a b hid ways) a b hid).2 with
        | true =>
          rw [hg] at q6
          simp [runB_ap, sh_Walk_come, q1, q2, q3, q4, q5, q6]
        | false =>
          rw [hg] at q6
          obtain ⟨l3, l4⟩ := k3 hg
          have q7 := wbusy_v H (K := m + 2) (by omega) k1 (by omega) c l3
          simp [runB_ap, sh_Walk_come, q1, q2, q3, q4, q5, q6, q7]
omit H in
/-- hidden, or barred -/
theorem hidAs_all {t : Told} (h : ∀ q ∈ t, q.2.word.name = "hide") : hidAs t = if t = [] then 0 else 1 := by
  cases t with
  | nil => rfl
  | cons q r => simp [hidAs, h q List.mem_cons_self]
theorem out_acts {w : Wk} {a b : Int} : ∃ l r, w.acts h (pOut a b) = l ++ r ∧ (∀ q ∈ l, q.2.word.name = "hide") ∧ (∀ q ∈ r, q.2.word.name = "bar") ∧ r.length ≤ 1 := by
  obtain ⟨l, r, h1, h2, h3, h4, h5⟩ := acts_shape H (w := w) (pOut a b)
  have hword : ∀ q ∈ w.acts h (pOut a b), q.2.word.name = "bar" ∨ q.2.word.name = "hide" := fun q hq => by
    obtain ⟨v, r, t', _, hv, hr, h4, h5, h6, h7, h8⟩ := acts_from H (w := w) (pOut a b) q hq
    have e : actsOf r.kind = [W "bar", W "hide"] := by simp [actsOf, h6, pOut]
    rw [e, h5] at h7
    simp only [List.mem_cons, List.not_mem_nil, or_false] at h7
    rcases h7 with e | e <;> rw [e] <;> simp
  refine ⟨l, r, h1, fun q hq => ?_, fun q hq => ?_, h4⟩
  · rcases hword q (by rw [h1]; exact List.mem_append_left _ hq) with e | e
    · have := h2 q hq; simp [goesOn, e] at this
    · exact e
  · rcases hword q (by rw [h1]; exact List.mem_append_right _ hq) with e | e
    · exact e
    · have := h3 q hq; simp [goesOn, e] at this
omit H in
theorem hides_loop {K : Nat} {A B : Int} {s : Src} {w : Wk} (hok : ∀ env st, s.ok env st = true) : ∀ (l r : Told), (∀ q ∈ l, q.2.word.name = "hide") → ∀ (i : Int) (x4 x5 : Option SV),
    ∃ y4 y5, forLoop s (asg true [4, 5]) (blkS (lb_Walk_go_out_1 (CF K))) ((l ++ r).map toldD) [fz (mkRef 0), fz (.int A), fz (.int B), fz (.int i), x4, x5] (WS h w) =
      forLoop s (asg true [4, 5]) (blkS (lb_Walk_go_out_1 (CF K))) (r.map toldD) [fz (mkRef 0), fz (.int A), fz (.int B), fz (.int (if l = [] then i else 1)), y4, y5] (WS h w)
  | [], r, _, i, x4, x5 => ⟨x4, x5, rfl⟩
  | q :: l, r, hq, i, x4, x5 => by
    obtain ⟨y4, y5, ih⟩ := hides_loop (K := K) (A := A) (B := B) (s := s) (w := w) hok l r (fun q h => hq q (List.mem_cons_of_mem _ h)) 1 (fz (.int (q.1 : Int))) (fz q.2.d)
    refine ⟨y4, y5, ?_⟩
    rw [List.cons_append, List.map_cons, forL_c, if_pos (hok _ _)]
    have ea : asg true [4, 5] (toldD q) [fz (mkRef 0), fz (.int A), fz (.int B), fz (.int i), x4, x5] = some [fz (mkRef 0), fz (.int A), fz (.int B), fz (.int i), fz (.int (q.1 : Int)), fz q.2.d] := rfl
    have hb : blkS (lb_Walk_go_out_1 (CF K)) [fz (mkRef 0), fz (.int A), fz (.int B), fz (.int i), fz (.int (q.1 : Int)), fz q.2.d] (WS h w) = some (.next [fz (mkRef 0), fz (.int A), fz (.int B), fz (.int 1), fz (.int (q.1 : Int)), fz q.2.d], WS h w) := by
      simp [lb_Walk_go_out_1, hq q List.mem_cons_self]
    simp only [ea, hb]
    rw [if_neg (by simp)]
    have e2 : (if l = [] then (1 : Int) else 1) = 1 := by split <;> rfl
    rw [e2] at ih
    exact ih
theorem wgoout_v {K : Nat} (hK : 20 ≤ K) {w : Wk} (o : WOk h w) (he : w.evs.length + 60 < 2000) {a b : Int} (ra : 0 ≤ a ∧ a < h.n) (rb : 0 ≤ b ∧ b < h.n) (ne : a ≠ b) (hap : apart w.cs a b) :
    CF K "Walk.go_out" [mkRef 0, .int a, .int b] (WS h w) = some ((.none, false), WS h (w.goOut h a b)) := by
  obtain ⟨m, rfl⟩ : ∃ m, K = m + 1 := ⟨K - 1, by omega⟩
  refine (ca_Walk_go_out (k := m) [mkRef 0, .int a, .int b] rfl _).trans ?_
  unfold runS
  rw [if_neg (by simp [noRef_mkRef])]
  have o1 := o.asked (pOut a b)
  have q1 : CF m "Walk.ask" [mkRef 0, .str "out", .int a, .int b, .int 0] (WS h w) = some ((.tuple ((w.acts h (pOut a b)).map toldD), false), WS h (w.asked h (pOut a b))) := wasks_v H (K := m) (by omega) o (pOut a b) (by simp [pOut])
  obtain ⟨l, r, e, hl, hr, hr1⟩ := out_acts H (w := w) (a := a) (b := b)
  have c : CallOk h.n a b (hidAs (w.acts h (pOut a b))) := ⟨ra, rb, ne, hidAs_ok _⟩
  obtain ⟨y4, y5, hlp⟩ := hides_loop (h := h) (K := m) (A := a) (B := b) (s := ⟨(w.acts h (pOut a b)).map toldD, [(Op.v (.tuple ((w.acts h (pOut a b)).map toldD)), .tuple ((w.acts h (pOut a b)).map toldD))]⟩) (w := w.asked h (pOut a b)) (fun env st => by simp) l r hl 0 none none
  rw [← e] at hlp
  have q2 := wcome_v H 3 m (by omega) (w.asked h (pOut a b)) b [] c ⟨.nil, by simp, rfl⟩ o1 hap (by rw [asked_evs]; omega)
  have q3 := wshut_v H (K := m) (by omega) o1 (by rw [asked_evs]; omega) c hap
  unfold Wk.goOut
  cases r with
  | nil =>
    have eh : hidAs (w.acts h (pOut a b)) = if l = [] then 0 else 1 := by rw [e, List.append_nil]; exact hidAs_all hl
    have eb : barred (w.acts h (pOut a b)) = false := by
      rw [e, List.append_nil]
      unfold barred
      rw [List.any_eq_false]
      intro q hq
      rw [hl q hq]; decide
    rw [List.map_nil, forL_n, if_pos (by simp)] at hlp
    rw [eh] at q2 ⊢
    rw [eb]
    simp at q2
    simp [runB_ap, sh_Walk_go_out, q1, hlp, q2]
  | cons q r =>
    have hrn : r = [] := by cases r with
      | nil => rfl
      | cons x xs => simp only [List.length_cons] at hr1; omega
    subst hrn
    have hq := hr q List.mem_cons_self
    have eh : hidAs (w.acts h (pOut a b)) = if l = [] then 0 else 1 := by
      have hq' : decide (q.2.word.name = "hide") = false := by rw [hq]; decide
      rw [← hidAs_all hl, e]
      unfold hidAs
      rw [List.any_append, List.any_cons, List.any_nil, hq', Bool.or_false, Bool.or_false]
    have eb : barred (w.acts h (pOut a b)) = true := by
      rw [e]
      unfold barred
      rw [List.any_append]
      simp [hq]
    rw [eh] at q3 ⊢
    rw [eb]
    have ea : asg true [4, 5] (toldD q) [fz (mkRef 0), fz (.int a), fz (.int b), fz (.int (if l = [] then 0 else 1)), y4, y5] = some [fz (mkRef 0), fz (.int a), fz (.int b), fz (.int (if l = [] then 0 else 1)), fz (.int (q.1 : Int)), fz q.2.d] := rfl
    have hb : blkS (lb_Walk_go_out_1 (CF m)) [fz (mkRef 0), fz (.int a), fz (.int b), fz (.int (if l = [] then 0 else 1)), fz (.int (q.1 : Int)), fz q.2.d] (WS h (w.asked h (pOut a b))) = some (.ret .none false, WS h ((w.asked h (pOut a b)).stay h a b .shut (if l = [] then 0 else 1))) := by
      simp [lb_Walk_go_out_1, hq, q3]
    rw [List.map_cons, forL_c, if_pos (by simp)] at hlp
    simp only [ea, hb] at hlp
    simp at hlp
    simp [runB_ap, sh_Walk_go_out, q1, hlp]
theorem wdial_v {K : Nat} (hK : 21 ≤ K) {w : Wk} (o : WOk h w) (he : w.evs.length + 60 < 2000) {a b : Int} (ra : 0 ≤ a ∧ a < h.n) (rb : 0 ≤ b ∧ b < h.n) (ne : a ≠ b) :
    CF K "Walk.dial" [mkRef 0, .int a, .int b] (WS h w) = some ((.none, false), WS h (w.dial h a b)) := by
  obtain ⟨m, rfl⟩ : ∃ m, K = m + 4 := ⟨K - 4, by omega⟩
  refine (ca_Walk_dial (k := m + 3) [mkRef 0, .int a, .int b] rfl _).trans ?_
  unfold runS
  rw [if_neg (by simp [noRef_mkRef])]
  have q1 := has_free_hands_v (k := m) a (o.fit H) (WS h w)
  have q2 := between_v (k := m + 1) a b (o.fit H) (WS h w)
  unfold Wk.dial
  cases h1 : (callsOf w.cs a).all (·.isHeld a) with
  | false => rw [h1] at q1; simp [runB_ap, sh_Walk_dial, q1]
  | true =>
    rw [h1] at q1
    cases h2 : betwOf w.cs a b with
    | some c =>
      rw [h2] at q2
      simp at q2
      simp [runB_ap, sh_Walk_dial, q1, q2]
    | none =>
      rw [h2] at q2
      simp at q2
      have q3 := wgoout_v H (K := m + 3) (by omega) o he ra rb ne (apart_iff.mp (by rw [h2]; rfl))
      simp [runB_ap, sh_Walk_dial, q1, q2, q3]
end

theorem pass_eq (how : How) : (decide (Str.ofString "ring" = how.str) || (decide (Str.ofString "show" = how.str) || (decide (Str.ofString "busy" = how.str) || decide (Str.ofString "shut" = how.str)))) = how.passing := by cases how <;> simp [How.str, How.passing]
section
variable {h : House} (H : HOk h)
include H
theorem wtalkon_v {K : Nat} (hK : 10 ≤ K) {w : Wk} (o : WOk h w) (he : w.evs.length + 10 < 2000) {c : Call} (hc : c ∈ w.cs) :
    CF K "Walk.talk_on" [mkRef 0, c.d] (WS h w) = some ((.none, false), WS h (w.talkOn h c)) := by
  obtain ⟨m, rfl⟩ : ∃ m, K = m + 10 := ⟨K - 10, by omega⟩
  refine (ca_Walk_talk_on (k := m + 9) [mkRef 0, c.d] rfl _).trans ?_
  unfold runS
  rw [if_neg (by simp [noRef_mkRef])]
  have o1 := o.talks hc
  have q1 := wputfor_v H (K := m + 9) (by omega) o c .talk
  have q2 := wtells_v H (K := m + 9) (by omega) (o.asC hc .talk) (by rw [asC_evs]; omega) "talks" [c.a, c.b] c.hid
  have q3 := calls_of_v (k := m + 7) c.a (o1.fit H) (WS h (w.talks h c))
  have hl := len_filter (w.talks h c).cs fun e => decide (e.a = c.a) && e.how.passing
  have h6 := o1.cs.six H.n4
  have q4 := wend_v H (K := m + 9) (by omega) ((w.talks h c).cs.filter fun e => decide (e.a = c.a) && e.how.passing) o1 (by rw [talks_evs]; omega)
  simp [How.str] at q1 q2
  have e2 : (w.asC c .talk).tell h (W "talks") [c.a, c.b] c.hid = w.talks h c := rfl
  rw [e2] at q2
  have e1 : ((callsOf (w.talks h c).cs c.a).filter fun e => decide (e.a = c.a) && e.how.passing) = (w.talks h c).cs.filter fun e => decide (e.a = c.a) && e.how.passing := by
    unfold callsOf
    rw [List.filter_filter]
    congr 1
    funext e
    by_cases hx : e.a = c.a <;> simp [hx, Call.isIn]
  have hf : fitL (callsOf (w.talks h c).cs c.a) := callsOf_fit (o1.fit H)
  simp [runB_ap, sh_Walk_talk_on, q1, q2, q3, hf, inAny, pass_eq, e1, q4, Wk.talkOn]
theorem wtake_v {K : Nat} (hK : 21 ≤ K) {w : Wk} (o : WOk h w) (he : w.evs.length + 60 < 2000) (l : Int) :
    CF K "Walk.take" [mkRef 0, .int l] (WS h w) = some ((.none, false), WS h (w.take h l)) := by
  obtain ⟨m, rfl⟩ : ∃ m, K = m + 3 := ⟨K - 3, by omega⟩
  refine (ca_Walk_take (k := m + 2) [mkRef 0, .int l] rfl _).trans ?_
  unfold runS
  rw [if_neg (by simp [noRef_mkRef])]
  have q1 := rings_at_v (k := m) l (o.fit H) (WS h w)
  have q2 := talks_of_v (k := m) l (o.fit H) (WS h w)
  unfold Wk.take
  cases hr : ringsAt w.cs l with
  | none =>
    rw [hr] at q1
    simp at q1
    simp [runB_ap, sh_Walk_take, q1]
  | some c =>
    rw [hr] at q1
    simp at q1
    obtain ⟨hc, hl⟩ := rings_mem hr
    simp only
    cases ht : (talksOf w.cs l).isEmpty with
    | false =>
      have ht2 : ¬ talksOf w.cs l = [] := fun e => by rw [e] at ht; cases ht
      simp [runB_ap, sh_Walk_take, q1, q2, ht2]
    | true =>
      have ht2 : talksOf w.cs l = [] := List.isEmpty_iff.mp ht
      rw [ht2] at q2
      by_cases hb : c.how = .back
      · have e := rings_back hl hb
        have k := o.cs.ok hc
        have q3 := wouts_v H (K := m + 2) (by omega) o c
        have q4 := wgoout_v H (K := m + 2) (by omega) (o.out c) (by rw [out_evs]; omega) (a := l) (b := c.b) (e ▸ k.ra) k.rb (e ▸ k.ne) (e ▸ o.cs.out_apart hc)
        have hb2 : c.how.str = "back" := by rw [hb]; rfl
        simp [runB_ap, sh_Walk_take, q1, q2, hb, hb2, q3, q4]
      · have q3 := wtalkon_v H (K := m + 2) (by omega) o (by omega) hc
        have hb2 : ¬ c.how.str = "back" := fun e => hb ((str_inj c.how .back).mp e)
        simp [runB_ap, sh_Walk_take, q1, q2, hb, hb2, q3]
omit H in
theorem held_by_v {k : Nat} (c : Call) (l : Int) (st : S) : CF (k + 1) "held_by" [c.d, .int l] st = some ((.tuple [.int c.a, .int c.b, .str (heldAs c l).str, .int c.hid], false), st) := by
  refine (ca_held_by [c.d, .int l] rfl st).trans (runS_iso (by simp) (st1 := []) ?_ (by simp) st)
  unfold heldAs
  by_cases h : c.a = l <;> simp [runB_ap, sh_held_by, h, How.str]
omit H in
theorem comes_to_v {k : Nat} (c : Call) (l : Int) (st : S) : CF (k + 1) "comes_to" [c.d, .int l] st = some ((.bool (c.comesTo l), false), st) := by
  refine (ca_comes_to [c.d, .int l] rfl st).trans (runS_iso (by simp) (st1 := []) ?_ (by simp) st)
  obtain ⟨a, b, how, hid⟩ := c
  unfold Call.comesTo
  cases how <;> simp [runB_ap, sh_comes_to, How.str, inAny]
theorem whold_v {K : Nat} (hK : 9 ≤ K) {w : Wk} (o : WOk h w) (he : w.evs.length + 10 < 2000) (l : Int) :
    CF K "Walk.hold" [mkRef 0, .int l] (WS h w) = some ((.none, false), WS h (w.hold h l)) := by
  obtain ⟨m, rfl⟩ : ∃ m, K = m + 9 := ⟨K - 9, by omega⟩
  refine (ca_Walk_hold (k := m + 8) [mkRef 0, .int l] rfl _).trans ?_
  unfold runS
  rw [if_neg (by simp [noRef_mkRef])]
  have q0 := talks_of_v (k := m + 6) l (o.fit H) (WS h w)
  obtain ⟨env', ⟨x, rfl⟩, hl⟩ := for_walk (s := ⟨(talksOf w.cs l).map Call.d, [(Op.v (callsD (talksOf w.cs l)), callsD (talksOf w.cs l))]⟩) (asgn := asg false [2]) (body := blkS (lb_Walk_hold_1 (CF (m + 8)))) h Call.d (Wk.holdAll h l) (fun c w => w.hold1 h l c)
    (fun r w => WOk h w ∧ w.evs.length + r.length < 2000 ∧ r.Nodup ∧ ∀ c ∈ r, c ∈ w.cs) (fun env => ∃ x, env = [fz (mkRef 0), fz (.int l), x]) (fun _ => rfl) (fun _ _ _ => rfl) (fun env st _ => by simp)
    (fun c r w env p e => by
      obtain ⟨x, rfl⟩ := e
      obtain ⟨o, he, nd, hm⟩ := p
      rw [List.length_cons] at he
      have hc := hm c List.mem_cons_self
      obtain ⟨n1, n2⟩ := List.nodup_cons.mp nd
      refine ⟨⟨(o.asC hc _).tell _ _ _, by unfold Wk.hold1; rw [tell_evs, asC_evs]; omega, n2, fun e he => mem_asC.mpr (.inl ⟨hm e (List.mem_cons_of_mem _ he), fun x => n1 (x ▸ he)⟩)⟩, _, rfl, ?_⟩
      have q1 := wouts_v H (K := m + 8) (by omega) o c
      have q2 := wputs_v H (K := m + 8) (by omega) (o.out c) c.a c.b (heldAs c l) c.hid
      have q3 := wtells_v H (K := m + 8) (by omega) (o.asC hc (heldAs c l)) (by rw [asC_evs]; omega) "holds" [l, otherOf c l] 0
      have q4 := held_by_v (k := m + 7) c l (WS h (w.out c))
      have q5 := other_of_v (k := m + 7) c l (WS h (w.asC c (heldAs c l)))
      refine ⟨[fz (mkRef 0), fz (.int l), fz c.d], ⟨_, rfl⟩, ?_⟩
      have e1 : (w.out c).put ⟨c.a, c.b, heldAs c l, c.hid⟩ = w.asC c (heldAs c l) := rfl
      rw [e1] at q2
      simp at q3
      simp [lb_Walk_hold_1, q1, q2, q3, q4, q5, Wk.hold1])
    (talksOf w.cs l) w [fz (mkRef 0), fz (.int l), none] ⟨o, by have : (talksOf w.cs l).length ≤ 6 := fit6 H o (·.talks l); omega, nd_filter o.cs _, fun c hc => (List.mem_filter.mp hc).1⟩ ⟨_, rfl⟩
  simp [runB_ap, sh_Walk_hold, q0, hl, Wk.hold]
end

theorem inC (c : Call) (xs : List Call) : inAny c.d (xs.map Call.d) = decide (c ∈ xs) := by
  unfold inAny
  rw [List.any_map, Bool.eq_iff_iff, List.any_eq_true, decide_eq_true_eq]
  constructor
  · rintro ⟨x, hx, hy⟩
    simp only [Function.comp, in_calls_eqv, decide_eq_true_eq] at hy
    subst hy; exact hx
  · intro hx
    exact ⟨c, hx, by simp only [Function.comp, in_calls_eqv, decide_eq_true_eq]⟩
section
variable {h : House} (H : HOk h)
include H
theorem wdrop_v {K : Nat} (hK : 10 ≤ K) {w : Wk} (o : WOk h w) (he : w.evs.length + 20 < 2000) (l : Int) :
    CF K "Walk.drop" [mkRef 0, .int l] (WS h w) = some ((.none, false), WS h (w.drop h l)) := by
  obtain ⟨m, rfl⟩ : ∃ m, K = m + 10 := ⟨K - 10, by omega⟩
  refine (ca_Walk_drop (k := m + 9) [mkRef 0, .int l] rfl _).trans ?_
  unfold runS
  rw [if_neg (by simp [noRef_mkRef])]
  have o1 := o.asked (pDrop l)
  have q1 : CF (m + 9) "Walk.ask" [mkRef 0, .str "drop", .int l, .none, .int 0] (WS h w) = some ((.tuple ((w.acts h (pDrop l)).map toldD), false), WS h (w.asked h (pDrop l))) := wasks_v H (K := m + 9) (by omega) o (pDrop l) (by simp [pDrop])
  have hlen : (w.acts h (pDrop l)).length ≤ 1 := acts_one H (pDrop l) (by simp [pDrop]) (by simp [pDrop])
  obtain ⟨i1, i2⟩ := dropW_ok H o l
  have hf : fitL (callsOf (w.dropW h l).cs l) := callsOf_fit (i1.fit H)
  have q3 := fun st => calls_of_v (k := m + 7) l (i1.fit H) st
  have q4 := fun (c : Call) st => comes_to_v (k := m + 8) c l st
  have q5 := fun st => holds_of_v (k := m + 7) l (i1.fit H) st
  have h4 := len_filter (callsOf (w.dropW h l).cs l) fun c => !(c.comesTo l || (w.dropKept h l && c.isHeld l))
  have h5 : (callsOf (w.dropW h l).cs l).length ≤ 6 := fit6 H i1 (·.isIn l)
  have h7 : (holdsOf (w.dropW h l).cs l).length ≤ 6 := fit6 H i1 (·.isHeld l)
  have q6 := wend_v H (K := m + 9) (by omega) ((callsOf (w.dropW h l).cs l).filter fun c => !(c.comesTo l || (w.dropKept h l && c.isHeld l))) i1 (by omega)
  unfold Wk.drop
  cases hk : w.dropKept h l with
  | true =>
    have hne : ¬ (w.acts h (pDrop l)) = [] := fun e => by unfold Wk.dropKept at hk; rw [e] at hk; cases hk
    have hpos : 0 < (w.acts h (pDrop l)).length := List.length_pos_iff.mpr hne
    have hsm : (w.acts h (pDrop l)).length = 1 := by omega
    have q2 := whold_v H (K := m + 9) (by omega) o1 (by rw [asked_evs]; omega) l
    have e1 : (w.asked h (pDrop l)).hold h l = w.dropW h l := by unfold Wk.dropW; rw [if_pos hk]
    rw [e1] at q2
    rw [hk] at q6
    generalize w.dropW h l = W at *
    have e3 : ((callsOf W.cs l).filter fun a => !inAny a.d (((callsOf W.cs l).filter fun a => a.comesTo l).map Call.d ++ (holdsOf W.cs l).map Call.d)) = (callsOf W.cs l).filter fun c => !c.comesTo l && !c.isHeld l := List.filter_congr fun e he => by
      rw [← List.map_append, inC, ← Bool.not_or]
      congr 1
      rw [Bool.eq_iff_iff, Bool.or_eq_true, decide_eq_true_eq, List.mem_append]
      constructor
      · rintro (hx | hx)
        · exact .inl (List.mem_filter.mp hx).2
        · exact .inr (List.mem_filter.mp hx).2
      · rintro (hx | hx)
        · exact .inl (List.mem_filter.mpr ⟨he, hx⟩)
        · exact .inr (List.mem_filter.mpr ⟨(List.mem_filter.mp he).1, hx⟩)
    have hz : (callsOf W.cs l).length + (holdsOf W.cs l).length ≤ line := by unfold line; omega
    have hz2 : (List.filter (fun x => x.comesTo l) (callsOf W.cs l)).length + (holdsOf W.cs l).length ≤ line := by have := len_filter (callsOf W.cs l) fun x => x.comesTo l; omega
    simp only [Bool.true_and, Bool.not_or] at q6
    simp [runB_ap, sh_Walk_drop, q1, hsm, q2, q3, q4, q5, hf, hz2, e3, q6]
  | false =>
    have hnil : w.acts h (pDrop l) = [] := by
      unfold Wk.dropKept at hk
      cases e : w.acts h (pDrop l) with
      | nil => rfl
      | cons q r => rw [e] at hk; cases hk
    have e1 : w.asked h (pDrop l) = w.dropW h l := by unfold Wk.dropW; rw [if_neg (by rw [hk]; decide)]
    rw [hnil, e1] at q1
    rw [hk] at q6
    generalize w.dropW h l = W at *
    have e3 : ((callsOf W.cs l).filter fun a => decide (∀ (x : Call), x ∈ callsOf W.cs l → x.comesTo l = true → ¬x = a)) = (callsOf W.cs l).filter fun c => !c.comesTo l := List.filter_congr fun e he => by
      cases hx : e.comesTo l with
      | true => exact decide_eq_false fun hh => hh e he hx rfl
      | false => exact decide_eq_true fun x _ hy e' => by rw [e', hx] at hy; cases hy
    simp only [Bool.false_and, Bool.or_false] at q6
    simp [runB_ap, sh_Walk_drop, q1, q3, q4, q5, hf, in_calls_eqv, e3, q6]
end

theorem filterE {α : Type} {p : α → Bool} {xs : List α} : (xs.filter p = []) ↔ xs.any p = false := by
  rw [List.filter_eq_nil_iff, List.any_eq_false]
section
variable {h : House} (H : HOk h)
include H
theorem wtakeup_v {K : Nat} (hK : 11 ≤ K) {w : Wk} (o : WOk h w) (he : w.evs.length + 20 < 2000) (l : Int) {held : List Call} (hm : ∀ c ∈ held, c ∈ w.cs) (hfl : held.length ≤ 6) :
    CF K "Walk.take_up_again" [mkRef 0, .int l, callsD held] (WS h w) = some ((.none, false), WS h (w.takeUp h l held)) := by
  obtain ⟨m, rfl⟩ : ∃ m, K = m + 11 := ⟨K - 11, by omega⟩
  refine (ca_Walk_take_up_again (k := m + 10) [mkRef 0, .int l, callsD held] rfl _).trans ?_
  unfold runS
  rw [if_neg (by simp [noRef_mkRef])]
  have q1 := shown_to_v (k := m + 8) l (o.fit H) (WS h w)
  have q2 := fun l' => talks_of_v (k := m + 8) l' (o.fit H) (WS h w)
  have q3 := fun (c : Call) => other_of_v (k := m + 9) c l (WS h w)
  have hf : fitL held := by unfold fitL line; omega
  unfold Wk.takeUp
  cases hs : shownTo w.cs l with
  | some c =>
    rw [hs] at q1
    simp at q1
    have q4 := wtalkon_v H (K := m + 10) (by omega) o (by omega) (shown_mem hs).1
    simp [runB_ap, sh_Walk_take_up_again, q1, q4]
  | none =>
    rw [hs] at q1
    simp at q1
    have q5 : ∀ x4 x5 : Option SV, xlc [5] false [5] (rpl (ov 2)) (tcmp .Eq (ox (xcall (CF (m + 10)) "talks_of" [xfld (xv 0) "calls", xcall (CF (m + 10)) "other_of" [xv 5, xv 1]])) (ox (xtup []))) (xv 5) [fz (mkRef 0), fz (.int l), fz (callsD held), fz .none, x4, x5] (WS h w) = some ((.list ((held.filter fun c => (talksOf w.cs (otherOf c l)).isEmpty).map Call.d), true), WS h w) := by
      intro x4 x5
      have e : ∀ c : Call, (talksOf w.cs (otherOf c l)).isEmpty = decide (talksOf w.cs (otherOf c l) = []) := fun c => by rw [Bool.eq_iff_iff, List.isEmpty_iff, decide_eq_true_eq]
      simp only [e]
      simp [q2, q3, hf]
    cases hf : held.filter fun c => (talksOf w.cs (otherOf c l)).isEmpty with
    | nil =>
      rw [hf] at q5
      simp [runB_ap, sh_Walk_take_up_again, q1, q5, -xlc_ap]
    | cons c r =>
      rw [hf] at q5
      have hc : c ∈ w.cs := by
        have : c ∈ held.filter fun c => (talksOf w.cs (otherOf c l)).isEmpty := by rw [hf]; exact List.mem_cons_self
        exact hm c (List.mem_filter.mp this).1
      have q6 := wputfor_v H (K := m + 10) (by omega) o c .talk
      have q7 := wtells_v H (K := m + 10) (by omega) (o.asC hc .talk) (by rw [asC_evs]; omega) "talks" [c.a, c.b] c.hid
      have i0 : L2.atI (c.d :: r.map Call.d) 0 = some c.d := by first | rfl | simp
      simp [How.str] at q6 q7
      simp [runB_ap, sh_Walk_take_up_again, q1, q5, q6, q7, i0, Wk.talks, -xlc_ap]
theorem wflash_v {K : Nat} (hK : 12 ≤ K) {w : Wk} (o : WOk h w) (he : w.evs.length + 40 < 2000) (l : Int) :
    CF K "Walk.flash" [mkRef 0, .int l] (WS h w) = some ((.none, false), WS h (w.flash h l)) := by
  obtain ⟨m, rfl⟩ : ∃ m, K = m + 12 := ⟨K - 12, by omega⟩
  refine (ca_Walk_flash (k := m + 11) [mkRef 0, .int l] rfl _).trans ?_
  unfold runS
  rw [if_neg (by simp [noRef_mkRef])]
  have o1 := o.asked (pFlash l)
  have q1 : CF (m + 11) "Walk.ask" [mkRef 0, .str "flash", .int l, .none, .int 0] (WS h w) = some ((.tuple ((w.acts h (pFlash l)).map toldD), false), WS h (w.asked h (pFlash l))) := wasks_v H (K := m + 11) (by omega) o (pFlash l) (by simp [pFlash])
  have hlen : (w.acts h (pFlash l)).length ≤ 1 := acts_one H (pFlash l) (by simp [pFlash]) (by simp [pFlash])
  have q2 := holds_of_v (k := m + 9) l (o1.fit H) (WS h (w.asked h (pFlash l)))
  have hh : (holdsOf (w.asked h (pFlash l)).cs l).length ≤ 6 := fit6 H o1 (·.isHeld l)
  have hhf : fitL (holdsOf (w.asked h (pFlash l)).cs l) := by unfold fitL line; omega
  unfold Wk.flash
  cases hq : w.acts h (pFlash l) with
  | nil =>
    rw [hq] at q1
    simp [runB_ap, sh_Walk_flash, q1, Wk.flashed]
  | cons q r =>
    have hr : r = [] := by rw [hq, List.length_cons] at hlen; exact List.length_eq_zero_iff.mp (by omega)
    subst hr
    rw [hq] at q1
    simp only [Wk.flashed]
    have he1 : (w.asked h (pFlash l)).evs.length + 40 < 2000 := he
    generalize w.asked h (pFlash l) = W at *
    have ea : asg true [2, 3] (toldD q) [fz (mkRef 0), fz (.int l), none, none, none, none] = some [fz (mkRef 0), fz (.int l), fz (.int (q.1 : Int)), fz q.2.d, none, none] := rfl
    by_cases hs : q.2.word.name = "swap"
    · have q3 := whold_v H (K := m + 11) (by omega) o1 (by omega) l
      obtain ⟨i1, i2⟩ := hold_ok o1 l
      have i3 : (talksOf W.cs l).length ≤ 6 := fit6 H o1 (·.talks l)
      have q4 := wtakeup_v H (K := m + 11) (by omega) i1 (by omega) l (held := holdsOf W.cs l) (fun c hc => held_stays hc) hh
      simp [runB_ap, sh_Walk_flash, lb_Walk_flash_2, q1, q2, q3, q4, hs, ea]
    · obtain ⟨env', ⟨x, rfl⟩, hl⟩ := for_walk (s := ⟨(holdsOf W.cs l).map Call.d, [(Op.v (callsD (holdsOf W.cs l)), callsD (holdsOf W.cs l))]⟩) (asgn := asg false [5]) (body := blkS (lb_Walk_flash_1 (CF (m + 11)))) h Call.d (Wk.joinAll h l) (fun c w => if (talksOf w.cs (otherOf c l)).isEmpty = true then w.talks h c else w)
        (fun r w => WOk h w ∧ w.evs.length + r.length < 2000 ∧ r.Nodup ∧ ∀ c ∈ r, c ∈ w.cs) (fun env => ∃ x, env = [fz (mkRef 0), fz (.int l), fz (.int (q.1 : Int)), fz q.2.d, fz (callsD (holdsOf W.cs l)), x]) (fun _ => rfl) (fun _ _ _ => rfl) (fun env st _ => by simp)
        (fun c r w env p e => by
          obtain ⟨x, rfl⟩ := e
          obtain ⟨o, he, nd, hm⟩ := p
          rw [List.length_cons] at he
          have hc := hm c List.mem_cons_self
          obtain ⟨n1, n2⟩ := List.nodup_cons.mp nd
          have q4 := talks_of_v (k := m + 9) (otherOf c l) (o.fit H) (WS h w)
          have q5 := other_of_v (k := m + 10) c l (WS h w)
          by_cases ht : (talksOf w.cs (otherOf c l)).isEmpty = true
          · rw [if_pos ht]
            have ht2 := List.isEmpty_iff.mp ht
            rw [ht2] at q4
            refine ⟨⟨o.talks hc, by rw [talks_evs]; omega, n2, fun e he => mem_asC.mpr (.inl ⟨hm e (List.mem_cons_of_mem _ he), fun x => n1 (x ▸ he)⟩)⟩, _, rfl, ?_⟩
            have q6 := wputfor_v H (K := m + 11) (by omega) o c .talk
            have q7 := wtells_v H (K := m + 11) (by omega) (o.asC hc .talk) (by rw [asC_evs]; omega) "talks" [c.a, c.b] c.hid
            simp [How.str] at q6 q7
            exact ⟨[fz (mkRef 0), fz (.int l), fz (.int (q.1 : Int)), fz q.2.d, fz (callsD (holdsOf W.cs l)), fz c.d], ⟨_, rfl⟩, by simp [lb_Walk_flash_1, q4, q5, q6, q7, Wk.talks]⟩
          · rw [if_neg ht]
            have ht2 : ¬ talksOf w.cs (otherOf c l) = [] := fun e => ht (by rw [e]; rfl)
            exact ⟨⟨o, by omega, n2, fun e he => hm e (List.mem_cons_of_mem _ he)⟩, _, rfl, [fz (mkRef 0), fz (.int l), fz (.int (q.1 : Int)), fz q.2.d, fz (callsD (holdsOf W.cs l)), fz c.d], ⟨_, rfl⟩, by simp [lb_Walk_flash_1, q4, q5, ht2]⟩)
        (holdsOf W.cs l) W [fz (mkRef 0), fz (.int l), fz (.int (q.1 : Int)), fz q.2.d, fz (callsD (holdsOf W.cs l)), none] ⟨o1, by omega, nd_filter o1.cs _, fun c hc => (List.mem_filter.mp hc).1⟩ ⟨_, rfl⟩
      obtain ⟨i1, i2⟩ := joinAll_ok (h := h) l (holdsOf W.cs l) _ o1 (nd_filter o1.cs _) fun c hc => (List.mem_filter.mp hc).1
      have q8 := wtells_v H (K := m + 11) (by omega) i1 (by omega) "joins" [l] 0
      simp at q8
      simp [runB_ap, sh_Walk_flash, lb_Walk_flash_2, q1, q2, hs, ea, hl, q8]
end

@[simp] theorem call_asgW (js : List Nat) (c : Call) (env : Env) : asg true js c.d env = setE env js [.int c.a, .int c.b, .str c.how.str, .int c.hid] := rfl
section
variable {h : House} (H : HOk h)
include H
theorem wringlong_v {K : Nat} (hK : 19 ≤ K) {w : Wk} (o : WOk h w) (he : w.evs.length + 60 < 2000) {c : Call} (hc : c ∈ w.cs) :
    CF K "Walk.ring_long" [mkRef 0, c.d] (WS h w) = some ((.none, false), WS h (w.ringLong h c)) := by
  obtain ⟨m, rfl⟩ : ∃ m, K = m + 2 := ⟨K - 2, by omega⟩
  refine (ca_Walk_ring_long (k := m + 1) [mkRef 0, c.d] rfl _).trans ?_
  unfold runS
  rw [if_neg (by simp [noRef_mkRef])]
  have o0 : WOk h (w.waits h c) := o.tell _ _ _
  have o1 := o0.asked (pLong c)
  have k := o.cs.ok hc
  have hw := long_word H (w := w.waits h c) (c := c)
  have e0 : (w.waits h c).evs.length = w.evs.length + 1 := by unfold Wk.waits; rw [tell_evs]
  have q0 : CF (m + 1) "Walk.tell" [mkRef 0, .str "waits", .tuple [.int c.a, .int c.b], .int c.hid] (WS h w) = some ((.none, false), WS h (w.waits h c)) := wtells_v H (K := m + 1) (by omega) o (by omega) "waits" [c.a, c.b] c.hid
  have q1 : CF (m + 1) "Walk.ask" [mkRef 0, .str "long", .int c.b, .int c.a, .int c.hid] (WS h (w.waits h c)) = some ((.tuple (((w.waits h c).acts h (pLong c)).map toldD), false), WS h ((w.waits h c).asked h (pLong c))) := wasks_v H (K := m + 1) (by omega) o0 (pLong c) (by simp [pLong])
  have hlen : ((w.waits h c).acts h (pLong c)).length ≤ 1 := acts_one H (pLong c) (by simp [pLong]) (by simp [pLong])
  unfold Wk.ringLong
  cases hq : (w.waits h c).acts h (pLong c) with
  | nil =>
    rw [hq] at q1
    simp [runB_ap, sh_Walk_ring_long, q0, q1, Wk.longed]
  | cons q r =>
    have hr : r = [] := by rw [hq, List.length_cons] at hlen; exact List.length_eq_zero_iff.mp (by omega)
    subst hr
    rw [hq] at q1
    have hw := hw q (by rw [hq]; exact List.mem_cons_self)
    simp only [Wk.longed]
    have hcW : c ∈ ((w.waits h c).asked h (pLong c)).cs := hc
    have heW : ((w.waits h c).asked h (pLong c)).evs.length = w.evs.length + 1 := by rw [asked_evs, e0]
    generalize (w.waits h c).asked h (pLong c) = W at *
    have ea : ∀ x2 x3 x4 x5 : Option SV, asg true [6, 7] (toldD q) [fz (mkRef 0), fz c.d, x2, x3, x4, x5, none, none] = some [fz (mkRef 0), fz c.d, x2, x3, x4, x5, fz (.int (q.1 : Int)), fz q.2.d] := fun _ _ _ _ => rfl
    by_cases hs : q.2.word.name = "shut"
    · rw [if_pos hs]
      have q2 := wputfor_v H (K := m + 1) (by omega) o1 c .shut
      have q3 := wtells_v H (K := m + 1) (by omega) (o1.asC hcW .shut) (by rw [asC_evs]; omega) "shut" [c.a, c.b] c.hid
      simp [How.str] at q2 q3
      have e3 : (W.out c).stay h c.a c.b .shut c.hid = (W.asC c .shut).tell h (Law.W "shut") [c.a, c.b] c.hid := rfl
      rw [e3]
      simp [runB_ap, sh_Walk_ring_long, lb_Walk_ring_long_1, q0, q1, q2, q3, hs, ea]
    · rw [if_neg hs]
      rcases hw with hw | ⟨hw, x, e1, e2, e3, e4⟩
      · exact absurd hw hs
      · rw [e1]
        have i1 : item q.2.d (.int 1) = some (.int x) := by obtain ⟨i, w, t⟩ := q; simp only at e1; subst e1; rfl
        have q2 := wouts_v H (K := m + 1) (by omega) o1 c
        have q3 := wsend_v H (K := m) (T := 40) (by omega) (long_ways (h := h) (c := c)) k (fun w' x' c' k' o' hap' he' => wcome_v H 2 m (by omega) w' x' _ c' k' o' hap' (by omega)) (W.out c) x (o1.out c) (o1.cs.out_apart hcW) e2 e3 e4 (by rw [out_evs]; omega)
        simp at q3
        simp [runB_ap, sh_Walk_ring_long, lb_Walk_ring_long_1, q0, q1, q2, q3, hs, hw, ea, i1]
theorem wwait_v {K : Nat} (hK : 20 ≤ K) {w : Wk} (o : WOk h w) (he : w.evs.length + 400 < 2000) :
    CF K "Walk.wait" [mkRef 0] (WS h w) = some ((.none, false), WS h (w.wait h)) := by
  obtain ⟨m, rfl⟩ : ∃ m, K = m + 1 := ⟨K - 1, by omega⟩
  refine (ca_Walk_wait (k := m) [mkRef 0] rfl _).trans ?_
  unfold runS
  rw [if_neg (by simp [noRef_mkRef])]
  have hf := o.fit H
  have h1 := fit6 H o fun c => decide (c.how = .ring)
  have h2 := fit6 H o fun c => decide (c.how = .back)
  have eh : ∀ (c : Call) (x : How), (c.how.str = x.str) = (c.how = x) := fun c x => str_inj c.how x
  have eb := fun c => eh c .back
  have er := fun c => eh c .ring
  simp only [How.str] at eb er
  obtain ⟨i1, i2⟩ := longAll_ok H (w.cs.filter fun c => decide (c.how = .ring)) w o
  have q1 := wend_v H (K := m) (by omega) (w.cs.filter fun c => decide (c.how = .back)) i1 (by omega)
  have key := for_walk (s := ⟨(w.cs.filter fun c => decide (c.how = .ring)).map Call.d, [(Op.v (.list ((w.cs.filter fun c => decide (c.how = .ring)).map Call.d)), .list ((w.cs.filter fun c => decide (c.how = .ring)).map Call.d))]⟩) (asgn := asg false [2]) (body := blkS (lb_Walk_wait_1 (CF m))) h Call.d (Wk.longAll h) (fun c w => if c ∈ w.cs then w.ringLong h c else w)
    (fun r w => WOk h w ∧ w.evs.length + 50 * r.length + 60 < 2000) (fun env => ∃ x, env = [fz (mkRef 0), fz (.list ((w.cs.filter fun c => decide (c.how = .back)).map Call.d)), x]) (fun _ => rfl) (fun _ _ _ => rfl) (fun env st _ => by simp)
    (fun c r w' env p e => by
      obtain ⟨x, rfl⟩ := e
      obtain ⟨o, he⟩ := p
      rw [List.length_cons] at he
      by_cases hc : c ∈ w'.cs
      · rw [if_pos hc]
        obtain ⟨j1, j2⟩ := ringLong_ok H o hc
        have q2 := wringlong_v H (K := m) (by omega) o (by omega) hc
        exact ⟨⟨j1, by omega⟩, _, rfl, [fz (mkRef 0), fz (.list ((w.cs.filter fun c => decide (c.how = .back)).map Call.d)), fz c.d], ⟨_, rfl⟩, by simp [lb_Walk_wait_1, inC, hc, q2, -inAny_map]⟩
      · rw [if_neg hc]
        exact ⟨⟨o, by omega⟩, _, rfl, [fz (mkRef 0), fz (.list ((w.cs.filter fun c => decide (c.how = .back)).map Call.d)), fz c.d], ⟨_, rfl⟩, by simp [lb_Walk_wait_1, inC, hc, -inAny_map]⟩)
    (w.cs.filter fun c => decide (c.how = .ring)) w [fz (mkRef 0), fz (.list ((w.cs.filter fun c => decide (c.how = .back)).map Call.d)), none] ⟨o, by omega⟩ ⟨_, rfl⟩
  obtain ⟨env', ⟨x, rfl⟩, hl⟩ := key
  simp [runB_ap, sh_Walk_wait, hf, eb, er, hl, q1, Wk.wait]
theorem wturn_v {K : Nat} (hK : 9 ≤ K) {w : Wk} (o : WOk h w) (he : w.evs.length < 2000) :
    CF K "Walk.turn" [mkRef 0] (WS h w) = some ((.none, false), WS h (w.turn h)) := by
  obtain ⟨m, rfl⟩ : ∃ m, K = m + 1 := ⟨K - 1, by omega⟩
  refine (ca_Walk_turn (k := m) [mkRef 0] rfl _).trans ?_
  unfold runS
  rw [if_neg (by simp [noRef_mkRef])]
  have o1 : WOk h ({ w with night := 1 - w.night } : Wk) := ⟨o.cs, o.pw, o.minds, o.tales, by have := o.night; show 1 - w.night = 0 ∨ 1 - w.night = 1; omega, o.lines⟩
  unfold Wk.turn
  rcases o.night with hn | hn
  · have q1 := wtells_v H (K := m) (by omega) o1 he "night" [] 0
    have e1 := WS_night h w 1
    rw [hn] at q1
    simp at q1 e1
    simp [runB_ap, sh_Walk_turn, hn, e1, q1]
  · have q1 := wtells_v H (K := m) (by omega) o1 he "day" [] 0
    have e1 := WS_night h w 0
    rw [hn] at q1
    simp at q1 e1
    simp [runB_ap, sh_Walk_turn, hn, e1, q1]
end

@[simp ↓] theorem xmake_ap (call : CallF) (es : List XF) (env : Env) (st : S) : xmake call es env st = (bnd (argsS es env) fun ds st => (match call (mName "__init__") (mkRef st.length :: ds) (st ++ [.ins wCls []]) with
  | some ((.none, false), st') => some ((mkRef st.length, false), st')
  | _ => none)) st := rfl
theorem winit_v {K : Nat} (hK : 1 ≤ K) (h : House) (sc : Scene) : CF K "Walk.__init__" [mkRef 0, h.d, sc.d] [.ins wCls []] = some ((.none, false), WS h sc.wk) := by
  obtain ⟨m, rfl⟩ : ∃ m, K = m + 1 := ⟨K - 1, by omega⟩
  refine (ca_Walk___init__ (k := m) [mkRef 0, h.d, sc.d] rfl _).trans ?_
  unfold runS
  rw [if_neg (by simp [noRef_mkRef])]
  have e1 : ∀ a, putFD (Str.ofString "house") a [] = [(Str.ofString "house", a)] := fun _ => by kernel_rfl
  have e2 : ∀ a b, putFD (Str.ofString "calls") b [(Str.ofString "house", a)] = [(Str.ofString "house", a), (Str.ofString "calls", b)] := fun _ _ => by kernel_rfl
  have e3 : ∀ a b c, putFD (Str.ofString "night") c [(Str.ofString "house", a), (Str.ofString "calls", b)] = [(Str.ofString "house", a), (Str.ofString "calls", b), (Str.ofString "night", c)] := fun _ _ _ => by kernel_rfl
  have e4 : ∀ a b c d, putFD (Str.ofString "minds") d [(Str.ofString "house", a), (Str.ofString "calls", b), (Str.ofString "night", c)] = [(Str.ofString "house", a), (Str.ofString "calls", b), (Str.ofString "night", c), (Str.ofString "minds", d)] := fun _ _ _ _ => by kernel_rfl
  have e5 : ∀ a b c d e, putFD (Str.ofString "tales") e [(Str.ofString "house", a), (Str.ofString "calls", b), (Str.ofString "night", c), (Str.ofString "minds", d)] = [(Str.ofString "house", a), (Str.ofString "calls", b), (Str.ofString "night", c), (Str.ofString "minds", d), (Str.ofString "tales", e)] := fun _ _ _ _ _ => by kernel_rfl
  have e6 : ∀ a b c d e g, putFD (Str.ofString "events") g [(Str.ofString "house", a), (Str.ofString "calls", b), (Str.ofString "night", c), (Str.ofString "minds", d), (Str.ofString "tales", e)] = [(Str.ofString "house", a), (Str.ofString "calls", b), (Str.ofString "night", c), (Str.ofString "minds", d), (Str.ofString "tales", e), (Str.ofString "events", g)] := fun _ _ _ _ _ _ => by kernel_rfl
  simp [runB_ap, sh_Walk___init__, Scene.d, e1, e2, e3, e4, e5, e6]
  rfl
section
variable {h : House} (H : HOk h)
include H
theorem wsettle_v {K : Nat} (hK : 10 ≤ K) {w : Wk} (o : WOk h w) {used : List Int} (hu : ∀ l ∈ used, 0 ≤ l ∧ l < h.n) (hul : used.length ≤ 4) (he : w.evs.length + 100 < 2000) :
    CF K "Walk.settle" [mkRef 0, .list (used.map .int)] (WS h w) = some ((.none, false), WS h (w.settle h used)) := by
  obtain ⟨m, rfl⟩ : ∃ m, K = m + 10 := ⟨K - 10, by omega⟩
  refine (ca_Walk_settle (k := m + 9) [mkRef 0, .list (used.map .int)] rfl _).trans ?_
  unfold runS
  rw [if_neg (by simp [noRef_mkRef])]
  have hf := o.fit H
  have h1 := fit6 H o fun c => decide (c.how = .show)
  have eh : ∀ (c : Call), (c.how.str = Str.ofString "show") = (c.how = .show) := fun c => str_inj c.how .show
  obtain ⟨i1, i2⟩ := showAll_ok (h := h) (w.cs.filter fun c => decide (c.how = .show)) w o (nd_filter o.cs _) fun c hc => (List.mem_filter.mp hc).1
  have key := for_walk (s := ⟨(w.cs.filter fun c => decide (c.how = .show)).map Call.d, [(Op.v (.list ((w.cs.filter fun c => decide (c.how = .show)).map Call.d)), .list ((w.cs.filter fun c => decide (c.how = .show)).map Call.d))]⟩) (asgn := asg false [2]) (body := blkS (lb_Walk_settle_1 (CF (m + 9)))) h Call.d (Wk.showAll h) (fun c w => w.show1 h c)
    (fun r w => WOk h w ∧ w.evs.length + r.length < 1990 ∧ r.Nodup ∧ ∀ c ∈ r, c ∈ w.cs) (fun env => ∃ x4 x, env = [fz (mkRef 0), fz (.list (used.map .int)), x, none, x4, none, none, none]) (fun _ => rfl) (fun _ _ _ => rfl) (fun env st _ => by simp)
    (fun c r w' env p e => by
      obtain ⟨x4, x, rfl⟩ := e
      obtain ⟨o, he, nd, hm⟩ := p
      rw [List.length_cons] at he
      have hc := hm c List.mem_cons_self
      obtain ⟨n1, n2⟩ := List.nodup_cons.mp nd
      obtain ⟨j1, j2⟩ := show1_ok o hc
      refine ⟨⟨j1, by omega, n2, fun e he => show1_mem (hm e (List.mem_cons_of_mem _ he)) fun x => n1 (x ▸ he)⟩, _, rfl, ?_⟩
      have q1 := talks_of_v (k := m + 7) c.b (o.fit H) (WS h w')
      have q2 := rings_at_v (k := m + 7) c.b (o.fit H) (WS h w')
      unfold Wk.show1
      by_cases ht : talksOf w'.cs c.b = []
      · rw [ht] at q1
        cases hr : ringsAt w'.cs c.b with
        | none =>
          rw [hr] at q2
          simp at q2
          rw [if_pos ⟨by rw [ht]; rfl, rfl⟩]
          have q3 := wputfor_v H (K := m + 9) (by omega) o c .ring
          have q4 := wtells_v H (K := m + 9) (by omega) (o.asC hc .ring) (by rw [asC_evs]; omega) "rings" [c.a, c.b] c.hid
          simp [How.str] at q3 q4
          exact ⟨[fz (mkRef 0), fz (.list (used.map .int)), fz c.d, none, fz (c.as_ .ring).d, none, none, none], ⟨_, _, rfl⟩, by simp [lb_Walk_settle_1, q1, q2, q3, q4]⟩
        | some e =>
          rw [hr] at q2
          simp at q2
          rw [if_neg (by rintro ⟨_, e'⟩; cases e')]
          exact ⟨[fz (mkRef 0), fz (.list (used.map .int)), fz c.d, none, x4, none, none, none], ⟨_, _, rfl⟩, by simp [lb_Walk_settle_1, q1, q2]⟩
      · rw [if_neg (by rintro ⟨e', _⟩; exact ht (List.isEmpty_iff.mp e'))]
        exact ⟨[fz (mkRef 0), fz (.list (used.map .int)), fz c.d, none, x4, none, none, none], ⟨_, _, rfl⟩, by simp [lb_Walk_settle_1, q1, ht]⟩)
    (w.cs.filter fun c => decide (c.how = .show)) w [fz (mkRef 0), fz (.list (used.map .int)), none, none, none, none, none, none] ⟨o, by omega, nd_filter o.cs _, fun c hc => (List.mem_filter.mp hc).1⟩ ⟨_, _, rfl⟩
  obtain ⟨env', ⟨y4, y, rfl⟩, hl⟩ := key
  have key2 := for_walk (s := ⟨used.map PyData.int, [(Op.v (.list (used.map .int)), .list (used.map .int))]⟩) (asgn := asg false [3]) (body := blkS (lb_Walk_settle_3 (CF (m + 9)))) h PyData.int (Wk.freeAll h) (fun l w => if isFree w.cs l = true then w.freed h l else w)
    (fun r w => WOk h w ∧ w.evs.length + 2 * r.length < 1990 ∧ ∀ l ∈ r, 0 ≤ l ∧ l < h.n) (fun env => ∃ x3 x5 x6 x7, env = [fz (mkRef 0), fz (.list (used.map .int)), y, x3, y4, x5, x6, x7]) (fun _ => rfl) (fun _ _ _ => rfl) (fun env st _ => by simp)
    (fun l r w' env p e => by
      obtain ⟨x3, x5, x6, x7, rfl⟩ := e
      obtain ⟨o, he, hr⟩ := p
      rw [List.length_cons] at he
      have q1 : CF (m + 9) "is_free" [callsD w'.cs, .int l] (WS h w') = some ((.bool (isFree w'.cs l), false), WS h w') := is_free_v (k := m + 6) l (o.fit H) _
      by_cases hf : isFree w'.cs l = true
      · rw [hf] at q1
        simp only [hf, if_true]
        obtain ⟨j1, j2⟩ := freed_ok H o (hr l List.mem_cons_self) hf
        refine ⟨⟨j1, by omega, fun l' h' => hr l' (List.mem_cons_of_mem _ h')⟩, _, rfl, ?_⟩
        have o0 : WOk h (w'.tell h (Law.W "frees") [l] 0) := o.tell _ _ _
        have o1 := o0.asked (pFree l)
        have q2 := wtells_v H (K := m + 9) (by omega) o (by omega) "frees" [l] 0
        have q3 : CF (m + 9) "Walk.ask" [mkRef 0, .str "free", .none, .int l, .int 0] (WS h (w'.tell h (Law.W "frees") [l] 0)) = some ((.tuple (((w'.tell h (Law.W "frees") [l] 0).acts h (pFree l)).map toldD), false), WS h ((w'.tell h (Law.W "frees") [l] 0).asked h (pFree l))) := wasks_v H (K := m + 9) (by omega) o0 (pFree l) (by simp [pFree])
        have hw := free_word H (w := w'.tell h (Law.W "frees") [l] 0) (l := l)
        have hlen : ((w'.tell h (Law.W "frees") [l] 0).acts h (pFree l)).length ≤ 1 := acts_one H (pFree l) (by simp [pFree]) (by simp [pFree])
        unfold Wk.freed
        simp at q2
        cases hq : (w'.tell h (Law.W "frees") [l] 0).acts h (pFree l) with
        | nil =>
          rw [hq] at q3
          exact ⟨[fz (mkRef 0), fz (.list (used.map .int)), y, fz (.int l), y4, x5, x6, x7], ⟨_, _, _, _, rfl⟩, by simp [lb_Walk_settle_3, q1, q2, q3, Wk.backed]⟩
        | cons q r' =>
          have hrn : r' = [] := by rw [hq, List.length_cons] at hlen; exact List.length_eq_zero_iff.mp (by omega)
          subst hrn
          rw [hq] at q3
          obtain ⟨v, e1, e2, e3, e4, e5⟩ := hw q (by rw [hq]; exact List.mem_cons_self)
          have e : h.lineOf q.1 = v.me := by unfold House.lineOf; rw [e1]; rfl
          simp only [Wk.backed]
          rw [e]
          have eW : ((w'.tell h (Law.W "frees") [l] 0).asked h (pFree l)).evs.length = w'.evs.length + 1 := by rw [asked_evs, tell_evs]
          have hap : apart ((w'.tell h (Law.W "frees") [l] 0).asked h (pFree l)).cs v.me l := free_apart o.cs e5 hf
          generalize (w'.tell h (Law.W "frees") [l] 0).asked h (pFree l) = W at *
          have cc : CallOk h.n v.me l 0 := ⟨⟨e3, e4⟩, hr l List.mem_cons_self, e2, .inl rfl⟩
          have q4 := wputs_v H (K := m + 9) (by omega) o1 v.me l .back 0
          have q5 := wtells_v H (K := m + 9) (by omega) (o1.put (how := .back) cc hap) (by rw [put_evs]; omega) "backs" [v.me, l] 0
          simp [How.str] at q4 q5
          have ea : ∀ x5 x6 : Option SV, asg true [5, 6] (toldD q) [fz (mkRef 0), fz (.list (used.map .int)), y, fz (.int l), y4, x5, x6, x7] = some [fz (mkRef 0), fz (.list (used.map .int)), y, fz (.int l), y4, fz (.int (q.1 : Int)), fz q.2.d, x7] := fun _ _ => rfl
          have i1 : L2.atI (h.wishes.map Wish.d) (q.1 : Int) = some v.d := by
            obtain ⟨hi, e⟩ := List.getElem?_eq_some_iff.mp e1
            rw [atI_nat (by rw [List.length_map]; exact hi), List.getElem_map, e]
          exact ⟨[fz (mkRef 0), fz (.list (used.map .int)), y, fz (.int l), y4, fz (.int (q.1 : Int)), fz q.2.d, fz (.int v.me)], ⟨_, _, _, _, rfl⟩, by simp [lb_Walk_settle_3, lb_Walk_settle_2, q1, q2, q3, q4, q5, ea, i1]⟩
      · have hf2 : isFree w'.cs l = false := Bool.not_eq_true _ ▸ hf
        rw [hf2] at q1
        simp only [hf2, Bool.false_eq_true, if_false]
        exact ⟨⟨o, by omega, fun l' h' => hr l' (List.mem_cons_of_mem _ h')⟩, _, rfl, [fz (mkRef 0), fz (.list (used.map .int)), y, fz (.int l), y4, x5, x6, x7], ⟨_, _, _, _, rfl⟩, by simp [lb_Walk_settle_3, q1]⟩)
    used (w.showAll h (w.cs.filter fun c => decide (c.how = .show))) [fz (mkRef 0), fz (.list (used.map .int)), y, none, y4, none, none, none] ⟨i1, by omega, hu⟩ ⟨_, _, _, _, rfl⟩
  obtain ⟨env'', ⟨z3, z5, z6, z7, rfl⟩, hl2⟩ := key2
  simp [runB_ap, sh_Walk_settle, hf, eh, hl, hl2, Wk.settle]
end

@[simp] theorem dd_noRef (x : Dd) : noRef x.d = true := by simp [Dd.d]
@[simp] theorem dd_ref (x : Dd) : refOf? x.d = none := rfl
@[simp] theorem dd_0 (x : Dd) : item x.d (.int 0) = some x.word.d := by cases x <;> rfl
theorem dd_tail (x : Dd) : slice x.d (some 1) none = some (.tuple (x.lines.map PyData.int), false) := by cases x <;> first | rfl | kernel_rfl
@[simp] theorem okw_dial : PyData.strOk (Str.ofString "dial") = true := by decide +kernel
@[simp] theorem okw_take : PyData.strOk (Str.ofString "take") = true := by decide +kernel
@[simp] theorem okw_drop : PyData.strOk (Str.ofString "drop") = true := by decide +kernel
@[simp] theorem okw_flash : PyData.strOk (Str.ofString "flash") = true := by decide +kernel
@[simp] theorem okw_wait : PyData.strOk (Str.ofString "wait") = true := by decide +kernel
@[simp] theorem okw_turn : PyData.strOk (Str.ofString "turn") = true := by decide +kernel
/-- what stepped gives -/
def Wk.res (w : Wk) : D := .tuple [w.sc.d, .tuple (w.evs.map TEvent.d)]
section
variable {h : House} (H : HOk h)
include H
theorem wdo_v {K : Nat} (hK : 23 ≤ K) {w : Wk} (o : WOk h w) (he : w.evs.length + 400 < 2000) (x : Dd) (hx : x.ok h.n) :
    CF K "Walk.do" [mkRef 0, x.d] (WS h w) = some ((.none, false), WS h (w.doIt h x)) := by
  obtain ⟨m, rfl⟩ : ∃ m, K = m + 1 := ⟨K - 1, by omega⟩
  refine (ca_Walk_do (k := m) [mkRef 0, x.d] rfl _).trans ?_
  unfold runS
  rw [if_neg (by simp [noRef_mkRef])]
  cases x with
  | dial a b =>
    have q := wdial_v H (K := m) (by omega) o (by omega) ⟨hx.1, hx.2.1⟩ ⟨hx.2.2.1, hx.2.2.2.1⟩ hx.2.2.2.2
    have i1 : item (Dd.d (.dial a b)) (.int 1) = some (.int a) := rfl
    have i2 : item (Dd.d (.dial a b)) (.int 2) = some (.int b) := rfl
    simp [runB_ap, sh_Walk_do, Dd.word, Wk.doIt, q, i1, i2]
  | take l =>
    have q := wtake_v H (K := m) (by omega) o (by omega) l
    have i1 : item (Dd.d (.take l)) (.int 1) = some (.int l) := rfl
    simp [runB_ap, sh_Walk_do, Dd.word, Wk.doIt, q, i1]
  | drop l =>
    have q := wdrop_v H (K := m) (by omega) o (by omega) l
    have i1 : item (Dd.d (.drop l)) (.int 1) = some (.int l) := rfl
    simp [runB_ap, sh_Walk_do, Dd.word, Wk.doIt, q, i1]
  | flash l =>
    have q := wflash_v H (K := m) (by omega) o (by omega) l
    have i1 : item (Dd.d (.flash l)) (.int 1) = some (.int l) := rfl
    simp [runB_ap, sh_Walk_do, Dd.word, Wk.doIt, q, i1]
  | wait =>
    have q := wwait_v H (K := m) (by omega) o (by omega)
    simp [runB_ap, sh_Walk_do, Dd.word, Wk.doIt, q]
  | turn =>
    have q := wturn_v H (K := m) (by omega) o (by omega)
    simp [runB_ap, sh_Walk_do, Dd.word, Wk.doIt, q]
theorem stepped_v {K : Nat} (hK : 24 ≤ K) {sc : Scene} (s : ScOk h sc) (x : Dd) (hx : x.ok h.n) (st : S) :
    CF K "stepped" [h.d, sc.d, x.d] st = some (((stepW h sc x).res, false), st) := by
  obtain ⟨m, rfl⟩ : ∃ m, K = m + 8 + 1 := ⟨K - 9, by omega⟩
  refine (ca_stepped (k := m + 8) [h.d, sc.d, x.d] rfl st).trans (runS_iso (by simp) (st1 := WS h (stepW h sc x)) ?_ (by simp [Wk.res, Wk.sc]) st)
  have o0 : WOk h sc.wk := s.wk
  have e0 : sc.wk.evs.length = 0 := rfl
  have o1 : WOk h (sc.wk.tell h x.word x.lines 0) := o0.tell _ _ _
  obtain ⟨i1, i2⟩ := doIt_ok H o1 x hx
  obtain ⟨u1, u2⟩ := used_ok H sc
  obtain ⟨j1, j2⟩ := settle_ok H i1 u1
  rw [tell_evs] at i2
  have hsl : (stepW h sc x).evs.length ≤ 400 := (step_ok H s x hx).2
  have h1 := winit_v (K := m + 8) (by omega) h sc
  have h2 : CF (m + 8) "Walk.tell" [mkRef 0, x.word.d, .tuple (x.lines.map .int), .int 0] (WS h sc.wk) = some ((.none, false), WS h (sc.wk.tell h x.word x.lines 0)) := wtell_v H o0 (lt_line (by omega)) x.word x.lines 0
  have h3 := wdo_v H (K := m + 8) (by omega) o1 (by rw [tell_evs]; omega) x hx
  have h4 := wsettle_v H (K := m + 8) (by omega) i1 u1 u2 (by omega)
  have h5 := wtells_v H (K := m + 8) (by omega) j1 (by omega) "done" [] 0
  have h6 : CF (m + 8) "Walk.scene" [mkRef 0] (WS h (stepW h sc x)) = some (((stepW h sc x).sc.d, false), WS h (stepW h sc x)) := wscene_v H (k := m + 7)
  have e1 : ((((sc.wk.tell h x.word x.lines 0).doIt h x).settle h (usedIn h sc)).tell h (Law.W "done") [] 0) = stepW h sc x := rfl
  rw [e1] at h5
  have hm : mName (Str.ofString "__init__") = Str.ofString "Walk.__init__" := by kernel_rfl
  have hn0 := H.n0
  have hn4 := H.n4
  have hfree : ∀ (l : Int), CF (m + 8) "is_free" [callsD sc.cs, .int l] (WS h sc.wk) = some ((.bool (isFree sc.cs l), false), WS h sc.wk) := fun l => is_free_v (k := m + 5) l (o0.fit H) _
  have hu : ∀ x4 x5 : Option SV, xlc [5] false [5] (rr1 (xit (ov 0) (ox (xc (.int (0)))))) (tnot (tv (ox (xcall (CF (m + 8)) "is_free" [xit (ov 1) (ox (xc (.int (0)))), xv 5])))) (xv 5) [fz h.d, fz sc.d, fz x.d, fz (mkRef 0), x4, x5] (WS h sc.wk) = some ((.list ((usedIn h sc).map .int), true), WS h sc.wk) := by
    intro x4 x5
    have h7 : h.n = 2 ∨ h.n = 3 ∨ h.n = 4 := by omega
    have hsm : small h.n = true := by rcases h7 with e | e | e <;> rw [e] <;> decide
    have hs0 : item sc.d (.int 0) = some (callsD sc.cs) := rfl
    have hr : ∀ env', env' = [fz h.d, fz sc.d, fz x.d, fz (mkRef 0), x4, x5] → rr1 (xit (ov 0) (ox (xc (.int 0)))) env' (WS h sc.wk) = some (⟨((List.range h.n.toNat).map fun (i : Nat) => (i : Int)).map PyData.int, []⟩, WS h sc.wk) := by
      rintro _ rfl
      rw [rr1_ap]
      simp [hsm]
    have hl : fitL ((List.range h.n.toNat).map fun (i : Nat) => (i : Int)) := by unfold fitL line; rw [List.length_map, List.length_range]; omega
    have hr := hr _ rfl
    unfold usedIn
    generalize (List.range h.n.toNat).map (fun (i : Nat) => (i : Int)) = us at hr hl ⊢
    simp [hfree, hs0, hr, hl, -rr1_ap]
    done
  have hfe : fitL (stepW h sc x).evs := by unfold fitL line; omega
  simp at h5
  simp [runB_ap, sh_stepped, hm, h1, h2, h3, h4, h5, h6, hu, dd_tail, Wk.res, viewRef, hfe, -xlc_ap]
  done
end

structure WishG (n : Int) (w : Wish) : Prop where
  me : 0 ≤ w.me ∧ w.me < n
  len : w.rules.length ≤ 6
  tlen : w.tale.length ≤ 6
  rules : ∀ r ∈ w.rules, RuleOk n w.me r
  tale : ∀ r ∈ w.tale, TRuleOk n r
theorem WishG.tfit {n : Int} {w : Wish} (h : WishG n w) : w.tfit := ⟨by have := h.tlen; unfold fitL line; omega, fun r hr => (h.tale r hr).fit⟩
theorem house1_v {m : Nat} {s0 : MO} {tl : S} {k : Nat} {st : S} (r : Rg s0 tl k st) (hk : k < 700000) {n : Int} (hn0 : 2 ≤ n) (hn : n ≤ 4) {c : Int} (hc0 : 0 ≤ c) (hc : c ≤ 6) {ws : List Wish} (hl : ws.length < 100) {x2 x5 x6 x7 x8 x9 x10 : Option SV} :
    ∃ w x6' x7' x8' x9' st', blkS (lb_law_house_1 (CF (m + 4))) [fz (mkRef 1), fz (.int n), x2, fz (.int c), ow (.list (ws.map Wish.d)), x5, x6, x7, x8, x9, x10] st = some (.next [fz (mkRef 1), fz (.int n), x2, fz (.int c), ow (.list ((ws ++ [w]).map Wish.d)), x5, x6', x7', x8', x9', x10], st') ∧ WishG n w ∧ Rg s0 tl (k + 400) st' := by
  obtain ⟨me, st1, e1, a1, b1, r1⟩ := take_v (j := m + 3) r (by omega) (m := n) (by omega) (by omega)
  obtain ⟨d2, st2, e2, a2, b2, r2⟩ := take_v (j := m + 3) r1 (by omega) (m := 3) (by omega) (by omega)
  obtain ⟨d3, st3, e3, a3, b3, r3⟩ := take_v (j := m + 3) r2 (by omega) (m := c + 1) (by omega) (by omega)
  have hs3 : small d3 = true := by simp [small]; omega
  obtain ⟨rs, st4, e4, h4, h4', r4⟩ := xlc_drawn (vs := [10]) (tp := false) (js := [10]) (src := rr1 (xcall (CF (m + 4)) "_law_take" [xv 0, xbin .Add (ov 3) (ox (xc (.int (1))))])) (elt := xcall (CF (m + 4)) "_law_rule" [xv 0, xv 1, xv 8, xv 9])
    (env := [fz (mkRef 1), fz (.int n), x2, fz (.int c), ow (.list (ws.map Wish.d)), x5, x6, x7, fz (.int me), fz (.int (1 + d2)), x10]) (st0 := st2) (st := st3) (s0 := s0) (tl := tl) (k := k + 3) (enc := fun i : Nat => PyData.int (i : Int)) (deps := []) (List.range d3.toNat) Rule.d (RuleOk n me) 15 790000
    (by simp [e3, hs3]) (fun st => rfl) (by apply fit_range; unfold line; omega)
    (fun a ha k st r hk => by
      refine ⟨_, rfl, ?_⟩
      obtain ⟨q, st', e, h, r'⟩ := law_rule_v (m := m + 1) r (by omega) hn0 hn a1 b1 (c := 1 + d2) (by omega) (by omega)
      exact ⟨q, false, st', by simp [e], h, r'⟩)
    r3 (by rw [List.length_range]; omega) (by omega)
  rw [List.length_range] at h4 r4
  obtain ⟨d5, st5, e5, a5, b5, r5⟩ := take_v (j := m + 3) r4 (by omega) (m := c + 1) (by omega) (by omega)
  have hs5 : small d5 = true := by simp [small]; omega
  obtain ⟨ts, st6, e6, h6, h6', r6⟩ := xlc_drawn (vs := [10]) (tp := false) (js := [10]) (src := rr1 (xcall (CF (m + 4)) "_law_take" [xv 0, xbin .Add (ov 3) (ox (xc (.int (1))))])) (elt := xcall (CF (m + 4)) "_law_tale_rule" [xv 0, xv 1, xv 9])
    (env := [fz (mkRef 1), fz (.int n), x2, fz (.int c), ow (.list (ws.map Wish.d)), x5, fz (.list (rs.map Rule.d)), x7, fz (.int me), fz (.int (1 + d2)), x10]) (st0 := st4) (st := st5) (s0 := s0) (tl := tl) (k := k + 3 + 15 * d3.toNat + 1) (enc := fun i : Nat => PyData.int (i : Int)) (deps := []) (List.range d5.toNat) TRule.d (TRuleOk n) 32 790000
    (by simp [e5, hs5]) (fun st => rfl) (by apply fit_range; unfold line; omega)
    (fun a ha k st r hk => by
      refine ⟨_, rfl, ?_⟩
      obtain ⟨q, st', e, h, r'⟩ := law_tale_rule_v (m := m + 1) r (by omega) (by omega) hn (c := 1 + d2) (by omega) (by omega)
      exact ⟨q, false, st', by simp [e], h, r'⟩)
    r5 (by rw [List.length_range]; omega) (by omega)
  rw [List.length_range] at h6 r6
  have hll : ws.length < line := by unfold line; omega
  have hfr : fitL rs := by unfold fitL line; omega
  have hft : fitL ts := by unfold fitL line; omega
  refine ⟨⟨me, rs, ts⟩, fz (.list (rs.map Rule.d)), fz (.list (ts.map TRule.d)), fz (.int me), fz (.int (1 + d2)), st6, ?_, ⟨⟨a1, b1⟩, by simp only; omega, by simp only; omega, h4', h6'⟩, r6.mono (by omega)⟩
  simp [lb_law_house_1, e1, e2, e4, e6, hll, hfr, hft, Wish.d, -xlc_ap]
theorem law_deeds_v {k : Nat} {n : Int} (hn0 : 2 ≤ n) (hn : n ≤ 4) (st : S) : CF (k + 1) "_law_deeds" [.int n] st = some ((.list ((allDd n).map Dd.d), true), st) := by
  have h : n = 2 ∨ n = 3 ∨ n = 4 := by omega
  rcases h with rfl | rfl | rfl
  · exact iso (st0 := []) (st1 := []) rfl (by rw [ca_law_deeds [.int 2] rfl]; kernel_rfl) st
  · exact iso (st0 := []) (st1 := []) rfl (by rw [ca_law_deeds [.int 3] rfl]; kernel_rfl) st
  · exact iso (st0 := []) (st1 := []) rfl (by rw [ca_law_deeds [.int 4] rfl]; kernel_rfl) st
theorem law_house_v {m : Nat} {s0 : MO} {tl : S} {k : Nat} {st : S} (r : Rg s0 tl k st) (hk : k < 600000) {n : Int} (hn0 : 2 ≤ n) (hn : n ≤ 4) {c : Int} (hc0 : 0 ≤ c) (hc : c ≤ 6) {cm : Int} (hm0 : 0 ≤ cm) (hm : cm ≤ 6) :
    ∃ ws st', CF (m + 5) "_law_house" [mkRef 1, .int n, .int cm, .int c] st = some ((House.d ⟨n, ws, (allDd n).map Dd.deed⟩, false), st') ∧ (ws.length : Int) = cm ∧ (∀ w ∈ ws, WishG n w) ∧ Rg s0 tl (k + 2400) st' := by
  obtain ⟨env', st', h1, ws, x5, x6, x7, x8, x9, rfl, h2, h3, h4⟩ := for_range (its := (List.range cm.toNat).map fun (i : Nat) => PyData.int (i : Int)) (asgn := asg false [5]) (body := blkS (lb_law_house_1 (CF (m + 4)))) (n := cm.toNat)
    (fun i env st => ∃ (ws : List Wish) (x5 x6 x7 x8 x9 : Option SV), env = [fz (mkRef 1), fz (.int n), fz (.int cm), fz (.int c), ow (.list (ws.map Wish.d)), x5, x6, x7, x8, x9, none] ∧ ws.length = i ∧ (∀ w ∈ ws, WishG n w) ∧ Rg s0 tl (k + 400 * i) st)
    (fun i hi env st h => by
      obtain ⟨ws, x5, x6, x7, x8, x9, rfl, h2, h3, h4⟩ := h
      refine ⟨_, rfl, ?_⟩
      obtain ⟨w, x6', x7', x8', x9', st', g1, g2, g3⟩ := house1_v (m := m) h4 (by omega) hn0 hn hc0 hc (ws := ws) (by omega) (x2 := fz (.int cm)) (x5 := fz (.int (i : Int))) (x6 := x6) (x7 := x7) (x8 := x8) (x9 := x9) (x10 := none)
      refine ⟨_, _, st', g1, .inl rfl, ws ++ [w], _, x6', x7', x8', x9', rfl, by rw [List.length_append]; simp; omega, ?_, g3.mono (by omega)⟩
      intro w' hw'
      rcases List.mem_append.mp hw' with hw' | hw'
      · exact h3 w' hw'
      · rw [List.mem_singleton.mp hw']; exact g2)
    (env := [fz (mkRef 1), fz (.int n), fz (.int cm), fz (.int c), ow (.list []), none, none, none, none, none, none]) (st := st) ⟨[], none, none, none, none, none, rfl, rfl, (fun _ h => nomatch h), r⟩
  have hs : small cm = true := by simp [small]; omega
  have hfw : fitL ws := by unfold fitL line; omega
  have hfd : fitL (allDd n) := by
    unfold fitL line allDd
    split
    · simp
    · split <;> simp
  refine ⟨ws, st', ?_, by omega, h3, h4.mono (by omega)⟩
  refine (ca_law_house (k := m + 4) [mkRef 1, .int n, .int cm, .int c] rfl st).trans ?_
  unfold runS
  rw [if_neg (by simp [noRef_mkRef])]
  have hd : House.d ⟨n, ws, (allDd n).map Dd.deed⟩ = .tuple [.int n, .tuple (ws.map Wish.d), .tuple ((allDd n).map Dd.d)] := by
    unfold House.d
    rw [List.map_map]
    rfl
  rw [hd]
  have q := law_deeds_v (k := m + 3) hn0 hn st'
  simp [runB_ap, sh_law_house, hs, h1, hfw, hfd, q]
theorem hok_gen {n : Int} {ws : List Wish} {ds : List Deed} (hn0 : 2 ≤ n) (hn : n ≤ 4) (hl : ws.length ≤ 6) (ho : ∀ w ∈ ws, WishG n w) : HOk ⟨n, ws, ds⟩ :=
  ⟨hn0, hn, hl, fun w hw => ⟨(ho w hw).me, by have := (ho w hw).len; omega, (ho w hw).rules, (ho w hw).tfit⟩⟩

/-- no list, no dict; of that depth -/
def tupOk : Nat → D → Bool
  | _, .none => true
  | _, .bool _ => true
  | _, .int _ => true
  | _, .str s => PyData.strOk s
  | m + 1, .tuple xs => decide (xs.length ≤ line) && xs.all (tupOk m)
  | _, _ => false
theorem tupOk_noRef : ∀ (m : Nat) (d : D), tupOk m d = true → noRef d = true
  | _, .none, _ => rfl
  | _, .bool _, _ => rfl
  | _, .int _, _ => rfl
  | _, .str _, _ => rfl
  | 0, .tuple _, h => by simp [tupOk] at h
  | m + 1, .tuple xs, h => by
    simp only [tupOk, Bool.and_eq_true, List.all_eq_true] at h
    simp only [noRef_t, List.all_eq_true]
    exact fun x hx => tupOk_noRef m x (h.2 x hx)
  | 0, .list _, h => by simp [tupOk] at h
  | m + 1, .list _, h => by simp [tupOk] at h
  | 0, .dict _, h => by simp [tupOk] at h
  | m + 1, .dict _, h => by simp [tupOk] at h
@[simp] theorem zipD_self (xs : List D) : zipD xs xs = xs.map fun x => .tuple [x, x] := by
  induction xs with
  | nil => rfl
  | cons x xs ih => simp [zipD] at ih ⊢; exact ih
theorem same_v {k : Nat} : ∀ (m : Nat) (d : D), tupOk m d = true → ∀ st, CF (k + m + 1) "_law_same" [d, d] st = some ((.bool true, false), st) := by
  intro m
  induction m with
  | zero =>
    intro d h st
    have n := tupOk_noRef _ d h
    refine (ca_law_same [d, d] rfl st).trans (runS_iso (by simp [n]) (st1 := []) ?_ (by simp) st)
    cases d <;> simp [tupOk] at h <;> simp [runB_ap, sh_law_same, h]
  | succ m ih =>
    intro d h st
    have n := tupOk_noRef _ d h
    refine (ca_law_same [d, d] rfl st).trans (runS_iso (by simp [n]) (st1 := []) ?_ (by simp) st)
    cases d with
    | tuple xs =>
      simp only [tupOk, Bool.and_eq_true, List.all_eq_true, decide_eq_true_eq] at h
      have hf := fit_of h.1
      obtain ⟨ys, rfl⟩ := lift_sub h.2
      have ih2 : ∀ y : Such fun x => tupOk m x = true, CF (k + m + 1) "_law_same" [y.val, y.val] [] = some ((.bool true, false), []) := fun y => ih y.val y.ok []
      have hf2 : fitL ys := by simpa using hf
      simp [runB_ap, sh_law_same, hf2, noref_of, ← Nat.add_assoc, ih2]
    | _ => simp [tupOk] at h <;> simp [runB_ap, sh_law_same, h]

/-! the begun scene; a step -/
def evsD (es : List TEvent) : D := .tuple (es.map TEvent.d)
def begunS (h : House) : Scene := ⟨[], 0, List.replicate h.wishes.length 0, List.replicate h.wishes.length (some 0)⟩
theorem begun_ok (h : House) : ScOk h (begunS h) := ⟨⟨by simp [begunS], by simp [begunS]⟩, by simp [begunS], by simp [begunS], by simp [begunS], .inl rfl⟩
theorem ScOk.next {h : House} (H : HOk h) {sc : Scene} (s : ScOk h sc) {x : Dd} (hx : x.ok h.n) : ScOk h (stepW h sc x).sc := by
  have o := (step_ok H s x hx).1
  exact ⟨o.cs, o.pw, o.minds, o.tales, o.night⟩
theorem begun_v {K : Nat} (hK : 1 ≤ K) (h : House) (hm : h.wishes.length ≤ 6) (st : S) : CF K "begun" [h.d] st = some (((begunS h).d, false), st) := by
  obtain ⟨k, rfl⟩ := Nat.exists_eq_add_of_le' hK
  refine (ca_begun (k := k) [h.d] rfl st).trans (runS_iso (by simp) (st1 := []) ?_ (by simp) st)
  have h1 : -1000 ≤ ((h.wishes.length : Int)) ∧ ((h.wishes.length : Int)) ≤ 1000 := by omega
  simp [runB_ap, sh_begun, h1.1, h1.2, begunS, Scene.d]
  done

/-! a row of deeds -/
def Wk.end_ (w : Wk) : Scene := w.sc
def rowFrom (h : House) : List Dd → Scene → List (List TEvent) → Scene × List (List TEvent)
  | [], sc, told => (sc, told)
  | x :: r, sc, told => rowFrom h r (stepW h sc x).sc (told ++ [(stepW h sc x).evs])
theorem rowFrom_snoc (h : House) (x : Dd) : ∀ (r : List Dd) (sc : Scene) (told : List (List TEvent)), rowFrom h (r ++ [x]) sc told = ((stepW h (rowFrom h r sc told).1 x).sc, (rowFrom h r sc told).2 ++ [(stepW h (rowFrom h r sc told).1 x).evs])
  | [], _, _ => rfl
  | y :: r, sc, told => rowFrom_snoc h x r _ _
section
variable {h : House} (H : HOk h)
include H
theorem ran1_v {K : Nat} (hK : 24 ≤ K) {sc : Scene} (s : ScOk h sc) {x : Dd} (hx : x.ok h.n) {told : List (List TEvent)} (ht : told.length < 1000) {x1 x5 : Option SV} (st : S) :
    blkS (lb_ran_1 (CF K)) [fz h.d, x1, fz sc.d, ow (.list (told.map evsD)), fz x.d, x5] st = some (.next [fz h.d, x1, fz (stepW h sc x).sc.d, ow (.list ((told ++ [(stepW h sc x).evs]).map evsD)), fz x.d, fz (evsD (stepW h sc x).evs)], st) := by
  have q := stepped_v H hK s x hx st
  have e : (stepW h sc x).res = .tuple [(stepW h sc x).sc.d, evsD (stepW h sc x).evs] := rfl
  rw [e] at q
  have hl : told.length < line := by unfold line; omega
  have ea : ∀ x5 : Option SV, asg true [2, 5] (.tuple [(stepW h sc x).sc.d, evsD (stepW h sc x).evs]) [fz h.d, x1, fz sc.d, ow (.list (told.map evsD)), fz x.d, x5] = some [fz h.d, x1, fz (stepW h sc x).sc.d, ow (.list (told.map evsD)), fz x.d, fz (evsD (stepW h sc x).evs)] := fun _ => rfl
  simp [lb_ran_1, q, hl]
  done
end

theorem cut_from {α : Type} (xs : List α) (n : Nat) : cut xs (some (n : Int)) none = xs.drop n := by
  unfold cut
  have e : HT.sIx xs.length 0 (some (n : Int)) = min n xs.length := by
    unfold HT.sIx
    simp
    try omega
  have e2 : HT.sIx xs.length xs.length none = xs.length := rfl
  rw [e, e2]
  by_cases h : n ≤ xs.length
  · rw [Nat.min_eq_left h]
    exact List.take_of_length_le (by rw [List.length_drop]; omega)
  · rw [Nat.min_eq_right (by omega), List.drop_eq_nil_of_le (by omega : xs.length ≤ n)]
    simp
theorem cut_to {α : Type} (xs : List α) (n : Nat) : cut xs none (some (n : Int)) = xs.take n := by
  unfold cut
  have e : HT.sIx xs.length xs.length (some (n : Int)) = min n xs.length := by
    unfold HT.sIx
    simp
    try omega
  have e2 : HT.sIx xs.length 0 none = 0 := rfl
  rw [e, e2]
  simp

section
variable {h : House} (H : HOk h)
include H
theorem ran_v {K : Nat} (hK : 25 ≤ K) {xs : List Dd} (hx : ∀ x ∈ xs, x.ok h.n) (hl : xs.length < 1000) (st : S) :
    CF K "ran" [h.d, .tuple (xs.map Dd.d)] st = some ((.tuple [(rowFrom h xs (begunS h) []).1.d, .tuple ((rowFrom h xs (begunS h) []).2.map evsD)], false), st) := by
  obtain ⟨k, rfl⟩ := Nat.exists_eq_add_of_le' hK
  refine (ca_ran (k := k + 24) [h.d, .tuple (xs.map Dd.d)] rfl st).trans (runS_iso (by simp) (st1 := []) ?_ (by simp [evsD]) st)
  have q0 := begun_v (K := k + 24) (by omega) h H.many []
  obtain ⟨env', st', h1, sc, told, x4, x5, rfl, rfl, s, _, h2, h3⟩ := for_list (s := ⟨xs.map Dd.d, [(Op.v (.tuple (xs.map Dd.d)), .tuple (xs.map Dd.d))]⟩) (asgn := asg false [4]) (body := blkS (lb_ran_1 (CF (k + 24)))) Dd.d
    (fun r env st => ∃ (sc : Scene) (told : List (List TEvent)) (x4 x5 : Option SV), env = [fz h.d, fz (.tuple (xs.map Dd.d)), fz sc.d, ow (.list (told.map evsD)), x4, x5] ∧ st = [] ∧ ScOk h sc ∧ (∀ x ∈ r, x.ok h.n) ∧ rowFrom h r sc told = rowFrom h xs (begunS h) [] ∧ told.length + r.length < 1000)
    (fun x r env st hh => by
      obtain ⟨sc, told, x4, x5, rfl, rfl, s, hr, h2, h3⟩ := hh
      have hxo := hr x List.mem_cons_self
      rw [List.length_cons] at h3
      have g := ran1_v H (K := k + 24) (by omega) s hxo (told := told) (by omega) (x1 := fz (.tuple (xs.map Dd.d))) (x5 := x5) []
      exact ⟨by simp, _, rfl, _, _, _, g, .inl rfl, _, _, _, _, rfl, rfl, s.next H hxo, fun y hy => hr y (List.mem_cons_of_mem _ hy), h2, by rw [List.length_append]; simp; omega⟩)
    (fun env st hh => by obtain ⟨sc, told, x4, x5, rfl, rfl, _⟩ := hh; simp) xs (env := [fz h.d, fz (.tuple (xs.map Dd.d)), fz (begunS h).d, ow (.list []), none, none]) (st := []) ⟨begunS h, [], none, none, rfl, rfl, begun_ok h, hx, rfl, by simpa using hl⟩
  have h2 : (sc, told) = rowFrom h xs (begunS h) [] := h2
  rw [← h2]
  have hft : fitL told := by simp only [List.length_nil] at h3; unfold fitL line; omega
  simp [runB_ap, sh_ran, q0, h1, hft]
  done
end
theorem row_ok {h : House} (H : HOk h) : ∀ (xs : List Dd) (sc : Scene) (told : List (List TEvent)), (∀ x ∈ xs, x.ok h.n) → ScOk h sc → (∀ es ∈ told, es.length ≤ 400 ∧ ∀ e ∈ es, e.lines.length ≤ 4) →
    ScOk h (rowFrom h xs sc told).1 ∧ (∀ es ∈ (rowFrom h xs sc told).2, es.length ≤ 400 ∧ ∀ e ∈ es, e.lines.length ≤ 4) ∧ (rowFrom h xs sc told).2.length = told.length + xs.length
  | [], sc, told, _, s, ht => ⟨s, ht, rfl⟩
  | x :: r, sc, told, hx, s, ht => by
    obtain ⟨o, he⟩ := step_ok H s x (hx x List.mem_cons_self)
    obtain ⟨g1, g2, g3⟩ := row_ok H r (stepW h sc x).sc (told ++ [(stepW h sc x).evs]) (fun y hy => hx y (List.mem_cons_of_mem _ hy)) (s.next H (hx x List.mem_cons_self)) (fun es hes => by
      rcases List.mem_append.mp hes with hes | hes
      · exact ht es hes
      · rw [List.mem_singleton.mp hes]; exact ⟨he, o.lines⟩)
    exact ⟨g1, g2, by show (rowFrom h r _ _).2.length = _; rw [g3, List.length_append, List.length_cons]; simp; omega⟩
theorem row_tup {h : House} (H : HOk h) {sc : Scene} (s : ScOk h sc) {told : List (List TEvent)} (ht : ∀ es ∈ told, es.length ≤ 400 ∧ ∀ e ∈ es, e.lines.length ≤ 4) (hl : told.length < 1000) : tupOk 5 (.tuple [sc.d, .tuple (told.map evsD)]) = true := by
  have h6 := s.cs.six H.n4
  have hm := H.many
  have e1 : sc.cs.length ≤ line := by unfold line; omega
  have e2 : sc.minds.length ≤ line := by unfold line; rw [s.minds]; omega
  have e3 : sc.tales.length ≤ line := by unfold line; rw [s.tales]; omega
  have e4 : told.length ≤ line := by unfold line; omega
  have c1 : ∀ c : Call, tupOk 2 c.d = true := fun c => by
    obtain ⟨a, b, how, hid⟩ := c
    have : ∀ how : How, PyData.strOk how.str = true := fun how => by cases how <;> decide +kernel
    simp [tupOk, Call.d, this, line]
  have c2 : ∀ t : Option Int, tupOk 2 (optI t) = true := fun t => by cases t <;> rfl
  have c3 : ∀ es ∈ told, tupOk 3 (evsD es) = true := fun es hes => by
    obtain ⟨g1, g2⟩ := ht es hes
    have h4 : es.length ≤ line := by unfold line; omega
    have h5 : ∀ e ∈ es, tupOk 2 e.d = true := fun e he => by
      have := g2 e he
      have h4 : e.lines.length ≤ line := by unfold line; omega
      unfold line at h4
      simp [tupOk, TEvent.d, line, h4]
    simp [tupOk, evsD, h4]
    exact h5
  have c4 : tupOk 4 sc.d = true := by
    have c2' : ∀ t : Option Int, tupOk 2 (optI t) = true := c2
    simp [tupOk, Scene.d, e1, e2, e3, c1, c2']
  have c5 : tupOk 4 (.tuple (told.map evsD)) = true := by
    simp [tupOk, e4]
    exact c3
  show (decide (([sc.d, .tuple (told.map evsD)] : List D).length ≤ line) && List.all [sc.d, .tuple (told.map evsD)] (tupOk 4)) = true
  rw [List.all_cons, List.all_cons, List.all_nil, c4, c5]
  have : ([sc.d, .tuple (told.map evsD)] : List D).length ≤ line := by unfold line; simp
  rw [decide_eq_true this]
  rfl

/-! a broken tale stays broken -/
def TLe (h : House) (a b : List (Option Int)) : Prop := a.length = h.wishes.length → b.length = h.wishes.length ∧ ∀ i : Nat, a[i]? = some none → b[i]? = some none
theorem TLe.refl (h : House) (a : List (Option Int)) : TLe h a a := fun e => ⟨e, fun _ q => q⟩
theorem TLe.trans {h : House} {a b c : List (Option Int)} (x : TLe h a b) (y : TLe h b c) : TLe h a c := fun e => by
  obtain ⟨e1, f1⟩ := x e
  obtain ⟨e2, f2⟩ := y e1
  exact ⟨e2, fun i q => f2 i (f1 i q)⟩
section
variable (h : House)
theorem told_le (ts : List (Option Int)) (cs : List Call) (night : Int) (e : TEvent) : TLe h ts (toldOn h.wishes ts cs night e) := fun hl => by
  refine ⟨by simp [toldOn, hl], fun i q => ?_⟩
  obtain ⟨hi, e⟩ := List.getElem?_eq_some_iff.mp q
  unfold toldOn
  have hz : i < (h.wishes.zip ts).length := by rw [List.length_zip]; omega
  rw [List.getElem?_map, List.getElem?_eq_getElem hz, List.getElem_zip, e]
  rfl
theorem tell_le (w : Wk) (word : Wd) (ls : List Int) (hid : Int) : TLe h w.tales (w.tell h word ls hid).tales := told_le h _ _ _ _
theorem stay_le (w : Wk) (a b : Int) (how : How) (hid : Int) : TLe h w.tales (w.stay h a b how hid).tales := tell_le h (w.put ⟨a, b, how, hid⟩) _ _ _
theorem busy_le (w : Wk) (a b hid : Int) : TLe h w.tales (w.busy h a b hid).tales := stay_le h w a b .busy hid
theorem acted_le {send : Wk → Int → Wk} (hs : ∀ w x, TLe h w.tales (send w x).tales) (a b hid : Int) : ∀ (t : Told) (w : Wk), TLe h w.tales (Wk.acted h send a b hid t w).1.tales
  | [], w => .refl h _
  | q :: r, w => by
    unfold Wk.acted
    split
    · exact (stay_le h w _ _ _ _).trans (acted_le hs a b hid r _)
    · split
      · exact stay_le h w _ _ _ _
      · split
        · exact hs _ _
        · exact stay_le h w _ _ _ _
theorem sent_le {come : Wk → Int → List Int → Wk} (hc : ∀ w x l, TLe h w.tales (come w x l).tales) (a b hid : Int) (ways : List Int) (w : Wk) (x : Int) : TLe h w.tales (Wk.sent h come a b hid ways w x).tales := by
  unfold Wk.sent
  split
  · exact (tell_le h w _ _ _).trans (busy_le h _ _ _ _)
  · exact (tell_le h w _ _ _).trans (hc _ _ _)
theorem act1_le {send : Wk → Int → Wk} (hs : ∀ w x, TLe h w.tales (send w x).tales) (a b hid : Int) (w : Wk) : TLe h w.tales (w.act1 h send a b hid).1.tales := by
  unfold Wk.act1
  exact (tell_le h w _ _ _).trans (acted_le h hs a b hid _ ((w.tell h (W "comes") [a, b] hid).asked h (pIn a b hid)))
theorem act2_le {send : Wk → Int → Wk} (hs : ∀ w x, TLe h w.tales (send w x).tales) (a b hid : Int) (w : Wk) : TLe h w.tales (w.act2 h send a b hid).1.tales := acted_le h hs a b hid _ (w.asked h (pFull a b hid))
theorem came_le {send : Wk → Int → Wk} (hs : ∀ w x, TLe h w.tales (send w x).tales) (a b hid : Int) (w : Wk) : TLe h w.tales (w.came h send a b hid).tales := by
  unfold Wk.came
  split
  · exact act1_le h hs a b hid w
  · split
    · exact (act1_le h hs a b hid w).trans (stay_le h _ _ _ _ _)
    · split
      · exact (act1_le h hs a b hid w).trans (act2_le h hs a b hid _)
      · exact ((act1_le h hs a b hid w).trans (act2_le h hs a b hid _)).trans (busy_le h _ _ _ _)
theorem come_le (a hid : Int) : ∀ (f : Nat) (w : Wk) (b : Int) (ways : List Int), TLe h w.tales (Wk.come h a hid f w b ways).tales
  | 0, w, _, _ => .refl h _
  | f + 1, w, b, ways => came_le h (fun w x => sent_le h (come_le a hid f) a b hid ways w x) a b hid w
theorem goOut_le (w : Wk) (a b : Int) : TLe h w.tales (w.goOut h a b).tales := by
  unfold Wk.goOut
  split
  · exact stay_le h (w.asked h (pOut a b)) _ _ _ _
  · exact come_le h _ _ _ (w.asked h (pOut a b)) _ _
theorem ends_le : ∀ (cs : List Call) (w : Wk), TLe h w.tales (w.ends h cs).tales
  | [], w => .refl h _
  | c :: r, w => (tell_le h (w.out c) _ _ _).trans (ends_le r _)
theorem talks_le (w : Wk) (c : Call) : TLe h w.tales (w.talks h c).tales := tell_le h (w.asC c .talk) _ _ _
theorem talkOn_le (w : Wk) (c : Call) : TLe h w.tales (w.talkOn h c).tales := (talks_le h w c).trans (ends_le h _ _)
theorem wtake_le (w : Wk) (l : Int) : TLe h w.tales (w.take h l).tales := by
  unfold Wk.take
  split
  · exact .refl h _
  · split
    · exact .refl h _
    · split
      · exact goOut_le h (w.out _) _ _
      · exact talkOn_le h w _
theorem hold1_le (l : Int) (w : Wk) (c : Call) : TLe h w.tales (w.hold1 h l c).tales := tell_le h (w.asC c (heldAs c l)) _ _ _
theorem holdAll_le (l : Int) : ∀ (cs : List Call) (w : Wk), TLe h w.tales (w.holdAll h l cs).tales
  | [], w => .refl h _
  | c :: r, w => (hold1_le h l w c).trans (holdAll_le l r _)
theorem hold_le (w : Wk) (l : Int) : TLe h w.tales (w.hold h l).tales := holdAll_le h l _ w
theorem dropW_le (w : Wk) (l : Int) : TLe h w.tales (w.dropW h l).tales := by
  unfold Wk.dropW
  split
  · exact hold_le h (w.asked h (pDrop l)) l
  · exact .refl h _
theorem wdrop_le (w : Wk) (l : Int) : TLe h w.tales (w.drop h l).tales := (dropW_le h w l).trans (ends_le h _ _)
theorem takeUp_le (w : Wk) (l : Int) (held : List Call) : TLe h w.tales (w.takeUp h l held).tales := by
  unfold Wk.takeUp
  split
  · exact talkOn_le h w _
  · split
    · exact .refl h _
    · exact talks_le h w _
theorem joinAll_le (l : Int) : ∀ (cs : List Call) (w : Wk), TLe h w.tales (w.joinAll h l cs).tales
  | [], w => .refl h _
  | c :: r, w => by
    show TLe h w.tales (Wk.joinAll h l r _).tales
    refine TLe.trans ?_ (joinAll_le l r _)
    split
    · exact talks_le h w c
    · exact .refl h _
theorem flashed_le (w : Wk) (l : Int) : ∀ t : Told, TLe h w.tales (w.flashed h l t).tales
  | [] => .refl h _
  | q :: _ => by
    show TLe h w.tales (if q.2.word.name = "swap" then (w.hold h l).takeUp h l (holdsOf w.cs l) else (w.joinAll h l (holdsOf w.cs l)).tell h (W "joins") [l] 0).tales
    split
    · exact (hold_le h w l).trans (takeUp_le h _ _ _)
    · exact (joinAll_le h l _ w).trans (tell_le h _ _ _ _)
theorem wflash_le (w : Wk) (l : Int) : TLe h w.tales (w.flash h l).tales := flashed_le h (w.asked h (pFlash l)) l _
theorem longed_le (w : Wk) (c : Call) : ∀ t : Told, TLe h w.tales (w.longed h c t).tales
  | [] => .refl h _
  | q :: _ => by
    show TLe h w.tales (if q.2.word.name = "shut" then (w.out c).stay h c.a c.b .shut c.hid else Wk.sent h (Wk.come h c.a c.hid 2) c.a c.b c.hid [] (w.out c) (q.2.to.getD 0)).tales
    split
    · exact stay_le h (w.out c) _ _ _ _
    · exact sent_le h (come_le h _ _ 2) _ _ _ _ (w.out c) _
theorem ringLong_le (w : Wk) (c : Call) : TLe h w.tales (w.ringLong h c).tales := (tell_le h w _ _ _).trans (longed_le h ((w.waits h c).asked h (pLong c)) c _)
theorem longAll_le : ∀ (cs : List Call) (w : Wk), TLe h w.tales (w.longAll h cs).tales
  | [], w => .refl h _
  | c :: r, w => by
    show TLe h w.tales (Wk.longAll h r _).tales
    refine TLe.trans ?_ (longAll_le r _)
    split
    · exact ringLong_le h w c
    · exact .refl h _
theorem wwait_le (w : Wk) : TLe h w.tales (w.wait h).tales := (longAll_le h _ w).trans (ends_le h _ _)
theorem wturn_le (w : Wk) : TLe h w.tales (w.turn h).tales := tell_le h ({ w with night := 1 - w.night } : Wk) _ _ _
theorem show1_le (w : Wk) (c : Call) : TLe h w.tales (w.show1 h c).tales := by
  unfold Wk.show1
  split
  · exact tell_le h (w.asC c .ring) _ _ _
  · exact .refl h _
theorem showAll_le : ∀ (cs : List Call) (w : Wk), TLe h w.tales (w.showAll h cs).tales
  | [], w => .refl h _
  | c :: r, w => (show1_le h w c).trans (showAll_le r _)
theorem backed_le (l : Int) : ∀ (t : Told) (w : Wk), TLe h w.tales (Wk.backed h l t w).tales
  | [], w => .refl h _
  | q :: _, w => tell_le h (w.put ⟨h.lineOf q.1, l, .back, 0⟩) _ _ _
theorem freed_le (w : Wk) (l : Int) : TLe h w.tales (w.freed h l).tales := (tell_le h w _ _ _).trans (backed_le h l _ ((w.tell h (W "frees") [l] 0).asked h (pFree l)))
theorem freeAll_le : ∀ (ls : List Int) (w : Wk), TLe h w.tales (w.freeAll h ls).tales
  | [], w => .refl h _
  | l :: r, w => by
    show TLe h w.tales (Wk.freeAll h r _).tales
    refine TLe.trans ?_ (freeAll_le r _)
    split
    · exact freed_le h w l
    · exact .refl h _
theorem settle_le (w : Wk) (used : List Int) : TLe h w.tales (w.settle h used).tales := (showAll_le h _ w).trans (freeAll_le h _ _)
theorem wdial_le (w : Wk) (a b : Int) : TLe h w.tales (w.dial h a b).tales := by
  unfold Wk.dial
  split
  · exact goOut_le h w a b
  · exact .refl h _
theorem doIt_le (w : Wk) : ∀ x : Dd, TLe h w.tales (w.doIt h x).tales
  | .dial a b => wdial_le h w a b
  | .take l => wtake_le h w l
  | .drop l => wdrop_le h w l
  | .flash l => wflash_le h w l
  | .wait => wwait_le h w
  | .turn => wturn_le h w
theorem step_le (sc : Scene) (x : Dd) : TLe h sc.tales (stepW h sc x).sc.tales := by
  unfold stepW
  exact (((tell_le h sc.wk x.word x.lines 0).trans (doIt_le h _ x)).trans (settle_le h _ _)).trans (tell_le h _ _ _ _)
end

/-! what may be compared -/
theorem pat_shp (n : Nat) (p : Pat) : shp (n + 1) (Pat.d p) = true := by cases p <;> simp [Pat.d]
theorem rule_shp (n : Nat) (r : Rule) : shp (n + 3) r.d = true := by
  obtain ⟨s, kind, pat, tests, ⟨w, to⟩, after⟩ := r
  have h1 := pat_shp (n + 1) pat
  have ht : ∀ t : Tst, shp (n + 1) t.d = true := fun t => by cases t <;> simp [Tst.d, Tst.str] <;> decide +kernel
  cases to <;> simp [Rule.d, Act.d, h1, ht]
theorem trule_shp (n : Nat) (r : TRule) : shp (n + 3) r.d = true := by
  obtain ⟨s, w, ps, tests, after⟩ := r
  have h1 := pat_shp n
  have ht : ∀ t : Tst, shp (n + 1) t.d = true := fun t => by cases t <;> simp [Tst.d, Tst.str] <;> decide +kernel
  have ho : shp (n + 2) (optI after) = true := by cases after <;> simp
  simp [TRule.d, h1, ht, ho]
theorem wish_shp (n : Nat) (w : Wish) : shp (n + 5) w.d = true := by
  have h1 := rule_shp n
  have h2 := trule_shp n
  simp [Wish.d, h1, h2]
theorem deed_shp (n : Nat) (w : Deed) : shp (n + 1) w.d = true := by
  simp [Deed.d]
theorem house_shp (n : Nat) (h : House) : shp (n + 7) h.d = true := by
  have h1 := wish_shp n
  have h2 := deed_shp (n + 4)
  simp [House.d, h1, h2]
theorem eqv_of_shp {n : Nat} {d : D} (h : shp n d = true) : PyData.eqv d d = true := by
  unfold shp at h
  rw [Bool.and_eq_true] at h
  exact PySem.SeqAt.eqv_refl d h.1
theorem eqvAll_ints : ∀ (p q : List Int), PyData.eqvAll (p.map .int) (q.map .int) = decide (p = q)
  | [], [] => by simp [PyData.eqvAll]
  | [], _ :: _ => by simp [PyData.eqvAll]
  | _ :: _, [] => by simp [PyData.eqvAll]
  | a :: p, b :: q => by
    have ih := eqvAll_ints p q
    simp [PyData.eqvAll, ih]

def brk (ts : List (Option Int)) : List Int := (ts.zipIdx.filter fun q => q.1.isNone).map fun q => (q.2 : Int)
theorem broken_v {k : Nat} {sc : Scene} (hl : fitL sc.tales) (st : S) : CF (k + 1) "broken" [sc.d] st = some ((.tuple ((brk sc.tales).map .int), false), st) := by
  refine (ca_broken (k := k) [sc.d] rfl st).trans (runS_iso (by simp) (st1 := []) ?_ (by simp) st)
  have i3 : item sc.d (.int 3) = some (.tuple (sc.tales.map optI)) := rfl
  simp [runB_ap, sh_broken, i3, hl]
  simp [brk]
  done
theorem law_due_v {k : Nat} (ts : List (Option Int)) (hl : fitL ts) (st : S) : CF (k + 1) "_law_due" [.tuple (ts.map optI)] st = some ((.tuple ((brk ts).map .int), false), st) := by
  refine (ca_law_due (k := k) [.tuple (ts.map optI)] rfl st).trans (runS_iso (by simp) (st1 := []) ?_ (by simp) st)
  simp [runB_ap, sh_law_due, hl]
  simp [brk]
  done
theorem law_dueL_v {k : Nat} (ts : List (Option Int)) (hl : fitL ts) (st : S) : CF (k + 1) "_law_due" [.list (ts.map optI)] st = some ((.tuple ((brk ts).map .int), false), st) := by
  refine (ca_law_due (k := k) [.list (ts.map optI)] rfl st).trans (runS_iso (by simp) (st1 := []) ?_ (by simp) st)
  simp [runB_ap, sh_law_due, hl]
  simp [brk]
  done

theorem brk_mem {ts : List (Option Int)} {x : Int} : x ∈ brk ts ↔ ∃ i : Nat, x = (i : Int) ∧ ts[i]? = some none := by
  unfold brk
  rw [List.mem_map]
  constructor
  · rintro ⟨⟨o, i⟩, hq, rfl⟩
    obtain ⟨h1, h2⟩ := List.mem_filter.mp hq
    have h1 := List.mem_zipIdx_iff_getElem?.mp h1
    cases o with
    | none => exact ⟨i, rfl, h1⟩
    | some _ => cases h2
  · rintro ⟨i, rfl, h⟩
    exact ⟨(none, i), List.mem_filter.mpr ⟨List.mem_zipIdx_iff_getElem?.mpr h, rfl⟩, rfl⟩
theorem brk_len (ts : List (Option Int)) : (brk ts).length ≤ ts.length := by
  unfold brk
  rw [List.length_map]
  have := List.length_filter_le (fun q : Option Int × Nat => q.1.isNone) ts.zipIdx
  rw [List.length_zipIdx] at this
  exact this
theorem brk_grow {h : House} {sc : Scene} (s : ScOk h sc) (x : Dd) : ∀ y ∈ brk sc.tales, y ∈ brk (stepW h sc x).sc.tales := by
  intro y hy
  obtain ⟨i, rfl, hi⟩ := brk_mem.mp hy
  exact brk_mem.mpr ⟨i, rfl, (step_le h sc x s.tales).2 i hi⟩
abbrev idsI (xs : List Int) : D := .tuple (xs.map .int)
theorem ids_tup {xs : List Int} (hl : xs.length ≤ 64) : tupOk 1 (idsI xs) = true := by
  have : xs.length ≤ line := by unfold line; omega
  simp [tupOk, this]
theorem same_ids {K : Nat} (hK : 2 ≤ K) {xs : List Int} (hl : xs.length ≤ 64) (st : S) : CF K "_law_same" [idsI xs, idsI xs] st = some ((.bool true, false), st) := by
  obtain ⟨k, rfl⟩ := Nat.exists_eq_add_of_le' hK
  exact same_v (k := k) 1 _ (ids_tup hl) st
/-- one scene of any kind -/
theorem body41 {s0 : MO} {tl : S} {k : Nat} {st : S} (r : Rg s0 tl k st) (hk : k < 500000) {n : Int} (hn0 : 2 ≤ n) (hn : n ≤ 4) {x3 x4 x5 x6 x7 x8 x9 x10 x11 x12 x13 : Option SV} :
    ∃ y7 y8 y9 y12 y13 st', blkS (lb_law_1 (CF 26)) [fz (mkRef 0), fz (mkRef 1), fz (.int n), x3, x4, x5, x6, x7, x8, x9, x10, x11, x12, x13, none, none] st = some (.next [fz (mkRef 0), fz (mkRef 1), fz (.int n), x3, x4, x5, x6, y7, y8, y9, x10, x11, y12, y13, none, none], st') ∧ Rg s0 tl (k + 100) st' := by
  obtain ⟨c, st1, e1, a1, b1, r1⟩ := take_v (j := 25) r (by omega) (m := 7) (by omega) (by omega)
  obtain ⟨w, st2, e2, a2, b2, r2⟩ := take_v (j := 25) r1 (by omega) (m := 4) (by omega) (by omega)
  have hs : small c = true := by simp [small]; omega
  obtain ⟨ms, st3, e3, h3, h3', r3⟩ := xlc_drawn (vs := [14]) (tp := false) (js := [14]) (src := rr1 (xv 12)) (elt := xcall (CF 26) "_law_take" [xv 1, xc (.int (8))])
    (env := [fz (mkRef 0), fz (mkRef 1), fz (.int n), x3, x4, x5, x6, x7, x8, x9, x10, x11, fz (.int c), fz (.int w), none, none]) (st0 := st2) (st := st2) (s0 := s0) (tl := tl) (k := k + 1 + 1) (enc := fun i : Nat => PyData.int (i : Int)) (deps := []) (List.range c.toNat) PyData.int (fun _ => True) 1 790000
    (by simp [hs]) (fun st => rfl) (by apply fit_range; unfold line; omega)
    (fun a ha k st r hk => by
      refine ⟨_, rfl, ?_⟩
      obtain ⟨d, st', e, _, _, r'⟩ := take_v (j := 25) r (by omega) (m := 8) (by omega) (by omega)
      exact ⟨d, false, st', by simp [e], trivial, r'⟩)
    r2 (by rw [List.length_range]; omega) (by omega)
  rw [List.length_range] at h3 r3
  obtain ⟨ts, st4, e4, h4, h4', r4⟩ := xlc_drawn (vs := [14]) (tp := false) (js := [14]) (src := rr1 (xv 12)) (elt := xit (ox (xlist [xc (.none), xcall (CF 26) "_law_take" [xv 1, xc (.int (8))], xc (.int (0)), xc (.none)])) (ox (xit (ox (xlist [xv 13, xcall (CF 26) "_law_take" [xv 1, xc (.int (4))]])) (ox (xbi "int" [ox (xcmp .Lt (ov 13) (ox (xc (.int (2)))))])))))
    (env := [fz (mkRef 0), fz (mkRef 1), fz (.int n), x3, x4, x5, x6, fz (.tuple (ms.map .int)), x8, x9, x10, x11, fz (.int c), fz (.int w), none, none]) (st0 := st3) (st := st3) (s0 := s0) (tl := tl) (k := k + 1 + 1 + 1 * c.toNat) (enc := fun i : Nat => PyData.int (i : Int)) (deps := []) (List.range c.toNat) optI (fun _ => True) 2 790000
    (by simp [hs]) (fun st => rfl) (by apply fit_range; unfold line; omega)
    (fun a ha k st r hk => by
      refine ⟨_, rfl, ?_⟩
      obtain ⟨d, st', e, _, _, r'⟩ := take_v (j := 25) r (by omega) (m := 8) (by omega) (by omega)
      obtain ⟨d2, st'', e', g1, g2, r''⟩ := take_v (j := 25) r' (by omega) (m := 4) (by omega) (by omega)
      obtain ⟨i, hi⟩ : ∃ i : Int, i = if w < 2 then d2 else w := ⟨_, rfl⟩
      have hi4 : 0 ≤ i ∧ i < 4 := by rw [hi]; split <;> omega
      obtain ⟨o, qo, _⟩ := pick_map (f := optI) (xs := [none, some d, some 0, none]) hi4.1 hi4.2
      replace qo : L2.atI [PyData.none, PyData.int d, PyData.int 0, PyData.none] i = some (optI o) := qo
      refine ⟨o, false, st'', ?_, trivial, r''⟩
      by_cases hw : w < 2
      · rw [if_pos hw] at hi
        subst hi
        simp [e, e', hw, qo]
      · rw [if_neg hw] at hi
        subst hi
        simp [e, e', hw, qo])
    r3 (by rw [List.length_range]; omega) (by omega)
  rw [List.length_range] at h4 r4
  obtain ⟨cs, st5, e5, _, ⟨_, h6⟩, hfc, r5⟩ := law_calls_v (m := 24) r4 (by omega) (n := n) (by omega) hn
  obtain ⟨ng, st6, e6, a6, b6, r6⟩ := take_v (j := 25) r5 (by omega) (m := 2) (by omega) (by omega)
  have fm : fitL ms := by unfold fitL line; omega
  have ft : fitL ts := by unfold fitL line; omega
  have q1 := broken_v (k := 25) (sc := ⟨cs, ng, ms, ts⟩) ft st6
  have q2 := law_dueL_v (k := 25) ts ft st6
  have q3 := same_ids (K := 26) (by omega) (xs := brk ts) (by have := brk_len ts; omega) st6
  obtain ⟨sc, hsc⟩ : ∃ sc : Scene, sc = ⟨cs, ng, ms, ts⟩ := ⟨_, rfl⟩
  have q1' : CF 26 "broken" [sc.d] st6 = some ((idsI (brk ts), false), st6) := by rw [hsc]; exact q1
  have l1 : (srow [12, 13] (xtup [xcall (CF 26) "_law_take" [xv 1, xc (.int (7))], xcall (CF 26) "_law_take" [xv 1, xc (.int (4))]])) [fz (mkRef 0), fz (mkRef 1), fz (.int n), x3, x4, x5, x6, x7, x8, x9, x10, x11, x12, x13, none, none] st = some (.next [fz (mkRef 0), fz (mkRef 1), fz (.int n), x3, x4, x5, x6, x7, x8, x9, x10, x11, fz (.int c), fz (.int w), none, none], st2) := by
    simp [e1, e2]
  have l2 : (sset 7 false false (xbi "tuple" [ox (xlc [14] false [14] (rr1 (xv 12)) tyes (xcall (CF 26) "_law_take" [xv 1, xc (.int (8))]))])) [fz (mkRef 0), fz (mkRef 1), fz (.int n), x3, x4, x5, x6, x7, x8, x9, x10, x11, fz (.int c), fz (.int w), none, none] st2 = some (.next [fz (mkRef 0), fz (mkRef 1), fz (.int n), x3, x4, x5, x6, fz (.tuple (ms.map .int)), x8, x9, x10, x11, fz (.int c), fz (.int w), none, none], st3) := by
    simp [e3, fm, -xlc_ap]
  have l3 : (sset 8 false false (xlc [14] false [14] (rr1 (xv 12)) tyes (xit (ox (xlist [xc (.none), xcall (CF 26) "_law_take" [xv 1, xc (.int (8))], xc (.int (0)), xc (.none)])) (ox (xit (ox (xlist [xv 13, xcall (CF 26) "_law_take" [xv 1, xc (.int (4))]])) (ox (xbi "int" [ox (xcmp .Lt (ov 13) (ox (xc (.int (2)))))]))))))) [fz (mkRef 0), fz (mkRef 1), fz (.int n), x3, x4, x5, x6, fz (.tuple (ms.map .int)), x8, x9, x10, x11, fz (.int c), fz (.int w), none, none] st3 = some (.next [fz (mkRef 0), fz (mkRef 1), fz (.int n), x3, x4, x5, x6, fz (.tuple (ms.map .int)), fz (.list (ts.map optI)), x9, x10, x11, fz (.int c), fz (.int w), none, none], st4) := by
    simp [e4, -xlc_ap]
  have l4 : (sset 9 false false (xtup [xcall (CF 26) "_law_calls" [xv 1, xv 2], xcall (CF 26) "_law_take" [xv 1, xc (.int (2))], xv 7, xbi "tuple" [ov 8]])) [fz (mkRef 0), fz (mkRef 1), fz (.int n), x3, x4, x5, x6, fz (.tuple (ms.map .int)), fz (.list (ts.map optI)), x9, x10, x11, fz (.int c), fz (.int w), none, none] st4 = some (.next [fz (mkRef 0), fz (mkRef 1), fz (.int n), x3, x4, x5, x6, fz (.tuple (ms.map .int)), fz (.list (ts.map optI)), fz sc.d, x10, x11, fz (.int c), fz (.int w), none, none], st6) := by
    simp [e5, e6, ft, hsc, Scene.d]
  have l5 : (sif (tnot (tv (ox (xcall (CF 26) "_law_same" [xcall (CF 26) "broken" [xv 9], xcall (CF 26) "_law_due" [xv 8]])))) [sret (xc (.bool false))] []) [fz (mkRef 0), fz (mkRef 1), fz (.int n), x3, x4, x5, x6, fz (.tuple (ms.map .int)), fz (.list (ts.map optI)), fz sc.d, x10, x11, fz (.int c), fz (.int w), none, none] st6 = some (.next [fz (mkRef 0), fz (mkRef 1), fz (.int n), x3, x4, x5, x6, fz (.tuple (ms.map .int)), fz (.list (ts.map optI)), fz sc.d, x10, x11, fz (.int c), fz (.int w), none, none], st6) := by
    simp [q1', q2, q3]
  refine ⟨fz (.tuple (ms.map .int)), fz (.list (ts.map optI)), fz sc.d, fz (.int c), fz (.int w), st6, ?_, r6.mono (by omega)⟩
  unfold lb_law_1
  rw [blkS_cons, l1, contS_next, blkS_cons, l2, contS_next, blkS_cons, l3, contS_next, blkS_cons, l4, contS_next, blkS_cons, l5, contS_next]
  rfl
/-- one deed of the row -/
theorem deed41 {h : House} (H : HOk h) {sc : Scene} (s : ScOk h sc) {x : Dd} (hx : x.ok h.n) {x0 x1 x2 x3 x5 x7 x8 x11 x12 x13 : Option SV} (st : S) :
    blkS (lb_law_2 (CF 26)) [x0, x1, x2, x3, fz h.d, x5, fz x.d, x7, x8, fz sc.d, fz (idsI (brk sc.tales)), x11, x12, x13, none, none] st = some (.next [x0, x1, x2, x3, fz h.d, x5, fz x.d, x7, x8, fz (stepW h sc x).sc.d, fz (idsI (brk (stepW h sc x).sc.tales)), fz (idsI (brk (stepW h sc x).sc.tales)), x12, x13, none, none], st) := by
  have q := stepped_v H (K := 26) (by omega) s x hx st
  have e : (stepW h sc x).res = .tuple [(stepW h sc x).sc.d, evsD (stepW h sc x).evs] := rfl
  rw [e] at q
  have s2 := s.next H hx
  have hm := H.many
  have ft : fitL (stepW h sc x).sc.tales := by have := s2.tales; unfold fitL line; omega
  have q1 := broken_v (k := 25) (sc := (stepW h sc x).sc) ft st
  have q2 := law_due_v (k := 25) (stepW h sc x).sc.tales ft st
  have q3 := same_ids (K := 26) (by omega) (xs := brk (stepW h sc x).sc.tales) (by have := brk_len (stepW h sc x).sc.tales; have := s2.tales; omega) st
  have hg := brk_grow s x
  have hl0 : fitL (brk sc.tales) := by have := brk_len sc.tales; have := s.tales; unfold fitL line; omega
  generalize (stepW h sc x).sc = S2 at *
  generalize evsD (stepW h sc x).evs = EV at *
  generalize hB : brk S2.tales = B at *
  generalize hA : brk sc.tales = A at *
  have h3 : item S2.d (.int 3) = some (.tuple (S2.tales.map optI)) := rfl
  have l1 : (sset 9 false false (xit (ox (xcall (CF 26) "stepped" [xv 4, xv 9, xv 6])) (ox (xc (.int (0)))))) [x0, x1, x2, x3, fz h.d, x5, fz x.d, x7, x8, fz sc.d, fz (idsI A), x11, x12, x13, none, none] st = some (.next [x0, x1, x2, x3, fz h.d, x5, fz x.d, x7, x8, fz S2.d, fz (idsI A), x11, x12, x13, none, none], st) := by
    simp [q]
  have l2 : (sset 11 false false (xcall (CF 26) "broken" [xv 9])) [x0, x1, x2, x3, fz h.d, x5, fz x.d, x7, x8, fz S2.d, fz (idsI A), x11, x12, x13, none, none] st = some (.next [x0, x1, x2, x3, fz h.d, x5, fz x.d, x7, x8, fz S2.d, fz (idsI A), fz (idsI B), x12, x13, none, none], st) := by
    simp [q1]
  have hall : xbi "all" [ox (xlc [15] false [15] (rpl (ov 10)) tyes (xcmp .In (ov 15) (ov 11)))] [x0, x1, x2, x3, fz h.d, x5, fz x.d, x7, x8, fz S2.d, fz (idsI A), fz (idsI B), x12, x13, none, none] st = some ((.bool true, false), st) := by
    obtain ⟨ys, rfl⟩ := lift_sub (P := fun y : Int => y ∈ B) hg
    have hin : ∀ y : Such (fun y : Int => y ∈ B), inAny (.int y.val) (B.map PyData.int) = true := fun y => by
      have := y.ok
      simp [inAny]
      exact this
    have hf : fitL ys := by simpa using hl0
    simp [hin, hf]
  have l3 : (sif (tor (tnot (tv (ox (xcall (CF 26) "_law_same" [xv 11, xcall (CF 26) "_law_due" [xit (ov 9) (ox (xc (.int (3))))]])))) (tnot (tv (ox (xbi "all" [ox (xlc [15] false [15] (rpl (ov 10)) tyes (xcmp .In (ov 15) (ov 11)))]))))) [sret (xc (.bool false))] []) [x0, x1, x2, x3, fz h.d, x5, fz x.d, x7, x8, fz S2.d, fz (idsI A), fz (idsI B), x12, x13, none, none] st = some (.next [x0, x1, x2, x3, fz h.d, x5, fz x.d, x7, x8, fz S2.d, fz (idsI A), fz (idsI B), x12, x13, none, none], st) := by
    simp [q2, q3, h3, hall, -xbi_ap]
  have l4 : (sset 10 false false (xv 11)) [x0, x1, x2, x3, fz h.d, x5, fz x.d, x7, x8, fz S2.d, fz (idsI A), fz (idsI B), x12, x13, none, none] st = some (.next [x0, x1, x2, x3, fz h.d, x5, fz x.d, x7, x8, fz S2.d, fz (idsI B), fz (idsI B), x12, x13, none, none], st) := by
    simp
  unfold lb_law_2
  rw [blkS_cons, l1, contS_next, blkS_cons, l2, contS_next, blkS_cons, l3, contS_next, blkS_cons, l4, contS_next]
  rfl

theorem law_word (ns : List Int) (hn : ns.length ≤ 63) : ∃ st', CF 27 "law" [mkRef 0] [.scr ns] = some ((.bool true, false), st') := by
  obtain ⟨a, b, h1, r0⟩ := hand_v (j := 25) hn
  obtain ⟨d, st1, e1, a1, b1, r1⟩ := take_v (j := 25) r0 (by omega) (m := 3) (by omega) (by omega)
  obtain ⟨t, st2, e2, a2, b2, r2⟩ := take_v (j := 25) r1 (by omega) (m := 6) (by omega) (by omega)
  have hst : small (1 + t) = true := by simp [small]; omega
  obtain ⟨env3, st3, e3, x3, x7, x8, x9, x12, x13, rfl, r3⟩ := for_range (its := (List.range (1 + t).toNat).map fun (i : Nat) => PyData.int (i : Int)) (asgn := asg false [3]) (body := blkS (lb_law_1 (CF 26))) (n := (1 + t).toNat)
    (fun i env st => ∃ (x3 x7 x8 x9 x12 x13 : Option SV), env = [fz (mkRef 0), fz (mkRef 1), fz (.int (2 + d)), x3, none, none, none, x7, x8, x9, none, none, x12, x13, none, none] ∧ Rg (.scr ns) [] (0 + 1 + 1 + 100 * i) st)
    (fun i hi env st hh => by
      obtain ⟨x3, x7, x8, x9, x12, x13, rfl, r⟩ := hh
      refine ⟨_, rfl, ?_⟩
      obtain ⟨y7, y8, y9, y12, y13, st', g, r'⟩ := body41 r (by omega) (n := 2 + d) (by omega) (by omega) (x3 := fz (.int (i : Int))) (x4 := none) (x5 := none) (x6 := none) (x7 := x7) (x8 := x8) (x9 := x9) (x10 := none) (x11 := none) (x12 := x12) (x13 := x13)
      exact ⟨_, _, st', g, .inl rfl, _, y7, y8, y9, y12, y13, rfl, r'.mono (by omega)⟩)
    (env := [fz (mkRef 0), fz (mkRef 1), fz (.int (2 + d)), none, none, none, none, none, none, none, none, none, none, none, none, none]) (st := st2) ⟨none, none, none, none, none, none, rfl, r2⟩
  obtain ⟨cm, st4, e4, a4, b4, r4⟩ := take_v (j := 25) r3 (by omega) (m := 5) (by omega) (by omega)
  obtain ⟨ws, st5, e5, w1, w2, r5⟩ := law_house_v (m := 21) r4 (by omega) (n := 2 + d) (by omega) (by omega) (c := 6) (by omega) (by omega) (cm := cm) a4 (by omega)
  obtain ⟨h, hh⟩ : ∃ h : House, h = ⟨2 + d, ws, (allDd (2 + d)).map Dd.deed⟩ := ⟨_, rfl⟩
  have H : HOk h := by rw [hh]; exact hok_gen (by omega) (by omega) (by omega) w2
  have hhn : h.n = 2 + d := by rw [hh]
  have hhd : item h.d (.int 2) = some (.tuple ((allDd (2 + d)).map Dd.d)) := by
    have : item h.d (.int 2) = some (.tuple (h.deeds.map Deed.d)) := rfl
    rw [this, hh]
    simp only [List.map_map]
    rfl
  rw [← hh] at e5
  obtain ⟨cl, st6, e6, a6, b6, r6⟩ := take_v (j := 25) r5 (by omega) (m := 21) (by omega) (by omega)
  have hs6 : small cl = true := by simp [small]; omega
  have hal : 0 < (allDd (2 + d)).length ∧ (allDd (2 + d)).length ≤ 26 := by
    unfold allDd
    split
    · simp
    · split <;> simp
  obtain ⟨xs, st7, e7, h7, h7', r7⟩ := xlc_drawn (vs := [14]) (tp := false) (js := [14]) (src := rr1 (xcall (CF 26) "_law_take" [xv 1, xc (.int (21))])) (elt := xit (ox (xit (ov 4) (ox (xc (.int (2)))))) (ox (xcall (CF 26) "_law_take" [xv 1, xbi "len" [ox (xit (ov 4) (ox (xc (.int (2)))))]])))
    (env := [fz (mkRef 0), fz (mkRef 1), fz (.int (2 + d)), x3, fz h.d, none, none, x7, x8, x9, none, none, x12, x13, none, none]) (st0 := st5) (st := st6) (s0 := .scr ns) (tl := []) (k := 0 + 1 + 1 + 100 * (1 + t).toNat + 1 + 2400 + 1) (enc := fun i : Nat => PyData.int (i : Int)) (deps := []) (List.range cl.toNat) Dd.d (fun x => x ∈ allDd (2 + d)) 1 790000
    (by simp [e6, hs6]) (fun st => rfl) (by apply fit_range; unfold line; omega)
    (fun a ha k st r hk => by
      refine ⟨_, rfl, ?_⟩
      obtain ⟨dd, st', e, g1, g2, r'⟩ := take_v (j := 25) r (by omega) (m := ((allDd (2 + d)).length : Int)) (by omega) (by omega)
      obtain ⟨x, q, hx⟩ := pick_map (f := Dd.d) (xs := allDd (2 + d)) g1 g2
      exact ⟨x, false, st', by simp [hhd, e, q], hx, r'⟩)
    r6 (by rw [List.length_range]; omega) (by omega)
  rw [List.length_range] at h7 r7
  have hxo : ∀ x ∈ xs, x.ok h.n := fun x hx => by rw [hhn]; exact allDd_ok (by omega) (by omega) x (h7' x hx)
  have hfx : fitL xs := by unfold fitL line; omega
  have hb := begun_v (K := 26) (by omega) h H.many st7
  have hb0 : brk (begunS h).tales = [] := by
    apply List.eq_nil_iff_forall_not_mem.mpr
    intro y hy
    obtain ⟨i, _, hi⟩ := brk_mem.mp hy
    have := List.mem_of_getElem? hi
    simp [begunS] at this
  obtain ⟨env8, st8, h8, sc, told, x6, x11, rfl, rfl, s, _, g8⟩ := for_list (s := ⟨xs.map Dd.d, [(Op.v (.tuple (xs.map Dd.d)), .tuple (xs.map Dd.d))]⟩) (asgn := asg false [6]) (body := blkS (lb_law_2 (CF 26))) Dd.d
    (fun r env st => ∃ (sc : Scene) (told : List (List TEvent)) (x6 x11 : Option SV), env = [fz (mkRef 0), fz (mkRef 1), fz (.int (2 + d)), x3, fz h.d, fz (.tuple (xs.map Dd.d)), x6, x7, x8, fz sc.d, fz (idsI (brk sc.tales)), x11, x12, x13, none, none] ∧ st = st7 ∧ ScOk h sc ∧ (∀ x ∈ r, x.ok h.n) ∧ rowFrom h r sc told = rowFrom h xs (begunS h) [])
    (fun x r env st hh => by
      obtain ⟨sc, told, x6, x11, rfl, rfl, s, hr, h2⟩ := hh
      have hxo := hr x List.mem_cons_self
      have g := deed41 H s hxo (x0 := fz (mkRef 0)) (x1 := fz (mkRef 1)) (x2 := fz (.int (2 + d))) (x3 := x3) (x5 := fz (.tuple (xs.map Dd.d))) (x7 := x7) (x8 := x8) (x11 := x11) (x12 := x12) (x13 := x13) st
      exact ⟨by simp, _, rfl, _, _, _, g, .inl rfl, _, _, _, _, rfl, rfl, s.next H hxo, fun y hy => hr y (List.mem_cons_of_mem _ hy), h2⟩)
    (fun env st hh => by obtain ⟨sc, told, x6, x11, rfl, rfl, _⟩ := hh; simp) xs (env := [fz (mkRef 0), fz (mkRef 1), fz (.int (2 + d)), x3, fz h.d, fz (.tuple (xs.map Dd.d)), none, x7, x8, fz (begunS h).d, fz (idsI (brk (begunS h).tales)), none, x12, x13, none, none]) (st := st7) ⟨begunS h, [], none, none, rfl, rfl, begun_ok h, hxo, rfl⟩
  have g8 : (sc, told) = rowFrom h xs (begunS h) [] := g8
  have hran := ran_v H (K := 26) (by omega) hxo (by omega) st8
  rw [← g8] at hran
  simp only at hran
  have hft : fitL sc.tales := by have := s.tales; have := H.many; unfold fitL line; omega
  have q1 := broken_v (k := 25) (sc := sc) hft st8
  have l1 : (sset 1 false true (xcall (CF 26) "_law_hand" [xv 0])) [fz (mkRef 0), none, none, none, none, none, none, none, none, none, none, none, none, none, none, none] [.scr ns] = some (.next [fz (mkRef 0), fz (mkRef 1), none, none, none, none, none, none, none, none, none, none, none, none, none, none], [.scr ns, .lst [.int a, .int b, .int 0]]) := by simp [h1]
  have l2 : (sset 2 false false (xbin .Add (ox (xc (.int (2)))) (ox (xcall (CF 26) "_law_take" [xv 1, xc (.int (3))])))) [fz (mkRef 0), fz (mkRef 1), none, none, none, none, none, none, none, none, none, none, none, none, none, none] [.scr ns, .lst [.int a, .int b, .int 0]] = some (.next [fz (mkRef 0), fz (mkRef 1), fz (.int (2 + d)), none, none, none, none, none, none, none, none, none, none, none, none, none], st1) := by simp [e1]
  have l3 : (sfor false [3] (rr1 (xbin .Add (ox (xc (.int (1)))) (ox (xcall (CF 26) "_law_take" [xv 1, xc (.int (6))])))) (lb_law_1 (CF 26))) [fz (mkRef 0), fz (mkRef 1), fz (.int (2 + d)), none, none, none, none, none, none, none, none, none, none, none, none, none] st1 = some (.next [fz (mkRef 0), fz (mkRef 1), fz (.int (2 + d)), x3, none, none, none, x7, x8, x9, none, none, x12, x13, none, none], st3) := by
    unfold sfor
    have hr : (rr1 (xbin .Add (ox (xc (.int (1)))) (ox (xcall (CF 26) "_law_take" [xv 1, xc (.int (6))])))) [fz (mkRef 0), fz (mkRef 1), fz (.int (2 + d)), none, none, none, none, none, none, none, none, none, none, none, none, none] st1 = some (⟨(List.range (1 + t).toNat).map fun (i : Nat) => PyData.int (i : Int), []⟩, st2) := by
      simp [e2, hst]
    rw [bnd_eq hr]
    exact e3
  have l4 : (sset 4 false false (xcall (CF 26) "_law_house" [xv 1, xv 2, xcall (CF 26) "_law_take" [xv 1, xc (.int (5))], xc (.int (6))])) [fz (mkRef 0), fz (mkRef 1), fz (.int (2 + d)), x3, none, none, none, x7, x8, x9, none, none, x12, x13, none, none] st3 = some (.next [fz (mkRef 0), fz (mkRef 1), fz (.int (2 + d)), x3, fz h.d, none, none, x7, x8, x9, none, none, x12, x13, none, none], st5) := by
    simp [e4, e5]
  have l5 : (sset 5 false false (xbi "tuple" [ox (xlc [14] false [14] (rr1 (xcall (CF 26) "_law_take" [xv 1, xc (.int (21))])) tyes (xit (ox (xit (ov 4) (ox (xc (.int (2)))))) (ox (xcall (CF 26) "_law_take" [xv 1, xbi "len" [ox (xit (ov 4) (ox (xc (.int (2)))))]]))))])) [fz (mkRef 0), fz (mkRef 1), fz (.int (2 + d)), x3, fz h.d, none, none, x7, x8, x9, none, none, x12, x13, none, none] st5 = some (.next [fz (mkRef 0), fz (mkRef 1), fz (.int (2 + d)), x3, fz h.d, fz (.tuple (xs.map Dd.d)), none, x7, x8, x9, none, none, x12, x13, none, none], st8) := by
    simp [e7, hfx, -xlc_ap]
  have l6 : (srowt [9, 10] [xcall (CF 26) "begun" [xv 4], xtup []]) [fz (mkRef 0), fz (mkRef 1), fz (.int (2 + d)), x3, fz h.d, fz (.tuple (xs.map Dd.d)), none, x7, x8, x9, none, none, x12, x13, none, none] st8 = some (.next [fz (mkRef 0), fz (mkRef 1), fz (.int (2 + d)), x3, fz h.d, fz (.tuple (xs.map Dd.d)), none, x7, x8, fz (begunS h).d, fz (idsI (brk (begunS h).tales)), none, x12, x13, none, none], st8) := by
    rw [hb0]
    simp [hb]
  have l7 : (sfor false [6] (rpl (ov 5)) (lb_law_2 (CF 26))) [fz (mkRef 0), fz (mkRef 1), fz (.int (2 + d)), x3, fz h.d, fz (.tuple (xs.map Dd.d)), none, x7, x8, fz (begunS h).d, fz (idsI (brk (begunS h).tales)), none, x12, x13, none, none] st8 = some (.next [fz (mkRef 0), fz (mkRef 1), fz (.int (2 + d)), x3, fz h.d, fz (.tuple (xs.map Dd.d)), x6, x7, x8, fz sc.d, fz (idsI (brk sc.tales)), x11, x12, x13, none, none], st8) := by
    unfold sfor
    have hrp : (rpl (ov 5)) [fz (mkRef 0), fz (mkRef 1), fz (.int (2 + d)), x3, fz h.d, fz (.tuple (xs.map Dd.d)), none, x7, x8, fz (begunS h).d, fz (idsI (brk (begunS h).tales)), none, x12, x13, none, none] st8 = some (⟨xs.map Dd.d, [(Op.v (.tuple (xs.map Dd.d)), .tuple (xs.map Dd.d))]⟩, st8) := by simp
    rw [bnd_eq hrp]
    exact h8
  refine ⟨st8, (ca_law (k := 26) [mkRef 0] rfl [.scr ns]).trans ?_⟩
  unfold runS
  rw [if_neg (by simp [noRef_mkRef])]
  simp only [runB_ap]
  show finB (sh_law (CF 26) [fz (mkRef 0), none, none, none, none, none, none, none, none, none, none, none, none, none, none, none] [.scr ns]) = _
  unfold sh_law
  rw [blkS_cons, l1, contS_next, blkS_cons, l2, contS_next, blkS_cons, l3, contS_next, blkS_cons, l4, contS_next, blkS_cons, l5, contS_next, blkS_cons, l6, contS_next, blkS_cons, l7, contS_next]
  generalize brk sc.tales = B at *
  simp [hran, q1, eqvAll_ints]
abbrev zDepth : Nat := 27
theorem zRoom : Room zDepth callerA := ⟨rfl, by decide, by decide⟩

theorem rows_sc : rows.all Row.scOk = true := by decide +kernel
theorem rows_bd : ∀ r ∈ rows, r.binds := by
  intro r hr
  simp only [rows, List.mem_cons, List.not_mem_nil, or_false] at hr
  rcases hr with rfl | rfl | rfl | rfl | rfl | rfl | rfl | rfl | rfl | rfl | rfl | rfl | rfl | rfl | rfl | rfl | rfl | rfl | rfl | rfl | rfl | rfl | rfl | rfl | rfl | rfl | rfl | rfl | rfl | rfl | rfl | rfl | rfl | rfl | rfl | rfl | rfl | rfl | rfl | rfl | rfl | rfl | rfl | rfl | rfl | rfl | rfl | rfl | rfl | rfl | rfl | rfl | rfl | rfl | rfl | rfl | rfl | rfl | rfl | rfl | rfl | rfl | rfl | rfl | rfl | rfl | rfl | rfl | rfl | rfl | rfl | rfl
  · exact bd_fits
  · exact bd_is_in
  · exact bd_is_held_by
  · exact bd_calls_of
  · exact bd_talks_of
  · exact bd_holds_of
  · exact bd_first_of
  · exact bd_shown_to
  · exact bd_does_ring
  · exact bd_rings_at
  · exact bd_between
  · exact bd_has_free_hands
  · exact bd_is_free
  · exact bd_is_so
  · exact bd_begun
  · exact bd_other_of
  · exact bd_can_also
  · exact bd_can_join
  · exact bd_can_be_done
  · exact bd_is_asked
  · exact bd_rule_for_points
  · exact bd_asked
  · exact bd_are_fit
  · exact bd_rule_for
  · exact bd_rule_for_tales
  · exact bd_led_on
  · exact bd_told_on
  · exact bd_held_by
  · exact bd_comes_to
  · exact bd_Walk___init__
  · exact bd_Walk_scene
  · exact bd_Walk_tell
  · exact bd_Walk_ask
  · exact bd_Walk_put
  · exact bd_Walk_take_out
  · exact bd_Walk_put_for
  · exact bd_Walk_end
  · exact bd_Walk_busy_at
  · exact bd_Walk_shut_out
  · exact bd_Walk_send_on
  · exact bd_Walk_decided
  · exact bd_Walk_come
  · exact bd_Walk_go_out
  · exact bd_Walk_dial
  · exact bd_Walk_talk_on
  · exact bd_Walk_take
  · exact bd_Walk_hold
  · exact bd_Walk_drop
  · exact bd_Walk_take_up_again
  · exact bd_Walk_flash
  · exact bd_Walk_ring_long
  · exact bd_Walk_wait
  · exact bd_Walk_turn
  · exact bd_Walk_settle
  · exact bd_Walk_do
  · exact bd_stepped
  · exact bd_ran
  · exact bd_broken
  · exact bd_law_hand
  · exact bd_law_take
  · exact bd_law_calls
  · exact bd_law_pattern
  · exact bd_law_tests
  · exact bd_law_words
  · exact bd_law_tale_rule
  · exact bd_law_far
  · exact bd_law_rule
  · exact bd_law_deeds
  · exact bd_law_house
  · exact bd_law_same
  · exact bd_law_due
  · exact bd_law
abbrev zHk : PySem.W.Hook := zHook 5 (zFa rows) (rows.map Row.d) consts
def zOb1 (s : PySem.W.SharedT) : ZAl := zOb 5 (zFa rows) (rows.map Row.d) consts (HandSHeadRun.getT s)
theorem zOb1_eq (s : PySem.W.SharedT) : zOb1 s = zHk.obs s.abs := zOb_eq (HandSHeadRun.getT_eq s)
def loose0 : List Str := ["fits", "is_in", "is_held_by", "calls_of", "talks_of", "holds_of", "first_of", "shown_to", "does_ring", "rings_at", "between", "has_free_hands", "is_free", "is_so", "begun", "other_of", "can_also", "can_join", "can_be_done", "is_asked", "rule_for_points", "asked", "are_fit", "rule_for", "rule_for_tales", "led_on", "told_on", "held_by", "comes_to", "stepped"]
def loose1 : List Str := ["ran", "broken", "_law_hand", "_law_take", "_law_calls", "_law_pattern", "_law_tests", "_law_words", "_law_tale_rule", "_law_far", "_law_rule", "_law_deeds", "_law_house", "_law_same", "_law_due", "Walk", "__name__", "IN_IT", "GOES_ON", "PASSING"]
abbrev loose : List Str := loose0 ++ loose1
theorem zRun (w : World) : HandSHeadRun.RunEq zR (PySem.W.view zR.prog [57]) zHk zOb1 2900 loose w := by
  intro os
  kernel_rfl
end Law
end Pz
open PySem PySem.W PySem.Calls PyProof.Rows in
theorem PySem.Challenge.cw_callwishes_k41_broken_tales_holds : PySem.Challenge.rw_callwishes_k41_broken_tales.Holds := by
  w_on; o_law
  refine HandSHeadRun.head_any (r := OpenLaw.row PySem.Challenge.rw_callwishes_k41_broken_tales) (q := view (OpenLaw.row PySem.Challenge.rw_callwishes_k41_broken_tales).prog [57]) (H := Pz.Law.zHk) (ob := Pz.Law.zOb1) (M := 2900) (loose := Pz.Law.loose) (d := HandSHeadRun.topDef (OpenLaw.row PySem.Challenge.rw_callwishes_k41_broken_tales).prog 57) (kwd := []) Pz.Law.zOb1_eq
    (by kernel_rfl) (fun _ => by kernel_rfl) Pz.Law.zRun (by kernel_rfl) (by kernel_rfl) (by kernel_rfl) (by rfl) (by first | assumption | decide +kernel) (by decide +kernel) ⟨rfl, rfl, rfl, rfl, rfl, by decide +kernel⟩ ?hw ?hc
  case hw => w_witness2
  case hc => exact Pz.walk_Z (l := PySem.Challenge.rw_callwishes_k41_broken_tales) (d := HandSHeadRun.topDef (OpenLaw.row PySem.Challenge.rw_callwishes_k41_broken_tales).prog 57) (rs := Pz.Law.rows) (cs := Pz.Law.consts) (lawRow := Pz.Law.row_law) (k := Pz.Law.zDepth) rfl rfl Pz.Law.zRoom (by kernel_rfl) rfl ⟨_, rfl⟩ Pz.Law.rows_sc Pz.Law.rows_bd Pz.Law.law_word
