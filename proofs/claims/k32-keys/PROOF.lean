import PyProof.Rows.All
import Wide.All
import OpenK.AllK
import Wide.FinOn
import HandS.ForMost
import HandS.ForExc
import HandS.Flow
import HandS.TupAny
import HandS.Deep
import HandS.IsInst
import HandS.Style
import HandS.Rev
import HandS.Zip
import HandS.Conv
import HandS.TupMul
import KE.SortData
import PyProof.ReprRoads
import HandS.Lambda
import HandS.SortInts
import HandS.EndTab
import HandS.Defaults
import HandS.ExcCtx
import HandS.HotCalls
import HandS.SuiteRaise
import HandS.ExcIs
import HandS.SetFor
import HandS.Strs
import HandS.More
import KE.DataMinMax
import HandS.HeadHook2
import HandS.Star
import KE.GoesEnum
import KE.GoesZip
import KE.GoesMore
import HandS.HeadWalk
import HandS.HeadHook4
import HandS.Head0
import HandS.Head1
import HandS.Head2
import PyProof.ReprLen
import PySem.Challenge.RW_handeddown_k32_whole_keys_turned_over
section
set_option linter.all false
set_option maxRecDepth 100000
/-! D1: what the pure part of Python means, over plain data (PyData), by fuel. -/
namespace DI
open PySem L2

abbrev D := PyData
/-- a slot of a def: shared data; a list or dict that the def alone holds; one that is lent to it, to be read in passing; the state cell -/
inductive SV where
  | sh (d : D) | ow (d : D) | ln (d : D) | stt
abbrev Env := List (Option SV)
def SV.hid : SV → Bool
  | .ow _ | .ln _ => true
  | _ => false
/-- what the state cell holds -/
abbrev Stt := List D
structure Exn where
  cls : Str
inductive R (α : Type) where
  | ok (a : α) (st : Stt) | err (e : Exn) (st : Stt) | stuck
def M (α : Type) : Type := Stt → R α
@[reducible] def ret {α : Type} (a : α) : M α := fun st => .ok a st
@[reducible] def stuckM {α : Type} : M α := fun _ => .stuck
@[reducible] def throwM {α : Type} (e : Exn) : M α := fun st => .err e st
def R.next {α β : Type} (r : R α) (f : α → M β) : R β := match r with
  | .ok a st => f a st
  | .err e st => .err e st
  | .stuck => .stuck
@[reducible] def bnd {α β : Type} (m : M α) (f : α → M β) : M β := fun st => (m st).next f
/-- an error here has no road -/
def R.noErr {α : Type} (r : R α) : R α := match r with
  | .ok a st => .ok a st
  | _ => .stuck
def guardM {α : Type} (b : Bool) (m : M α) : M α := fun st => if b = true then m st else .stuck
def optM {α : Type} : Option α → M α
  | some a => ret a
  | none => stuckM
instance : Monad M where
  pure := ret
  bind := bnd

/-! ### operators -/
def fits (n : Nat) : Bool := decide (n ≤ sizeLine)
def mulOk (i j : Int) : Bool := decide ((-(2 ^ 64) < i ∧ i < 2 ^ 64) ∨ (-(2 ^ 64) < j ∧ j < 2 ^ 64))
def binM : Operator → D → D → M D
  | .Add, .int i, .int j => ret (.int (i + j))
  | .Add, .str i, .str j => guardM (fits (i.length + j.length)) (ret (.str (i ++ j)))
  | .Add, .list xs, .list ys => guardM (fits (xs.length + ys.length)) (ret (.list (xs ++ ys)))
  | .Add, .tuple xs, .tuple ys => guardM (fits (xs.length + ys.length)) (ret (.tuple (xs ++ ys)))
  | .Sub, .int i, .int j => ret (.int (i - j))
  | .Mult, .int i, .int j => guardM (mulOk i j) (ret (.int (i * j)))
  | .Mult, .list xs, .int k => guardM (decide (-(2 ^ 63) ≤ k ∧ k < 2 ^ 63) && fits (xs.length * k.toNat)) (ret (.list (List.replicate k.toNat xs).flatten))
  | .Mult, .tuple xs, .int k => guardM (decide (0 < xs.length ∧ xs.length ≤ 1000 ∧ 1 < k ∧ k ≤ 1000)) (ret (.tuple (List.replicate k.toNat xs).flatten))
  | .FloorDiv, .int i, .int j => guardM (decide (0 < j ∧ j < 1073741824)) (ret (.int (i / j)))
  | .Mod, .int i, .int j => guardM (decide (0 < j)) (ret (.int (i % j)))
  | .Pow, .int i, .int j => guardM (decide (0 ≤ j ∧ j ≤ 1000000 ∧ i.natAbs < 2 ^ 64)) (ret (.int (i ^ j.toNat)))
  | _, _, _ => stuckM
def unM : UnaryOp → D → M D
  | .USub, .int i => ret (.int (-i))
  | _, _ => stuckM
def scalD : D → Bool
  | .none | .bool _ | .int _ | .str _ => true
  | _ => false
/-- x == y of data of any depth -/
def eqM (d e : D) : M Bool := guardM (SeqAt.shaped d && SeqAt.shaped e) (ret (PyData.eqv d e))
def memM (d : D) (ds : List D) : M Bool := guardM (SeqAt.shaped d && SeqAt.shaped (.list ds)) (ret (ds.any fun z => PyData.eqv z d))
def memTM (d : D) (ds : List D) : M Bool := guardM (SeqAt.shaped d && SeqAt.shaped (.tuple ds)) (ret (ds.any fun z => PyData.eqv z d))
def notM (m : M Bool) : M Bool := bnd m fun b => ret (!b)
def cmpM : CmpOp → D → D → M Bool
  | .Eq, d, e => eqM d e
  | .NotEq, d, e => notM (eqM d e)
  | .Lt, .int i, .int j => ret (decide (i < j))
  | .LtE, .int i, .int j => ret (decide (i ≤ j))
  | .Gt, .int i, .int j => ret (decide (j < i))
  | .GtE, .int i, .int j => ret (decide (j ≤ i))
  | .Lt, .str i, .str j => ret (decide (i.cps.toList < j.cps.toList))
  | .In, d, .list ds => memM d ds
  | .NotIn, d, .list ds => notM (memM d ds)
  | .In, d, .tuple ds => memTM d ds
  | .NotIn, d, .tuple ds => notM (memTM d ds)
  | .In, .str i, .str j => ret (!(Builtin.Str.occurrences j i 0 j.length 1).isEmpty)
  | .NotIn, .str i, .str j => ret (!(!(Builtin.Str.occurrences j i 0 j.length 1).isEmpty))
  | .Is, d, .none => ret (match d with | .none => true | _ => false)
  | .IsNot, d, .none => ret (!(match d with | .none => true | _ => false))
  | _, _, _ => stuckM
def truthM : D → M Bool
  | .none => ret false
  | .bool b => ret b
  | .int i => ret (i != 0)
  | .str x => guardM (fits x.length) (ret ((x.length : Int) != 0))
  | .list xs => ret (!xs.isEmpty)
  | .tuple xs => ret (!xs.isEmpty)
  | .dict _ => stuckM
def ixM : D → D → M D
  | .list xs, .int i => optM (atI xs i)
  | .tuple xs, .int i => optM (atI xs i)
  | .str x, .int i => guardM (fits x.length) (optM ((atI x.cps.toList i).map fun c => .str ⟨#[c]⟩))
  | _, _ => stuckM
def cutD (xs : List D) (lo hi : Option Int) : List D := (xs.drop (HT.sIx xs.length 0 lo)).take (HT.sIx xs.length xs.length hi - HT.sIx xs.length 0 lo)
def sliceM : D → Option Int → Option Int → M D
  | .list xs, lo, hi => ret (.list (cutD xs lo hi))
  | .tuple xs, lo, hi => ret (.tuple (cutD xs lo hi))
  | _, _, _ => stuckM
def intM : D → M Int
  | .int i => ret i
  | _ => stuckM

/-! ### dicts: keys are ints and texts -/
def kD : Key → D
  | .inl i => .int i
  | .inr x => .str x
def keyV : D → Option Key
  | .int i => some (.inl i)
  | .str x => some (.inr x)
  | _ => none
/-- the value at a key -/
def getK (es : List (D × D)) (k : Key) : Option D := (es.find? fun e => decide (keyV e.1 = some k)).map (·.2)
def putK' (es : List (D × D)) (k : Key) (v : D) : List (D × D) := if (es.any fun e => decide (keyV e.1 = some k)) = true then es.map fun e => if keyV e.1 = some k then (e.1, v) else e else es ++ [(kD k, v)]
def mergeE (es more : List (D × D)) : List (D × D) := more.foldl (fun acc e => match keyV e.1 with | some k => putK' acc k e.2 | none => acc) es
/-! ### built-in functions -/
inductive BI where
  | len | abs | int | all | any | sum | max | min | tuple | list | repr | sorted
def biOf (f : Str) : Option BI := ([("len", .len), ("abs", .abs), ("int", .int), ("all", .all), ("any", .any), ("sum", .sum), ("max", .max), ("min", .min), ("tuple", .tuple), ("list", .list), ("repr", .repr), ("sorted", .sorted)] : List (Str × BI)).lookup f
def boolsOf : List D → Option (List Bool)
  | [] => some []
  | .bool b :: r => (boolsOf r).map (b :: ·)
  | _ :: _ => none
def intsOf : List D → Option (List Int)
  | [] => some []
  | .int i :: r => (intsOf r).map (i :: ·)
  | _ :: _ => none
def maxI : List Int → Option Int
  | [] => none
  | x :: xs => some (xs.foldl (fun a b => if b > a then b else a) x)
def minI : List Int → Option Int
  | [] => none
  | x :: xs => some (xs.foldl (fun a b => if b < a then b else a) x)
def seqOf : D → Option (List D)
  | .list xs => some xs
  | .tuple xs => some xs
  | _ => none
def insI (x : Int) : List Int → List Int
  | [] => [x]
  | y :: ys => if x ≤ y then x :: y :: ys else y :: insI x ys
def sortI : List Int → List Int
  | [] => []
  | x :: xs => insI x (sortI xs)
def biM : BI → List D → M D
  | .len, [.list xs] => ret (.int xs.length)
  | .len, [.tuple xs] => ret (.int xs.length)
  | .len, [.str x] => guardM (fits x.length) (ret (.int x.length))
  | .abs, [.int i] => ret (.int (if i < 0 then -i else i))
  | .int, [.int i] => ret (.int i)
  | .int, [.bool b] => ret (.int (if b then 1 else 0))
  | .all, [.list xs] => bnd (optM (boolsOf xs)) fun bs => ret (.bool (bs.all id))
  | .any, [.list xs] => bnd (optM (boolsOf xs)) fun bs => ret (.bool (bs.any id))
  | .sorted, [.list xs] => bnd (optM (intsOf xs)) fun ns => ret (.list ((sortI ns).map PyData.int))
  | .sum, [.list xs] => bnd (optM (intsOf xs)) fun ns => ret (.int ns.sum)
  | .max, [.list xs] => bnd (optM (intsOf xs)) fun ns => bnd (optM (maxI ns)) fun m => ret (.int m)
  | .min, [.list xs] => bnd (optM (intsOf xs)) fun ns => bnd (optM (minI ns)) fun m => ret (.int m)
  | .max, [.tuple xs] => bnd (optM (intsOf xs)) fun ns => bnd (optM (maxI ns)) fun m => ret (.int m)
  | .min, [.tuple xs] => bnd (optM (intsOf xs)) fun ns => bnd (optM (minI ns)) fun m => ret (.int m)
  | .sorted, [.dict es] => bnd (optM (intsOf (es.map (·.1)))) fun ns => guardM (decide (ns.length < 64)) (ret (.list ((sortI ns).map PyData.int)))
  | .sorted, [.tuple xs] => bnd (optM (intsOf xs)) fun ns => guardM (decide (ns.length < 64)) (ret (.list ((sortI ns).map PyData.int)))
  | .len, [.dict es] => ret (.int es.length)
  | .max, [.int i, .int j] => ret (.int (if j > i then j else i))
  | .min, [.int i, .int j] => ret (.int (if j < i then j else i))
  | .tuple, [.list xs] => ret (.tuple xs)
  | .tuple, [.tuple xs] => ret (.tuple xs)
  | .list, [.list xs] => ret (.list xs)
  | .list, [.tuple xs] => ret (.list xs)
  | .repr, [.list xs] => guardM ((PyData.list xs).showable && !(PyData.list xs).hasDict && decide ((PyData.list xs).depth ≤ 100) && fits (PyData.list xs).shown.length) (ret (.str (PyData.list xs).shown))
  | _, _ => stuckM
def tyName : D → Option String
  | .none => some "NoneType"
  | .bool _ => some "bool"
  | .int _ => some "int"
  | .str _ => some "str"
  | .list _ => some "list"
  | .tuple _ => some "tuple"
  | .dict _ => none
def tyOk (T : Str) : Bool := decide (T = "int") || decide (T = "str") || decide (T = "tuple") || decide (T = "list")
/-- isinstance(d, T) -/
def isT (T : Str) (d : D) : Option Bool :=
  if T = "int" then (tyName d).bind fun t => kitB t "int" else if T = "str" then (tyName d).bind fun t => kitB t "str" else if T = "tuple" then (tyName d).bind fun t => kitB t "tuple" else if T = "list" then (tyName d).bind fun t => kitB t "list" else none
end DI
end
section
set_option linter.all false
set_option maxRecDepth 100000
/-! D2: the evaluator, by fuel. -/
namespace DI
open PySem L2

/-- a def as it is called: how many arguments (behind the state, where it has one), whether its first parameter is the state -/
structure FnI where
  arity : Nat
  st : Bool
  /-- which arguments are lent -/
  lend : List Bool
  sem : List D → M D
structure Ctx where
  N : List Str
  sc : Scope
  con : Str → Option D
  fn : Str → Option FnI
  /-- lambdas may be made here -/
  lam : Bool
  /-- the name that is the state (in the law alone), classes of errors, turns of a while at most -/
  mkst : Option Str
  exc : List Str
  turns : Nat

def ixOf : List Str → Str → Option Nat
  | [], _ => none
  | y :: r, x => if x = y then some 0 else (ixOf r x).map (· + 1)
def badName (x : Str) : Bool := decide (x = "__debug__") || decide (x = "__classdict__") || decide (x = "__name__")
def visB (sc : Scope) (x : Str) : Bool := match sc.names.lookup x with
  | some .local | some .cell | some .free => true
  | _ => false
def locB (sc : Scope) (x : Str) : Bool := match sc.names.lookup x with
  | some .local | some .cell => true
  | _ => false
def globB (sc : Scope) (x : Str) : Bool := match sc.names.lookup x with
  | some .globalImplicit => true
  | _ => false
def slotOf (C : Ctx) (ρ : Env) (x : Str) : Option SV := if badName x = true then none else if visB C.sc x = true then (match ixOf C.N x with
  | some i => (match ρ[i]? with
    | some o => o
    | none => none)
  | none => none) else none
def nameM (C : Ctx) (x : Str) (ρ : Env) : M D := match slotOf C ρ x with
  | some (.sh d) => ret d
  | some _ => stuckM
  | none => guardM (!badName x && globB C.sc x) (optM (C.con x))
/-- read in passing -/
def nameB (C : Ctx) (x : Str) (ρ : Env) : M D := match slotOf C ρ x with
  | some (.sh d) => ret d
  | some (.ow d) => ret d
  | some (.ln d) => ret d
  | some .stt => stuckM
  | none => guardM (!badName x && globB C.sc x) (optM (C.con x))
def constM : Const → M D
  | .none => ret .none
  | .bool b => ret (.bool b)
  | .int i => ret (.int i)
  | .str x => ret (.str x)
  | _ => stuckM
def isStar : Expr → Bool
  | .Starred .. => true
  | _ => false
/-- a global or built-in name that nothing in the def hides -/
def gl (C : Ctx) (x : Str) : Bool := globB C.sc x && !badName x
def bi (C : Ctx) (x : Str) : Bool := gl C x && (C.fn x).isNone && (C.con x).isNone

def relSc (scope sc : Scope) : Scope := relS scope sc
def ownOf (N : List Str) (scope : Scope) : List (Str × Nat) := scope.names.filterMap fun y => match y.2 with
  | .local => (ixOf N y.1).map fun i => (y.1, i)
  | .cell => (ixOf N y.1).map fun i => (y.1, i)
  | _ => none
def ownIx (N : List Str) (scope : Scope) : List Nat := (ownOf N scope).map fun p => p.2
def wipeE (ρ : Env) : List Nat → Env
  | [] => ρ
  | v :: vs => (wipeE ρ vs).set v none
def Ctx.into (C : Ctx) (sc : Scope) : Ctx := { C with sc := sc }
/-- within a lambda -/
def Ctx.lamIn (C : Ctx) (sc : Scope) : Ctx := { C with sc := sc, lam := false }

/-! ### targets -/
def asgName (C : Ctx) (x : Str) (sv : SV) (ρ : Env) : Option Env := if badName x = false ∧ locB C.sc x = true then (ixOf C.N x).map fun i => ρ.set i (some sv) else none
mutual
def asg : Nat → Ctx → Expr → D → Env → Option Env
  | 0, _, _, _, _ => none
  | n + 1, C, e, d, ρ => match e with
    | .Name x _ => asgName C x (.sh d) ρ
    | .Tuple es _ _ => if es.any isStar = true then none else (match d with
      | .tuple ds => if ds.length = es.length then asgs n C es ds ρ else none
      | .list ds => if ds.length = es.length then asgs n C es ds ρ else none
      | _ => none)
    | _ => none
def asgs : Nat → Ctx → List Expr → List D → Env → Option Env
  | 0, _, _, _, _ => none
  | _ + 1, _, [], [], ρ => some ρ
  | n + 1, C, e :: es, d :: ds, ρ => (asg n C e d ρ).bind fun ρ' => asgs n C es ds ρ'
  | _ + 1, _, _, _, _ => none
end

mutual
/-- the slots of a target's names -/
def tgIx : Nat → Ctx → Expr → List Nat
  | 0, _, _ => []
  | n + 1, C, e => match e with
    | .Name x _ => if locB C.sc x = true then (ixOf C.N x).toList else []
    | .Tuple es _ _ => tgIxs n C es
    | _ => []
def tgIxs : Nat → Ctx → List Expr → List Nat
  | 0, _, _ => []
  | _ + 1, _, [] => []
  | n + 1, C, e :: es => tgIx n C e ++ tgIxs n C es
end
/-! ### loops over data -/
def compLM (f : D → M (List D)) : List D → M (List D)
  | [] => ret []
  | x :: xs => bnd (f x) fun ys => bnd (compLM f xs) fun r => ret (ys ++ r)
def enumD (xs : List D) : List D := (List.range xs.length).map fun i => .tuple [.int (i : Nat), xs.getD i .none]
def dispOk (ks : List (Option Expr)) (vs : List Expr) : Bool := ks.all (·.isSome) && decide (ks.length = vs.length) && decide (ks.length ≤ 15)
def setArg : List Expr → Option (Str × Expr)
  | [.Call (.Name g _) [a] [] _] => if isStarE a = true then none else some (g, a)
  | _ => none
where isStarE : Expr → Bool
  | .Starred .. => true
  | _ => false
/-- an ascending row without doubles -/
def dedupI : List Int → List Int
  | x :: y :: r => if x = y then dedupI (y :: r) else x :: dedupI (y :: r)
  | xs => xs
def setI (ns : List Int) : List Int := dedupI (sortI ns)

def compM (f : D → M (Option D)) : List D → M (List D)
  | [] => ret []
  | x :: xs => bnd (f x) fun o => bnd (compM f xs) fun r => ret (match o with
    | some y => y :: r
    | none => r)
inductive Fl where
  | nx | bk | ct | rt (d : D)
def loopM (f : D → Env → M (Fl × Env)) : List D → Env → M (Fl × Env)
  | [], ρ => ret (.nx, ρ)
  | x :: xs, ρ => bnd (f x ρ) fun q => match q.1 with
    | .nx => loopM f xs q.2
    | .ct => loopM f xs q.2
    | .bk => ret (.nx, q.2)
    | .rt d => ret (.rt d, q.2)
def rangeD (i j : Int) : List D := (List.range (j - i).toNat).map fun k => .int (i + (k : Nat))
def rgOk (i j : Int) : Bool := decide (-(2 ^ 62) ≤ i ∧ i < 2 ^ 62 ∧ -(2 ^ 62) ≤ j ∧ j < 2 ^ 62)
def zipD (xs ys : List D) : List D := (xs.zip ys).map fun p => .tuple [p.1, p.2]

/-! ### told -/
def kindOfErr (c : Str) : Option Str := ([("NotAllowed", "refused"), ("TooLarge", "large"), ("Missing", "missing"), ("BadForm", "form"), ("Broken", "broken")] : List (Str × Str)).lookup c
def toldM (m : M D) : M D := fun st => match m st with
  | .ok d st' => .ok (.tuple [.str "told", d]) st'
  | .err e st' => (match kindOfErr e.cls with
    | some k => .ok (.tuple [.str k]) st'
    | none => .stuck)
  | .stuck => .stuck
/-- a def that has no state is run with none -/
def purely {α : Type} (m : M α) : M α := fun st => match m [] with
  | .ok a _ => .ok a st
  | .err e _ => .err e st
  | .stuck => .stuck
/-- a lambda without parameters, or with one that has a written number as its default -/
def lamNames (sc scope : Scope) (ps : List Str) : Bool :=
  decide (scope.kind = .function) && !scope.isCoroutine && !scope.isGenerator && (scope.names.all fun y => match y.2 with
    | .local => decide (y.1 ∈ ps)
    | .cell => false
    | .free => decide (y.1 ∉ ps) && (match sc.names.lookup y.1 with | some .cell => true | some .free => true | _ => false)
    | _ => decide (y.1 ∉ ps)) && (ps.all fun p => decide (scope.names.lookup p = some .local))
def lamOk (C : Ctx) (a : Arguments) (scope : Scope) : Bool := match a with
  | ⟨[], [], none, [], [], none, []⟩ => lamNames C.sc scope []
  | ⟨[], [⟨p, none, _⟩], none, [], [], none, [.Constant (.int _) _ _]⟩ => lamNames C.sc scope [p]
  | _ => false
def isSetE : Expr → Bool
  | .Set .. => true
  | _ => false
def isTup : Expr → Bool
  | .Tuple .. => true
  | _ => false
def isStt : Option SV → Bool
  | some .stt => true
  | _ => false
def stCell (C : Ctx) (e : Expr) (ρ : Env) : Bool := match e with
  | .Name x _ => isStt (slotOf C ρ x)
  | _ => false

mutual
def evE : Nat → Ctx → Expr → Env → M D
  | 0, _, _, _ => stuckM
  | n + 1, C, e, ρ => match e with
    | .Constant c _ _ => constM c
    | .Name x _ => nameM C x ρ
    | .BinOp a op b _ => bnd (evB n C a ρ) fun x => bnd (evB n C b ρ) fun y => binM op x y
    | .UnaryOp .Not a _ => bnd (evB n C a ρ) fun x => bnd (truthM x) fun b => ret (.bool (!b))
    | .UnaryOp op a _ => bnd (evB n C a ρ) fun x => unM op x
    | .BoolOp op vs _ => evBool n C op vs ρ
    | .Compare a [op] [b] _ => guardM (!isSetE b) (bnd (evB n C a ρ) fun x => bnd (evB n C b ρ) fun y => bnd (cmpM op x y) fun c => ret (.bool c))
    | .Compare a [op, op'] [b, c] _ => guardM (!isSetE c) (bnd (evB n C a ρ) fun x => bnd (evB n C b ρ) fun y => bnd (cmpM op x y) fun k =>
        if k = true then bnd (evB n C c ρ) fun z => bnd (cmpM op' y z) fun k' => ret (.bool k') else ret (.bool false))
    | .IfExp t a b _ => bnd (evT n C t ρ) fun c => if c = true then evE n C a ρ else evE n C b ρ
    | .Tuple es _ _ => bnd (evEs n C es ρ) fun ds => guardM (fits ds.length) (ret (.tuple ds))
    | .Subscript a (.Slice lo hi none _) _ => bnd (evB n C a ρ) fun x => bnd (evO n C lo ρ) fun l => bnd (evO n C hi ρ) fun h => sliceM x l h
    | .Subscript a i _ => (match stCell C a ρ with
      | true => bnd (evE n C i ρ) fun y => fun st => ixM (.list st) y st
      | false => bnd (evB n C a ρ) fun x => bnd (evE n C i ρ) fun y => ixM x y)
    | .Call (.Name f _) args [] _ => evCall n C f args ρ
    | e => evF n C e ρ
/-- a new list, a new dict -/
def evF : Nat → Ctx → Expr → Env → M D
  | 0, _, _, _ => stuckM
  | n + 1, C, e, ρ => match e with
    | .List es _ => bnd (evEs n C es ρ) fun ds => guardM (fits ds.length) (ret (.list ds))
    | .Dict [] [] _ => ret (.dict [])
    | .Dict (k :: ks) vs _ => guardM (dispOk (k :: ks) vs) (bnd (evPs n C (k :: ks) vs ρ) fun es => guardM (decide (es.length ≤ 15)) (ret (.dict (mergeE [] es))))
    | .ListComp elt [⟨tg, iter, ifs, 0⟩] scope _ => guardM (blkC C.N C.sc scope (ownOf C.N scope) && !isSetE iter) (bnd (evI n C true (isTup tg) iter ρ) fun xs =>
        guardM (fits xs.length) (bnd (compM (fun x st => (match asg n (C.into scope) tg x (wipeE ρ (ownIx C.N scope)) with
          | some ρ' => (bnd (evIfs n (C.into (relSc scope C.sc)) ifs ρ') fun b => if b = true then bnd (evE n (C.into (relSc scope C.sc)) elt ρ') fun y => ret (some y) else ret none) st
          | none => R.stuck).noErr) xs) fun ds => ret (.list ds)))
    | .ListComp elt [⟨tg, iter, ifs, 0⟩, ⟨tg1, iter1, ifs1, 0⟩] scope _ => guardM (blkC C.N C.sc scope (ownOf C.N scope) && !isSetE iter && !isSetE iter1) (bnd (evI n C true (isTup tg) iter ρ) fun xs =>
        bnd (compLM (fun x st => (match asg n (C.into scope) tg x (wipeE ρ (ownIx C.N scope)) with
          | some ρ' => (bnd (evIfs n (C.into (relSc scope C.sc)) ifs ρ') fun b => if b = true then bnd (evI n (C.into (relSc scope C.sc)) false (isTup tg1) iter1 ρ') fun ys =>
              compM (fun y st => (match asg n (C.into scope) tg1 y (wipeE ρ' (tgIx n (C.into scope) tg1)) with
                | some ρ2 => (bnd (evIfs n (C.into (relSc scope C.sc)) ifs1 ρ2) fun b => if b = true then bnd (evE n (C.into (relSc scope C.sc)) elt ρ2) fun y => ret (some y) else ret none) st
                | none => R.stuck).noErr) ys else ret []) st
          | none => R.stuck).noErr) xs) fun ds => guardM (fits ds.length) (ret (.list ds)))
    | .BinOp a op b _ => bnd (evB n C a ρ) fun x => bnd (evB n C b ρ) fun y => bnd (binM op x y) fun d => (match d with
      | .list ds => ret (.list ds)
      | _ => stuckM)
    | _ => stuckM
def evIfs : Nat → Ctx → List Expr → Env → M Bool
  | 0, _, _, _ => stuckM
  | _ + 1, _, [], _ => ret true
  | n + 1, C, [c], ρ => evT n C c ρ
  | _ + 1, _, _, _ => stuckM
/-- read in passing: an owned list may be looked at -/
def evB : Nat → Ctx → Expr → Env → M D
  | 0, _, _, _ => stuckM
  | n + 1, C, e, ρ => match e with
    | .Name x _ => nameB C x ρ
    | e => evE n C e ρ
def evEs : Nat → Ctx → List Expr → Env → M (List D)
  | 0, _, _, _ => stuckM
  | _ + 1, _, [], _ => ret []
  | n + 1, C, e :: es, ρ => match e with
    | .Starred a _ => bnd (evB n C a ρ) fun d => bnd (optM (seqOf d)) fun xs => bnd (evEs n C es ρ) fun ds => ret (xs ++ ds)
    | e => bnd (evE n C e ρ) fun d => bnd (evEs n C es ρ) fun ds => ret (d :: ds)
/-- the pairs of a display -/
def evPs : Nat → Ctx → List (Option Expr) → List Expr → Env → M (List (D × D))
  | 0, _, _, _, _ => stuckM
  | _ + 1, _, [], [], _ => ret []
  | n + 1, C, some e :: ks, v :: vs, ρ => bnd (evE n C e ρ) fun x => bnd (optM (keyV x)) fun k => bnd (evE n C v ρ) fun d => bnd (evPs n C ks vs ρ) fun r => ret ((kD k, d) :: r)
  | _ + 1, _, _, _, _ => stuckM
def evBs : Nat → Ctx → List Expr → Env → M (List D)
  | 0, _, _, _ => stuckM
  | _ + 1, _, [], _ => ret []
  | n + 1, C, e :: es, ρ => guardM (!isStar e) (bnd (evB n C e ρ) fun d => bnd (evBs n C es ρ) fun ds => ret (d :: ds))
/-- arguments, some lent -/
def evLs : Nat → Ctx → List Bool → List Expr → Env → M (List D)
  | 0, _, _, _, _ => stuckM
  | _ + 1, _, _, [], _ => ret []
  | n + 1, C, true :: fs, e :: es, ρ => bnd (evB n C e ρ) fun d => bnd (evLs n C fs es ρ) fun ds => ret (d :: ds)
  | n + 1, C, false :: fs, e :: es, ρ => bnd (evE n C e ρ) fun d => bnd (evLs n C fs es ρ) fun ds => ret (d :: ds)
  | n + 1, C, [], e :: es, ρ => bnd (evE n C e ρ) fun d => bnd (evLs n C [] es ρ) fun ds => ret (d :: ds)
def evO : Nat → Ctx → Option Expr → Env → M (Option Int)
  | 0, _, _, _ => stuckM
  | _ + 1, _, none, _ => ret none
  | n + 1, C, some e, ρ => bnd (evE n C e ρ) fun d => bnd (intM d) fun i => ret (some i)
/-- x and y, x or y: a value -/
def evBool : Nat → Ctx → BoolOp → List Expr → Env → M D
  | 0, _, _, _, _ => stuckM
  | _ + 1, _, _, [], _ => stuckM
  | n + 1, C, _, [e], ρ => evE n C e ρ
  | n + 1, C, .And, e :: e2 :: r, ρ => bnd (evE n C e ρ) fun d => bnd (truthM d) fun b => if b = true then evBool n C .And (e2 :: r) ρ else ret d
  | n + 1, C, .Or, e :: e2 :: r, ρ => bnd (evE n C e ρ) fun d => bnd (truthM d) fun b => if b = true then ret d else evBool n C .Or (e2 :: r) ρ
/-- a test -/
def evT : Nat → Ctx → Expr → Env → M Bool
  | 0, _, _, _ => stuckM
  | n + 1, C, e, ρ => match e with
    | .UnaryOp .Not a _ => bnd (evT n C a ρ) fun b => ret (!b)
    | .BoolOp op vs _ => evTs n C op vs ρ
    | .IfExp _ _ _ _ => stuckM
    | .Compare a [op] [b] _ => guardM (!isSetE b) (bnd (evB n C a ρ) fun x => bnd (evB n C b ρ) fun y => cmpM op x y)
    | .Compare a [op, op'] [b, c] _ => guardM (!isSetE c) (bnd (evB n C a ρ) fun x => bnd (evB n C b ρ) fun y => bnd (cmpM op x y) fun k =>
        if k = true then bnd (evB n C c ρ) fun z => cmpM op' y z else ret false)
    | .Compare _ _ _ _ => stuckM
    | e => bnd (evB n C e ρ) fun d => truthM d
def evTs : Nat → Ctx → BoolOp → List Expr → Env → M Bool
  | 0, _, _, _, _ => stuckM
  | _ + 1, _, _, [], _ => stuckM
  | n + 1, C, _, [e], ρ => evT n C e ρ
  | n + 1, C, .And, e :: e2 :: r, ρ => bnd (evT n C e ρ) fun b => if b = true then evTs n C .And (e2 :: r) ρ else ret false
  | n + 1, C, .Or, e :: e2 :: r, ρ => bnd (evT n C e ρ) fun b => if b = true then ret true else evTs n C .Or (e2 :: r) ρ
/-- what a loop walks (br: an owned list may be looked at; tp: the target is a display) -/
def evI : Nat → Ctx → Bool → Bool → Expr → Env → M (List D)
  | 0, _, _, _, _, _ => stuckM
  | n + 1, C, br, tp, e, ρ => match e with
    | .Call (.Name f _) [a] [] _ => if bi C f = true ∧ f = "range" then guardM (!isStar a) (bnd (evE n C a ρ) fun x => bnd (intM x) fun j => guardM (rgOk 0 j) (ret (rangeD 0 j)))
        else if bi C f = true ∧ f = "enumerate" then guardM (tp && !isStar a) (bnd (evW n C br a ρ) fun d => bnd (optM (seqOf d)) fun xs => ret (enumD xs))
        else bnd (evW n C br e ρ) fun d => optM (seqOf d)
    | .Call (.Name f _) [a, b] [] _ => if bi C f = true ∧ f = "range" then guardM (!isStar a && !isStar b) (bnd (evE n C a ρ) fun x => bnd (evE n C b ρ) fun y => bnd (intM x) fun i => bnd (intM y) fun j => guardM (rgOk i j) (ret (rangeD i j)))
        else if bi C f = true ∧ f = "zip" then guardM (tp && !isStar a && !isStar b) (bnd (evW n C br a ρ) fun x => bnd (evW n C br b ρ) fun y => bnd (optM (seqOf x)) fun xs => bnd (optM (seqOf y)) fun ys => ret (zipD xs ys))
        else bnd (evW n C br e ρ) fun d => optM (seqOf d)
    | e => bnd (evW n C br e ρ) fun d => optM (seqOf d)
def evW : Nat → Ctx → Bool → Expr → Env → M D
  | 0, _, _, _, _ => stuckM
  | n + 1, C, true, e, ρ => evB n C e ρ
  | n + 1, C, false, e, ρ => evE n C e ρ
def evCall : Nat → Ctx → Str → List Expr → Env → M D
  | 0, _, _, _, _ => stuckM
  | n + 1, C, f, args, ρ => guardM (gl C f && !args.any isStar) (match C.fn f with
    | some fi => (match fi.st, args with
      | false, args => bnd (evLs n C fi.lend args ρ) fun ds => guardM (decide (ds.length = fi.arity)) (purely (fi.sem ds))
      | true, .Name s _ :: args => guardM (isStt (slotOf C ρ s)) (bnd (evLs n C fi.lend args ρ) fun ds => guardM (decide (ds.length = fi.arity)) (fi.sem ds))
      | true, _ => stuckM)
    | none => guardM (C.con f).isNone (if f = "_law_told" then (match args with
        | [.Lambda a body scope _] => guardM (C.lam && lamOk C a scope) (toldM (evE n (C.lamIn scope) body (wipeE ρ (ownIx C.N scope))))
        | _ => stuckM)
      else if f = "isinstance" then (match args with
        | [e, .Name T _] => guardM (bi C T && !isStar e && tyOk T) (bnd (evB n C e ρ) fun d => bnd (optM (isT T d)) fun b => ret (.bool b))
        | _ => stuckM)
      else (match setArg args with
        | some (g, a) => if bi C g = true ∧ g = "set" ∧ (f = "sorted" ∨ f = "len") then bnd (evB n C a ρ) fun d => bnd (optM (seqOf d)) fun xs => bnd (optM (intsOf xs)) fun ns => guardM (decide (ns.length < 63)) (if f = "sorted" then ret (.list ((setI ns).map PyData.int)) else ret (.int (setI ns).length))
            else evBi n C f args ρ
        | none => evBi n C f args ρ)))
def evBi : Nat → Ctx → Str → List Expr → Env → M D
  | 0, _, _, _, _ => stuckM
  | n + 1, C, f, args, ρ => (match biOf f, args with
        | some b, e :: es => bnd (evBs n C (e :: es) ρ) fun ds => biM b ds
        | _, _ => stuckM)
end
end DI
end
section
set_option linter.all false
set_option maxRecDepth 100000
/-! D3: statements, defs, the run of a call by depth. -/
namespace DI
open PySem L2

/-! names of owned lists that leave by an expression (what is told here only helps; nothing rests on it) -/
/-- which arguments of a def are lent -/
def lnd (C : Ctx) (f : Str) : List Bool := match C.fn f with
  | some fi => (if fi.st = true then false :: fi.lend else fi.lend)
  | none => []
mutual
def esc (L : Str → List Bool) : Nat → Expr → List Str
  | 0, _ => []
  | n + 1, e => match e with
    | .Name x _ => [x]
    | .BinOp a _ b _ => escB L n a ++ escB L n b
    | .UnaryOp _ a _ => escB L n a
    | .BoolOp _ vs _ => escs L n vs
    | .Compare a _ bs _ => escB L n a ++ escBs L n bs
    | .IfExp t a b _ => escB L n t ++ esc L n a ++ esc L n b
    | .Tuple es _ _ => escs L n es
    | .List es _ => escs L n es
    | .Subscript a i _ => escB L n a ++ esc L n i
    | .ListComp elt gs _ _ => esc L n elt ++ escG L n gs
    | .Starred a _ => escB L n a
    | .Dict ks vs _ => escs L n (ks.filterMap id) ++ escs L n vs
    | .Lambda _ b _ _ => esc L n b
    | .Call (.Name f _) args _ _ => if (biOf f).isSome = true ∨ f = "isinstance" ∨ f = "zip" ∨ f = "enumerate" ∨ f = "set" then escBs L n args else escLs L n (L f) args
    | _ => []
def escB (L : Str → List Bool) : Nat → Expr → List Str
  | 0, _ => []
  | n + 1, e => match e with
    | .Name _ _ => []
    | e => esc L n e
def escs (L : Str → List Bool) : Nat → List Expr → List Str
  | 0, _ => []
  | _ + 1, [] => []
  | n + 1, e :: es => esc L n e ++ escs L n es
def escLs (L : Str → List Bool) : Nat → List Bool → List Expr → List Str
  | 0, _, _ => []
  | _ + 1, _, [] => []
  | n + 1, true :: fs, e :: es => escB L n e ++ escLs L n fs es
  | n + 1, false :: fs, e :: es => esc L n e ++ escLs L n fs es
  | n + 1, [], e :: es => esc L n e ++ escLs L n [] es
def escBs (L : Str → List Bool) : Nat → List Expr → List Str
  | 0, _ => []
  | _ + 1, [] => []
  | n + 1, e :: es => escB L n e ++ escBs L n es
def escG (L : Str → List Bool) : Nat → List Comprehension → List Str
  | 0, _ => []
  | _ + 1, [] => []
  | n + 1, ⟨_, i, fs, _⟩ :: r => escB L n i ++ escs L n fs ++ escG L n r
end
def shareV : SV → SV
  | .ow d => .sh d
  | sv => sv
def shareAt (ρ : Env) (i : Nat) : Env := match ρ[i]? with
  | some (some sv) => ρ.set i (some (shareV sv))
  | _ => ρ
def share (C : Ctx) : List Str → Env → Env
  | [], ρ => ρ
  | x :: xs, ρ => share C xs (match ixOf C.N x with
    | some i => shareAt ρ i
    | none => ρ)

def isFresh : Expr → Bool
  | .List .. => true
  | .ListComp .. => true
  | .Dict .. => true
  | .BinOp a op b _ => (match a, b with
    | .List .., _ => true
    | _, .List .. => true
    | .ListComp .., _ => true
    | _, .ListComp .. => true
    | _, _ => false)
  | _ => false
def isComp : Expr → Bool
  | .ListComp .. | .SetComp .. | .DictComp .. | .GeneratorExp .. => true
  | _ => false
def setD (ds : List D) (i : D) (d : D) : Option (List D) := match i with
  | .int k => (ixN ds.length k).map fun j => ds.set j d
  | _ => none
def escsAll (C : Ctx) (e : Expr) : List Str := match e with
  | .Call (.Name f _) args _ _ => (args.zip (lnd C f ++ List.replicate args.length false)).filterMap fun p => (match p with
    | (.Name x _, false) => some x
    | _ => none)
  | _ => []
def isSl : Expr → Bool
  | .Slice _ _ _ _ => true
  | _ => false
def nmOk (C : Ctx) (x : Str) : Bool := !badName x && locB C.sc x && (ixOf C.N x).isSome
def whileM (t : Env → M (Bool × Env)) (b : Env → M (Fl × Env)) : Nat → Env → M (Fl × Env)
  | 0, _ => stuckM
  | k + 1, ρ => bnd (t ρ) fun c => if c.1 = true then bnd (b c.2) fun q => (match q.1 with
      | .nx => whileM t b k q.2
      | .ct => whileM t b k q.2
      | .bk => ret (.nx, q.2)
      | .rt d => ret (.rt d, q.2)) else ret (.nx, c.2)
def evV (n : Nat) (C : Ctx) (e : Expr) (ρ : Env) : M SV := if isFresh e = true then bnd (evF n C e ρ) fun d => ret (.ow d) else bnd (evE n C e ρ) fun d => ret (.sh d)
/-- an owned object is rewritten -/
def setO (o i d : D) : Option D := match o with
  | .list ds => (setD ds i d).map .list
  | .dict es => (keyV i).bind fun k => if es.length < sizeLine then some (.dict (putK' es k d)) else none
  | _ => none
/-- several values: the last new one is owned -/
def evPar (n : Nat) (C : Ctx) : List Expr → Env → M (List SV)
  | [], _ => ret []
  | e :: es, ρ => guardM (!(e :: es).any isStar) (if (isFresh e && !es.any isFresh) = true then bnd (evF n C e ρ) fun d => bnd (evEs n C es ρ) fun ds => ret (.ow d :: ds.map .sh)
      else bnd (evE n C e ρ) fun d => bnd (evPar n C es ρ) fun svs => ret (.sh d :: svs))
/-- plain local names, all unlike -/
def parNames (C : Ctx) : List Expr → Option (List Nat)
  | [] => some []
  | .Name x _ :: r => if (badName x = false ∧ C.sc.names.lookup x = some .local) then (ixOf C.N x).bind fun i => (parNames C r).bind fun is => if i ∈ is then none else some (i :: is) else none
  | _ => none
def parOk (C : Ctx) (ts es : List Expr) : Bool := decide (C.sc.kind = .function) && (decide (ts.length = es.length) && ((decide (ts.length = 2) || decide (ts.length = 3)) && (!es.any isStar && (ts.all (fun t => decide (t.pos.line = (ts.head?.map (·.pos.line)).getD 0)) && (!es.all (foldedForSure 8) && !es.all (constantsAlone 8))))))
def setAll : Env → List Nat → List SV → Env
  | ρ, i :: is, sv :: svs => setAll (ρ.set i (some sv)) is svs
  | ρ, _, _ => ρ

mutual
def evS : Nat → Ctx → Stmt → Env → M (Fl × Env)
  | 0, _, _, _ => stuckM
  | n + 1, C, s, ρ => match s with
    | .Pass _ => ret (.nx, ρ)
    | .Break _ => ret (.bk, ρ)
    | .Continue _ => ret (.ct, ρ)
    | .Return none _ => ret (.rt .none, ρ)
    | .Return (some e) _ => let ρ := share C (esc (lnd C) n e) ρ
        bnd (evE n C e ρ) fun d => ret (.rt d, ρ)
    | .Raise (some (.Call (.Name c _) [.Constant (.str _) _ _] [] _)) none _ => guardM (gl C c && decide (c ∈ C.exc)) (throwM ⟨c⟩)
    | .Expr (.Constant (.str _) _ _) _ => ret (.nx, ρ)
    | .Expr (.Call (.Attribute (.Name x _) m ap) [a] [] cp) _ =>
        let ρ := share C (esc (lnd C) n a) ρ
        (match slotOf C ρ x, ixOf C.N x with
        | some (.ow (.list ds)), some i => guardM (decide (m = "append") && !isStar a && visB C.sc x && (ap.endLine == cp.line)) (bnd (evE n C a ρ) fun d => guardM (fits (ds.length + 1)) (ret (.nx, ρ.set i (some (.ow (.list (ds ++ [d])))))))
        | _, _ => stuckM)
    | .Expr e _ => let ρ := share C (esc (lnd C) n e) ρ
        guardM (!isComp e) (bnd (evE n C e ρ) fun _ => ret (.nx, ρ))
    | .Assign [.Name x _] e _ => let ρ := share C (esc (lnd C) n e) ρ
        guardM (nmOk C x) (if C.mkst = some x then (match e with
          | .List es _ => fun st => (match st with
            | [] => (bnd (evEs n C es ρ) fun ds => guardM (fits ds.length && !ds.isEmpty) fun _ => (match asgName C x .stt ρ with
              | some ρ' => R.ok (Fl.nx, ρ') ds
              | none => R.stuck)) []
            | _ => R.stuck)
          | _ => stuckM)
        else bnd (evV n C e ρ) fun sv => bnd (optM (asgName C x sv ρ)) fun ρ' => ret (.nx, ρ'))
    | .Assign [.Subscript (.Name x _) i _] e _ => let ρ := share C (esc (lnd C) n e ++ esc (lnd C) n i) ρ
        guardM (!isSl i) <| bnd (evE n C e ρ) fun d => (match slotOf C ρ x, ixOf C.N x with
        | some (.ow o), some k => bnd (evE n C i ρ) fun j => bnd (optM (setO o j d)) fun o' => ret (.nx, ρ.set k (some (.ow o')))
        | some .stt, _ => bnd (evE n C i ρ) fun j => fun st => (match setD st j d with
          | some st' => R.ok (Fl.nx, ρ) st'
          | none => R.stuck)
        | _, _ => stuckM)
    | .Assign [.Tuple ts jt pt] (.Tuple es je pe) _ => if (decide (ts.length ≠ 1) && es.all (foldedForSure 8)) = true then (bnd (evE n C (.Tuple es je pe) ρ) fun d => bnd (optM (asg n C (.Tuple ts jt pt) d ρ)) fun ρ' => ret (.nx, ρ')) else let ρ := share C (escs (lnd C) n es) ρ
        guardM (parOk C ts es) (bnd (optM (parNames C ts)) fun is => bnd (evPar n C es ρ) fun svs => ret (.nx, setAll ρ is svs))
    | .Assign [tg] e _ => let ρ := share C (esc (lnd C) n e) ρ
        guardM (match tg, e with
          | .Tuple .., .Tuple .. => false
          | .Tuple .., _ => true
          | _, _ => false) (bnd (evE n C e ρ) fun d => bnd (optM (asg n C tg d ρ)) fun ρ' => ret (.nx, ρ'))
    | .If t a b _ => let ρ := share C (escB (lnd C) n t) ρ
        bnd (evT n C t ρ) fun c => if c = true then evSs n C a ρ else evSs n C b ρ
    | .For tg iter body [] _ => let ρ := share C (esc (lnd C) n iter ++ escsAll C iter) ρ
        guardM (!isSetE iter) <| bnd (evI n C false (isTup tg) iter ρ) fun xs => loopM (fun x ρ => bnd (optM (asg n C tg x ρ)) fun ρ' => evSs n C body ρ') xs ρ
    | .While t body [] _ => whileM (fun ρ => let ρ := share C (escB (lnd C) n t) ρ
        bnd (evT n C t ρ) fun c => ret (c, ρ)) (fun ρ => evSs n C body ρ) C.turns ρ
    | _ => stuckM
def evSs : Nat → Ctx → List Stmt → Env → M (Fl × Env)
  | 0, _, _, _ => stuckM
  | _ + 1, _, [], ρ => ret (.nx, ρ)
  | n + 1, C, s :: r, ρ => bnd (evS n C s ρ) fun q => (match q.1 with
    | .nx => evSs n C r q.2
    | f => ret (f, q.2))
end
end DI
end
section
set_option linter.all false
set_option autoImplicit false
set_option maxRecDepth 100000
/-! D4: how plain data lie in the heap; worlds; what is wanted behind a computation. -/
namespace DI
open PySem L2

open Classical in
/-- the heap without what is hidden -/
noncomputable def hide (Hid : Addr → Prop) (H : Hp) : Hp := fun a => if Hid a then none else H a
theorem hide_in {Hid : Addr → Prop} {H : Hp} {a : Addr} {o : HO} (h : hide Hid H a = some o) : H a = some o ∧ ¬ Hid a := by
  unfold hide at h
  split at h
  · cases h
  · exact ⟨h, by assumption⟩
theorem in_hide {Hid : Addr → Prop} {H : Hp} {a : Addr} {o : HO} (h : H a = some o) (n : ¬ Hid a) : hide Hid H a = some o := by
  unfold hide
  rw [if_neg n]
  exact h
/-- kept, tables aside -/
def Kp (H H' : Hp) : Prop := ∀ b o, H b = some o → (∀ ps, o ≠ .tbl ps) → H' b = some o
theorem Kp.rfl' {H : Hp} : Kp H H := fun _ _ h _ => h
theorem Kp.tr {H H1 H2 : Hp} (a : Kp H H1) (b : Kp H1 H2) : Kp H H2 := fun c o h n => b c o (a c o h n) n
theorem Kp.of {H H' : Hp} (h : ∀ b o, H b = some o → H' b = some o) : Kp H H' := fun b o e _ => h b o e
theorem kp_hide {Hid : Addr → Prop} {H : Hp} : Kp (hide Hid H) H := fun _ _ h _ => (hide_in h).1
mutual
/-- the value v in the heap H is the datum d -/
inductive Rp (K : PySem.W.Frag) (H : Hp) : V → PyData → Prop
  | non : Rp K H .non .none
  | bl (b : Bool) : Rp K H (.bl b) (.bool b)
  | int (i : Int) : Rp K H (.int i) (.int i)
  | str (x : Str) : Rp K H (.str x) (.str x)
  | lst {a : Addr} {xs : List V} {ds : List PyData} : Rd H a (.lst xs) → RpAll K H xs ds → Rp K H (.ref a) (.list ds)
  | tup {a : Addr} {xs : List V} {ds : List PyData} : SqT K H a xs → RpAll K H xs ds → Rp K H (.ref a) (.tuple ds)
  | dic {a : Addr} {kvs : List (Key × V)} {es : List (PyData × PyData)} : Rd H a (.dK kvs) → RpKs K H kvs es → Rp K H (.ref a) (.dict es)
inductive RpAll (K : PySem.W.Frag) (H : Hp) : List V → List PyData → Prop
  | nil : RpAll K H [] []
  | cons {v : V} {vs : List V} {d : PyData} {ds : List PyData} : Rp K H v d → RpAll K H vs ds → RpAll K H (v :: vs) (d :: ds)
inductive RpKs (K : PySem.W.Frag) (H : Hp) : List (Key × V) → List (PyData × PyData) → Prop
  | nil : RpKs K H [] []
  | cons {k : Key} {v : V} {kvs : List (Key × V)} {d : PyData} {es : List (PyData × PyData)} : Rp K H v d → RpKs K H kvs es → RpKs K H ((k, v) :: kvs) ((kD k, d) :: es)
end
/-- an object holds a list's or a dict's data -/
inductive RpO (K : PySem.W.Frag) (H : Hp) : HO → PyData → Prop
  | lst {vs : List V} {ds : List PyData} : RpAll K H vs ds → RpO K H (.lst vs) (.list ds)
  | dK {kvs : List (Key × V)} {es : List (PyData × PyData)} : RpKs K H kvs es → RpO K H (.dK kvs) (.dict es)
theorem RpO.rp {K : PySem.W.Frag} {H : Hp} {a : Addr} {o : HO} {d : PyData} (r : RpO K H o d) (h : Rd H a o) : Rp K H (.ref a) d := by
  cases r with
  | lst r => exact .lst h r
  | dK r => exact .dic h r
theorem RpO.notbl {K : PySem.W.Frag} {H : Hp} {o : HO} {d : PyData} (r : RpO K H o d) : (∀ ps, o ≠ .tbl ps) ∧ (∀ c q, o ≠ LamX.CodeO c q) := by
  cases r with
  | lst _ => exact ⟨fun _ z => (by cases z), fun _ _ z => (by cases z)⟩
  | dK _ => exact ⟨fun _ z => (by cases z), fun _ _ z => (by cases z)⟩
section
variable {K : PySem.W.Frag} {H H' : Hp}
mutual
theorem Rp.dp : ∀ {v : V} {d : PyData}, Rp K H v d → d.hasDict = false → Dp K H v d
  | _, _, .non, _ => .non
  | _, _, .bl _, _ => .bl _
  | _, _, .int _, _ => .int _
  | _, _, .str _, _ => .str _
  | _, _, .lst hs ha, n => .lst (.inl hs) (Rp.dps ha (by simpa [PyData.hasDict] using n))
  | _, _, .tup hs ha, n => .tup hs (Rp.dps ha (by simpa [PyData.hasDict] using n))
  | _, _, .dic _ _, n => by simp [PyData.hasDict] at n
theorem Rp.dps : ∀ {vs : List V} {ds : List PyData}, RpAll K H vs ds → PyData.hasDictAll ds = false → DpAll K H vs ds
  | _, _, .nil, _ => .nil
  | _, _, .cons h1 h2, n => by
    simp only [PyData.hasDictAll, Bool.or_eq_false_iff] at n
    exact .cons (Rp.dp h1 n.1) (Rp.dps h2 n.2)
end
theorem Kp.rd (k : Kp H H') {a : Addr} {xs : List V} (h : Rd H a (.lst xs)) : Rd H' a (.lst xs) := by
  rcases h with h | ⟨o, h⟩
  · exact .inl (k _ _ h (by intro ps z; cases z))
  · exact .inr ⟨o, k _ _ h (by intro ps z; cases z)⟩
theorem Kp.sqL (k : Kp H H') {a : Addr} {xs : List V} (h : SqL K H a xs) : SqL K H' a xs := by
  rcases h with (h | ⟨o, h⟩) | h
  · exact .inl (.inl (k _ _ h (by intro ps z; cases z)))
  · exact .inl (.inr ⟨o, k _ _ h (by intro ps z; cases z)⟩)
  · exact .inr h
theorem Kp.sqT (k : Kp H H') {a : Addr} {xs : List V} (h : SqT K H a xs) : SqT K H' a xs := by
  rcases h with (h | ⟨o, h⟩) | h
  · exact .inl (.inl (k _ _ h (by intro ps z; cases z)))
  · exact .inl (.inr ⟨o, k _ _ h (by intro ps z; cases z)⟩)
  · exact .inr h
theorem Kp.rdO (k : Kp H H') {a : Addr} {o : HO} (n : ∀ ps, o ≠ .tbl ps) (h : Rd H a o) : Rd H' a o := by
  rcases h with h | ⟨o', h⟩
  · exact .inl (k _ _ h n)
  · exact .inr ⟨o', k _ _ h (by intro ps z; cases z)⟩
mutual
theorem Kp.rp (k : Kp H H') : ∀ {v : V} {d : PyData}, Rp K H v d → Rp K H' v d
  | _, _, .non => .non
  | _, _, .bl _ => .bl _
  | _, _, .int _ => .int _
  | _, _, .str _ => .str _
  | _, _, .lst hs ha => .lst (k.rd hs) (Kp.rps k ha)
  | _, _, .tup hs ha => .tup (k.sqT hs) (Kp.rps k ha)
  | _, _, .dic hs ha => .dic (k.rdO (fun _ z => by cases z) hs) (Kp.rpk k ha)
theorem Kp.rps (k : Kp H H') : ∀ {vs : List V} {ds : List PyData}, RpAll K H vs ds → RpAll K H' vs ds
  | _, _, .nil => .nil
  | _, _, .cons h1 h2 => .cons (Kp.rp k h1) (Kp.rps k h2)
theorem Kp.rpk (k : Kp H H') : ∀ {vs : List (Key × V)} {ds : List (PyData × PyData)}, RpKs K H vs ds → RpKs K H' vs ds
  | _, _, .nil => .nil
  | _, _, .cons h1 h2 => .cons (Kp.rp k h1) (Kp.rpk k h2)
end
theorem Kp.dp (k : Kp H H') (d : PyData) (v : V) (h : Rp K H v d) : Rp K H' v d := k.rp h
theorem Kp.dps (k : Kp H H') (ds : List PyData) (vs : List V) (h : RpAll K H vs ds) : RpAll K H' vs ds := k.rps h
theorem Kp.rpo (k : Kp H H') {o : HO} {d : PyData} (h : RpO K H o d) : RpO K H' o d := by
  cases h with
  | lst r => exact .lst (k.rps r)
  | dK r => exact .dK (k.rpk r)
end
theorem RpAll.len {K : PySem.W.Frag} {H : Hp} : ∀ {ds : List PyData} {vs : List V}, RpAll K H vs ds → vs.length = ds.length
  | [], _, h => by cases h; rfl
  | d :: ds, _, h => by
    cases h with
    | cons h1 h2 => simp [RpAll.len h2]
theorem RpAll.at_ {K : PySem.W.Frag} {H : Hp} : ∀ {ds : List PyData} {vs : List V} {i : Nat} {d : PyData}, RpAll K H vs ds → ds[i]? = some d → ∃ v, vs[i]? = some v ∧ Rp K H v d
  | [], _, _, _, _, e => by simp at e
  | d :: ds, _, i, d', h, e => by
    cases h with
    | cons h1 h2 =>
      cases i with
      | zero => simp at e; subst e; exact ⟨_, rfl, h1⟩
      | succ i =>
        obtain ⟨v, a, b⟩ := RpAll.at_ (i := i) h2 (by simpa using e)
        exact ⟨v, by simpa using a, b⟩
theorem RpAll.app {K : PySem.W.Frag} {H : Hp} : ∀ {ds es : List PyData} {vs us : List V}, RpAll K H vs ds → RpAll K H us es → RpAll K H (vs ++ us) (ds ++ es)
  | [], _, _, _, h, g => by cases h; exact g
  | d :: ds, _, _, _, h, g => by
    cases h with
    | cons h1 h2 => exact .cons h1 (RpAll.app h2 g)
theorem RpAll.drop {K : PySem.W.Frag} {H : Hp} : ∀ {ds : List PyData} {vs : List V} (n : Nat), RpAll K H vs ds → RpAll K H (vs.drop n) (ds.drop n)
  | _, _, 0, h => by simpa using h
  | [], _, n + 1, h => by cases h; simpa using RpAll.nil
  | d :: ds, _, n + 1, h => by
    cases h with
    | cons h1 h2 => simpa using RpAll.drop n h2
theorem RpAll.take {K : PySem.W.Frag} {H : Hp} : ∀ {ds : List PyData} {vs : List V} (n : Nat), RpAll K H vs ds → RpAll K H (vs.take n) (ds.take n)
  | _, _, 0, h => by simpa using RpAll.nil
  | [], _, n + 1, h => by cases h; simpa using RpAll.nil
  | d :: ds, _, n + 1, h => by
    cases h with
    | cons h1 h2 => simpa using RpAll.cons h1 (RpAll.take n h2)
theorem RpAll.set {K : PySem.W.Frag} {H : Hp} {v : V} {d : PyData} (hv : Rp K H v d) : ∀ {ds : List PyData} {vs : List V} (n : Nat), RpAll K H vs ds → RpAll K H (vs.set n v) (ds.set n d)
  | [], _, n, h => by cases h; simpa using RpAll.nil
  | d :: ds, _, 0, h => by
    cases h with
    | cons h1 h2 => simpa using RpAll.cons hv h2
  | d :: ds, _, n + 1, h => by
    cases h with
    | cons h1 h2 => simpa using RpAll.cons h1 (RpAll.set hv n h2)
theorem RpAll.rep {K : PySem.W.Frag} {H : Hp} {ds : List PyData} {vs : List V} (h : RpAll K H vs ds) : ∀ k : Nat, RpAll K H (List.replicate k vs).flatten (List.replicate k ds).flatten
  | 0 => by simpa using RpAll.nil
  | k + 1 => by simpa [List.replicate_succ] using RpAll.app h (RpAll.rep h k)

/-! ### worlds -/
/-- the ground: the written part, the tables of code objects -/
structure Gd where
  K : PySem.W.Frag
  T : List (Addr × Str)
/-- what is wanted of an error -/
abbrev EW := Exn → Hp → Prop
/-- a world of a def: what is hidden, the state cell, the slots, their data -/
structure Wd where
  Hid : Addr → Prop
  p : Option Addr
  σ : St
  ρ : Env
  /-- a heap that was before -/
  H0 : Hp
structure Evo (p : Option Addr) (H H' : Hp) : Prop where
  kp : ∀ b o, p ≠ some b → H b = some o → (∀ ps, o ≠ .tbl ps) → H' b = some o
  dom : ∀ b, H b ≠ none → H' b ≠ none
theorem Evo.rfl' {p : Option Addr} {H : Hp} : Evo p H H := ⟨fun _ _ _ h _ => h, fun _ h => h⟩
theorem Evo.tr {p : Option Addr} {H H1 H2 : Hp} (a : Evo p H H1) (b : Evo p H1 H2) : Evo p H H2 := ⟨fun c o n h t => b.kp c o n (a.kp c o n h t) t, fun c h => b.dom c (a.dom c h)⟩
theorem Evo.of {p : Option Addr} {H H' : Hp} (h : ∀ b o, H b = some o → H' b = some o) : Evo p H H' := ⟨fun b o _ e _ => h b o e, fun b e => by
  cases q : H b with
  | none => exact absurd q e
  | some o => rw [h b o q]; simp⟩
theorem Evo.new {p : Option Addr} {H : Hp} {a : Addr} {o : HO} (n : H a = none) : Evo p H (upd H a o) := .of fun b u e => by rw [upd_ne (ne_of_none e n)]; exact e
theorem Evo.none_any {p : Option Addr} {H H' : Hp} (h : Evo none H H') : Evo p H H' := ⟨fun b o _ e t => h.kp b o (by simp) e t, h.dom⟩
def StRep (K : PySem.W.Frag) (Hid : Addr → Prop) (p : Option Addr) (H : Hp) (st : Stt) : Prop := match p with
  | none => st = []
  | some a => Hid a ∧ st ≠ [] ∧ ∃ vs, H a = some (.lst vs) ∧ RpAll K (hide Hid H) vs st
/-- to be read in passing: in sight, or hidden -/
def LRep (K : PySem.W.Frag) (Hid : Addr → Prop) (p : Option Addr) (H : Hp) (v : V) (d : D) : Prop := Rp K (hide Hid H) v d ∨ ∃ a o, v = .ref a ∧ Hid a ∧ p ≠ some a ∧ H a = some o ∧ RpO K (hide Hid H) o d
def SRep (K : PySem.W.Frag) (Hid : Addr → Prop) (p : Option Addr) (H : Hp) (v : V) : SV → Prop
  | .sh d => Rp K (hide Hid H) v d
  | .ow d => ∃ a o, v = .ref a ∧ Hid a ∧ p ≠ some a ∧ H a = some o ∧ RpO K (hide Hid H) o d
  | .ln d => LRep K Hid p H v d
  | .stt => ∃ a, v = .ref a ∧ p = some a
structure ERep (g : Gd) (w : Wd) (H : Hp) (st : Stt) : Prop where
  len : w.ρ.length = w.σ.length
  slot : ∀ (i : Nat) (sv : SV), w.ρ[i]? = some (some sv) → ∃ v, w.σ[i]? = some (some v) ∧ SRep g.K w.Hid w.p H v sv
  own : ∀ (i j : Nat) (ds es : D) (a : Addr), w.ρ[i]? = some (some (.ow ds)) → w.ρ[j]? = some (some (.ow es)) → w.σ[i]? = some (some (.ref a)) → w.σ[j]? = some (some (.ref a)) → i = j
  stt : StRep g.K w.Hid w.p H st
  tabs : LamX.Tabs g.T H
  dom : ∀ a, w.Hid a → H a ≠ none
  old : ∀ a, w.H0 a ≠ none → H a ≠ none
section
variable {g : Gd} {w : Wd} {H H' : Hp} {st st' : Stt}
/-- what is not hidden is kept -/
theorem Evo.hid (e : Evo w.p H H') (hp : ∀ a, w.p = some a → w.Hid a) : Kp (hide w.Hid H) (hide w.Hid H') := fun b o h n => by
  obtain ⟨h1, h2⟩ := hide_in h
  exact in_hide (e.kp b o (fun z => h2 (hp b z)) h1 n) h2
theorem StRep.hid {K : PySem.W.Frag} {Hid : Addr → Prop} {p : Option Addr} (h : StRep K Hid p H st) : ∀ a, p = some a → Hid a := fun a e => by
  subst e
  exact h.1
theorem ERep.kph (E : ERep g w H st) (e : Evo w.p H H') : Kp (hide w.Hid H) (hide w.Hid H') := e.hid E.stt.hid
theorem SRep.evo {v : V} {sv : SV} (s : SRep g.K w.Hid w.p H v sv) (E : ERep g w H st) (e : Evo w.p H H') : SRep g.K w.Hid w.p H' v sv := by
  cases sv with
  | sh d => exact (E.kph e).dp d v s
  | ow ds =>
    obtain ⟨a, o, h1, h2, h3, h4, h5⟩ := s
    exact ⟨a, o, h1, h2, h3, e.kp a _ h3 h4 h5.notbl.1, (E.kph e).rpo h5⟩
  | ln d =>
    rcases s with s | ⟨a, o, h1, h2, h3, h4, h5⟩
    · exact .inl ((E.kph e).rp s)
    · exact .inr ⟨a, o, h1, h2, h3, e.kp a _ h3 h4 h5.notbl.1, (E.kph e).rpo h5⟩
  | stt => exact s
theorem ERep.evo (E : ERep g w H st) (e : Evo w.p H H') (s : StRep g.K w.Hid w.p H' st') (t : LamX.Tabs g.T H') : ERep g w H' st' :=
  ⟨E.len, fun i sv h => by
    obtain ⟨v, a, b⟩ := E.slot i sv h
    exact ⟨v, a, b.evo E e⟩, E.own, s, t, fun a h => e.dom a (E.dom a h), fun a h => e.dom a (E.old a h)⟩
theorem StRep.kp {K : PySem.W.Frag} {Hid : Addr → Prop} {p : Option Addr} (s : StRep K Hid p H st) (k : ∀ b o, H b = some o → H' b = some o) : StRep K Hid p H' st := by
  cases p with
  | none => exact s
  | some a =>
    obtain ⟨h1, h2, vs, h3, h4⟩ := s
    exact ⟨h1, h2, vs, k _ _ h3, Kp.dps (fun b o e n => by obtain ⟨q1, q2⟩ := hide_in e; exact in_hide (k _ _ q1) q2) st vs h4⟩
theorem tabs_kp {T : List (Addr × Str)} (t : LamX.Tabs T H) (k : ∀ b o, H b = some o → H' b = some o) : LamX.Tabs T H' := t.ext k
theorem ERep.kp (E : ERep g w H st) (k : ∀ b o, H b = some o → H' b = some o) : ERep g w H' st := E.evo (.of k) (E.stt.kp k) (E.tabs.ext k)
theorem upd_kp {a : Addr} {o : HO} (n : H a = none) : ∀ b u, H b = some u → upd H a o b = some u := fun b u e => by rw [upd_ne (ne_of_none e n)]; exact e
theorem ERep.new (E : ERep g w H st) {a : Addr} {o : HO} (n : H a = none) : ERep g w (upd H a o) st := E.kp (upd_kp n)
end
/-- what is wanted behind a computation: of its value, of its error -/
def Post {α β : Type} (g : Gd) (W : EW) (w : Wd) (rp : Hp → β → α → Prop) (H : Hp) (r : R α) (Q : β → Hp → Prop) : Prop := match r with
  | .ok a st' => ∀ b H', Evo w.p H H' → ERep g w H' st' → rp H' b a → Q b H'
  | .err e st' => ∀ H', Evo w.p H H' → ERep g w H' st' → W e H'
  | .stuck => False
section
variable {g : Gd} {w : Wd} {H H' : Hp} {st : Stt} {α β γ δ : Type} {rp : Hp → β → α → Prop} {rq : Hp → δ → γ → Prop} {r : R α} {W : EW} {Q : β → Hp → Prop} {Q' : δ → Hp → Prop}
theorem Post.later (h : Post g W w rp H r Q) (e : Evo w.p H H') : Post g W w rp H' r Q := by
  cases r with
  | ok a st' => exact fun b H2 e2 E2 r2 => h b H2 (e.tr e2) E2 r2
  | err x st' => exact fun H2 e2 E2 => h H2 (e.tr e2) E2
  | stuck => exact h
theorem Post.bind {f : α → M γ} (h : Post g W w rq H (r.next f) Q') (k : ∀ a st1 b H1, Evo w.p H H1 → ERep g w H1 st1 → rp H1 b a → Post g W w rq H1 (f a st1) Q' → Q b H1) : Post g W w rp H r Q := by
  cases r with
  | ok a st' => exact fun b H1 e1 E1 r1 => k a st' b H1 e1 E1 r1 (Post.later h e1)
  | err x st' => exact h
  | stuck => exact h
theorem Post.grd {b : Bool} {m : M α} (h : Post g W w rp H (guardM b m st) Q) : b = true ∧ Post g W w rp H (m st) Q := by
  unfold guardM at h
  split at h
  · exact ⟨by assumption, h⟩
  · exact h.elim
theorem Post.opt {o : Option α} (h : Post g W w rp H (optM o st) Q) : ∃ a, o = some a ∧ Post g W w rp H (.ok a st) Q := by
  cases o with
  | none => exact h.elim
  | some a => exact ⟨a, rfl, h⟩
theorem Post.now {a : α} {b : β} (h : Post g W w rp H (.ok a st) Q) (E : ERep g w H st) (r : rp H b a) : Q b H := h b H Evo.rfl' E r
theorem Post.at_ {a : α} {b : β} (h : Post g W w rp H (.ok a st) Q) (E : ERep g w H st) (k : ∀ b o, H b = some o → H' b = some o) (r : rp H' b a) : Q b H' := h b H' (.of k) (E.kp k) r
theorem Post.ends {rp' : Hp → β → α → Prop} {Q2 : β → Hp → Prop} (h : Post g W w rp H r Q) (k : ∀ a st1 b H1, Evo w.p H H1 → ERep g w H1 st1 → rp' H1 b a → Q2 b H1 ∨ (rp H1 b a ∧ (Q b H1 → Q2 b H1))) : Post g W w rp' H r Q2 := by
  cases r with
  | ok a st' => exact fun b H1 e1 E1 r1 => (k a st' b H1 e1 E1 r1).elim id fun z => z.2 (h b H1 e1 E1 z.1)
  | err x st' => exact h
  | stuck => exact h
end
/-- the reading of an evaluator -/
def tD {α β : Type} (g : Gd) (W : EW) (rp : Wd → Hp → β → α → Prop) (m : Env → M α) : St → Hp → (β → Hp → Prop) → Prop := fun σ H Q =>
  ∃ (w : Wd) (st : Stt), w.σ = σ ∧ ERep g w H st ∧ Post g W w (rp w) H (m w.ρ st) Q
def rpD (g : Gd) : Wd → Hp → V → D → Prop := fun w H v d => Rp g.K (hide w.Hid H) v d
def rpDs (g : Gd) : Wd → Hp → List V → List D → Prop := fun w H v d => RpAll g.K (hide w.Hid H) v d
/-- read in passing -/
def rpB (g : Gd) : Wd → Hp → V → D → Prop := fun w H v d => Rp g.K (hide w.Hid H) v d ∨ ∃ a o, v = .ref a ∧ w.p ≠ some a ∧ H a = some o ∧ RpO g.K (hide w.Hid H) o d
inductive BAll (g : Gd) (w : Wd) (H : Hp) : List V → List D → Prop where
  | nil : BAll g w H [] []
  | cons {v : V} {d : D} {vs : List V} {ds : List D} : rpB g w H v d → BAll g w H vs ds → BAll g w H (v :: vs) (d :: ds)
def rpBs (g : Gd) : Wd → Hp → List V → List D → Prop := fun w H v d => BAll g w H v d
def rpT : Wd → Hp → Bool → Bool → Prop := fun _ _ a b => a = b
def rpO : Wd → Hp → Option Int → Option Int → Prop := fun _ _ a b => a = b
section
variable {g : Gd} {w : Wd} {H H' : Hp} {st : Stt} {v : V} {d : D}
theorem rpD.evo (r : rpD g w H v d) (E : ERep g w H st) (e : Evo w.p H H') : rpD g w H' v d := (E.kph e).dp d v r
theorem rpB.evo (r : rpB g w H v d) (E : ERep g w H st) (e : Evo w.p H H') : rpB g w H' v d := by
  rcases r with r | ⟨a, o, h1, h3, h4, h5⟩
  · exact .inl ((E.kph e).rp r)
  · exact .inr ⟨a, o, h1, h3, e.kp a _ h3 h4 h5.notbl.1, (E.kph e).rpo h5⟩
theorem rpDs.evo {vs : List V} {ds : List D} (r : rpDs g w H vs ds) (E : ERep g w H st) (e : Evo w.p H H') : rpDs g w H' vs ds := (E.kph e).dps ds vs r
theorem rpB.ofD (r : rpD g w H v d) : rpB g w H v d := .inl r
/-- read in the whole heap -/
theorem rpB.rp (r : rpB g w H v d) : Rp g.K H v d := by
  rcases r with r | ⟨a, o, h1, h3, h4, h5⟩
  · exact kp_hide.rp r
  · subst h1
    exact (kp_hide.rpo h5).rp (.inl h4)
theorem rpB.int {i : Int} (r : rpB g w H v (.int i)) : v = .int i := by
  rcases r with r | ⟨a, o, h1, h3, h4, h5⟩
  · cases r; rfl
  · cases h5
theorem rpB.bool {b : Bool} (r : rpB g w H v (.bool b)) : v = .bl b := by
  rcases r with r | ⟨a, o, h1, h3, h4, h5⟩
  · cases r; rfl
  · cases h5
theorem rpB.str {x : Str} (r : rpB g w H v (.str x)) : v = .str x := by
  rcases r with r | ⟨a, o, h1, h3, h4, h5⟩
  · cases r; rfl
  · cases h5
theorem rpB.none' (r : rpB g w H v .none) : v = .non := by
  rcases r with r | ⟨a, o, h1, h3, h4, h5⟩
  · cases r; rfl
  · cases h5
/-- a list, by its items -/
theorem rpB.list {ds : List D} (r : rpB g w H v (.list ds)) : ∃ a vs, v = .ref a ∧ Rd H a (.lst vs) ∧ RpAll g.K (hide w.Hid H) vs ds := by
  rcases r with r | ⟨a, o, h1, h3, h4, h5⟩
  · cases r with
    | lst hs ha => exact ⟨_, _, rfl, kp_hide.rd hs, ha⟩
  · cases h5 with
    | lst ra => exact ⟨a, _, h1, .inl h4, ra⟩
theorem rpB.dict {es : List (D × D)} (r : rpB g w H v (.dict es)) : ∃ a kvs, v = .ref a ∧ Rd H a (.dK kvs) ∧ RpKs g.K (hide w.Hid H) kvs es := by
  rcases r with r | ⟨a, o, h1, h3, h4, h5⟩
  · cases r with
    | dic hs ha => exact ⟨_, _, rfl, kp_hide.rdO (fun _ z => by cases z) hs, ha⟩
  · cases h5 with
    | dK ra => exact ⟨a, _, h1, .inl h4, ra⟩
theorem rpB.tuple {ds : List D} (r : rpB g w H v (.tuple ds)) : ∃ a vs, v = .ref a ∧ SqT g.K H a vs ∧ RpAll g.K (hide w.Hid H) vs ds ∧ rpD g w H v (.tuple ds) := by
  rcases r with r | ⟨a, o, h1, h3, h4, h5⟩
  · have r' := r
    cases r with
    | tup hs ha => exact ⟨_, _, rfl, kp_hide.sqT hs, ha, r'⟩
  · cases h5
theorem rpD.int {i : Int} (r : rpD g w H v (.int i)) : v = .int i := by cases r; rfl
theorem rpD.bool {b : Bool} (r : rpD g w H v (.bool b)) : v = .bl b := by cases r; rfl
theorem rpD.str {x : Str} (r : rpD g w H v (.str x)) : v = .str x := by cases r; rfl
/-- a new list, shared -/
theorem new_list (E : ERep g w H st) {a : Addr} {vs : List V} {ds : List D} (n : H a = none) (h : RpAll g.K (hide w.Hid H) vs ds) : rpD g w (upd H a (.lst vs)) (.ref a) (.list ds) := by
  have nh : ¬ w.Hid a := fun z => E.dom a z n
  exact .lst (.inl (in_hide upd_same nh)) ((E.kph (Evo.new n)).dps ds vs h)
theorem new_tuple (E : ERep g w H st) {a : Addr} {vs : List V} {ds : List D} (n : H a = none) (h : RpAll g.K (hide w.Hid H) vs ds) : rpD g w (upd H a (.tup vs)) (.ref a) (.tuple ds) := by
  have nh : ¬ w.Hid a := fun z => E.dom a z n
  exact .tup (SqT.of (in_hide upd_same nh)) ((E.kph (Evo.new n)).dps ds vs h)
end
/-- a list or a dict just laid, as the last thing: nothing else knows it yet -/
def rpF (g : Gd) : Wd → Hp → V → D → Prop := fun w H v d => ∃ a o H1 st, v = .ref a ∧ H1 a = none ∧ H = upd H1 a o ∧ ERep g w H1 st ∧ ERep g w H st ∧ RpO g.K (hide w.Hid H1) o d
theorem rpF.toD {g : Gd} {w : Wd} {H : Hp} {v : V} {d : D} (r : rpF g w H v d) : rpD g w H v d := by
  obtain ⟨a, o, H1, st, rfl, n, rfl, E, _, h⟩ := r
  have nh : ¬ w.Hid a := fun z => E.dom a z n
  exact ((E.kph (Evo.new n)).rpo h).rp (.inl (in_hide upd_same nh))
theorem _root_.L2.PE.mono {X : Cx} {e : Expr} {t t' : TE} (h : PE X e t) (k : ∀ σ H Q, t' σ H Q → t σ H Q) : PE X e t' := ⟨fun pins s σ H Q I q => h.run pins s σ H Q I (k σ H Q q)⟩
theorem _root_.L2.PT.mono {X : Cx} {e : Expr} {t t' : TT} (h : PT X e t) (k : ∀ σ H Q, t' σ H Q → t σ H Q) : PT X e t' := ⟨fun pins s σ H Q I q => h.run pins s σ H Q I (k σ H Q q)⟩
end DI
end
section
set_option linter.all false
set_option autoImplicit false
set_option maxRecDepth 100000
/-! D5: the operators and built-in functions keep what the plain ones say. -/
namespace DI
open PySem PySem.Spec L2
open PyProof.Rows hiding St
variable {X : Cx} {T : List (Addr × Str)} {W : EW}

/-- a value: a list is new -/
def rpX (g : Gd) (w : Wd) (H : Hp) (v : V) : D → Prop
  | .list ds => rpF g w H v (.list ds)
  | .none => rpD g w H v .none
  | .bool b => rpD g w H v (.bool b)
  | .int i => rpD g w H v (.int i)
  | .str x => rpD g w H v (.str x)
  | .tuple ds => rpD g w H v (.tuple ds)
  | .dict kvs => rpD g w H v (.dict kvs)
theorem rpX.toD {g : Gd} {w : Wd} {H : Hp} {v : V} {d : D} (r : rpX g w H v d) : rpD g w H v d := by
  cases d with
  | list ds => exact rpF.toD r
  | _ => exact r
theorem Post.weak {α β : Type} {g : Gd} {w : Wd} {H : Hp} {rp rp' : Hp → β → α → Prop} {r : R α} {Q : β → Hp → Prop} (h : Post g W w rp H r Q) (k : ∀ H b a, rp' H b a → rp H b a) : Post g W w rp' H r Q := by
  cases r with
  | ok a st' => exact fun b H1 e1 E1 r1 => h b H1 e1 E1 (k _ _ _ r1)
  | err x st' => exact h
  | stuck => exact h
abbrev gX (X : Cx) (T : List (Addr × Str)) : Gd := ⟨X.K, T⟩

theorem fresh_F {g : Gd} {w : Wd} {H : Hp} {st : Stt} (E : ERep g w H st) {a : Addr} {vs : List V} {ds : List D} (n : H a = none) (h : RpAll g.K (hide w.Hid H) vs ds) : rpF g w (upd H a (.lst vs)) (.ref a) (.list ds) :=
  ⟨a, .lst vs, H, st, rfl, n, rfl, E, E.new n, .lst h⟩
theorem len_le {g : Gd} {w : Wd} {H : Hp} {vs : List V} {ds : List D} (h : RpAll g.K (hide w.Hid H) vs ds) : vs.length = ds.length := RpAll.len h

/-! ### + and * of lists, whatever holds them -/
theorem rd_at {pins : List (Addr × Obj)} {s : Shared} {σ : L2.St} {H : Hp} {a : Addr} {xs : List V} (I : Inv X pins σ H s) (h : Rd H a (.lst xs)) :
    xs.length ≤ sizeLine ∧ ∃ (its : List Value) (n : Nat), Vals xs its ∧ xs.length = its.length ∧ s.heap.get? a = some { cls := .type "list", data := .seq its.toArray n } := by
  obtain ⟨z, its, n, r, e⟩ := h.ok I.hok
  exact ⟨z, its, n, r, r.length, e⟩
def rCatR : R2 := fun x y H Q => ∃ l b xs zs, x = .ref l ∧ y = .ref b ∧ Rd H l (.lst xs) ∧ Rd H b (.lst zs) ∧ xs.length + zs.length ≤ sizeLine ∧ ∀ p, H p = none → Q (.ref p) (upd H p (.lst (xs ++ zs)))
theorem op_catR : OpR X (binaryOp .Add) rCatR := by
  intro pins s σ H x y v u Q I rx ry ⟨l, b, xs, zs, e1, e2, h1, h2, hz, q⟩
  subst e1 e2
  cases rx
  cases ry
  obtain ⟨_, is1, n1, r1, l1, g1⟩ := rd_at I h1
  obtain ⟨_, is2, n2, r2, l2, g2⟩ := rd_at I h2
  have hs : (is1.toArray ++ is2.toArray).size ≤ sizeLine := by simp; omega
  refine PySem.P.add_list g1 g2 ?_ (by simpa using hs)
  have ea : is1.toArray ++ is2.toArray = (is1 ++ is2).toArray := by simp
  rw [ea]
  exact ⟨.ref _, _, I.lnew (t' := s.toks) (r1.append r2) (by rw [List.length_append]; omega), rfl, q _ I.fresh⟩
def rRepR : R2 := fun x y H Q => ∃ l k xs, x = .ref l ∧ y = .int k ∧ Rd H l (.lst xs) ∧ -(2 ^ 63) ≤ k ∧ k < 2 ^ 63 ∧ xs.length * k.toNat ≤ sizeLine ∧ ∀ p, H p = none → Q (.ref p) (upd H p (.lst (List.replicate k.toNat xs).flatten))
theorem op_repR : OpR X (binaryOp .Mult) rRepR := by
  intro pins s σ H x y v u Q I rx ry ⟨l, k, xs, e1, e2, h1, k1, k2, hz, q⟩
  subst e1 e2
  cases rx
  obtain ⟨t, rfl⟩ := ry
  obtain ⟨_, its, n, r, hl, g⟩ := rd_at I h1
  have hsz : its.toArray.size * k.toNat ≤ sizeLine := by rw [List.size_toArray, ← hl]; exact hz
  have hline := sizeLine_eq
  have c1 : ¬ (!Builtin.List.listFitsIndex k) = true := by rw [fitsIndex_both k1 k2]; simp
  have c2 : ¬ its.toArray.size * k.toNat > (2 ^ 63 - 1) / 8 := by omega
  have c3 : ¬ Builtin.List.listTooLong (its.toArray.size * k.toNat) = true := by rw [notLongL hsz]; simp
  have flat : ∀ m : Nat, List.foldl (fun a b => a ++ b) #[] (List.replicate m its.toArray) = (List.replicate m its).flatten.toArray := fun m => by
    have z := foldl_rep its m []
    rwa [List.nil_append] at z
  have new : List.foldl (fun a b => a ++ b) #[] (List.replicate (if its.toArray.isEmpty = true then 0 else k.toNat) its.toArray) = (List.replicate k.toNat its).flatten.toArray := by
    rw [flat]
    by_cases h0 : its = []
    · subst h0; simp
    · rw [if_neg (by simpa using h0)]
  have Tl : s.TypeIs (.ref l) "list" := ⟨_, g, rfl⟩
  have Ti : s.TypeIs (.int k t) "int" := typeIs_int s k t
  refine wpAny_binaryOp_repeat_ref (T := "list") (U := "int") (by decide) Tl (fun s' => typeIs_int s' k t) noFill_list_mul F.fills_int_mul F.slot_int_rmul repeat_list F.slot_int_index.lookup ?_
  refine call_meets F.slot_int_rmul Ti F.entry_int_rmul (F.args_int_rmul_2 _ _) (int___rmul___int_list k t l its.toArray n) ⟨g, rfl, Tl, ?_⟩
  refine call_meets F.slot_list_mul Tl F.entry_list_mul (F.args_list_mul_2 _ _) (AutoListH.list___mul___list_int_3 l its.toArray n k t c1 c2 c3) ⟨g, ?_⟩
  rw [new]
  refine ⟨.ref _, _, I.lnew (t' := s.toks) (r.rep k.toNat) ?_, rfl, q _ I.fresh⟩
  rw [lm_len_rep_flat, Nat.mul_comm]
  exact hz
theorem cutV_cutD (g : Gd) (w : Wd) (H : Hp) {vs : List V} {ds : List D} (h : RpAll g.K (hide w.Hid H) vs ds) (lo hi : Option Int) : RpAll g.K (hide w.Hid H) (cutV vs lo hi) (cutD ds lo hi) := by
  unfold cutV cutD
  rw [len_le h]
  exact RpAll.take _ (RpAll.drop _ h)

/-! ### binary operators -/
def BinOk (X : Cx) (T : List (Addr × Str)) (W : EW) (op : Operator) : Prop := ∃ r : R2, OpR X (binaryOp op) r ∧ ∀ (w : Wd) (st : Stt) (H : Hp) (x y : V) (dx dy : D) (Q : VK),
  ERep (gX X T) w H st → rpB (gX X T) w H x dx → rpB (gX X T) w H y dy → Post (gX X T) W w (rpX (gX X T) w) H (binM op dx dy st) Q → r x y H Q
theorem op_never {f : Value → Value → Sem Value} : OpR X f (fun _ _ _ _ => False) := fun _ _ _ _ _ _ _ _ _ _ _ _ h => h.elim
theorem bin_no {op : Operator} (h : ∀ dx dy, binM op dx dy = stuckM) : BinOk X T W op := ⟨_, op_never, fun w st H x y dx dy Q E rx ry h1 => by
  rw [h] at h1
  exact h1.elim⟩
theorem fits_le {n : Nat} (h : fits n = true) : n ≤ sizeLine := of_decide_eq_true h
theorem bin_add : BinOk X T W .Add := by
  refine ⟨_, op_add.or (op_add_str.or (op_catR.or op_catA)), fun w st H x y dx dy Q E rx ry h => ?_⟩
  cases dx <;> cases dy <;> try exact h.elim
  · have ex := rx.int
    have ey := ry.int
    exact .inl ⟨_, _, ex, ey, h.now E (rp := rpX _ w) (show rpD _ w H _ _ from Rp.int _)⟩
  · have ex := rx.str
    have ey := ry.str
    obtain ⟨hb, h⟩ := Post.grd h
    exact .inr (.inl ⟨_, _, ex, ey, fits_le hb, h.now E (rp := rpX _ w) (show rpD _ w H _ _ from Rp.str _)⟩)
  · obtain ⟨hb, h⟩ := Post.grd h
    obtain ⟨a, vs, rfl, ha, hs⟩ := rx.list
    obtain ⟨b, us, rfl, hb2, hu⟩ := ry.list
    refine .inr (.inr (.inl ⟨a, b, vs, us, rfl, rfl, ha, hb2, ?_, fun p hp => ?_⟩))
    · rw [len_le hs, len_le hu]
      exact fits_le hb
    · exact h _ _ (Evo.new hp) (E.new hp) (fresh_F E hp (RpAll.app hs hu))
  · obtain ⟨hb, h⟩ := Post.grd h
    obtain ⟨a, vs, rfl, ha, hs, hr⟩ := rx.tuple
    obtain ⟨b, us, rfl, hb2, hu, hr2⟩ := ry.tuple
    refine .inr (.inr (.inr ⟨a, b, vs, us, rfl, rfl, ha, hb2, ?_, fun e => ?_, fun _ e => ?_, fun _ _ p hp => ?_⟩))
    · rw [len_le hs, len_le hu]
      exact fits_le hb
    · subst e
      cases hs
      exact h.now E (rp := rpX _ w) hr2
    · subst e
      cases hu
      refine h.now E (rp := rpX _ w) (show rpD _ w H _ _ from ?_)
      rw [List.append_nil]
      exact hr
    · exact h.at_ E (upd_kp hp) (rp := rpX _ w) (new_tuple E hp (RpAll.app hs hu))
theorem bin_sub : BinOk X T W .Sub := by
  refine ⟨_, op_sub, fun w st H x y dx dy Q E rx ry h => ?_⟩
  cases dx <;> cases dy <;> try exact h.elim
  exact ⟨_, _, rx.int, ry.int, h.now E (rp := rpX _ w) (show rpD _ w H _ _ from Rp.int _)⟩
theorem bin_mul : BinOk X T W .Mult := by
  refine ⟨_, op_mul.or (op_repR.or op_repT), fun w st H x y dx dy Q E rx ry h => ?_⟩
  cases dx <;> cases dy <;> try exact h.elim
  · obtain ⟨hb, h⟩ := Post.grd h
    have h2 := of_decide_eq_true hb
    exact .inl ⟨_, _, rx.int, ry.int, h2, h.now E (rp := rpX _ w) (show rpD _ w H _ _ from Rp.int _)⟩
  · obtain ⟨hb, h⟩ := Post.grd h
    obtain ⟨a, vs, rfl, ha, hs⟩ := rx.list
    obtain ⟨h1, h2⟩ := Bool.and_eq_true_iff.mp hb
    have h3 := of_decide_eq_true h1
    refine .inr (.inl ⟨a, _, vs, rfl, ry.int, ha, h3.1, h3.2, ?_, fun p hp => ?_⟩)
    · rw [len_le hs]
      exact fits_le h2
    · exact h _ _ (Evo.new hp) (E.new hp) (fresh_F E hp (RpAll.rep hs _))
  · obtain ⟨hb, h⟩ := Post.grd h
    obtain ⟨a, vs, rfl, ha, hs, _⟩ := rx.tuple
    obtain ⟨h1, h2, h3, h4⟩ := of_decide_eq_true hb
    have hl := len_le hs
    refine .inr (.inr ⟨a, _, vs, rfl, ry.int, ha, ?_, by omega, h4, by omega, fun p hp => ?_⟩)
    · intro z
      subst z
      simp at hl
      omega
    · exact h.at_ E (upd_kp hp) (rp := rpX _ w) (new_tuple E hp (RpAll.rep hs _))
theorem bin_fdiv : BinOk X T W .FloorDiv := by
  refine ⟨_, op_fdiv, fun w st H x y dx dy Q E rx ry h => ?_⟩
  cases dx <;> cases dy <;> try exact h.elim
  obtain ⟨hb, h⟩ := Post.grd h
  have h2 := of_decide_eq_true hb
  exact ⟨_, _, rx.int, ry.int, h2, h.now E (rp := rpX _ w) (show rpD _ w H _ _ from Rp.int _)⟩
theorem bin_mod : BinOk X T W .Mod := by
  refine ⟨_, op_mod, fun w st H x y dx dy Q E rx ry h => ?_⟩
  cases dx <;> cases dy <;> try exact h.elim
  obtain ⟨hb, h⟩ := Post.grd h
  have h2 := of_decide_eq_true hb
  exact ⟨_, _, rx.int, ry.int, h2, h.now E (rp := rpX _ w) (show rpD _ w H _ _ from Rp.int _)⟩
theorem bin_pow : BinOk X T W .Pow := by
  refine ⟨_, op_pow, fun w st H x y dx dy Q E rx ry h => ?_⟩
  cases dx <;> cases dy <;> try exact h.elim
  obtain ⟨hb, h⟩ := Post.grd h
  have h2 := of_decide_eq_true hb
  exact ⟨_, _, rx.int, ry.int, h2, h.now E (rp := rpX _ w) (show rpD _ w H _ _ from Rp.int _)⟩
theorem bin_ok (op : Operator) : BinOk X T W op := by
  cases op with
  | Add => exact bin_add
  | Sub => exact bin_sub
  | Mult => exact bin_mul
  | FloorDiv => exact bin_fdiv
  | Mod => exact bin_mod
  | Pow => exact bin_pow
  | _ => exact bin_no fun dx dy => by cases dx <;> cases dy <;> rfl

/-! ### comparisons -/
def rpV : Wd → Hp → V → Bool → Prop := fun _ _ v b => v = .bl b
def CmpOk (X : Cx) (T : List (Addr × Str)) (W : EW) (op : CmpOp) : Prop := ∃ r : R2, OpR X (compareOp op) r ∧ ∀ (w : Wd) (st : Stt) (H : Hp) (x y : V) (dx dy : D) (Q : VK),
  ERep (gX X T) w H st → rpB (gX X T) w H x dx → rpB (gX X T) w H y dy → Post (gX X T) W w (rpV w) H (cmpM op dx dy st) Q → r x y H Q
theorem cmp_int {op : CmpOp} {f : Int → Int → Bool} (o : OpR X (compareOp op) (rI0 fun i j => .bl (f i j))) (h1 : ∀ i j, cmpM op (.int i) (.int j) = ret (f i j)) (h2 : ∀ dx dy, (∀ i j, ¬ (dx = .int i ∧ dy = .int j)) → cmpM op dx dy = stuckM) : CmpOk X T W op := by
  refine ⟨_, o, fun w st H x y dx dy Q E rx ry h => ?_⟩
  by_cases c : ∃ i j, dx = .int i ∧ dy = .int j
  · obtain ⟨i, j, rfl, rfl⟩ := c
    rw [h1] at h
    exact ⟨_, _, rx.int, ry.int, h.now E (rp := rpV w) rfl⟩
  · rw [h2 dx dy fun i j z => c ⟨i, j, z⟩] at h
    exact h.elim
theorem dp_of {K : PySem.W.Frag} {H : Hp} {v : V} {d : D} (r : Rp K H v d) (h : SeqAt.shaped d = true) : Dp K H v d := r.dp (PyData.hasDict_of_canLay d (SeqAt.canLay_of_shaped h))
theorem cmp_eq (hu : X.A.units + 64 < cLine) : CmpOk X T W .Eq := by
  refine ⟨_, op_eqD hu, fun w st H x y dx dy Q E rx ry h => ?_⟩
  obtain ⟨hb, h⟩ := Post.grd h
  obtain ⟨h1, h2⟩ := Bool.and_eq_true_iff.mp hb
  exact ⟨dx, dy, dp_of rx.rp h1, dp_of ry.rp h2, h1, h2, h.now E (rp := rpV w) rfl⟩
theorem Post.not' {g : Gd} {w : Wd} {H : Hp} {m : M Bool} {st : Stt} {Q : VK} (h : Post g W w (rpV w) H (notM m st) Q) : Post g W w (rpV w) H (m st) (fun v H' => ∀ b, v = .bl b → Q (.bl (!b)) H') := by
  refine Post.bind (rq := rpV w) h fun a st1 b H1 e1 E1 r1 h1 => ?_
  intro c hc
  have e : b = .bl a := r1
  rw [e] at hc
  cases hc
  exact h1.now E1 (rp := rpV w) rfl
theorem cmp_ne (hu : X.A.units + 64 < cLine) : CmpOk X T W .NotEq := by
  refine ⟨_, op_neD hu, fun w st H x y dx dy Q E rx ry h => ?_⟩
  obtain ⟨hb, h⟩ := Post.grd (Post.not' h)
  obtain ⟨h1, h2⟩ := Bool.and_eq_true_iff.mp hb
  exact ⟨dx, dy, dp_of rx.rp h1, dp_of ry.rp h2, h1, h2, (h.now E (rp := rpV w) rfl) _ rfl⟩
def rInT (K : PySem.W.Frag) : R2 := fun x y H Q => ∃ d ds, Dp K H x d ∧ Dp K H y (.tuple ds) ∧ SeqAt.shaped d = true ∧ SeqAt.shaped (.tuple ds) = true ∧ Q (.bl (ds.any fun z => PyData.eqv z d)) H
def rNotInT (K : PySem.W.Frag) : R2 := fun x y H Q => ∃ d ds, Dp K H x d ∧ Dp K H y (.tuple ds) ∧ SeqAt.shaped d = true ∧ SeqAt.shaped (.tuple ds) = true ∧ Q (.bl (!ds.any fun z => PyData.eqv z d)) H
theorem room_inT {A : Around} {xs : List PyData} {d : PyData} (hd : SeqAt.shaped d = true) (hu : A.units + 65 < cLine) : A.units + 1 + min (PyData.depthAll xs) d.depth < cLine := by
  have h1 := SeqAt.depth_of_shaped hd
  have h2 : min (PyData.depthAll xs) d.depth ≤ d.depth := Nat.min_le_right _ _
  omega
theorem canLayT {ds : List PyData} (h : SeqAt.shaped (.tuple ds) = true) : PyData.canLayAll0 ds = true := by
  have z := SeqAt.canLay_of_shaped h
  simpa only [PyData.canLay0] using z
theorem op_inT (hu : X.A.units + 65 < cLine) : OpR X (compareOp .In) (rInT X.K) := by
  intro pins s σ H x y v u Q I rx ry h
  obtain ⟨d, ds, hd, he, sd, se, q⟩ := h
  obtain ⟨as, r1⟩ := Dp.reads I d x v hd rx
  obtain ⟨bs, r2⟩ := Dp.reads I (.tuple ds) y u he ry
  exact SeqAt.in_tuple_reads r2 r1 (canLayT se) (SeqAt.canLay_of_shaped sd) (room_inT sd hu) ⟨.bl _, H, I, rfl, q⟩
theorem op_notInT (hu : X.A.units + 65 < cLine) : OpR X (compareOp .NotIn) (rNotInT X.K) := by
  intro pins s σ H x y v u Q I rx ry h
  obtain ⟨d, ds, hd, he, sd, se, q⟩ := h
  obtain ⟨as, r1⟩ := Dp.reads I d x v hd rx
  obtain ⟨bs, r2⟩ := Dp.reads I (.tuple ds) y u he ry
  exact SeqAt.notIn_tuple_reads r2 r1 (canLayT se) (SeqAt.canLay_of_shaped sd) (room_inT sd hu) ⟨.bl _, H, I, rfl, q⟩
theorem cmp_in (hu : X.A.units + 65 < cLine) : CmpOk X T W .In := by
  refine ⟨_, (op_inD hu).or ((op_inT hu).or op_in_str), fun w st H x y dx dy Q E rx ry h => ?_⟩
  have key : ∀ ds, dy = .list ds → Post (gX X T) W w (rpV w) H (memM dx ds st) Q → rInD X.K x y H Q := fun ds e h => by
    subst e
    obtain ⟨hb, h⟩ := Post.grd h
    obtain ⟨h1, h2⟩ := Bool.and_eq_true_iff.mp hb
    exact ⟨dx, ds, dp_of rx.rp h1, dp_of ry.rp h2, h1, h2, h.now E (rp := rpV w) rfl⟩
  have keyT : ∀ ds, dy = .tuple ds → Post (gX X T) W w (rpV w) H (memTM dx ds st) Q → rInT X.K x y H Q := fun ds e h => by
    subst e
    obtain ⟨hb, h⟩ := Post.grd h
    obtain ⟨h1, h2⟩ := Bool.and_eq_true_iff.mp hb
    exact ⟨dx, ds, dp_of rx.rp h1, dp_of ry.rp h2, h1, h2, h.now E (rp := rpV w) rfl⟩
  cases dy with
  | tuple ds => cases dx <;> exact .inr (.inl (keyT ds rfl h))
  | list ds => cases dx <;> exact .inl (key ds rfl h)
  | str j =>
    cases dx with
    | str i => exact .inr (.inr ⟨i, j, rx.str, ry.str, h.now E (rp := rpV w) rfl⟩)
    | _ => exact h.elim
  | _ => cases dx <;> exact h.elim
theorem cmp_notin (hu : X.A.units + 65 < cLine) : CmpOk X T W .NotIn := by
  refine ⟨_, (op_notInD hu).or ((op_notInT hu).or op_notin_str), fun w st H x y dx dy Q E rx ry h => ?_⟩
  have key : ∀ ds, dy = .list ds → Post (gX X T) W w (rpV w) H (notM (memM dx ds) st) Q → rNotInD X.K x y H Q := fun ds e h => by
    subst e
    obtain ⟨hb, h⟩ := Post.grd (Post.not' h)
    obtain ⟨h1, h2⟩ := Bool.and_eq_true_iff.mp hb
    exact ⟨dx, ds, dp_of rx.rp h1, dp_of ry.rp h2, h1, h2, (h.now E (rp := rpV w) rfl) _ rfl⟩
  have keyT : ∀ ds, dy = .tuple ds → Post (gX X T) W w (rpV w) H (notM (memTM dx ds) st) Q → rNotInT X.K x y H Q := fun ds e h => by
    subst e
    obtain ⟨hb, h⟩ := Post.grd (Post.not' h)
    obtain ⟨h1, h2⟩ := Bool.and_eq_true_iff.mp hb
    exact ⟨dx, ds, dp_of rx.rp h1, dp_of ry.rp h2, h1, h2, (h.now E (rp := rpV w) rfl) _ rfl⟩
  cases dy with
  | tuple ds => cases dx <;> exact .inr (.inl (keyT ds rfl h))
  | list ds => cases dx <;> exact .inl (key ds rfl h)
  | str j =>
    cases dx with
    | str i => exact .inr (.inr ⟨i, j, rx.str, ry.str, h.now E (rp := rpV w) rfl⟩)
    | _ => exact h.elim
  | _ => cases dx <;> exact h.elim
theorem non_iff {g : Gd} {w : Wd} {H : Hp} {v : V} {d : D} (r : rpB g w H v d) : decide (v = .non) = (match d with | .none => true | _ => false) := by
  have z := r.rp
  cases z <;> simp
theorem cmp_is : CmpOk X T W .Is := by
  refine ⟨_, op_isN, fun w st H x y dx dy Q E rx ry h => ?_⟩
  cases dy with
  | none =>
    have e := non_iff rx
    refine ⟨ry.none', ?_⟩
    rw [e]
    cases dx <;> exact h.now E (rp := rpV w) rfl
  | _ => cases dx <;> exact h.elim
theorem cmp_isnot : CmpOk X T W .IsNot := by
  refine ⟨_, op_notN, fun w st H x y dx dy Q E rx ry h => ?_⟩
  cases dy with
  | none =>
    have e := non_iff rx
    refine ⟨ry.none', ?_⟩
    rw [e]
    cases dx <;> exact h.now E (rp := rpV w) rfl
  | _ => cases dx <;> exact h.elim
theorem cmp_lt : CmpOk X T W .Lt := by
  refine ⟨_, op_lt.or op_lt_str, fun w st H x y dx dy Q E rx ry h => ?_⟩
  cases dx <;> cases dy <;> try exact h.elim
  · exact .inl ⟨_, _, rx.int, ry.int, h.now E (rp := rpV w) rfl⟩
  · exact .inr ⟨_, _, rx.str, ry.str, h.now E (rp := rpV w) rfl⟩
theorem cmp_ok (op : CmpOp) (hu : X.A.units + 65 < cLine) : CmpOk X T W op := by
  cases op with
  | Eq => exact cmp_eq (by omega)
  | NotEq => exact cmp_ne (by omega)
  | In => exact cmp_in hu
  | NotIn => exact cmp_notin hu
  | Is => exact cmp_is
  | IsNot => exact cmp_isnot
  | Lt => exact cmp_lt
  | LtE => exact cmp_int op_le (fun _ _ => rfl) fun dx dy h => by cases dx <;> cases dy <;> first | rfl | exact (h _ _ ⟨rfl, rfl⟩).elim
  | Gt => exact cmp_int op_gt (fun _ _ => rfl) fun dx dy h => by cases dx <;> cases dy <;> first | rfl | exact (h _ _ ⟨rfl, rfl⟩).elim
  | GtE => exact cmp_int op_ge (fun _ _ => rfl) fun dx dy h => by cases dx <;> cases dy <;> first | rfl | exact (h _ _ ⟨rfl, rfl⟩).elim
end DI
end
section
set_option linter.all false
set_option autoImplicit false
set_option maxRecDepth 100000
/-! D6: calls of built-in functions; argument lists. -/
namespace DI
open PySem PySem.Spec L2
open PyProof.Rows hiding St
variable {X : Cx} {T : List (Addr × Str)} {W : EW}

theorem star_no {e : Expr} {es : List Expr} {env : PySem.Env} (h : isStar e = false) : starEach (e :: es) env = (false, eval e env) :: starEach es env := by
  cases e <;> first | rfl | cases h
theorem stars_no {env : PySem.Env} {pos : Pos} : ∀ {es : List Expr}, es.any isStar = false → (backTo pos (starEach es env)).any (·.1) = false
  | [], _ => rfl
  | e :: es, h => by
    simp only [List.any_cons, Bool.or_eq_false_iff] at h
    rw [star_no h.1]
    have ih := stars_no (env := env) (pos := pos) h.2
    simp only [backTo, List.map_cons, List.any_cons, Bool.or_eq_false_iff] at ih ⊢
    exact ⟨trivial, ih⟩
theorem BAll.one {g : Gd} {w : Wd} {H : Hp} {vs : List V} {d : D} (h : BAll g w H vs [d]) : ∃ v, vs = [v] ∧ rpB g w H v d := by
  cases h with
  | cons h1 h2 => cases h2; exact ⟨_, rfl, h1⟩
theorem BAll.two {g : Gd} {w : Wd} {H : Hp} {vs : List V} {d e : D} (h : BAll g w H vs [d, e]) : ∃ v u, vs = [v, u] ∧ rpB g w H v d ∧ rpB g w H u e := by
  cases h with
  | cons h1 h2 =>
    obtain ⟨u, rfl, h3⟩ := h2.one
    exact ⟨_, _, rfl, h1, h3⟩
theorem bools_v {K : PySem.W.Frag} {H : Hp} : ∀ {ds : List D} {vs : List V} {bs : List Bool}, boolsOf ds = some bs → RpAll K H vs ds → vs = bs.map V.bl
  | [], _, _, h, r => by cases h; cases r; rfl
  | d :: ds, _, _, h, r => by
    cases d with
    | bool b =>
      simp only [boolsOf, Option.map_eq_some_iff] at h
      obtain ⟨bs, h1, rfl⟩ := h
      cases r with
      | cons r1 r2 => cases r1; simp [bools_v h1 r2]
    | _ => cases h
theorem ints_v {K : PySem.W.Frag} {H : Hp} : ∀ {ds : List D} {vs : List V} {ns : List Int}, intsOf ds = some ns → RpAll K H vs ds → vs = ns.map V.int
  | [], _, _, h, r => by cases h; cases r; rfl
  | d :: ds, _, _, h, r => by
    cases d with
    | int b =>
      simp only [intsOf, Option.map_eq_some_iff] at h
      obtain ⟨bs, h1, rfl⟩ := h
      cases r with
      | cons r1 r2 => cases r1; simp [ints_v h1 r2]
    | _ => cases h
theorem maxI_go : ∀ (xs : List Int) (x : Int), (xs.foldl (fun a b => if b > a then b else a) x ∈ x :: xs) ∧ ∀ y ∈ x :: xs, y ≤ xs.foldl (fun a b => if b > a then b else a) x
  | [], x => ⟨by simp, fun y hy => by simp at hy; simp [hy]⟩
  | z :: xs, x => by
    obtain ⟨h1, h2⟩ := maxI_go xs (if z > x then z else x)
    have hm := h2 _ List.mem_cons_self
    have hz : z ≤ (if z > x then z else x) := by split <;> omega
    have hx : x ≤ (if z > x then z else x) := by split <;> omega
    simp only [List.foldl_cons]
    refine ⟨?_, fun y hy => ?_⟩
    · rcases List.mem_cons.mp h1 with h | h
      · rw [h]
        split <;> simp
      · simp [h]
    · rcases List.mem_cons.mp hy with h | h
      · subst h
        omega
      · rcases List.mem_cons.mp h with h | h
        · subst h
          omega
        · exact h2 y (List.mem_cons_of_mem _ h)
theorem minI_go : ∀ (xs : List Int) (x : Int), (xs.foldl (fun a b => if b < a then b else a) x ∈ x :: xs) ∧ ∀ y ∈ x :: xs, xs.foldl (fun a b => if b < a then b else a) x ≤ y
  | [], x => ⟨by simp, fun y hy => by simp at hy; simp [hy]⟩
  | z :: xs, x => by
    obtain ⟨h1, h2⟩ := minI_go xs (if z < x then z else x)
    have hm := h2 _ List.mem_cons_self
    have hz : (if z < x then z else x) ≤ z := by split <;> omega
    have hx : (if z < x then z else x) ≤ x := by split <;> omega
    simp only [List.foldl_cons]
    refine ⟨?_, fun y hy => ?_⟩
    · rcases List.mem_cons.mp h1 with h | h
      · rw [h]
        split <;> simp
      · simp [h]
    · rcases List.mem_cons.mp hy with h | h
      · subst h
        omega
      · rcases List.mem_cons.mp h with h | h
        · subst h
          omega
        · exact h2 y (List.mem_cons_of_mem _ h)
theorem maxI_is {ns : List Int} {m : Int} (h : maxI ns = some m) : 0 < ns.length ∧ ∀ k, k ∈ ns → (∀ y, y ∈ ns → y ≤ k) → k = m := by
  cases ns with
  | nil => cases h
  | cons x xs =>
    simp only [maxI, Option.some.injEq] at h
    obtain ⟨h1, h2⟩ := maxI_go xs x
    rw [h] at h1 h2
    refine ⟨by simp, fun k hk hy => ?_⟩
    have a := h2 k hk
    have b := hy m h1
    omega
theorem minI_is {ns : List Int} {m : Int} (h : minI ns = some m) : 0 < ns.length ∧ ∀ k, k ∈ ns → (∀ y, y ∈ ns → k ≤ y) → k = m := by
  cases ns with
  | nil => cases h
  | cons x xs =>
    simp only [minI, Option.some.injEq] at h
    obtain ⟨h1, h2⟩ := minI_go xs x
    rw [h] at h1 h2
    refine ⟨by simp, fun k hk hy => ?_⟩
    have a := h2 k hk
    have b := hy m h1
    omega

/-- what a call of b by the arguments' values asks -/
def BiOk (X : Cx) (T : List (Addr × Str)) (W : EW) (f : Str) (b : BI) : Prop := ∃ r : List V → Hp → VK → Prop,
  (∀ (p pos : Pos) (e : Expr) (es : List Expr) (t : TA), Gl X f → X.mg f = none → isStar e = false → es.any isStar = false → PA X (e :: es) t → PE X (.Call (.Name f p) (e :: es) [] pos) (tCB r t)) ∧
  ∀ (w : Wd) (st : Stt) (H : Hp) (vs : List V) (ds : List D) (Q : VK), ERep (gX X T) w H st → BAll (gX X T) w H vs ds → Post (gX X T) W w (rpD (gX X T) w) H (biM b ds st) Q → r vs H Q
theorem biB {f : Str} {b : BI} {id : String} {r : List V → Hp → VK → Prop} (hc : CallR X (.builtin id) r) (hv : bootBuiltins f = some (.builtin id)) (hn : f ≠ "__name__") (hd : (f == ("__debug__" : Str)) = false)
    (h : ∀ (w : Wd) (st : Stt) (H : Hp) (vs : List V) (ds : List D) (Q : VK), ERep (gX X T) w H st → BAll (gX X T) w H vs ds → Post (gX X T) W w (rpD (gX X T) w) H (biM b ds st) Q → r vs H Q) : BiOk X T W f b :=
  ⟨r, fun p pos e es t hg hm s1 s2 ha => pe_callB hc hg hm hv ha hn hd (star_no s1) (stars_no s2), h⟩
theorem biT {f : Str} {b : BI} {id : String} {r : List V → Hp → VK → Prop} (hc : CallR X (.type id) r) (hv : bootBuiltins f = some (.type id)) (hn : f ≠ "__name__") (hd : (f == ("__debug__" : Str)) = false)
    (h : ∀ (w : Wd) (st : Stt) (H : Hp) (vs : List V) (ds : List D) (Q : VK), ERep (gX X T) w H st → BAll (gX X T) w H vs ds → Post (gX X T) W w (rpD (gX X T) w) H (biM b ds st) Q → r vs H Q) : BiOk X T W f b :=
  ⟨r, fun p pos e es t hg hm s1 s2 ha => pe_callTy hc hg hm hv ha hn hd (star_no s1) (stars_no s2), h⟩
def BI.one : BI → Bool
  | .max | .min => false
  | _ => true
theorem one_arg (b : BI) (hb : b.one = true) {d e : D} {ds : List D} : biM b (d :: e :: ds) = stuckM := by
  cases b <;> first | (cases d <;> rfl) | cases hb
theorem two_args (b : BI) (hb : b.one = false) {d e f : D} {ds : List D} : biM b (d :: e :: f :: ds) = stuckM := by
  cases b <;> first | (cases d <;> cases e <;> rfl) | cases hb
theorem bi_abs : BiOk X T W "abs" .abs := by
  refine biB call_abs (by decide +kernel) (by decide) (by decide) fun w st H vs ds Q E r h => ?_
  cases r with
  | nil => exact h.elim
  | cons r1 r2 =>
    cases r2 with
    | cons _ _ => rw [one_arg _ (by decide)] at h; exact h.elim
    | nil =>
      rename_i v d
      cases d with
      | int i => exact ⟨i, by rw [r1.int], h.now E (rp := rpD _ w) (Rp.int _)⟩
      | _ => exact h.elim
theorem bi_int : BiOk X T W "int" .int := by
  refine biT call_int1 (by decide +kernel) (by decide) (by decide) fun w st H vs ds Q E r h => ?_
  cases r with
  | nil => exact h.elim
  | cons r1 r2 =>
    cases r2 with
    | cons _ _ => rw [one_arg _ (by decide)] at h; exact h.elim
    | nil =>
      rename_i v d
      cases d with
      | int i => exact .inl ⟨i, by rw [r1.int], h.now E (rp := rpD _ w) (Rp.int _)⟩
      | bool i => exact .inr ⟨i, by rw [r1.bool], h.now E (rp := rpD _ w) (Rp.int _)⟩
      | _ => exact h.elim
theorem bi_all (hc : X.calm = true) : BiOk X T W "all" .all := by
  refine biB (cr_all hc) (by decide +kernel) (by decide) (by decide) fun w st H vs ds Q E r h => ?_
  cases r with
  | nil => exact h.elim
  | cons r1 r2 =>
    cases r2 with
    | cons _ _ => rw [one_arg _ (by decide)] at h; exact h.elim
    | nil =>
      rename_i v d
      cases d with
      | list xs =>
        obtain ⟨a, us, rfl, ha, hs⟩ := r1.list
        refine ⟨a, ?_⟩
        cases hb : boolsOf xs with
        | none => simp only [biM, hb] at h; exact h.elim
        | some bs =>
          simp only [biM, hb] at h
          have e := bools_v hb hs
          subst e
          exact ⟨bs, rfl, .inl ha, h.now E (rp := rpD _ w) (Rp.bl _)⟩
      | _ => exact h.elim
theorem bi_any (hc : X.calm = true) : BiOk X T W "any" .any := by
  refine biB (cr_any hc) (by decide +kernel) (by decide) (by decide) fun w st H vs ds Q E r h => ?_
  cases r with
  | nil => exact h.elim
  | cons r1 r2 =>
    cases r2 with
    | cons _ _ => rw [one_arg _ (by decide)] at h; exact h.elim
    | nil =>
      rename_i v d
      cases d with
      | list xs =>
        obtain ⟨a, us, rfl, ha, hs⟩ := r1.list
        refine ⟨a, ?_⟩
        cases hb : boolsOf xs with
        | none => simp only [biM, hb] at h; exact h.elim
        | some bs =>
          simp only [biM, hb] at h
          have e := bools_v hb hs
          subst e
          exact ⟨bs, rfl, .inl ha, h.now E (rp := rpD _ w) (Rp.bl _)⟩
      | _ => exact h.elim
theorem bi_sum (hc : X.calm = true) : BiOk X T W "sum" .sum := by
  refine biB (cr_sum hc) (by decide +kernel) (by decide) (by decide) fun w st H vs ds Q E r h => ?_
  cases r with
  | nil => exact h.elim
  | cons r1 r2 =>
    cases r2 with
    | cons _ _ => rw [one_arg _ (by decide)] at h; exact h.elim
    | nil =>
      rename_i v d
      cases d with
      | list xs =>
        obtain ⟨a, us, rfl, ha, hs⟩ := r1.list
        refine ⟨a, ?_⟩
        cases hb : intsOf xs with
        | none => simp only [biM, hb] at h; exact h.elim
        | some ns =>
          simp only [biM, hb] at h
          have e := ints_v hb hs
          subst e
          exact ⟨ns, rfl, .inl ha, h.now E (rp := rpD _ w) (Rp.int _)⟩
      | _ => exact h.elim
theorem bi_tuple : BiOk X T W "tuple" .tuple := by
  refine biT call_tuple_of (by decide +kernel) (by decide) (by decide) fun w st H vs ds Q E r h => ?_
  cases r with
  | nil => exact h.elim
  | cons r1 r2 =>
    cases r2 with
    | cons _ _ => rw [one_arg _ (by decide)] at h; exact h.elim
    | nil =>
      rename_i v d
      cases d with
      | list xs =>
        obtain ⟨a, us, rfl, ha, hs⟩ := r1.list
        exact ⟨a, us, rfl, .inl ⟨.inl ha, fun p hp => h.at_ E (upd_kp hp) (rp := rpD _ w) (new_tuple E hp hs)⟩⟩
      | tuple xs =>
        obtain ⟨a, us, rfl, ha, hs, hr⟩ := r1.tuple
        exact ⟨a, us, rfl, .inr ⟨ha, h.now E (rp := rpD _ w) hr⟩⟩
      | _ => exact h.elim
theorem bi_list : BiOk X T W "list" .list := by
  refine biT call_list_of (by decide +kernel) (by decide) (by decide) fun w st H vs ds Q E r h => ?_
  cases r with
  | nil => exact h.elim
  | cons r1 r2 =>
    cases r2 with
    | cons _ _ => rw [one_arg _ (by decide)] at h; exact h.elim
    | nil =>
      rename_i v d
      cases d with
      | list xs =>
        obtain ⟨a, us, rfl, ha, hs⟩ := r1.list
        exact ⟨a, us, rfl, .inl (.inl ha), fun p hp => h.at_ E (upd_kp hp) (rp := rpD _ w) (new_list E hp hs)⟩
      | tuple xs =>
        obtain ⟨a, us, rfl, ha, hs, hr⟩ := r1.tuple
        exact ⟨a, us, rfl, .inr ha, fun p hp => h.at_ E (upd_kp hp) (rp := rpD _ w) (new_list E hp hs)⟩
      | _ => exact h.elim
theorem insI_perm (x : Int) : ∀ xs : List Int, (insI x xs).Perm (x :: xs)
  | [] => .refl _
  | y :: ys => by
    unfold insI
    split
    · exact .refl _
    · exact ((insI_perm x ys).cons y).trans (.swap x y ys)
theorem sortI_perm : ∀ xs : List Int, (sortI xs).Perm xs
  | [] => .refl _
  | x :: xs => (insI_perm x (sortI xs)).trans ((sortI_perm xs).cons x)
theorem insI_rises (x : Int) : ∀ xs : List Int, xs.Pairwise (· ≤ ·) → (insI x xs).Pairwise (· ≤ ·)
  | [], _ => by simp [insI]
  | y :: ys, h => by
    have h1 := List.pairwise_cons.mp h
    unfold insI
    split
    · rename_i c
      refine List.pairwise_cons.mpr ⟨fun z hz => ?_, h⟩
      rcases List.mem_cons.mp hz with rfl | hz
      · exact c
      · exact Int.le_trans c (h1.1 z hz)
    · rename_i c
      refine List.pairwise_cons.mpr ⟨fun z hz => ?_, insI_rises x ys h1.2⟩
      rcases List.mem_cons.mp ((insI_perm x ys).mem_iff.mp hz) with rfl | hz
      · omega
      · exact h1.1 z hz
theorem sortI_rises : ∀ xs : List Int, (sortI xs).Pairwise (· ≤ ·)
  | [] => .nil
  | x :: xs => insI_rises x _ (sortI_rises xs)
theorem sortI_is {ns ns' : List Int} (hp : ns'.Perm ns) (hs : ns'.Pairwise (· ≤ ·)) : ns' = sortI ns :=
  List.Perm.eq_of_pairwise (fun _ _ _ _ a b => Int.le_antisymm a b) hs (sortI_rises ns) (hp.trans (sortI_perm ns).symm)
theorem rp_intsD {K : PySem.W.Frag} {H : Hp} : ∀ ns : List Int, RpAll K H (ns.map V.int) (ns.map PyData.int)
  | [] => .nil
  | n :: ns => .cons (.int n) (rp_intsD ns)
end DI
end
section
set_option linter.all false
set_option autoImplicit false
set_option maxRecDepth 100000
/-! D6g: calls of defs where no guard stands around; repr. -/
namespace DI
open PySem PySem.Spec L2
open PyProof.Rows hiding St
/-- FnOk where no guard (of repr, of a comparison) stands around the call -/
structure FnOkG (P : Program) (w : World) (K : PySem.W.Frag) (mg : Str → Option Value) (base : Heap) (CX : CXT) (k : Nat) (f : Addr) (fd : FuncData) (ps : List Str) (sp : Sp) : Prop where
  len : ∀ vs H Q E, sp vs H Q E → vs.length = ps.length
  run : ∀ (A : Around) (outer : List PySem.Env) (s : Shared) (H : Hp) (args : Args) (us : List Value) (vs : List V) (Q : VK) (E : XK), A.guards = some [] → Room k A → Env0 P w K mg base A outer s H → BindsTo s fd args (ps.zip us) → Vals vs us → sp vs H Q E →
    codeAny (model P w) A (.call (.ref f) args) (CR CX outer P w H s Q E) s
theorem FnOkG.mono {P : Program} {w : World} {K : PySem.W.Frag} {mg : Str → Option Value} {base : Heap} {CX : CXT} {j k : Nat} {f : Addr} {fd : FuncData} {ps : List Str} {sp : Sp} (F : FnOkG P w K mg base CX j f fd ps sp) (h : j ≤ k) : FnOkG P w K mg base CX k f fd ps sp :=
  ⟨F.len, fun A outer s H args us vs Q E hg hr => F.run A outer s H args us vs Q E hg (hr.mono h)⟩
theorem guards_deeper {A : Around} {env : PySem.Env} (h : A.guards = some []) : (A.deeper env).guards = some [] := h
/-- a def of the text by its body -/
theorem fn_ofG {CX : CXT} {P : Program} {w : World} {K : PySem.W.Frag} {mg : Str → Option Value} {base : Heap} {k : Nat} {f : Addr} {x qual : Str} {params : Arguments} {body : List Stmt} {scope : Scope} {dvs : List V} {kws : List (Str × V)} {fd : FuncData} {N ps : List Str} {sp : Sp}
    (F : FunD K x qual params body scope dvs kws f fd) (S : FnScope N ps scope) (len : ∀ vs H Q E, sp vs H Q E → vs.length = ps.length)
    (hbody : ∀ (cdv : Value) (A : Around) (outer : List PySem.Env) (s : Shared) (H : Hp) (vs : List V) (Q : VK) (E : XK), PySem.W.codeIn K cdv qual = true → fd.code = cdv → (A.deeper (envOfC qual scope s.heap.objs.size f cdv)).guards = some [] → Room k (A.deeper (envOfC qual scope s.heap.objs.size f cdv)) → sp vs H Q E →
      ∃ t, PSs (cxOf CX P w K mg base N qual scope f cdv A outer s H E) body t ∧ t { nx := fun _ H' => Q .non H', rt := Q } (L2.start N vs) H) : FnOkG P w K mg base CX (k + 1) f fd ps sp := by
  obtain ⟨oc, od, dV, kV, doc, pm, an, cdv, ct, osl, rfl, lk, hcd, _, _⟩ := F.ex
  exact ⟨len, fun A outer s H args us vs Q E hg hr e0 hb r hsp => LamX.run_ofS lk hcd S hr e0 hb r (len _ _ _ _ hsp) fun hr' => hbody cdv A outer s H vs Q E hcd rfl (guards_deeper hg) hr' hsp⟩
section
variable {X : Cx} {CX : CXT} {k : Nat} {f : Addr} {fd : FuncData} {ps : List Str} {sp : Sp} {dvs : List V} {ds : List Value} {E : XK} {x : Str} {p pos : Pos} {e : Expr} {es : List Expr} {t : TA}
theorem run_fnG {pins : List (Addr × Obj)} {σ : L2.St} {H : Hp} {s : Shared} {Q : VK} {us : List Value} {vs : List V} (hgd : X.A.guards = some []) (F : FnOkG X.prog X.w X.K X.mg X.base CX k f fd ps sp) (hr : Room k X.A) (hb : L2.Binds X.K fd ps ds) (hd : Vals dvs ds) (hx : Passes CX X E)
    (I : Inv X pins σ H s) (r : Vals vs us) (h : sp (vs ++ dvs) H Q E) : wpAny (model X.prog X.w) X.A (call (.ref f) us) (EP X pins σ Q) X.xe s := by
  have r2 : Vals (vs ++ dvs) (us ++ ds) := r.append hd
  have hl : (us ++ ds).length = ps.length := r2.length.symm.trans (F.len _ _ _ _ h)
  refine wpAny_call (codeAny_mono (F.run X.A X.stack s H ⟨us, []⟩ (us ++ ds) (vs ++ dvs) Q E hgd hr I.env0 (hb s us I.kIn hl) r2 h) fun r s' hq => ?_)
  match r, hq with
  | .error e, hq => exact hx pins σ H s e s' I hq
  | .ok (.ret u), hq => exact I.after hq
theorem pe_callG (hgd : X.A.guards = some []) (F : FnOkG X.prog X.w X.K X.mg X.base CX k f fd ps sp) (hr : Room k X.A) (hg : Gl X x) (hm : X.mg x = some (.ref f)) (hk : PySem.W.keepIn X.K (.ref f) = true) (hb : L2.Binds X.K fd ps ds) (hd : Vals dvs ds) (hx : Passes CX X E)
    (ha : PA X (e :: es) t) (hdb : (x == ("__debug__" : Str)) = false) (he : starEach (e :: es) X.env = (false, eval e X.env) :: starEach es X.env) (hpl : (backTo pos (starEach es X.env)).any (·.1) = false) :
    PE X (.Call (.Name x p) (e :: es) [] pos) (tCall sp dvs E t) :=
  ⟨fun pins s σ H Q I h => wpAny_Call_Name_kw (ld_glob I hg hm (PySem.W.callWith_K (h₀ := X.base) I.ok.mod.kin hk (thn (ha.run pos pins s σ H _ I h) fun us s1 ⟨vs, H1, I1, r, q⟩ => ⟨I1.kIn, run_fnG hgd F hr hb hd hx I1 r q⟩) he hpl) hdb)⟩
theorem pe_call0G (hgd : X.A.guards = some []) (F : FnOkG X.prog X.w X.K X.mg X.base CX k f fd ps sp) (hr : Room k X.A) (hg : Gl X x) (hm : X.mg x = some (.ref f)) (hk : PySem.W.keepIn X.K (.ref f) = true) (hb : L2.Binds X.K fd ps ds) (hd : Vals dvs ds) (hx : Passes CX X E)
    (hdb : (x == ("__debug__" : Str)) = false) : PE X (.Call (.Name x p) [] [] pos) (tCall sp dvs E tNil) :=
  ⟨fun pins s σ H Q I h => wpAny_Call_Name_kw (ld_glob I hg hm (PySem.W.callWith_K0 I.kIn hk (run_fnG (us := []) hgd F hr hb hd hx I .nil h)) hdb)⟩
/-! ### repr -/
theorem call_reprD (hgd : X.A.guards = some []) (hu : X.A.units + 102 < cLine) : CallR X (.builtin "repr") (fun vs H Q => ∃ a d, vs = [.ref a] ∧ Dp X.K H (.ref a) d ∧ d.showable = true ∧ d.hasDict = false ∧ d.depth ≤ 100 ∧ d.shown.length ≤ sizeLine ∧ Q (.str d.shown) H) := by
  intro pins s σ H vs us Q I r h
  obtain ⟨a, d, rfl, hd, h1, h2, h3, h4, q⟩ := h
  obtain ⟨u, rfl, ru⟩ := r.one
  cases ru
  obtain ⟨as, hr⟩ := Dp.reads I d (.ref a) (.ref a) hd rfl
  exact repr_of_reads' hr h1 (PyData.noDict_hsm h2) hgd (by omega) (fun _ _ e => e) (fun h' u tk hk => ⟨.str d.shown, H, I.kept (t' := tk) hk, ⟨u, rfl⟩, q⟩) h4
end
end DI
end
section
set_option linter.all false
set_option autoImplicit false
set_option maxRecDepth 100000
set_option maxHeartbeats 4000000
/-! D6s: a set of a list of ints; greatest and least of a tuple; sorted keys. -/
namespace DI
open PySem PySem.Spec L2
open PyProof.Rows hiding St
section
variable {P : Program} {w : World} {A : Around} {E : Value → Shared → Prop} {s : Shared}
abbrev newSet (w : World) : Obj := { cls := .type "set", dict := none, data := .set #[] 0 (.fresh 0 0 (!w.params.followText "set-order")) }
abbrev upS (w : World) (s : Shared) : Shared := { s with heap := s.heap.push (newSet w) }
/-- what a set of ns leaves -/
def SetMade (w : World) (s : Shared) (ns : List Int) (s2 : Shared) : Prop := ∃ hN tN cN, s2 = { s with heap := hN, toks := tN } ∧ SetR w hN s.heap.objs.size (fun j => decide (j ∈ ns)) cN ∧ cN ≤ ns.length ∧ ∀ b o, s.heap.get? b = some o → hN.get? b = some o
theorem set_of_list {l : Addr} {items : Array Value} (ns : List Int) {Q : Value → Shared → Prop} (hd : A.handled = none) (isl : s.heap.IsList l items) (isI : IntsAre items.toList ns) (few : ns.length + 1 < scanBound)
    (fin : ∀ s2, SetMade w s ns s2 → Q (.ref s.heap.objs.size) s2) : wpAny (model P w) A (call (.type "set") [.ref l]) Q E s := by
  have size_eq : items.size = ns.length := by simpa using IntsAre.length isI
  obtain ⟨c, tl, hmro⟩ := F.called_set.mro
  have q1 := F.called_set.made
  have q2 := F.called_set.sub
  refine wpAny_call <| codeAny_of_tree <| ?_
  show wpAny (model P w) _ (callAny (.type "set") _) _ _ s
  refine wpAny_pure <| And.intro (Code.quiet_builtin _ (by decide +kernel)) <| codeAny_builtin F.entry_type_call <| ?_
  rw [Around.under_plain (weight_type_call_type "set" [Value.ref l] []) (by rfl)]
  have q3 := F.called_set.notType
  have q4 := F.called_set.canCreate
  have q5 := F.typeCall_set_1 (Value.ref l)
  repeat (any_goals (first | wp_step | assumption))
  refine codeAny_mono (code_set_led1 (Value.ref l) (E := E) (Q₁ := fun ob sN => ob = Value.ref s.heap.objs.size ∧ sN = upS w s) (And.intro rfl rfl)) fun r sN rr => ?_
  match r, rr with
  | .error e, rr => exact rr
  | .ok (.ret ob), rr =>
    obtain ⟨e1, e2⟩ := rr
    subst e1 e2
    have gS : (upS w s).heap.get? s.heap.objs.size = some (newSet w) := Heap.get?_push_size _ rfl
    have tS : Shared.TypeIs (upS w s) (Value.ref s.heap.objs.size) "set" := ⟨_, gS, rfl⟩
    have q6 := F.called_set.init.lookup
    have q7 := F.called_set.init.bind (Value.ref s.heap.objs.size)
    repeat (any_goals (first | wp_step | assumption))
    refine codeAny_mono (codeAny_call_builtin (R := wants (fun v s2 => v = Value.none ∧ SetMade w s ns s2) E) F.called_set.init.plain F.entry_set_init (check_set_init_1 tS ?_)) fun r2 s2 rr2 => ?_
    · obtain ⟨⟨oc, od, dat, osl⟩, gl, hc, nl, hdt⟩ := isl
      simp only at hc hdt
      subst hc
      subst hdt
      have gl2 : (upS w s).heap.get? l = some { cls := .type "list", dict := od, data := .seq items nl, slots := osl } := Heap.get?_push_of_some _ gl
      have isl2 : (upS w s).heap.IsList l items := ⟨_, gl2, rfl, nl, rfl⟩
      have z1 := F.sub_list_set
      have z2 := F.sub_list_frozenset
      have z3 : (Value.type "list" == Value.type "dict") = false := by decide
      unfold Builtin.«set.__init__» noKeywords Builtin.Frozenset.updateFrom
      generalize hIter : pyIter = PI
      wp_walk
      subst hIter
      have lt : l < s.heap.objs.size := Heap.lt_size gl
      have hd3 : A.in1.in1.in1.handled = none := by simp [hd]
      have hz : (upS w s).heap.objs.size = s.heap.objs.size + 1 := Heap.size_push _ _
      have ne2 : l ≠ (upS w s).heap.objs.size := by rw [hz]; exact Nat.ne_of_lt (Nat.lt_succ_of_lt lt)
      have keep : ∀ b o, (upS w s).heap.get? b = some o → ((upS w s).heap.push { cls := .type "list_iterator", data := .fields #[.ref l, .int 0 0] }).get? b = some o := fun b o e => Heap.get?_push_of_some _ e
      refine wpAny_pyIter_list isl2 ?_
      refine wpAny_bind (wpAny_runValue ?_)
      have apart : s.heap.objs.size ∉ [(upS w s).heap.objs.size, l] := by
        rw [hz]
        intro m
        rcases List.mem_cons.mp m with e | m
        · exact absurd e (Nat.ne_of_lt (Nat.lt_succ_self _))
        · exact absurd (List.mem_singleton.mp m) (Nat.ne_of_gt lt)
      refine set_update_ints ((Walks.list hd3 _ l ne2 items).toS) s.heap.objs.size apart ns size_eq few (fun i v hv => ?_) items.size 0 _ (Nat.sub_zero _) (Nat.zero_le _) ⟨⟨_, Heap.get?_push_size _ rfl, rfl, rfl⟩, isl2.push _⟩ ⟨0, Nat.le_refl 0, setR_new_at (keep _ _ gS)⟩ fun s4 cN mv hcN hR => ?_
      · have hi : i < ns.length := by rw [← size_eq]; exact (Array.getElem?_eq_some_iff.mp hv).1
        obtain ⟨t, e⟩ := PyProof.Rows.IntsAre.int_at isI i v (by rw [Array.getElem?_toList]; exact hv)
        exact ⟨ns[i], t, List.getElem?_eq_getElem hi, by rw [e, List.getD_eq_getElem?_getD, List.getElem?_eq_getElem hi] <;> rfl⟩
      · obtain ⟨hN, gN, dN, tN, oN⟩ := s4
        cases mv.gens
        cases mv.drawn
        cases mv.os
        rw [size_eq] at hcN
        show wpAny _ _ (pure _) _ _ _
        refine wpAny_pure ?_
        show wpAny _ _ (PySem.ret Value.none) _ _ _
        refine wpAny_pure ⟨rfl, hN, tN, cN, rfl, hR, hcN, fun b o e => ?_⟩
        have b0 : b < s.heap.objs.size := Heap.lt_size e
        refine mv.heap b o ?_ (keep b o (Heap.get?_push_of_some _ e))
        intro m
        rcases List.mem_cons.mp m with e | m
        · exact absurd e (Nat.ne_of_lt b0)
        · rw [hz] at m
          exact absurd (List.mem_singleton.mp m) (Nat.ne_of_lt (Nat.lt_succ_of_lt b0))
    · match r2, rr2 with
      | .error e, rr2 => exact rr2
      | .ok (.ret v), rr2 =>
        obtain ⟨e1, made⟩ := rr2
        subst e1
        repeat (any_goals (first | wp_step | assumption))
        exact fin _ made
end
end DI
end
section
set_option linter.all false
set_option autoImplicit false
set_option maxRecDepth 100000
/-! D6t: sets of ints, sorted keys, greatest and least of tuples: as calls. -/
namespace DI
open PySem PySem.Spec L2
open PyProof.Rows hiding St
theorem dedupI_mem (k : Int) : ∀ ns : List Int, k ∈ dedupI ns ↔ k ∈ ns
  | [] => by simp [dedupI]
  | [x] => by simp [dedupI]
  | x :: y :: r => by
    unfold dedupI
    have ih := dedupI_mem k (y :: r)
    split
    · rename_i e
      subst e
      rw [ih]
      simp
    · rw [List.mem_cons, ih, List.mem_cons (a := k) (b := x)]
theorem dedupI_rises : ∀ ns : List Int, ns.Pairwise (· ≤ ·) → (dedupI ns).Pairwise (· < ·)
  | [], _ => by simp [dedupI]
  | [x], _ => by simp [dedupI]
  | x :: y :: r, h => by
    unfold dedupI
    have h1 := List.pairwise_cons.mp h
    have ih := dedupI_rises (y :: r) h1.2
    split
    · exact ih
    · rename_i e
      refine List.pairwise_cons.mpr ⟨fun z hz => ?_, ih⟩
      have hz2 := (dedupI_mem z (y :: r)).mp hz
      have h2 := List.pairwise_cons.mp h1.2
      have hxy := h1.1 y List.mem_cons_self
      rcases List.mem_cons.mp hz2 with q | q
      · omega
      · have := h2.1 z q
        omega
theorem setI_mem (ns : List Int) (k : Int) : k ∈ setI ns ↔ k ∈ ns := by
  unfold setI
  rw [dedupI_mem, (sortI_perm ns).mem_iff]
theorem setI_rises (ns : List Int) : (setI ns).Pairwise (· < ·) := dedupI_rises _ (sortI_rises ns)
theorem rises_nodup {ns : List Int} (h : ns.Pairwise (· < ·)) : ns.Nodup := h.imp fun q e => by omega
theorem setI_is {ns ns' : List Int} (h : ns'.Pairwise (· < ·)) (m : ∀ k, k ∈ ns' ↔ k ∈ ns) : ns' = setI ns := by
  have pm : ns'.Perm (setI ns) := (List.perm_ext_iff_of_nodup (rises_nodup h) (rises_nodup (setI_rises ns))).mpr fun k => by rw [m, setI_mem]
  exact List.Perm.eq_of_pairwise (fun a b _ _ p q => by omega) (h.imp fun q => Int.le_of_lt q) ((setI_rises ns).imp fun q => Int.le_of_lt q) pm
section
variable {X : Cx}
/-- set(xs), xs a list or tuple of ints -/
def rSetI (K : PySem.W.Frag) (w : World) : List V → Hp → VK → Prop := fun xs H Q => ∃ (l : Addr) (ns : List Int), xs = [.ref l] ∧ (SqL K H l (ns.map V.int) ∨ SqT K H l (ns.map V.int)) ∧ ns.length < 63 ∧
  ∀ p c, H p = none → c ≤ ns.length → Q (.ref p) (upd H p (SetO w p (fun j => decide (j ∈ ns)) c))
theorem cr_setI (hc : X.calm = true) : CallR X (.type "set") (rSetI X.K X.w) := by
  intro pins s σ H vs us Q I r h
  obtain ⟨l, ns, rfl, hs, few, q⟩ := h
  rw [Vals.ref1 r]
  have fresh : H s.heap.objs.size = none := I.hok.fresh (Nat.le_refl _)
  have fin : ∀ (h' : Heap) (tk c : Nat), SetR X.w h' s.heap.objs.size (fun j => decide (j ∈ ns)) c → c ≤ ns.length → (∀ b o, s.heap.get? b = some o → h'.get? b = some o) → ∃ x H', Inv X pins σ H' { s with heap := h', toks := tk } ∧ RelV x (.ref s.heap.objs.size) ∧ Q x H' :=
    fun h' tk c hR hcn k => ⟨.ref _, upd H s.heap.objs.size (SetO X.w s.heap.objs.size (fun j => decide (j ∈ ns)) c), I.laid (t' := tk) k (Nat.le_refl _) (setO_new hR), rfl, q _ c fresh hcn⟩
  rcases hs with hs | hs
  · obtain ⟨its, rv, pl, hz⟩ := I.list hs
    exact set_of_list ns (I.ok.hd hc) pl.isList (by simpa using rv.ints) (by unfold scanBound; omega) fun s2 ⟨h', tk, c, e, hR, hcn, k⟩ => by
      subst e
      exact fin h' tk c hR hcn k
  · obtain ⟨its, rv, pt, hz⟩ := I.tuple hs
    exact call_set_tupI ns (I.ok.hd hc) (show s.heap.IsTuple l its.toArray from pt) (by simpa using rv.ints) (by unfold scanBound; omega) fin
/-- sorted(t) of a tuple of ints -/
def rSortTI (K : PySem.W.Frag) : List V → Hp → VK → Prop := fun vs H Q => ∃ (a : Addr) (ns : List Int), vs = [.ref a] ∧ SqT K H a (ns.map V.int) ∧ ns.length < 64 ∧
  ∀ (ms : List Int) (p : Addr), ms.Perm ns → ms.Pairwise (· ≤ ·) → H p = none → Q (.ref p) (upd H p (.lst (ms.map V.int)))
theorem cr_sortedTI : CallR X (.builtin "sorted") (rSortTI X.K) := by
  intro pins s σ H vs us Q I r h
  obtain ⟨a, ns, rfl, hs, few, q⟩ := h
  rw [Vals.ref1 r]
  obtain ⟨its, rv, pt, hz⟩ := I.tuple hs
  obtain ⟨ot, gt, ct, nt, dt⟩ := (show s.heap.IsTuple a its.toArray from pt)
  have isI : IntsAre its ns := by simpa using rv.ints
  have len : its.length = ns.length := isI.length
  refine Calls.call_function_entry PyProof.Rows.kind_sorted PyProof.Rows.plain_sorted PyProof.Rows.entry_sorted (PyProof.Rows.args_sorted1 _) ?_
  unfold Builtin.«sorted»
  refine wpAny_bind (m := checkCount "sorted" 1 1 _) <| wpAny_pure ?_
  refine wpAny_bind <| wpAny_collect_seq a (.inr rfl) gt ct dt (fun hN keep => ?_) (by rw [List.size_toArray, len, sizeLine_eq]; omega)
  have IN : Inv X pins σ H { s with heap := hN } := I.kept (t' := s.toks) keep
  rw [show its.toArray.toList = its by simp]
  refine wpAny_bind <| wpAny_newList ?_ (by rw [len, sizeLine_eq]; omega)
  have gL : (hN.push (seqObj "list" its.toArray 0)).get? hN.objs.size = some (seqObj "list" its.toArray 0) := Heap.get?_push_size _ rfl
  show wpAny _ _ _ _ _ { s with heap := hN.push (seqObj "list" its.toArray 0) }
  refine wpAny_bind <| wpAny_holding <| wpAny_call_entry PyProof.Rows.slot_list_sort ⟨_, gL, rfl⟩ PyProof.Rows.entry_list_sort
    (PyProof.Rows.list_sort_tree (s := { s with heap := hN.push (seqObj "list" its.toArray 0) }) gL isI (by rw [len]; exact few) fun out ms g1 g2 g3 => ⟨_, rfl, ?_⟩) (PyProof.Rows.args_list_sort _)
  obtain ⟨eN, hE⟩ := PyProof.Rows.sortedHeap_at (vs := its) (out := out) gL
  have hlen : (ms.map V.int).length ≤ sizeLine := by rw [List.length_map, g2.length_eq, sizeLine_eq]; omega
  refine wpAny_pure ⟨_, rfl, .ref hN.objs.size, upd H hN.objs.size (.lst (ms.map V.int)), IN.laid (t' := s.toks) (fun b u e => ?_) (Nat.le_refl _)
    (show ObjOk X.prog X.w _ _ _ (.lst (ms.map V.int)) from ⟨hlen, out.toList, eN, vals_of_ints g1, by rw [Array.toArray_toList]; exact hE⟩), rfl, q ms _ g2 g3 (IN.hok.fresh (Nat.le_refl _))⟩
  have hb : b < hN.objs.size := Heap.lt_size e
  rw [PyProof.Rows.sortedHeap_old (Nat.ne_of_lt hb) (by rw [size_push']; exact Nat.lt_succ_of_lt hb)]
  exact Heap.get?_push_of_some _ e
/-- len(set(..)) -/
def rLenSetI (w : World) : List V → Hp → VK → Prop := fun vs H Q => ∃ (a : Addr) (ns : List Int) (c : Nat), vs = [.ref a] ∧ H a = some (SetO w a (fun j => decide (j ∈ ns)) c) ∧ Q (.int (setI ns).length) H
theorem call_lenSetI : CallR X (.builtin "len") (rLenSetI X.w) := by
  intro pins s σ H vs us Q I r h
  obtain ⟨a, ns, c, rfl, ha, q⟩ := h
  rw [Vals.ref1 r]
  obtain ⟨o, es, ep, t, ho, hex, hd, _, nd, hm, hb, hf, hn, _⟩ := setO_get I ha
  have pm : (es.toList.map L2.keyOf).Perm (setI ns) := (List.perm_ext_iff_of_nodup nd (rises_nodup (setI_rises ns))).mpr fun k => by rw [setI_mem, ← hm k]; simp
  have hl : es.size = (setI ns).length := by
    have z := pm.length_eq
    simpa using z
  exact call_len_set ho hex hd hf (by unfold scanBound at hb; omega) ⟨.int (setI ns).length, H, I.tok _, ⟨_, by rw [hl]⟩, q⟩
/-- max(t), min(t) of a tuple of ints -/
theorem ints_data {h : Heap} : ∀ {ns : List Int} {us : List Value}, IntsAre us ns → ∃ as, ReadsAll h us (ns.map PyData.int) as
  | _, _, .nil => ⟨_, .nil⟩
  | _, _, .cons n t r => by
    obtain ⟨as, z⟩ := ints_data (h := h) r
    exact ⟨_, .cons (.int n t) z⟩
theorem alike_allI (ns : List Int) : PySem.W.AlikeAll (ns.map PyData.int) := ⟨fun x hx y hy => by
  obtain ⟨a, _, rfl⟩ := List.mem_map.mp hx
  obtain ⟨b, _, rfl⟩ := List.mem_map.mp hy
  simp [PySem.W.alike], fun x hx => by
  obtain ⟨a, _, rfl⟩ := List.mem_map.mp hx
  simp⟩
theorem depth_allI : ∀ ns : List Int, PyData.depthAll (ns.map PyData.int) = 0
  | [] => by simp [PyData.depthAll]
  | n :: ns => by simp [PyData.depthAll, PyData.depth, depth_allI ns]
def rMxT (K : PySem.W.Frag) (f : Int → List Int → Int) : List V → Hp → VK → Prop := fun vs H Q => ∃ (a : Addr) (n : Int) (ns : List Int), vs = [.ref a] ∧ SqT K H a ((n :: ns).map V.int) ∧ Q (.int (f n ns)) H
theorem cr_maxT (hc : X.calm = true) (hu : X.A.units + 1 < cLine) : CallR X (.builtin "max") (rMxT X.K fun n ns => ns.foldl max n) := by
  intro pins s σ H vs us Q I r h
  obtain ⟨a, n, ns, rfl, hs, q⟩ := h
  rw [Vals.ref1 r]
  obtain ⟨its, rv, pt, hz⟩ := I.tuple hs
  obtain ⟨as, hr⟩ := ints_data (h := s.heap) rv.ints
  refine PySem.W.max_tuple_data (I.ok.hd hc) (show s.heap.IsTuple a its.toArray from pt) (x := .int n) (xs := ns.map .int) (by simpa using hr) (alike_allI (n :: ns)) (by rw [show (PyData.int n :: ns.map PyData.int) = (n :: ns).map PyData.int from rfl, depth_allI]; omega) fun i v h' tk bs hv rd k => ?_
  rw [PySem.W.maxD_ints] at rd
  cases rd with
  | int _ t => exact ⟨.int _, H, I.kept (t' := tk) k, ⟨t, rfl⟩, q⟩
theorem cr_minT (hc : X.calm = true) (hu : X.A.units + 1 < cLine) : CallR X (.builtin "min") (rMxT X.K fun n ns => ns.foldl min n) := by
  intro pins s σ H vs us Q I r h
  obtain ⟨a, n, ns, rfl, hs, q⟩ := h
  rw [Vals.ref1 r]
  obtain ⟨its, rv, pt, hz⟩ := I.tuple hs
  obtain ⟨as, hr⟩ := ints_data (h := s.heap) rv.ints
  refine PySem.W.min_tuple_data (I.ok.hd hc) (show s.heap.IsTuple a its.toArray from pt) (x := .int n) (xs := ns.map .int) (by simpa using hr) (alike_allI (n :: ns)) (by rw [show (PyData.int n :: ns.map PyData.int) = (n :: ns).map PyData.int from rfl, depth_allI]; omega) fun i v h' tk bs hv rd k => ?_
  rw [PySem.W.minD_ints] at rd
  cases rd with
  | int _ t => exact ⟨.int _, H, I.kept (t' := tk) k, ⟨t, rfl⟩, q⟩
end
end DI
end
section
set_option linter.all false
set_option autoImplicit false
set_option maxRecDepth 100000
/-! D6u: len, max, min, sorted, all kinds of arguments. -/
namespace DI
open PySem PySem.Spec L2
open PyProof.Rows hiding St
variable {X : Cx} {T : List (Addr × Str)} {W : EW}
theorem RpKs.len {K : PySem.W.Frag} {H : Hp} : ∀ {kvs : List (Key × V)} {es : List (D × D)}, RpKs K H kvs es → kvs.length = es.length
  | _, _, .nil => rfl
  | _, _, .cons _ h => by simp [RpKs.len h]
theorem RpKs.keysI {K : PySem.W.Frag} {H : Hp} : ∀ {kvs : List (Key × V)} {es : List (D × D)} {ns : List Int}, RpKs K H kvs es → intsOf (es.map (·.1)) = some ns → kvs.map (·.1) = ns.map Sum.inl
  | _, _, _, .nil, h => by cases h; rfl
  | _, _, ns, .cons (k := k) _ r, h => by
    cases k with
    | inr x => cases h
    | inl i =>
      simp only [List.map_cons, kD, intsOf, Option.map_eq_some_iff] at h
      obtain ⟨ms, h1, rfl⟩ := h
      simp [RpKs.keysI r h1]
def rLenD : List V → Hp → VK → Prop := fun vs H Q => ∃ (a : Addr) (kvs : List (Key × V)), vs = [.ref a] ∧ Rd H a (.dK kvs) ∧ Q (.int kvs.length) H
theorem call_lenD : CallR X (.builtin "len") rLenD := by
  intro pins s σ H vs us Q I r h
  obtain ⟨a, kvs, rfl, ha, q⟩ := h
  rw [Vals.ref1 r]
  exact d_len I ha fun t s' I' => ⟨.int kvs.length, H, I', ⟨t, rfl⟩, q⟩
theorem bi_len : BiOk X T W "len" .len := by
  refine biB ((call_len_seq.or call_len_str).or call_lenD) (by decide +kernel) (by decide) (by decide) fun w st H vs ds Q E r h => ?_
  cases r with
  | nil => exact h.elim
  | cons r1 r2 =>
    cases r2 with
    | cons _ _ => rw [one_arg _ (by decide)] at h; exact h.elim
    | nil =>
      rename_i v d
      cases d with
      | list xs =>
        obtain ⟨a, us, rfl, ha, hs⟩ := r1.list
        refine .inl (.inl ⟨a, us, rfl, .inl (.inl ha), ?_⟩)
        rw [len_le hs]
        exact h.now E (rp := rpD _ w) (Rp.int _)
      | tuple xs =>
        obtain ⟨a, us, rfl, ha, hs, _⟩ := r1.tuple
        refine .inl (.inl ⟨a, us, rfl, .inr ha, ?_⟩)
        rw [len_le hs]
        exact h.now E (rp := rpD _ w) (Rp.int _)
      | str x =>
        have e := r1.str
        subst e
        obtain ⟨hb, h⟩ := Post.grd h
        exact .inl (.inr ⟨x, rfl, fits_le hb, h.now E (rp := rpD _ w) (Rp.int _)⟩)
      | dict es =>
        obtain ⟨a, kvs, rfl, ha, hs⟩ := r1.dict
        refine .inr ⟨a, kvs, rfl, ha, ?_⟩
        rw [RpKs.len hs]
        exact h.now E (rp := rpD _ w) (Rp.int _)
      | _ => exact h.elim

theorem bi_max (hc : X.calm = true) (hu : X.A.units + 1 < cLine) : BiOk X T W "max" .max := by
  refine biB (((cr_max hc).or (call_max2 hc)).or (cr_maxT hc hu)) (by decide +kernel) (by decide) (by decide) fun w st H vs ds Q E r h => ?_
  cases r with
  | nil => exact h.elim
  | cons r1 r2 =>
    rename_i v d us es
    cases r2 with
    | cons r2 r3 =>
      rename_i v2 d2 us2 es2
      cases r3 with
      | cons _ _ => rw [two_args _ (by decide)] at h; exact h.elim
      | nil =>
        cases d with
        | int i =>
          cases d2 with
          | int j => exact .inl (.inr ⟨i, j, by rw [r1.int, r2.int], h.now E (rp := rpD _ w) (Rp.int _)⟩)
          | _ => exact h.elim
        | _ => exact h.elim
    | nil =>
      cases d with
      | list xs =>
        obtain ⟨a, us, rfl, ha, hs⟩ := r1.list
        refine .inl (.inl ⟨a, ?_⟩)
        cases hb : intsOf xs with
        | none => simp only [biM, hb] at h; exact h.elim
        | some ns =>
          simp only [biM, hb] at h
          change Post _ _ _ _ _ ((bnd (optM (maxI ns)) fun m => ret (PyData.int m)) st) _ at h
          cases hm : maxI ns with
          | none => rw [hm] at h; exact h.elim
          | some m =>
            rw [hm] at h
            have e := ints_v hb hs
            subst e
            obtain ⟨m1, m2⟩ := maxI_is hm
            refine ⟨ns, rfl, .inl ha, m1, fun k hk hy => ?_⟩
            rw [m2 k hk hy]
            exact h.now E (rp := rpD _ w) (Rp.int _)
      | tuple xs =>
        obtain ⟨a, us, rfl, ha, hs, _⟩ := r1.tuple
        cases hb : intsOf xs with
        | none => simp only [biM, hb] at h; exact h.elim
        | some ns =>
          simp only [biM, hb] at h
          have e := ints_v hb hs
          subst e
          cases ns with
          | nil => exact h.elim
          | cons n ns =>
            refine .inr ⟨a, n, ns, rfl, ha, ?_⟩
            have h : Post (gX X T) W w (rpD (gX X T) w) H ((ret (PyData.int (ns.foldl (fun a b => if b > a then b else a) n)) : M D) st) Q := h
            rw [show ns.foldl (fun a b => if b > a then b else a) n = ns.foldl max n from by congr 1; funext a b; by_cases c : b > a <;> simp [c] <;> omega] at h
            exact h.now E (rp := rpD _ w) (Rp.int _)
      | _ => exact h.elim
theorem bi_min (hc : X.calm = true) (hu : X.A.units + 1 < cLine) : BiOk X T W "min" .min := by
  refine biB (((cr_min hc).or (call_min2 hc)).or (cr_minT hc hu)) (by decide +kernel) (by decide) (by decide) fun w st H vs ds Q E r h => ?_
  cases r with
  | nil => exact h.elim
  | cons r1 r2 =>
    rename_i v d us es
    cases r2 with
    | cons r2 r3 =>
      rename_i v2 d2 us2 es2
      cases r3 with
      | cons _ _ => rw [two_args _ (by decide)] at h; exact h.elim
      | nil =>
        cases d with
        | int i =>
          cases d2 with
          | int j => exact .inl (.inr ⟨i, j, by rw [r1.int, r2.int], h.now E (rp := rpD _ w) (Rp.int _)⟩)
          | _ => exact h.elim
        | _ => exact h.elim
    | nil =>
      cases d with
      | list xs =>
        obtain ⟨a, us, rfl, ha, hs⟩ := r1.list
        refine .inl (.inl ⟨a, ?_⟩)
        cases hb : intsOf xs with
        | none => simp only [biM, hb] at h; exact h.elim
        | some ns =>
          simp only [biM, hb] at h
          change Post _ _ _ _ _ ((bnd (optM (minI ns)) fun m => ret (PyData.int m)) st) _ at h
          cases hm : minI ns with
          | none => rw [hm] at h; exact h.elim
          | some m =>
            rw [hm] at h
            have e := ints_v hb hs
            subst e
            obtain ⟨m1, m2⟩ := minI_is hm
            refine ⟨ns, rfl, .inl ha, m1, fun k hk hy => ?_⟩
            rw [m2 k hk hy]
            exact h.now E (rp := rpD _ w) (Rp.int _)
      | tuple xs =>
        obtain ⟨a, us, rfl, ha, hs, _⟩ := r1.tuple
        cases hb : intsOf xs with
        | none => simp only [biM, hb] at h; exact h.elim
        | some ns =>
          simp only [biM, hb] at h
          have e := ints_v hb hs
          subst e
          cases ns with
          | nil => exact h.elim
          | cons n ns =>
            refine .inr ⟨a, n, ns, rfl, ha, ?_⟩
            have h : Post (gX X T) W w (rpD (gX X T) w) H ((ret (PyData.int (ns.foldl (fun a b => if b < a then b else a) n)) : M D) st) Q := h
            rw [show ns.foldl (fun a b => if b < a then b else a) n = ns.foldl min n from by congr 1; funext a b; by_cases c : b < a <;> simp [c] <;> omega] at h
            exact h.now E (rp := rpD _ w) (Rp.int _)
      | _ => exact h.elim
theorem bi_sorted (hc : X.calm = true) : BiOk X T W "sorted" .sorted := by
  refine biB ((cr_sortedI.or (call_sortedDI hc)).or cr_sortedTI) (by decide +kernel) (by decide) (by decide) fun w st H vs ds Q E r h => ?_
  cases r with
  | nil => exact h.elim
  | cons r1 r2 =>
    cases r2 with
    | cons _ _ => rw [one_arg _ (by decide)] at h; exact h.elim
    | nil =>
      rename_i v d
      cases d with
      | list xs =>
        cases hi : intsOf xs with
        | none =>
          have h : Post (gX X T) W w (rpD (gX X T) w) H (bnd (optM (intsOf xs)) (fun ns => ret (.list ((sortI ns).map PyData.int))) st) Q := h
          rw [hi] at h
          exact h.elim
        | some ns =>
          have h : Post (gX X T) W w (rpD (gX X T) w) H (bnd (optM (intsOf xs)) (fun ns => ret (.list ((sortI ns).map PyData.int))) st) Q := h
          rw [hi] at h
          have h : Post (gX X T) W w (rpD (gX X T) w) H ((ret (.list ((sortI ns).map PyData.int)) : M D) st) Q := h
          obtain ⟨a, us, rfl, ha, hs⟩ := r1.list
          have e := ints_v hi hs
          subst e
          exact .inl (.inl ⟨a, ns, rfl, .inl ha, fun ns' p hp hr hn => by
            have e := sortI_is hp hr
            subst e
            exact h.at_ E (upd_kp hn) (rp := rpD _ w) (new_list E hn (rp_intsD _))⟩)
      | dict es =>
        have h : Post (gX X T) W w (rpD (gX X T) w) H (bnd (optM (intsOf (es.map (·.1)))) (fun ns => guardM (decide (ns.length < 64)) (ret (.list ((sortI ns).map PyData.int)))) st) Q := h
        cases hi : intsOf (es.map (·.1)) with
        | none => rw [hi] at h; exact h.elim
        | some ns =>
          rw [hi] at h
          obtain ⟨hb, h⟩ := Post.grd (show Post (gX X T) W w (rpD (gX X T) w) H (guardM (decide (ns.length < 64)) (ret (.list ((sortI ns).map PyData.int)) : M D) st) Q from h)
          obtain ⟨a, kvs, rfl, ha, hs⟩ := r1.dict
          exact .inl (.inr ⟨a, kvs, ns, rfl, ha, RpKs.keysI hs hi, of_decide_eq_true hb, fun ns' p hp hr hn => by
            have e := sortI_is hp hr
            subst e
            exact h.at_ E (upd_kp hn) (rp := rpD _ w) (new_list E hn (rp_intsD _))⟩)
      | tuple xs =>
        have h : Post (gX X T) W w (rpD (gX X T) w) H (bnd (optM (intsOf xs)) (fun ns => guardM (decide (ns.length < 64)) (ret (.list ((sortI ns).map PyData.int)))) st) Q := h
        cases hi : intsOf xs with
        | none => rw [hi] at h; exact h.elim
        | some ns =>
          rw [hi] at h
          obtain ⟨hb, h⟩ := Post.grd (show Post (gX X T) W w (rpD (gX X T) w) H (guardM (decide (ns.length < 64)) (ret (.list ((sortI ns).map PyData.int)) : M D) st) Q from h)
          obtain ⟨a, us, rfl, ha, hs, _⟩ := r1.tuple
          have e := ints_v hi hs
          subst e
          exact .inr ⟨a, ns, rfl, ha, of_decide_eq_true hb, fun ns' p hp hr hn => by
            have e := sortI_is hp hr
            subst e
            exact h.at_ E (upd_kp hn) (rp := rpD _ w) (new_list E hn (rp_intsD _))⟩
      | _ => exact h.elim
end DI
end
section
set_option linter.all false
set_option autoImplicit false
set_option maxRecDepth 100000
set_option maxHeartbeats 2000000
/-! D19: a lambda without parameters, or with one that has a written number: made, called. -/
namespace DI
open PySem PySem.Spec L2
open PyProof.Rows hiding St
open LamX
/-- its parameters; the number -/
inductive LamDef : Arguments → List Str → List Int → Prop
  | none : LamDef ⟨[], [], none, [], [], none, []⟩ [] []
  | one (p : Str) (i : Int) (j : Nat) (q q2 : Pos) : LamDef ⟨[], [⟨p, none, q⟩], none, [], [], none, [.Constant (.int i) j q2]⟩ [p] [i]
/-- its defaults as they stand -/
def DflAt (h : Heap) (H : Hp) (fs : List Addr) (dV : Value) : List Int → Prop
  | [] => dV = .none
  | i :: _ => ∃ (t : Addr) (tok : Tok), dV = .ref t ∧ h.get? t = some (PySem.W.kdv_tup [.int i tok]) ∧ H t = none ∧ t ∉ fs
section
variable {X : Cx} {pins : List (Addr × Obj)} {σ : L2.St} {H : Hp} {s : Shared}
theorem nofr (I : Inv X pins σ H s) : ∀ f, s.heap.objs.size ≤ f → f ∉ frs X.stack := fun f hf z => by
  rcases List.mem_cons.mp (I.stkSub _ z) with e | e
  · have h1 := I.lt
    rw [← e] at h1
    exact Nat.lt_irrefl _ (Nat.lt_of_lt_of_le h1 hf)
  · exact I.nofs hf e
/-- what is known behind the making -/
structure Made (X : Cx) (T : List (Addr × Str)) (params : Arguments) (body : Expr) (scope : Scope) (ds : List Int) (H H1 : Hp) (s' : Shared) (f c' : Addr) : Prop where
  ext : ExtN H H1
  dom : ∀ b, H b ≠ none → H1 b ≠ none
  tabs : Tabs T H1
  obj : ∃ (dV doc pm ctv : Value), s'.heap.get? f = some (PySem.W.kdv_obj "<lambda>" (X.env.qual ++ "<lambda>") params (.expr body) scope (cloFrom X.env.cells scope.names []) dV doc pm c' ctv) ∧ DflAt s'.heap H1 (frs X.stack) dV ds
  free : H1 f = none
  nofr : f ∉ frs X.stack
  code : H1 c' = some (CodeO c' (X.env.qual ++ "<lambda>"))
theorem lam_tail {T : List (Addr × Str)} {c P : Addr} {params : Arguments} {body : Expr} {scope : Scope} {pos : Pos} {ds : List Int} {dV : Value} {E : Value → Shared → Prop} {Q : Value → Shared → Prop} {Hb : Hp} (I : Inv X pins σ H s) (TB : TabB X.base X.mg c P) (hcode : X.env.code = .ref c)
    (hm : (P, X.env.qual ++ "<lambda>") ∈ T) (hu : ∀ p ∈ T, p.1 = P → p.2 = X.env.qual ++ "<lambda>") (hT : Tabs T H) (hfree : ∀ y ∈ scope.names, y.2 = .free → ∃ c, X.env.cells.lookup y.1 = some c)
    (hd : DflAt s.heap H (frs X.stack) dV ds)
    (h : ∀ (f c' : Addr) (H1 : Hp) (s' : Shared), Inv X pins σ H1 s' → Made X T params body scope ds H H1 s' f c' → Q (.ref f) s') :
    wpAny (model X.prog X.w) X.A (makeTail "<lambda>" (X.env.qual ++ "<lambda>") params (.expr body) scope X.env dV .none none pos pos.line) Q E s := by
  obtain ⟨ps, hP, ht, ha⟩ := hT _ hm
  have bP : s.heap.BuiltinsAt X.mg P := TB.bm.keeps I.bk
  have hP' : s.heap.get? P = some { cls := .none, data := .fields ps } := I.hok P _ hP
  have dfl : ∀ {h' : Heap} {H1 : Hp}, (∀ b o, s.heap.get? b = some o → H b = none → h'.get? b = some o) → (∀ b o, s.heap.get? b = some o → H b = none → H1 b = none) → DflAt h' H1 (frs X.stack) dV ds := fun {h' H1} k1 k2 => by
    cases ds with
    | nil => exact hd
    | cons i r =>
      obtain ⟨t, tok, e, h1, h2, h3⟩ := hd
      exact ⟨t, tok, e, k1 _ _ h1 h2, k2 _ _ h1 h2, h3⟩
  have nP : ∀ b, H b = none → b ≠ P := fun b e z => by rw [z, hP] at e; cases e
  cases hc : codeAmong pos ps.toList with
  | none =>
    refine PySem.W.kdv_makeTail (mg := X.mg) (c := c) (P := P) (ps := ps) (closure_ok hfree) I.ok.glob (I.mod.glob.keeps I.bk) hcode (TB.code.keeps I.bk) hP' ht hc TB.gP bP fun c' ctv doc h' tk hx hge hlt hrec htb => ?_
    obtain ⟨c2, oc, vs, t, e2, hoc, hdo, hv⟩ := hrec
    cases e2
    have hsz : s.heap.objs.size ≤ h'.objs.size := Nat.le_trans hge (Nat.le_of_lt hlt)
    have nC : H c' = none := I.hok.fresh hge
    have I1 := inv_table (t' := tk) (more := #[rawInt pos.line, rawInt pos.col, .ref c']) (h' := h'.push (PySem.W.kdv_obj "<lambda>" (X.env.qual ++ "<lambda>") params (.expr body) scope (cloFrom X.env.cells scope.names []) dV doc ((X.mg "__name__").getD .none) c' ctv)) I hP
      (fun b o hb e => Heap.get?_push_of_some _ (hx b o hb e)) (Heap.get?_push_of_some _ htb) hge ⟨oc, vs, t, Heap.get?_push_of_some _ hoc, hdo, hv⟩
    have hE : ExtN H (upd (upd H P (.tbl (ps ++ #[rawInt pos.line, rawInt pos.col, .ref c']))) c' (CodeO c' (X.env.qual ++ "<lambda>"))) := fun b o e n => by
      rw [upd_ne (ne_of_none e nC), upd_ne (fun z => n ps (Option.some.inj (e.symm.trans (by rw [z]; exact hP))))]
      exact e
    have eL : (ps ++ #[rawInt pos.line, rawInt pos.col, .ref c']).toList = ps.toList ++ [rawInt pos.line, rawInt pos.col, .ref c'] := by simp
    refine h h'.objs.size c' _ _ I1 ⟨hE, fun b hb => ?_, fun p hp => ?_, ⟨dV, doc, (X.mg "__name__").getD .none, ctv, Heap.get?_push_size _ rfl, dfl (fun b o e n => Heap.get?_push_of_some _ (hx b o (nP b n) e)) fun b o e n => ?_⟩, ?_, nofr I _ hsz, upd_same⟩
    · by_cases z : b = c'
      · subst z; rw [upd_same]; simp
      · rw [upd_ne z]
        by_cases z2 : b = P
        · subst z2; rw [upd_same]; simp
        · rw [upd_ne z2]; exact hb
    · by_cases hb : p.1 = P
      · rw [hu p hp hb, hb]
        refine ⟨_, by rw [upd_ne (ne_of_none hP nC), upd_same], by rw [eL]; exact PySem.TriplesOk_snoc _ _ _ _ ht, fun p' cv hcv => ?_⟩
        rw [eL] at hcv
        rcases among_app _ ht hcv with z | z
        · obtain ⟨c0, e1, e2⟩ := ha p' cv z
          exact ⟨c0, e1, hE _ _ e2 codeO_ne⟩
        · exact ⟨c', z, upd_same⟩
      · obtain ⟨ps', a1, a2, a3⟩ := hT p hp
        refine ⟨ps', by rw [upd_ne (ne_of_none a1 nC), upd_ne hb]; exact a1, a2, fun p' cv hcv => ?_⟩
        obtain ⟨c0, e1, e2⟩ := a3 p' cv hcv
        exact ⟨c0, e1, hE _ _ e2 codeO_ne⟩
    · rw [upd_ne (show b ≠ c' from fun z => Nat.lt_irrefl _ (Nat.lt_of_lt_of_le (Heap.lt_size e) (z ▸ hge))), upd_ne (nP b n)]
      exact n
    · have nf : h'.objs.size ≠ c' := Nat.ne_of_gt hlt
      have nf2 : h'.objs.size ≠ P := fun z => Nat.lt_irrefl _ (Nat.lt_of_lt_of_le (Heap.lt_size hP') (z ▸ hsz))
      rw [upd_ne nf, upd_ne nf2]
      exact I.hok.fresh hsz
  | some cv =>
    obtain ⟨c', e, hco⟩ := ha pos cv hc
    subst e
    refine PySem.W.kdv_makeTailHit (mg := X.mg) (c := c) (P := P) (ps := ps) (closure_ok hfree) I.ok.glob (I.mod.glob.keeps I.bk) hcode (TB.code.keeps I.bk) hP' ht hc bP fun ctv doc h' tk hx hsz => ?_
    have I1 : Inv X pins σ H { s with heap := h'.push (PySem.W.kdv_obj "<lambda>" (X.env.qual ++ "<lambda>") params (.expr body) scope (cloFrom X.env.cells scope.names []) dV doc ((X.mg "__name__").getD .none) c' ctv), toks := tk } := I.kept fun b o e => Heap.get?_push_of_some _ (hx b o e)
    exact h h'.objs.size c' H _ I1 ⟨ExtN.refl H, fun _ hb => hb, hT, ⟨dV, doc, (X.mg "__name__").getD .none, ctv, Heap.get?_push_size _ rfl, dfl (fun b o e n => Heap.get?_push_of_some _ (hx b o e)) fun b o e n => n⟩, I.hok.fresh hsz, nofr I _ hsz, hco⟩
theorem lam_make3 {T : List (Addr × Str)} {c P : Addr} {params : Arguments} {body : Expr} {scope : Scope} {pos : Pos} {pl : List Str} {ds : List Int} {E : Value → Shared → Prop} {Q : Value → Shared → Prop} (I : Inv X pins σ H s) (TB : TabB X.base X.mg c P) (hcode : X.env.code = .ref c)
    (hm : (P, X.env.qual ++ "<lambda>") ∈ T) (hu : ∀ p ∈ T, p.1 = P → p.2 = X.env.qual ++ "<lambda>") (hT : Tabs T H) (hfree : ∀ y ∈ scope.names, y.2 = .free → ∃ c, X.env.cells.lookup y.1 = some c) (hd : LamDef params pl ds)
    (h : ∀ (f c' : Addr) (H1 : Hp) (s' : Shared), Inv X pins σ H1 s' → Made X T params body scope ds H H1 s' f c' → Q (.ref f) s') :
    wpAny (model X.prog X.w) X.A (eval (.Lambda params body scope pos) X.env) Q E s := by
  cases hd with
  | none =>
    refine PySem.W.kla_eval rfl ?_
    rw [makeFunction_eq]
    simp only [List.zip_nil_right, List.filterMap_nil, List.isEmpty_nil, if_true, pure_bind]
    exact lam_tail (Hb := H) I TB hcode hm hu hT hfree (dV := .none) (ds := []) rfl h
  | one p i j q q2 =>
    refine PySem.W.kdv_lam rfl rfl (PySem.W.kdv_all1 (wpAny_Constant_int (PySem.W.kdv_all0 ?_)))
    rw [makeFunction_eq]
    simp only [List.zip_nil_right, List.filterMap_nil, List.isEmpty_nil, List.isEmpty_cons, Bool.false_eq_true, if_false, if_true, pure_bind]
    refine wpAny_bind (wpAny_newTextTuple ?_)
    have I1 := (I.tok (s.toks + 1))
    have I2 : Inv X pins σ H { s with heap := s.heap.push (PySem.W.kdv_tup [.int i s.toks]), toks := s.toks + 1 } := I.kept (t' := s.toks + 1) fun b o e => Heap.get?_push_of_some _ e
    exact lam_tail (Hb := H) I2 TB hcode hm hu hT hfree (dV := .ref s.heap.objs.size) (ds := [i]) ⟨_, s.toks, rfl, Heap.get?_push_size _ rfl, I.hok.fresh (Nat.le_refl _), nofr I _ (Nat.le_refl _)⟩ h
end
/-! ### its body -/
structure LamS3 (sc scope : Scope) (pl : List Str) : Prop where
  kind : scope.kind = .function
  co : scope.isCoroutine = false
  gen : scope.isGenerator = false
  own : ∀ y ∈ scope.names, y.2 ≠ .cell
  loc : ∀ p ∈ pl, scope.names.lookup p = some .local
  free : ∀ y ∈ scope.names, y.2 = .free → sc.names.lookup y.1 = some .cell ∨ sc.names.lookup y.1 = some .free
theorem LamS3.has {X : Cx} {scope : Scope} {pl : List Str} (L : LamS3 X.env.scope scope pl) (ok : X.Ok) : ∀ y ∈ scope.names, y.2 = .free → ∃ c, X.env.cells.lookup y.1 = some c := fun y hy e => by
  rcases L.free y hy e with k | k
  · exact ok.has _ (.inl k)
  · exact ok.has _ (.inr k)
/-- the context of its body: an exception's context is told, too -/
def lamCxN (X : Cx) (A : Around) (outer : List PySem.Env) (s : Shared) (H : Hp) (E : XK) (scope : Scope) (f c' : Addr) : Cx :=
  { lamCx X A outer s H E scope f c' with
    xe := fun e s' => wpAny (model X.prog X.w) (A.deeper (lamEnv X scope s.heap.objs.size f c')) (leaving (lamEnv X scope s.heap.objs.size f c') e) (fun _ s'' => L2N.CX X.prog X.w outer H s E e s'') (fun e' s'' => L2N.CX X.prog X.w outer H s E e' s'') s' }
section
variable {X : Cx} {pins : List (Addr × Obj)} {σ : L2.St} {H HZ : Hp} {s s1 : Shared}
theorem lam_start3 {A : Around} {outer : List PySem.Env} {E : XK} {scope : Scope} {pl : List Str} {f c' : Addr} {h₁ : Heap} {tk : Nat} {mm : Str → Option Value} {vs : List Nat} (I : Inv X pins σ H s) (hN : X.N.Nodup) (L : LamS3 X.env.scope scope pl) (e0 : Env0 X.prog X.w X.K X.mg X.base A outer s1 HZ) (hd : A.handled = none)
    (hvs : ∀ i y, X.N[i]? = some y → scope.names.lookup y = some .local → i ∈ vs)
    (un : Un (frs X.stack) [] H HZ s.heap s1.heap) (hns : h₁.Ns s1.heap.objs.size mm) (kp : ∀ b o, s1.heap.get? b = some o → h₁.get? b = some o) :
    Inv (lamCxN X A outer s1 HZ E scope f c') [] (wipe σ vs) HZ { s1 with heap := h₁, toks := tk } := by
  have hfree := L.has I.ok
  have cm : ∀ {y c}, (cloFrom X.env.cells scope.names []).lookup y = some c → X.env.cells.lookup y = some c := fun {y c} e => by
    rcases cloFrom_mem (PySem.mem_of_lookup e) with hm | ⟨h1, h2⟩
    · cases hm
    · obtain ⟨c1, hc⟩ := hfree _ h1 rfl
      have hc : X.env.cells.lookup y = some c1 := hc
      have e2 : c = c1 := by
        rw [h2, hc] <;> rfl
      rw [e2]
      exact hc
  have look : ∀ {y}, scope.names.lookup y = some .free → ∃ c, (cloFrom X.env.cells scope.names []).lookup y = some c := fun {y} hl => by
    have hy : (y, NameKind.free) ∈ scope.names := PySem.mem_of_lookup hl
    exact mem_lookup (cloFrom_has (cells := X.env.cells) (acc := []) hy)
  have cellK : ∀ {c : Addr} {v : Option Value}, H c = none → s.heap.IsCell c v → h₁.IsCell c v := fun {c v} n ⟨o, ho, hd⟩ => by
    obtain ⟨sl, q⟩ := un.any ho n (by simp)
    exact ⟨_, kp _ _ q, hd⟩
  have noA : ∀ b : Addr, b ∉ (lamCxN X A outer s1 HZ E scope f c').ex := fun b z => absurd (show b ∈ ([] : List Addr) from z) (by simp)
  refine ⟨⟨e0.mod, L.kind, rfl, rfl, Nat.le_refl _, fun y z c e1 e2 => I.ok.inj y z c (cm e1) (cm e2), fun y hy => ?_, fun y c z _ => ?_, fun _ => hd, Around.frames_deeper e0.frames, .inr ⟨rfl, rfl⟩, fun b z => absurd z (noA b), e0.bs, e0.bsz, fun b _ _ => noA b,
      fun b z => absurd z (noA b), e0.funs, e0.frf⟩,
    rfl, e0.bare, Un.kept kp, ⟨_, hns, fun i y v e1 e2 e3 => ?_⟩, fun y c e => ?_, e0.hok.fresh (Nat.le_refl _), fun y c e => ?_, fun q hq => absurd (show q ∈ ([] : List (Addr × Obj)) ++ [] from hq) (by simp), e0.hok.kept kp, by rw [wipe_length]; exact I.len⟩
  · have hy : scope.names.lookup y = some .cell ∨ scope.names.lookup y = some .free := hy
    rcases hy with hy | hy
    · exact absurd rfl (L.own _ (PySem.mem_of_lookup hy))
    · exact look hy
  · have z : false = true := z
    cases z
  · obtain ⟨e2, ni⟩ := wipe_some e2
    have e3 : Vis scope y := e3
    rcases e3 with k | k | k
    · exact absurd (hvs i y e1 k) ni
    · exact absurd rfl (L.own _ (PySem.mem_of_lookup k))
    · obtain ⟨m, hn, hl⟩ := I.loc
      have hvis : Vis X.env.scope y := (L.free _ (PySem.mem_of_lookup k) rfl).elim (fun k => .inr (.inl k)) (fun k => .inr (.inr k))
      obtain ⟨w', r, q⟩ := hl i y v e1 e2 hvis
      obtain ⟨c2, h2⟩ := look k
      refine ⟨w', r, .inr ⟨.inr k, c2, h2, ?_⟩⟩
      have c1 := cm h2
      rcases q with ⟨k', _⟩ | ⟨_, c3, e', z⟩
      · have k' : X.env.scope.names.lookup y = some .local := k'
        rcases L.free _ (PySem.mem_of_lookup k) rfl with k2 | k2 <;> rw [show X.env.scope.names.lookup y = _ from k2] at k' <;> cases k'
      · rw [c1] at e'
        cases e'
        exact cellK (I.freeC y _ c1) z
  · obtain ⟨w', z⟩ := I.cell y c (cm e)
    exact ⟨w', cellK (I.freeC y c (cm e)) z⟩
  · obtain ⟨v, o, ho, hd⟩ := I.cell y c (cm e)
    exact un.free c o ho (I.freeC y c (cm e)) (by simp)
theorem lam_binds {Hq : Hp} {fs : List Addr} {q : Str} {params : Arguments} {pl : List Str} {ds : List Int} {body : Expr} {scope : Scope} {cl : List (Str × Addr)} {dV doc pm cv ctv : Value} (hd : LamDef params pl ds) (s : Shared) (hh : DflAt s.heap Hq fs dV ds) :
    ∃ binds : List (Str × Value), BindsTo s (PySem.W.kdv_fn "<lambda>" q params (.expr body) scope cl dV doc pm cv ctv) ⟨[], []⟩ binds ∧ ∀ y ∈ binds, y.1 ∈ pl := by
  cases hd with
  | none =>
    have e : dV = .none := hh
    subst e
    exact ⟨[], BindsTo.of_eq rfl, fun y hy => by cases hy⟩
  | one p i j q1 q2 =>
    obtain ⟨t, tok, rfl, h1, _⟩ := hh
    refine ⟨[(p, .int i tok)], BindsTo.of_defaults (T := t) rfl h1 rfl rfl ?_, fun y hy => by simp at hy; rw [hy]; simp⟩
    simp
end
end DI
end
section
set_option linter.all false
set_option autoImplicit false
set_option maxRecDepth 100000
set_option maxHeartbeats 2000000
/-! D20: the lambda called by the def that got it. -/
namespace DI
open PySem PySem.Spec L2
open PyProof.Rows hiding St
open LamX
section
variable {X : Cx} {pins : List (Addr × Obj)} {σ : L2.St} {H : Hp} {s : Shared}
theorem pe_act3 {CXg : CXT} {Eg : XK} {Ng : List Str} {qg : Str} {sg : Scope} {g f c' : Addr} {cdg : Value} {T : List (Addr × Str)} {params : Arguments} {pl : List Str} {ds : List Int} {body : Expr} {scope : Scope} {k i : Nat} {a : Str} {pn : List (Addr × Obj)} {xe : Value → Shared → Prop} {W : WX} {E : XK} {tb : TE} {p1 p2 : Pos} {H0 : Hp} {vs : List Nat}
    (I : Inv X pins σ H s) (hNd : X.N.Nodup) (hgd : X.A.guards = some []) (L : LamS3 X.env.scope scope pl) (LD : LamDef params pl ds) (Md : Made X T params body scope ds H0 H s f c') (hvs : ∀ i y, X.N[i]? = some y → scope.names.lookup y = some .local → i ∈ vs)
    (tk : L2N.Takes ((cxOf CXg X.prog X.w X.K X.mg X.base Ng qg sg g cdg X.A X.stack s H Eg).tr pn xe) W) {σ0 : L2.St} (hW : ∀ cls d H', E cls d H' → W cls d σ0 H') (hr : Room (k + 1) (X.A.deeper (envOfC qg sg s.heap.objs.size g cdg)))
    (hbody : ∀ (A : Around) (outer : List PySem.Env) (s : Shared) (H : Hp), A.guards = some [] → Room k (A.deeper (lamEnv X scope s.heap.objs.size f c')) → PE (lamCxN X A outer s H E scope f c') body tb)
    (hN : Ng[i]? = some a) (hv : Vis sg a) (hd : (a == ("__debug__" : Str)) = false) (hcd : (a == ("__classdict__" : Str)) = false) :
    PE ((cxOf CXg X.prog X.w X.K X.mg X.base Ng qg sg g cdg X.A X.stack s H Eg).tr pn xe) (.Call (.Name a p1) [] [] p2)
      (fun σZ HZ Q => σZ = σ0 ∧ σZ[i]? = some (some (.ref f)) ∧ HZ c' = some (CodeO c' (X.env.qual ++ "<lambda>")) ∧ tb (wipe σ vs) HZ Q) := by
  obtain ⟨dV, doc, pm, ctv, hf, hdf⟩ := Md.obj
  have hfn := Md.free
  have hfr := Md.nofr
  refine ⟨fun pinsZ sZ σZ HZ Q IZ h => ?_⟩
  obtain ⟨h0, hs, hc, ht⟩ := h
  refine wpAny_Call_Name_kw (thn ((pe_var (pos := p1) (i := i) hN hv hd hcd).run pinsZ sZ σZ HZ (fun v H1 => v = .ref f ∧ H1 = HZ) IZ ⟨.ref f, hs, rfl, rfl⟩) fun u s1 ⟨v, H1, I1, r1, q1⟩ => ?_)
  obtain ⟨ev, eH⟩ := q1
  subst ev
  rw [eH] at I1
  obtain rfl : u = Value.ref f := r1
  have keep : ∀ b o, s.heap.get? b = some o → H b = none → b ∉ frs X.stack → s1.heap.get? b = some o := fun b o e n nf => I1.base.keep b o e n nf (fun z => nomatch (show b ∈ ([] : List Addr) from z))
  have of1 := keep f _ hf hfn hfr
  have hdf1 : DflAt s1.heap H (frs X.stack) dV ds := by
    cases ds with
    | nil => exact hdf
    | cons d r =>
      obtain ⟨t, tok, e, h1, h2, h3⟩ := hdf
      exact ⟨t, tok, e, keep _ _ h1 h2 h3, h2, h3⟩
  refine PySem.W.callWith_F0 ⟨_, _, _, _, of1⟩ ?_
  have un : Un (frs X.stack) [] H HZ s.heap s1.heap := I1.base
  obtain ⟨⟨oc, vs', t, hoc, hdc, hvc⟩, _, _⟩ := I1.hok c' _ hc
  obtain ⟨binds, hb, hbl⟩ := lam_binds (q := X.env.qual ++ "<lambda>") (body := body) (scope := scope) (cl := cloFrom X.env.cells scope.names []) (doc := doc) (pm := pm) (cv := .ref c') (ctv := ctv) LD s1 hdf1
  have rc : codeAny (model X.prog X.w) (X.A.deeper (envOfC qg sg s.heap.objs.size g cdg)) (.call (.ref f) ⟨[], []⟩) (CR (L2N.CX X.prog X.w) (envOfC qg sg s.heap.objs.size g cdg :: X.stack) X.prog X.w HZ s1 Q E) s1 := by
    refine PySem.W.kla_callFunE hr.depth of1 rfl L.co L.gen rfl ⟨c', oc, vs', t, rfl, hoc, hdc, hvc⟩ ?_
    refine hb _ _ _ _ ?_
    refine wpAny_newFunctionEnv L.own (fun y hy => L.loc _ (hbl y hy)) (fun h₁ hns hsb => ⟨I1.nolimit.fresh _ hsb, ?_⟩) L.kind
    show codeAny _ _ (.expr body (lamEnv X scope s1.heap.objs.size f c')) _ _
    have kp : ∀ b o, s1.heap.get? b = some o → h₁.get? b = some o := fun b o e => hsb.extBut b o (Nat.ne_of_lt (Heap.lt_size e)) (Heap.get?_push_of_some _ e)
    have J : Inv (lamCxN X (X.A.deeper (envOfC qg sg s.heap.objs.size g cdg)) (envOfC qg sg s.heap.objs.size g cdg :: X.stack) s1 HZ E scope f c') [] (wipe σ vs) HZ { s1 with heap := h₁, toks := s1.toks + binds.length } :=
      lam_start3 I hNd L I1.env0 hr.hd hvs un hns kp
    refine PySem.W.kla_codeExpr (wpAny_mono ((hbody _ _ s1 HZ (guards_deeper hgd) (hr.deeper _)).run [] _ _ HZ Q J ht) (fun v s' hq => ?_) fun e s' hq => hq)
    obtain ⟨w', H', J', rv, q⟩ := hq
    exact ⟨w', H', J'.os, J'.bare, J'.base, J'.hok, rv, q⟩
  refine wpAny_call (codeAny_mono rc fun r s' hq => ?_)
  match r, hq with
  | .error e, hq => exact tk e s' (L2N.XE.of_call I1 (fun cls d H' h => h0 ▸ hW cls d H' h) hq)
  | .ok (.ret u), hq => exact I1.after hq
end
/-! ### a comprehension in an except suite -/
/-- the block's context there: the pins stay -/
abbrev _root_.L2.Cx.blkH (X : Cx) (s : Shared) (H : Hp) (scope : Scope) (cenv : PySem.Env) (fp : List Addr) (pins : List (Addr × Obj)) : Cx := { X.blk s H scope cenv fp with pn := X.pn ++ pins }
section
variable {X : Cx} {pins : List (Addr × Obj)} {σ : L2.St} {H : Hp} {s : Shared}
theorem inv_pn {pl : List (Addr × Obj)} (I : Inv X [] σ H s) (h0 : X.pn = []) (h : ∀ p ∈ pl, s.heap.get? p.1 = some p.2 ∧ H p.1 = none ∧ p.1 ≠ X.env.locals ∧ p.1 ∉ X.fs ∧ ∀ v, p.2.data ≠ .cell v) : Inv { X with pn := pl } [] σ H s :=
  ⟨⟨I.ok.mod, I.ok.kind, I.ok.glob, I.ok.blt, I.ok.above, I.ok.inj, I.ok.has, I.ok.cab, I.ok.hd, I.ok.frames, I.ok.stk, I.ok.exf, I.ok.bs, I.ok.bsz, I.ok.noex, I.ok.exfs, I.ok.funs, I.ok.frf⟩, I.os, I.bare, I.base, I.loc, I.cell, I.free, I.freeC, fun p hp => h p (by simpa using hp), I.hok, I.len⟩
theorem lc_coreH {Q : VK} {elt tg iter : Expr} {ifs : List Expr} {scope : Scope} {own : List (Str × Nat)} {pos pos' : Pos} {wi : TI} {g : TG} {tt : TT} {te : TE} {use : Option (Value → Sem Unit)} {Qf : Value → Shared → Prop}
    (hc : L2H.HotC X) (hN : X.N.Nodup) (I : Inv X pins σ H s) (hi : L2H.PIH X tg iter wi) (ok : BlkOk X.N X.env.scope scope own)
    (hg : ∀ (s : Shared) (H : Hp) (C : Addr) (cl : List (Str × Addr)) (fp : List Addr) (pl : List (Addr × Obj)), PG (X.blkH s H scope (compEnvC scope cl C X.env) fp pl) tg g) (ht : ∀ (s : Shared) (H : Hp) (C : Addr) (cl : List (Str × Addr)) (fp : List Addr) (pl : List (Addr × Obj)), PTs (X.blkH s H scope (compEnvC scope cl C X.env) fp pl) ifs tt)
    (he : ∀ (s : Shared) (H : Hp) (C : Addr) (cl : List (Str × Addr)) (fp : List Addr) (pl : List (Addr × Obj)), PE (X.blkH s H scope (compEnvC scope cl C X.env) fp pl) elt te) (hs : ∀ x, foldedSetIterable iter X.env x = pure x)
    (h : tLc wi g tt te (own.map (·.2)) σ H Q)
    (hRR : ∀ D C s' m H', Inv X pins σ H' s' → Q (.ref D) H' → s'.heap.Ns C m → FpOk X pins H' C → compPost (model X.prog X.w) X.A X.xe use Qf (.ref D) C (.ok .next) s') :
    wpAny (model X.prog X.w) X.A (comprehension (.ListComp elt [⟨tg, iter, ifs, 0⟩] scope pos) scope X.env pos' (newList []) false (eval iter X.env) use) Qf X.xe s := by
  have hfree : ∀ y ∈ scope.names, y.2 = .free → ∃ c, X.env.cells.lookup y.1 = some c := fun y hy e => (ok.free y hy e).elim (fun k => I.ok.has _ (.inl k)) fun k => I.ok.has _ (.inr k)
  refine wpAny_comprehension_free (use := use) rfl hs (closure_ok hfree) ok.kind (fun y hy e => by rw [ok.uniq y hy, e])
    (thn (hi.run pins s σ H _ I h) fun xv s1 hx => thn hx fun itv s2 h2 => ?_)
  obtain ⟨it, fp, tn, J, H2, rfl, I2, T, st2, f2, q⟩ := h2
  refine wpAny_newObj_type (newEnv_comp ?_) (by show 0 ≤ sizeLine; decide)
  generalize hD : s2.heap.objs.size = D
  have hDn : H2 D = none := I2.hok.fresh (Nat.le_of_eq hD)
  obtain ⟨W, ⟨m0, w0⟩, turn⟩ := q D hDn
  generalize hs3 : ({ s2 with heap := s2.heap.push { cls := .type "list", data := .seq ([] : List Value).toArray } } : Shared) = s3
  have h3 : s3.heap = s2.heap.push { cls := .type "list", data := .seq ([] : List Value).toArray } := by rw [← hs3]
  have I3 : Inv X pins σ (upd H2 D (.lst [])) s3 := by
    rw [← hs3]
    refine I2.laid (t' := s2.toks) (fun b o e => Heap.get?_push_of_some _ e) (Nat.le_of_eq hD) ⟨Nat.zero_le _, [], 0, .nil, ?_⟩
    rw [← hD]
    exact Heap.get?_push_size _ rfl
  have sz : ∀ b ∈ fp, b < s2.heap.objs.size := fun b hb => by
    obtain ⟨o, e, _⟩ := T.obj _ _ st2 b hb
    exact Heap.lt_size e
  have f3 : ∀ b ∈ fp, FpOk X pins (upd H2 D (.lst [])) b ∧ b < s3.heap.objs.size := fun b hb => by
    have hlt := sz b hb
    refine ⟨⟨?_, (f2 b hb).2⟩, by rw [h3, Heap.size_push]; exact Nat.lt_succ_of_lt hlt⟩
    rw [upd_ne (by rw [← hD]; exact Nat.ne_of_lt hlt)]
    exact (f2 b hb).1
  have st3 : tn 0 s3.heap := T.keep _ _ _ st2 fun b _ o e => by rw [h3]; exact Heap.get?_push_of_some _ e
  have I4' := block_start I3 ok hN f3
  have hpins : ∀ p ∈ X.pn ++ pins, s3.heap.get? p.1 = some p.2 ∧ (upd H2 D (.lst [])) p.1 = none ∧ p.1 ∉ frs X.stack ∧ p.1 ≠ s3.heap.objs.size ∧ ∀ v, p.2.data ≠ .cell v := fun p hp => by
    obtain ⟨a1, a2, a3, a4, a5⟩ := I3.pin p hp
    exact ⟨a1, a2, fun hm => (List.mem_cons.mp (I3.stkSub p.1 hm)).elim a3 a4, Nat.ne_of_lt (Heap.lt_size a1), a5⟩
  have pg := hg s3 (upd H2 D (.lst [])) s3.heap.objs.size (cellsFrom (s3.heap.objs.size + 1) scope.names (cloFrom X.env.cells scope.names [])) fp pins
  have pt := ht s3 (upd H2 D (.lst [])) s3.heap.objs.size (cellsFrom (s3.heap.objs.size + 1) scope.names (cloFrom X.env.cells scope.names [])) fp pins
  have pe := he s3 (upd H2 D (.lst [])) s3.heap.objs.size (cellsFrom (s3.heap.objs.size + 1) scope.names (cloFrom X.env.cells scope.names [])) fp pins
  show codeAny _ _ (.compStart (.ListComp elt [⟨tg, iter, ifs, 0⟩] scope pos) 0 (.ref it) (.ref D) (compEnvC scope (cellsFrom (s3.heap.objs.size + 1) scope.names (cloFrom X.env.cells scope.names [])) s3.heap.objs.size X.env)) (compPost (model X.prog X.w) X.A X.xe use Qf (.ref D) s3.heap.objs.size) { s3 with heap := pushCells (s3.heap.push { cls := .type "dict", data := .dict #[] }) scope.names }
  have nfp : ∀ b ∈ fp, (upd H2 D (.lst [])) b = none := fun b hb => (f3 b hb).1.1
  generalize hce : compEnvC scope (cellsFrom (s3.heap.objs.size + 1) scope.names (cloFrom X.env.cells scope.names [])) s3.heap.objs.size X.env = ce at I4' pg pt pe ⊢
  have cL : ce.locals = s3.heap.objs.size := by subst hce; rfl
  generalize hH3 : upd H2 D (.lst []) = H3 at I3 I4' pg pt pe w0 nfp f3 hpins
  have kp4 : ∀ b o, s3.heap.get? b = some o → (pushCells (s3.heap.push { cls := .type "dict", data := .dict #[] }) scope.names).get? b = some o := fun b o e => pushCells_keeps _ _ _ _ (Heap.get?_push_of_some _ e)
  generalize hs4 : ({ s3 with heap := pushCells (s3.heap.push { cls := .type "dict", data := .dict #[] }) scope.names } : Shared) = s4 at I4' ⊢
  have I4 : Inv (X.blkH s3 H3 scope ce fp pins) [] (wipe σ (own.map (·.2))) H3 s4 := inv_pn (X := X.blk s3 H3 scope ce fp) I4' rfl fun p hp => by
    obtain ⟨a1, a2, a3, a4, a5⟩ := hpins p hp
    exact ⟨by rw [← hs4]; exact kp4 _ _ a1, a2, by show p.1 ≠ ce.locals; rw [cL]; exact a4, a3, a5⟩
  have st4 : tn 0 s4.heap := T.keep _ _ _ st3 fun b _ o e => by rw [← hs4]; exact kp4 _ _ e
  have hcB : L2H.HotC (X.blkH s3 H3 scope ce fp pins) := by
    obtain ⟨p, h1, h2⟩ := hc
    exact ⟨p, h1, List.mem_append_left _ h2⟩
  have stat : ∀ {σ' : L2.St} {H' : Hp} {s' : Shared}, Inv (X.blkH s3 H3 scope ce fp pins) [] σ' H' s' → (∀ b ∈ fp, H' b = none) → ∀ b ∈ fp, FpOk (X.blkH s3 H3 scope ce fp pins) [] H' b := fun {σ' H' s'} I' hn b hb =>
    ⟨hn b hb, (I'.ok.exf b hb).1, I'.ok.exfs b hb, .inl hb, fun x c e => (I'.ok.exf b hb).2 x c e, fun p hp => (f3 b hb).1.2.2.2.2.2 p (by simpa using (show p ∈ (X.pn ++ pins) ++ [] from hp))⟩
  have loop : codeAny (model X.prog X.w) X.A (.compLoop (.ListComp elt [⟨tg, iter, ifs, 0⟩] scope pos) 0 (.ref it) (.ref D) ce) (compPost (model X.prog X.w) X.A X.xe use Qf (.ref D) s3.heap.objs.size) s4 := by
    refine compLoop_any (fun n s' => ∃ i H', Inv (X.blkH s3 H3 scope ce fp pins) [] (wipe σ (own.map (·.2))) H' s' ∧ tn i s'.heap ∧ (∀ b ∈ fp, H' b = none) ∧ W i n H') ?_ m0 ⟨0, H3, I4, st4, nfp, w0⟩
    rintro n s5 ⟨i, H5, I5, st5, n5, w5⟩
    rcases turn i n H5 w5 with ⟨stop, qq⟩ | ⟨go, Nx, hNx, step⟩
    · refine thnF (T.done (X.blkH s3 H3 scope ce fp pins) rfl rfl rfl hcB i [] s5 _ H5 (fun _ _ => False) I5 (stat I5 n5) st5 stop) fun r s6 ⟨hr, I6⟩ => ?_
      subst hr
      have I7 : Inv X pins σ H5 s6 := I3.call' (ch := fp) I6.os I6.base I6.hok I6.bare fun b hb => ⟨(f3 b hb).1.2.2.2.1, (f3 b hb).1.2.1, (f3 b hb).1.2.2.2.2.1, (f3 b hb).1.2.2.2.2.2⟩
      have nC : H5 s3.heap.objs.size = none := by
        have z : H5 ce.locals = none := I6.free
        rw [cL] at z
        exact z
      obtain ⟨m, hn, _⟩ := I6.loc
      have hn : s6.heap.Ns ce.locals m := hn
      rw [cL] at hn
      exact hRR D s3.heap.objs.size s6 m H5 I7 qq hn (I3.fpOk (Nat.le_refl _) nC)
    · refine thnF (T.item (X.blkH s3 H3 scope ce fp pins) rfl rfl rfl hcB i [] s5 _ H5 (fun _ _ => False) I5 (stat I5 n5) st5 go) fun r s6 ⟨u, hr, h6⟩ => ?_
      subst hr
      refine thnF h6 fun _ s7 ⟨x, H7, I7, r7, y7, st7, n7⟩ => ?_
      have I7' := I7.pinned (stat I7 n7) (T.obj _ _ st7)
      refine thnF (pg.run _ s7 _ H7 x u _ I7' r7 (step x H7 y7)) fun _ s8 ⟨σ8, H8, I8, hw8, q8⟩ => ?_
      refine thnF (pt.run _ s8 σ8 H8 _ I8 q8) fun b s9 ⟨H9, I9, q9⟩ => ?_
      have fin : ∀ {s' : Shared} {H' : Hp}, Inv (X.blkH s3 H3 scope ce fp pins) ([] ++ pinsAt fp s7.heap) σ8 H' s' → Nx H' → ∃ m, m < n ∧ ∃ i H', Inv (X.blkH s3 H3 scope ce fp pins) [] (wipe σ (own.map (·.2))) H' s' ∧ tn i s'.heap ∧ (∀ b ∈ fp, H' b = none) ∧ W i m H' := fun {s' H'} I' nx => by
        obtain ⟨m', hm, w'⟩ := hNx H' nx
        have pin' : ∀ b ∈ fp, ∀ o, s7.heap.get? b = some o → s'.heap.get? b = some o ∧ H' b = none := fun b hb o e =>
          let z := I'.pin (b, o) (List.mem_append_right _ (List.mem_append_right _ (mem_pinsAt hb e)))
          ⟨z.1, z.2.1⟩
        have hl : (wipe σ (own.map (·.2))).length = σ8.length := by rw [← hw8, wipe_length]
        refine ⟨m', hm, i + 1, H', (I'.unpinned (pins := [])).weak hl (fun j v e => ?_), T.keep _ _ _ st7 fun b hb o e => (pin' b hb o e).1, fun b hb => ?_, w'⟩
        · rw [← hw8] at e
          exact (wipe_some e).1
        · obtain ⟨o, e, _⟩ := T.obj _ _ st7 b hb
          exact (pin' b hb o e).2
      cases b with
      | false =>
        simp only [Bool.false_eq_true, if_false] at q9 ⊢
        exact fin I9 q9
      | true =>
        simp only [if_true] at q9 ⊢
        refine thnF (pe.run _ s9 σ8 H9 _ I9 q9) fun z s10 ⟨yv, H10, I10, r10, acc, hD10, hz10, nx⟩ => ?_
        exact app_ok (X := X.blkH s3 H3 scope ce fp pins) I10 hD10 hz10 r10 fun s11 I11 => fin I11 nx
  exact codeAny_compStart_list loop (T.self X.A 0 _ _ _ st4 loop)
end
end DI
end
section
set_option linter.all false
set_option autoImplicit false
set_option maxRecDepth 100000
set_option maxHeartbeats 2000000
/-! D21: what a law tells of a call (_law_told): its text, its except suite. -/
namespace DI
open PySem PySem.Spec L2
open PyProof.Rows hiding St
open LamX
def toldKinds : List Str := ["NotAllowed", "TooLarge", "Missing", "BadForm", "Broken"]
def toldWords : List Str := ["refused", "large", "missing", "form", "broken"]
/-- its suite, the places told by p -/
def toldAsk (p : Nat → Pos) (i : Nat) (c : Str) : Expr := .Call (.Name "isinstance" (p i)) [.Name "e" (p (i + 1)), .Name c (p (i + 2))] [] (p (i + 3))
def toldS1 (p : Nat → Pos) : Stmt := .Assign [.Name "kinds" (p 6)] (.List [toldAsk p 7 "NotAllowed", toldAsk p 11 "TooLarge", toldAsk p 15 "Missing", toldAsk p 19 "BadForm", toldAsk p 23 "Broken"] (p 27)) (p 28)
def toldElt (p : Nat → Pos) : Expr := .Subscript (.List [.Constant (.str "refused") 0 (p 30), .Constant (.str "large") 0 (p 31), .Constant (.str "missing") 0 (p 32), .Constant (.str "form") 0 (p 33), .Constant (.str "broken") 0 (p 34)] (p 35)) (.Name "k" (p 36)) (p 37)
def toldIter (p : Nat → Pos) : Expr := .Call (.Name "range" (p 39)) [.Constant (.int 5) 0 (p 40)] [] (p 41)
def toldIf (p : Nat → Pos) : Expr := .Subscript (.Name "kinds" (p 42)) (.Name "k" (p 43)) (p 44)
def toldS2 (p : Nat → Pos) (csc : Scope) : Stmt := .Assign [.Name "names" (p 29)] (.ListComp (toldElt p) [⟨.Name "k" (p 38), toldIter p, [toldIf p], 0⟩] csc (p 45)) (p 46)
def toldS3 (p : Nat → Pos) : Stmt := .Return (some (.Tuple [.Subscript (.List [.Constant (.str "odd") 0 (p 47), .Subscript (.BinOp (.Name "names" (p 48)) .Add (.List [.Constant (.str "") 0 (p 49)] (p 50)) (p 51)) (.Constant (.int 0) 0 (p 52)) (p 53)] (p 54))
          (.Call (.Name "int" (p 55)) [.Compare (.Call (.Name "len" (p 56)) [.Name "names" (p 57)] [] (p 58)) [.Eq] [.Constant (.int 1) 0 (p 59)] (p 60)] [] (p 61)) (p 62)] 0 (p 63))) (p 64)
def toldTry (p : Nat → Pos) : Stmt := .Return (some (.Tuple [.Constant (.str "told") 0 (p 0), .Call (.Name "call" (p 1)) [] [] (p 2)] 0 (p 3))) (p 4)
def toldBody (p : Nat → Pos) (csc : Scope) : List Stmt :=
  [.Try [toldTry p] [.ExceptHandler (some (.Name "HandError" (p 5))) (some "e") [toldS1 p, toldS2 p csc, toldS3 p] (p 65)] [] [] (p 66)]
def toldN : List Str := ["call", "e", "kinds", "names", "k"]
/-- the classes -/
structure ToldCls (K : PySem.W.Frag) (mg : Str → Option Value) (ga : Str → Addr) : Prop where
  err : ∃ CS : Addr, mg "HandError" = some (.ref CS) ∧ ∀ c ∈ toldKinds, PySem.W.exmOne K (.ref (ga c)) (.ref CS) = some true
  glob : ∀ c ∈ toldKinds, mg c = some (.ref (ga c))
  exc : ∀ c ∈ toldKinds, ExcC K (ga c)
  kit : ∀ c ∈ toldKinds, ∀ d ∈ toldKinds, PySem.W.kitOne K (.ref (ga c)) (.ref (ga d)) = some (decide (c = d))
/-- the names of its scopes -/
structure ToldSc (sg csc : Scope) : Prop where
  S : FnScope toldN ["call"] sg
  call : sg.names.lookup ("call" : Str) = some .local
  e : sg.names.lookup ("e" : Str) = some .local
  kinds : sg.names.lookup ("kinds" : Str) = some .cell
  names : sg.names.lookup ("names" : Str) = some .local
  gl : ∀ x ∈ (["HandError", "isinstance", "NotAllowed", "TooLarge", "Missing", "BadForm", "Broken", "range", "int", "len"] : List Str), sg.names.lookup x = some .globalImplicit
  blk : blkC toldN sg csc [(("k" : Str), 4)] = true
  k : csc.names.lookup ("k" : Str) = some .local
  kf : csc.names.lookup ("kinds" : Str) = some .free
  sw : (csc.names.any fun (n, k) => n == ("names" : Str) && (k == .local || k == .cell)) = false
  kv : Vis (relS csc sg) "kinds"
  kd : sg.kind = .function
/-- _law_told as it stands behind the top -/
structure ToldFn (K : PySem.W.Frag) (mg : Str → Option Value) (ga : Str → Addr) : Prop where
  C : ToldCls K mg ga
  bi : ∀ x ∈ (["isinstance", "range", "int", "len"] : List Str), mg x = none
  fn : ∃ (g : Addr) (fd : FuncData) (params : Arguments) (p : Nat → Pos) (sg csc : Scope), ToldSc sg csc ∧ (p 29).line = (p 45).line ∧ mg "_law_told" = some (.ref g) ∧ PySem.W.keepIn K (.ref g) = true ∧ FunD K "_law_told" "_law_told" params (toldBody p csc) sg [] [] g fd ∧ L2.Binds K fd ["call"] []
/-! ### the suite -/
section
variable {X : Cx} {pins : List (Addr × Obj)} {σ : L2.St} {H : Hp} {s : Shared}
/-- name = [..] on one line, in an except suite -/
theorem ps_setLcH {i : Nat} {y : Str} {py : Pos} {elt tg iter : Expr} {ifs : List Expr} {scope : Scope} {own : List (Str × Nat)} {pos spos : Pos} {wi : TI} {g : TG} {tt : TT} {te : TE} (hc : L2H.HotC X) (hN : X.N.Nodup) (hy : X.N[i]? = some y) (hyl : X.env.scope.names.lookup y = some .local)
    (hsw : swapsWith (.ListComp elt [⟨tg, iter, ifs, 0⟩] scope pos) (some (.Name y py)) spos.line X.env = pure true) (hi : L2H.PIH X tg iter wi) (ok : BlkOk X.N X.env.scope scope own)
    (hg : ∀ (s : Shared) (H : Hp) (C : Addr) (cl : List (Str × Addr)) (fp : List Addr) (pl : List (Addr × Obj)), PG (X.blkH s H scope (compEnvC scope cl C X.env) fp pl) tg g) (ht : ∀ (s : Shared) (H : Hp) (C : Addr) (cl : List (Str × Addr)) (fp : List Addr) (pl : List (Addr × Obj)), PTs (X.blkH s H scope (compEnvC scope cl C X.env) fp pl) ifs tt)
    (he : ∀ (s : Shared) (H : Hp) (C : Addr) (cl : List (Str × Addr)) (fp : List Addr) (pl : List (Addr × Obj)), PE (X.blkH s H scope (compEnvC scope cl C X.env) fp pl) elt te) (hs : ∀ x, foldedSetIterable iter X.env x = pure x) :
    PS X (.Assign [.Name y py] (.ListComp elt [⟨tg, iter, ifs, 0⟩] scope pos) spos) (tAsg (tLc wi g tt te (own.map (·.2))) (gName i)) := by
  refine ⟨fun pins s σ H D I h => ?_⟩
  rw [exec_Assign_Name_used _ _ _ _ hsw]
  refine wpAny_bind (wpAny_standAt (wpAny_bind ?_))
  show wpAny _ X.A (do let _ ← comprehension (.ListComp elt [⟨tg, iter, ifs, 0⟩] scope pos) scope X.env (firstIterPos [⟨tg, iter, ifs, 0⟩] pos) (newList []) false (eval iter X.env) (some (assign (.Name y py) X.env))) _ _ s
  have h : tLc wi g tt te (own.map (·.2)) σ H (fun x H1 => gName i x σ H1 D.nx) := h
  refine wpAny_bind (thn (lc_coreH (Qf := fun _ s' => SP X pins D .next s') hc hN I hi ok hg ht he hs h fun L C s' m H' I' q hn f => ?_) fun _ s' hq => wpAny_pure (wpAny_pure hq))
  show wpAny _ _ (assign (.Name y py) X.env (.ref L)) _ _ _
  refine wpAny_assign_Name (store_ok2 (v := V.ref L) I' hN hy (.inl hyl) rfl (fun s2 I2 ⟨a, sb, ha⟩ => ?_) (.inr hyl))
  obtain ⟨f0, f1, f2, f3, f4, f5⟩ := f
  have haC : C ≠ a := by
    rcases ha with z | z
    · rw [z]; exact f1
    · exact fun e => f4 y a z e.symm
  refine ⟨m, hn.sameBut sb haC, fun h3 sb3 => ?_⟩
  exact ⟨_, H', I2.turned (t' := s2.toks) (fun b o hb e => (sb3.2 b hb).trans e) f0 f1 f3 f4 f5, q⟩
end
/-- what the suite is to reach -/
def toldTs (ga : Str → Addr) : Addr → Value → Option Addr → TS := fun a cls d D σ H => ∃ (c w : Str) (i : Nat), toldKinds[i]? = some c ∧ toldWords[i]? = some w ∧ cls = .ref (ga c) ∧ d = none ∧ σ[1]? = some (some (.ref a)) ∧ σ.length = 5 ∧
  ∀ (p : Addr) (H' : Hp), (∀ x o, H x = some o → H' x = some o) → H p = none → H' p = some (.tup [.str w]) → D.rt (.ref p) H'
theorem kinds_mem {i : Nat} {c : Str} (h : toldKinds[i]? = some c) : c ∈ toldKinds := List.mem_of_getElem? h
theorem words_of {i : Nat} {c : Str} (h : toldKinds[i]? = some c) : i < 5 := by
  obtain ⟨h, _⟩ := List.getElem?_eq_some_iff.mp h
  exact h
end DI
end
section
set_option linter.all false
set_option autoImplicit false
set_option maxRecDepth 100000
set_option maxHeartbeats 2000000
/-! D22: the except suite of _law_told. -/
namespace DI
open PySem PySem.Spec L2
open PyProof.Rows hiding St
open LamX
def bsOf (m : Nat) : List V := (List.range 5).map fun i => V.bl (decide (m = i))
def wsOf : List V := toldWords.map V.str
def accOf (w : Str) (m i : Nat) : List V := if m < i then [V.str w] else []
theorem five {i : Nat} (h : i < 5) : i = 0 ∨ i = 1 ∨ i = 2 ∨ i = 3 ∨ i = 4 := by omega
theorem bs_at {m i : Nat} (hi : i < 5) : atI (bsOf m) (0 + (i : Int)) = some (V.bl (decide (m = i))) := by
  rcases five hi with rfl | rfl | rfl | rfl | rfl <;> rfl
theorem ws_at {m : Nat} {w : Str} (h : toldWords[m]? = some w) : atI wsOf (0 + (m : Int)) = some (V.str w) := by
  have hm : m < 5 := by
    obtain ⟨h, _⟩ := List.getElem?_eq_some_iff.mp h
    exact h
  rcases five hm with rfl | rfl | rfl | rfl | rfl <;> (cases h; rfl)
theorem plain_nm {x : Str} {q : Pos} : PlainIx (.Name x q) := fun _ _ => rfl
theorem plain_int {i : Int} {j : Nat} {q : Pos} : PlainIx (.Constant (.int i) j q) := fun _ _ => rfl
theorem plain_call {f : Expr} {es : List Expr} {ks : List Keyword} {q : Pos} : PlainIx (.Call f es ks q) := fun _ _ => rfl
theorem sz5 : 5 ≤ sizeLine := by decide
theorem sz1 : 1 ≤ sizeLine := by decide
theorem sz2 : 2 ≤ sizeLine := by decide
section
variable {X : Cx} {ga : Str → Addr} {sg csc : Scope} {p : Nat → Pos}
theorem suite_ok (hN : X.N = toldN) (hsc : X.env.scope = sg) (SC : ToldSc sg csc) (hfn : ∀ x, X.fn x = true) (TC : ToldCls X.K X.mg ga) (hbi : ∀ x ∈ (["isinstance", "range", "int", "len"] : List Str), X.mg x = none) (hl : (p 29).line = (p 45).line)
    {a : Addr} {oe : Obj} {cls : Value} {d : Option Addr} {pn : List (Addr × Obj)} (hz : L2N.Zn cls d oe) (hf : ∃ vs, oe.data = .fields vs) : PSs (X.suite a ((a, oe) :: pn)) [toldS1 p, toldS2 p csc, toldS3 p] (toldTs ga a cls d) := by
  refine ⟨fun pins s σ H D I hts => ?_⟩
  obtain ⟨c, w, m, hm, hw, rfl, rfl, hσ, hlen, hend⟩ := hts
  have hm5 : m < 5 := words_of hm
  have hcm : c ∈ toldKinds := kinds_mem hm
  have nd : (X.suite a ((a, oe) :: pn)).N.Nodup := by show X.N.Nodup; rw [hN]; decide
  have at_ : ∀ (i : Nat) (x : Str), toldN[i]? = some x → (X.suite a ((a, oe) :: pn)).N[i]? = some x := fun i x h => by show X.N[i]? = _; rw [hN]; exact h
  have gl : ∀ x, x ∈ (["HandError", "isinstance", "NotAllowed", "TooLarge", "Missing", "BadForm", "Broken", "range", "int", "len"] : List Str) → Gl (X.suite a ((a, oe) :: pn)) x := fun x h => by
    show X.env.scope.names.lookup x = _
    rw [hsc]
    exact SC.gl x h
  have vis : ∀ {x : Str} {k : NameKind}, sg.names.lookup x = some k → (k = .local ∨ k = .cell ∨ k = .free) → Vis (X.suite a ((a, oe) :: pn)).env.scope x := fun {x k} h hk => by
    show Vis X.env.scope x
    rw [hsc]
    unfold Vis
    rw [h]
    rcases hk with rfl | rfl | rfl <;> simp
  have hot : L2H.HotC (X.suite a ((a, oe) :: pn)) := by
    obtain ⟨vs, hv⟩ := hf
    exact ⟨(a, oe), ⟨rfl, vs, hv, hz.2.2 vs hv⟩, List.mem_cons_self⟩
  -- the first statement
  have ask : ∀ (i : Nat) (x : Str), x ∈ toldKinds → (x == ("__debug__" : Str)) = false → PE (X.suite a ((a, oe) :: pn)) (toldAsk p i x) (tCB (rIsE X.K (ga c) a) (tCons (tVar 1) (tCons (tC (.ref (ga x))) tNil))) := fun i x hx hd =>
    pe_callB (call_isE (TC.exc c hcm) hz.zc hf) (gl "isinstance" (by simp)) (hbi "isinstance" (by simp)) (by decide +kernel) (pa_cons (pe_var (i := 1) (at_ 1 "e" rfl) (vis SC.e (.inl rfl))) (pa_cons (pe_glob (gl x (by
      simp only [toldKinds, List.mem_cons, List.not_mem_nil, or_false] at hx
      rcases hx with rfl | rfl | rfl | rfl | rfl <;> simp)) (TC.glob x hx) rfl hd) pa_nil))
  have S1 : PS (X.suite a ((a, oe) :: pn)) (toldS1 p) _ := ps_set (i := 2) nd (at_ 2 "kinds" rfl) (.inr (by show X.env.scope.names.lookup _ = _; rw [hsc]; exact SC.kinds))
    (pe_lst (pa_cons (ask 7 "NotAllowed" (by decide) (by decide)) (pa_cons (ask 11 "TooLarge" (by decide) (by decide)) (pa_cons (ask 15 "Missing" (by decide) (by decide)) (pa_cons (ask 19 "BadForm" (by decide) (by decide)) (pa_cons (ask 23 "Broken" (by decide) (by decide)) pa_nil)))))) rfl (.inl (hfn _))
  -- the second
  have lk : ∀ {x : Str} {k : NameKind}, k ≠ .free → csc.names.lookup x = some k → (relS csc X.env.scope).names.lookup x = some k := fun {x k} h1 h2 => lookup_relS_keep h1 h2
  have S2 : PS (X.suite a ((a, oe) :: pn)) (toldS2 p csc) _ := ps_setLcH (own := [("k", 4)]) (i := 3) (g := gName 4) (te := tOp (rIx X.K) (tLst (tCons (tC (.str "refused")) (tCons (tC (.str "large")) (tCons (tC (.str "missing")) (tCons (tC (.str "form")) (tCons (tC (.str "broken")) tNil)))))) (tVar 4)) (tt := fun σ H Q => tOp (rIx X.K) (tVar 2) (tVar 4) σ H fun x H' => ∃ k, TruV X.K x H' k ∧ Q k H')
    hot nd (at_ 3 "names" rfl) (by show X.env.scope.names.lookup _ = _; rw [hsc]; exact SC.names)
    (sw_true (by show X.env.scope.kind = _; rw [hsc]; exact SC.kd) (by show X.env.scope.names.lookup _ = _; rw [hsc]; exact SC.names) (by rw [hl]; simp) SC.sw)
    (L2H.pi_range1H (gl "range" (by simp)) (hbi "range" (by simp)) (pa_cons pe_int pa_nil))
    (by show BlkOk X.N X.env.scope csc _; rw [hN, hsc]; exact blkOk_by SC.blk)
    (fun s H C cl fp pl => pg_name (i := 4) nd (at_ 4 "k" rfl) (.inl (lk (by simp) SC.k)) (.inr (lk (by simp) SC.k)))
    (fun s H C cl fp pl => pts_one (pt_truth (pe_ix ix_seq (pe_var (i := 2) (at_ 2 "kinds" rfl) (by show Vis (relS csc X.env.scope) _; rw [hsc]; exact SC.kv)) (pe_var (i := 4) (at_ 4 "k" rfl) (.inl (lk (by simp) SC.k))) plain_nm) fun _ => rfl))
    (fun s H C cl fp pl => pe_ix ix_seq (pe_lst (pa_cons pe_str (pa_cons pe_str (pa_cons pe_str (pa_cons pe_str (pa_cons pe_str pa_nil)))))) (pe_var (i := 4) (at_ 4 "k" rfl) (.inl (lk (by simp) SC.k))) plain_nm)
    (fun _ => rfl)
  -- the third
  have nm3 : ∀ q : Pos, PE (X.suite a ((a, oe) :: pn)) (.Name "names" q) (tVar 3) := fun q => pe_var (i := 3) (at_ 3 "names" rfl) (vis SC.names (.inl rfl))
  have S3 : PS (X.suite a ((a, oe) :: pn)) (toldS3 p) _ := ps_ret (pe_tup (pa_cons (pe_ix ix_seq (pe_lst (pa_cons pe_str (pa_cons (pe_ix ix_seq (pe_op op_catR (nm3 _) (pe_lst (pa_cons pe_str pa_nil))) pe_int plain_int) pa_nil)))
    (pe_callTy call_int1 (gl "int" (by simp)) (hbi "int" (by simp)) (by decide +kernel) (pa_cons (pe_cmpR op_eq (pe_callB call_len_seq (gl "len" (by simp)) (hbi "len" (by simp)) (by decide +kernel) (pa_cons (nm3 _) pa_nil)) pe_int rfl) pa_nil)) plain_call) pa_nil))
  refine (pss_cons S1 (pss_cons S2 (pss_one S3))).run pins s σ H D I ?_
  -- what they do
  have kit : ∀ x, x ∈ toldKinds → PySem.W.kitOne X.K (.ref (ga c)) (.ref (ga x)) = some (decide (c = x)) := fun x hx => TC.kit c hcm x hx
  have go : ∀ (x : Str) (H1 : Hp) (Q : VK), x ∈ toldKinds → Q (.bl (decide (c = x))) H1 → tCB (rIsE X.K (ga c) a) (tCons (tVar 1) (tCons (tC (.ref (ga x))) tNil)) σ H1 Q := fun x H1 Q hx q =>
    ⟨.ref a, hσ, .ref (ga x), .ref (ga x), decide (c = x), rfl, fun u r => r, kit x hx, q⟩
  refine go _ _ _ (by decide) (go _ _ _ (by decide) (go _ _ _ (by decide) (go _ _ _ (by decide) (go _ _ _ (by decide) ⟨sz5, fun K1 hK1 => ?_⟩))))
  have hbs : [V.bl (decide (c = "NotAllowed")), .bl (decide (c = "TooLarge")), .bl (decide (c = "Missing")), .bl (decide (c = "BadForm")), .bl (decide (c = "Broken"))] = bsOf m := by
    rcases five hm5 with rfl | rfl | rfl | rfl | rfl <;> (cases hm; rfl)
  show tSeq _ _ _ (σ.set 2 (some (.ref K1))) (upd H K1 (.lst [V.bl (decide (c = "NotAllowed")), .bl (decide (c = "TooLarge")), .bl (decide (c = "Missing")), .bl (decide (c = "BadForm")), .bl (decide (c = "Broken"))]))
  rw [hbs]
  have k1 : ∀ x o, H x = some o → upd H K1 (.lst (bsOf m)) x = some o := fun x o e => by rw [upd_ne (ne_of_none e hK1)]; exact e
  generalize hH1 : upd H K1 (.lst (bsOf m)) = H1 at k1
  have a1 : H1 K1 = some (.lst (bsOf m)) := by rw [← hH1]; exact upd_same
  refine ⟨5, rfl, by decide, by decide, fun N1 hN1 => ?_⟩
  have ne1 : K1 ≠ N1 := ne_of_none a1 hN1
  have k2 : ∀ x o, H x = some o → x ≠ N1 ∧ H1 x = some o := fun x o e => ⟨ne_of_none (k1 x o e) hN1, k1 x o e⟩
  refine lc_range (lo := 0) (n := Int.toNat 5) (g := gName 4) (vs := [4]) (σ := σ.set 2 (some (.ref K1))) (H1 := H1) (D := N1) (te := tOp (rIx X.K) (tLst (tCons (tC (.str "refused")) (tCons (tC (.str "large")) (tCons (tC (.str "missing")) (tCons (tC (.str "form")) (tCons (tC (.str "broken")) tNil)))))) (tVar 4)) (tt := fun σ H Q => tOp (rIx X.K) (tVar 2) (tVar 4) σ H fun x H' => ∃ k, TruV X.K x H' k ∧ Q k H') (fun i H' => H' N1 = some (.lst (accOf w m i)) ∧ H' K1 = some (.lst (bsOf m)) ∧ ∀ x o, H x = some o → H' x = some o) ⟨?_, ?_, fun x o e => ?_⟩ (fun i H' hi ⟨p1, p2, p3⟩ => ?_) (fun H' ⟨p1, p2, p3⟩ => ?_)
  · rw [upd_same]; unfold accOf; simp
  · rw [upd_ne ne1]; exact a1
  · rw [upd_ne (k2 x o e).1]; exact (k2 x o e).2
  · -- a turn
    have hi : i < 5 := hi
    have hs2 : ((wipe (σ.set 2 (some (.ref K1))) [4]).set 4 (some (V.int (0 + (i : Int)))))[2]? = some (some (.ref K1)) := by
      simp [wipe, hlen]
    have hs4 : ((wipe (σ.set 2 (some (.ref K1))) [4]).set 4 (some (V.int (0 + (i : Int)))))[4]? = some (some (.int (0 + (i : Int)))) := by
      simp [wipe, hlen]
    refine ⟨by simp [wipe], .ref K1, hs2, .int (0 + (i : Int)), hs4, .inl ⟨K1, bsOf m, 0 + (i : Int), _, rfl, rfl, .inl (.inl p2), bs_at hi, decide (m = i), rfl, ?_⟩⟩
    by_cases e : m = i
    · subst e
      show (if decide (m = m) = true then _ else _)
      rw [if_pos (by simp)]
      refine ⟨sz5, fun q hq => ⟨.int (0 + (m : Int)), hs4, .inl ⟨q, wsOf, 0 + (m : Int), _, rfl, rfl, .inl (.inl upd_same), ws_at hw, accOf w m m, ?_, ?_, ?_, ?_, fun x o e => ?_⟩⟩⟩
      · rw [upd_ne (ne_of_none p1 hq)]; exact p1
      · unfold accOf; simp; decide
      · rw [upd_same]; unfold accOf; simp
      · rw [upd_ne ne1, upd_ne (ne_of_none p2 hq)]; exact p2
      · rw [upd_ne (k2 x o e).1, upd_ne (ne_of_none (p3 x o e) hq)]; exact p3 x o e
    · show (if decide (m = i) = true then _ else _)
      rw [if_neg (by simp [e])]
      refine ⟨?_, p2, p3⟩
      rw [p1]
      unfold accOf
      by_cases h : m < i
      · rw [if_pos h, if_pos (by omega)]
      · rw [if_neg h, if_neg (by omega)]
  · -- the end
    have ha : accOf w m 5 = [V.str w] := by unfold accOf; rw [if_pos hm5]
    have p1 : H' N1 = some (.lst (accOf w m 5)) := p1
    rw [ha] at p1
    have h3 : ((σ.set 2 (some (.ref K1))).set 3 (some (V.ref N1)))[3]? = some (some (.ref N1)) := by simp [hlen]
    refine ⟨.ref N1, h3, sz1, fun q1 hq1 => ⟨N1, q1, [.str w], [.str ""], rfl, rfl, .inl ?_, .inl upd_same, sz2, fun q2 hq2 => .inl ⟨q2, [.str w, .str ""], 0, .str w, rfl, rfl, .inl (.inl upd_same), rfl, sz2, fun q3 hq3 => ⟨.ref N1, h3, N1, [.str w], rfl, .inl (.inl (.inl ?_)), rfl, .inr ⟨true, rfl, .inl ⟨q3, [.str "odd", .str w], 1, .str w, rfl, rfl, .inl (.inl upd_same), rfl, sz1, fun q4 hq4 => ?_⟩⟩⟩⟩⟩⟩
    · rw [upd_ne (ne_of_none p1 hq1)]; exact p1
    · have e1 : upd H' q1 (.lst [.str ""]) N1 = some (.lst [.str w]) := by rw [upd_ne (ne_of_none p1 hq1)]; exact p1
      have e2 : upd (upd H' q1 (.lst [.str ""])) q2 (.lst ([.str w] ++ [.str ""])) N1 = some (.lst [.str w]) := by rw [upd_ne (ne_of_none e1 hq2)]; exact e1
      rw [upd_ne (ne_of_none e2 hq3)]
      exact e2
    · have kk : ∀ x o, H x = some o → upd (upd (upd (upd H' q1 (.lst [.str ""])) q2 (.lst ([.str w] ++ [.str ""]))) q3 (.lst [.str "odd", .str w])) q4 (.tup [.str w]) x = some o := fun x o e => by
        have e0 := p3 x o e
        have e1 : upd H' q1 (.lst [.str ""]) x = some o := by rw [upd_ne (ne_of_none e0 hq1)]; exact e0
        have e2 : upd (upd H' q1 (.lst [.str ""])) q2 (.lst ([.str w] ++ [.str ""])) x = some o := by rw [upd_ne (ne_of_none e1 hq2)]; exact e1
        have e3 : upd (upd (upd H' q1 (.lst [.str ""])) q2 (.lst ([.str w] ++ [.str ""]))) q3 (.lst [.str "odd", .str w]) x = some o := by rw [upd_ne (ne_of_none e2 hq3)]; exact e2
        rw [upd_ne (ne_of_none e3 hq4)]
        exact e3
      refine hend q4 _ kk ?_ upd_same
      cases q : H q4 with
      | none => rfl
      | some o =>
        have e0 := p3 q4 o q
        have e1 : upd H' q1 (.lst [.str ""]) q4 = some o := by rw [upd_ne (ne_of_none e0 hq1)]; exact e0
        have e2 : upd (upd H' q1 (.lst [.str ""])) q2 (.lst ([.str w] ++ [.str ""])) q4 = some o := by rw [upd_ne (ne_of_none e1 hq2)]; exact e1
        have e3 : upd (upd (upd H' q1 (.lst [.str ""])) q2 (.lst ([.str w] ++ [.str ""]))) q3 (.lst [.str "odd", .str w]) q4 = some o := by rw [upd_ne (ne_of_none e2 hq3)]; exact e2
        rw [hq4] at e3
        cases e3
end
end DI
end
section
set_option linter.all false
set_option autoImplicit false
set_option maxRecDepth 100000
/-! D7: the evaluator of expressions is sound: the statement, names, operators, tests, displays. -/
namespace DI
open PySem PySem.Spec L2
open PyProof.Rows hiding St

/-- an error of a def: of one of the program's classes -/
def wx (X : Cx) (W : EW) : WX := fun cls d _ H => ∃ e : Exn, cls = .ref (He.ga X.K e.cls) ∧ d = none ∧ W e H
/-- arguments, some lent -/
def LAll (K : PySem.W.Frag) (Hid : Addr → Prop) (p : Option Addr) (H : Hp) : List Bool → List V → List D → Prop
  | _, [], [] => True
  | true :: fs, v :: vs, d :: ds => LRep K Hid p H v d ∧ LAll K Hid p H fs vs ds
  | false :: fs, v :: vs, d :: ds => Rp K (hide Hid H) v d ∧ LAll K Hid p H fs vs ds
  | [], v :: vs, d :: ds => Rp K (hide Hid H) v d ∧ LAll K Hid p H [] vs ds
  | _, _, _ => False
theorem LAll.len {K : PySem.W.Frag} {Hid : Addr → Prop} {p : Option Addr} {H : Hp} : ∀ {fs : List Bool} {vs : List V} {ds : List D}, LAll K Hid p H fs vs ds → vs.length = ds.length
  | [], [], [], _ => rfl
  | _ :: _, [], [], _ => rfl
  | true :: fs, v :: vs, d :: ds, h => by simp [LAll.len h.2]
  | false :: fs, v :: vs, d :: ds, h => by simp [LAll.len h.2]
  | [], v :: vs, d :: ds, h => by simp [LAll.len h.2]
def rpLs (g : Gd) (fs : List Bool) : Wd → Hp → List V → List D → Prop := fun w H vs ds => LAll g.K w.Hid w.p H fs vs ds
/-- the promise of a def without the state -/
def spP (K : PySem.W.Frag) (T : List (Addr × Str)) (n : Nat) (le : List Bool) (sem : List D → M D) : Sp := fun vs H Q E => vs.length = n ∧ ∃ (Hid : Addr → Prop) (ds : List D), (∀ a, Hid a → H a ≠ none) ∧ LamX.Tabs T H ∧ LAll K Hid none H le vs ds ∧
  (match sem ds [] with
    | .ok d _ => ∀ v H', Evo none H H' → LamX.Tabs T H' → Rp K (hide Hid H') v d → Q v H'
    | .err e _ => ∀ H', Evo none H H' → LamX.Tabs T H' → E (.ref (He.ga K e.cls)) none H'
    | .stuck => False)
/-- .. of a def whose first parameter is the state -/
def spS (K : PySem.W.Frag) (T : List (Addr × Str)) (n : Nat) (le : List Bool) (sem : List D → M D) : Sp := fun vs H Q E => vs.length = n + 1 ∧ ∃ (Hid : Addr → Prop) (a : Addr) (us : List V) (ds : List D) (st : Stt), vs = .ref a :: us ∧ (∀ a, Hid a → H a ≠ none) ∧ LamX.Tabs T H ∧
  StRep K Hid (some a) H st ∧ LAll K Hid (some a) H le us ds ∧
  (match sem ds st with
    | .ok d st' => ∀ v H', Evo (some a) H H' → LamX.Tabs T H' → StRep K Hid (some a) H' st' → Rp K (hide Hid H') v d → Q v H'
    | .err e st' => ∀ H', Evo (some a) H H' → LamX.Tabs T H' → StRep K Hid (some a) H' st' → E (.ref (He.ga K e.cls)) none H'
    | .stuck => False)
def spF (K : PySem.W.Frag) (T : List (Addr × Str)) (fi : FnI) : Sp := if fi.st = true then spS K T fi.arity fi.lend fi.sem else spP K T fi.arity fi.lend fi.sem
def FnG (T : List (Addr × Str)) (X : Cx) (k : Nat) (f : Str) (fi : FnI) : Prop := ∃ (a : Addr) (fd : FuncData) (ps : List Str), FnOkG X.prog X.w X.K X.mg X.base (L2N.CX X.prog X.w) k a fd ps (spF X.K T fi) ∧
  X.mg f = some (.ref a) ∧ PySem.W.keepIn X.K (.ref a) = true ∧ Binds X.K fd ps []
def biNames : List Str := ["len", "abs", "int", "all", "any", "sum", "max", "min", "tuple", "list", "repr", "range", "zip", "isinstance", "str", "sorted", "enumerate", "set", "dict"]
/-- a place where lambdas are made for _law_told -/
structure LamHome (T : List (Addr × Str)) (X : Cx) : Prop where
  home : ∃ c P : Addr, X.env.code = .ref c ∧ LamX.TabB X.base X.mg c P ∧ (P, X.env.qual ++ "<lambda>") ∈ T ∧ ∀ p ∈ T, p.1 = P → p.2 = X.env.qual ++ "<lambda>"
  fn : ToldFn X.K X.mg (He.ga X.K)
/-- a context that the evaluator serves -/
structure Good (T : List (Addr × Str)) (W : EW) (X : Cx) (C : Ctx) (k : Nat) : Prop where
  N : X.N = C.N
  sc : X.env.scope = C.sc
  nd : X.N.Nodup
  calm : X.calm = true
  tk : L2N.Takes X (wx X W)
  gd : X.A.guards = some []
  room : Room (if C.lam = true then k + 2 else k) X.A
  told : C.lam = true → LamHome T X
  con : ∀ x d, C.con x = some d → ∃ v u, X.mg x = some u ∧ RelV v u ∧ ∀ H, Rp X.K H v d
  bi : ∀ x, C.fn x = none → C.con x = none → x ∈ biNames → X.mg x = none
  fn : ∀ f fi, C.fn f = some fi → FnG T X k f fi
/-- told of a lambda (shown apart) -/
def ToldOk (T : List (Addr × Str)) (n : Nat) : Prop := ∀ {W : EW} {X : Cx} {C : Ctx} {k : Nat}, Good T W X C k → ∀ (p lpos pos : Pos) (a : Arguments) (body : Expr) (scope : Scope), C.lam = true → lamOk C a scope = true → C.fn "_law_told" = none → C.con "_law_told" = none → gl C "_law_told" = true →
  PE X (.Call (.Name "_law_told" p) [.Lambda a body scope lpos] [] pos) (tD (gX X T) W (rpD (gX X T)) fun ρ => toldM (evE n (C.lamIn scope) body (wipeE ρ (ownIx C.N scope))))
/-- what is walked: Hd may change meanwhile -/
def rpI (g : Gd) (Hd : Wd → Addr → Prop) (w : Wd) (H1 : Hp) (J : It) (xs : List D) : Prop := ∀ H, Kp (hide (Hd w) H1) H → ∀ i : Nat,
  (i < xs.length → J.go i H ∧ ∀ x H', J.yld i H x H' → (∀ b o, H b = some o → H' b = some o) ∧ ∃ d, xs[i]? = some d ∧ ∀ Hid', (∀ b, Hid' b → H b ≠ none) → Kp (hide w.Hid H1) (hide Hid' H') → Rp g.K (hide Hid' H') x d) ∧ (xs.length = i → J.stop i H)
/-- passing by: the state cell alone may change; else all that is hidden -/
def hd (br : Bool) (w : Wd) (a : Addr) : Prop := if br = true then w.p = some a else w.Hid a
def rpW (g : Gd) (br : Bool) : Wd → Hp → V → D → Prop := fun w H v d => if br = true then rpB g w H v d else rpD g w H v d
/-- keys and values, one behind another -/
inductive PrAll (K : PySem.W.Frag) (H : Hp) : List (V × V) → List (D × D) → Prop
  | nil : PrAll K H [] []
  | cons {k : Key} {v : V} {d : D} {ps : List (V × V)} {es : List (D × D)} : Rp K H v d → PrAll K H ps es → PrAll K H ((kV k, v) :: ps) ((kD k, d) :: es)
def rpPs (g : Gd) : Wd → Hp → List (V × V) → List (D × D) → Prop := fun w H ps es => PrAll g.K (hide w.Hid H) ps es
structure Snd (T : List (Addr × Str)) (n : Nat) : Prop where
  E : ∀ {W : EW} {X : Cx} {C : Ctx} {k : Nat}, Good T W X C k → ∀ e, PE X e (tD (gX X T) W (rpD (gX X T)) (evE n C e))
  F : ∀ {W : EW} {X : Cx} {C : Ctx} {k : Nat}, Good T W X C k → ∀ e, PE X e (tD (gX X T) W (rpF (gX X T)) (evF n C e))
  B : ∀ {W : EW} {X : Cx} {C : Ctx} {k : Nat}, Good T W X C k → ∀ e, PE X e (tD (gX X T) W (rpB (gX X T)) (evB n C e))
  Wk : ∀ {W : EW} {X : Cx} {C : Ctx} {k : Nat}, Good T W X C k → ∀ br e, PE X e (tD (gX X T) W (rpW (gX X T) br) (evW n C br e))
  Te : ∀ {W : EW} {X : Cx} {C : Ctx} {k : Nat}, Good T W X C k → ∀ e, PT X e (tD (gX X T) W rpT (evT n C e))
  Ts : ∀ {W : EW} {X : Cx} {C : Ctx} {k : Nat}, Good T W X C k → ∀ op vs pos, PW X (.BoolOp op vs pos) (tD (gX X T) W rpT (evTs n C op vs))
  Bo : ∀ {W : EW} {X : Cx} {C : Ctx} {k : Nat}, Good T W X C k → ∀ op vs pos, PE X (.BoolOp op vs pos) (tD (gX X T) W (rpD (gX X T)) (evBool n C op vs))
  Es : ∀ {W : EW} {X : Cx} {C : Ctx} {k : Nat}, Good T W X C k → ∀ es, PA X es (tD (gX X T) W (rpDs (gX X T)) (evEs n C es))
  Ps : ∀ {W : EW} {X : Cx} {C : Ctx} {k : Nat}, Good T W X C k → ∀ (pos : Pos) ks vs, ∃ trs, PPs X pos ks vs trs ∧ ∀ σ H Q, tD (gX X T) W (rpPs (gX X T)) (evPs n C ks vs) σ H Q → tPairs trs σ H Q
  Bi : ∀ {W : EW} {X : Cx} {C : Ctx} {k : Nat}, Good T W X C k → ∀ f p args pos, C.fn f = none → C.con f = none → gl C f = true → args.any isStar = false → PE X (.Call (.Name f p) args [] pos) (tD (gX X T) W (rpD (gX X T)) (evBi n C f args))
  Ls : ∀ {W : EW} {X : Cx} {C : Ctx} {k : Nat}, Good T W X C k → ∀ fs es, es.any isStar = false → PA X es (tD (gX X T) W (rpLs (gX X T) fs) (evLs n C fs es))
  Bs : ∀ {W : EW} {X : Cx} {C : Ctx} {k : Nat}, Good T W X C k → ∀ es, PA X es (tD (gX X T) W (rpBs (gX X T)) (evBs n C es))
  O : ∀ {W : EW} {X : Cx} {C : Ctx} {k : Nat}, Good T W X C k → ∀ o, PO X o (tD (gX X T) W rpO (evO n C o))
  I : ∀ {W : EW} {X : Cx} {C : Ctx} {k : Nat}, Good T W X C k → ∀ br tg e, PI X tg e (tD (gX X T) W (rpI (gX X T) (hd br)) (evI n C br (isTup tg) e))
  If : ∀ {W : EW} {X : Cx} {C : Ctx} {k : Nat}, Good T W X C k → ∀ es, PTs X es (tD (gX X T) W rpT (evIfs n C es))
  Ca : ∀ {W : EW} {X : Cx} {C : Ctx} {k : Nat}, Good T W X C k → ∀ f p args pos, PE X (.Call (.Name f p) args [] pos) (tD (gX X T) W (rpD (gX X T)) (evCall n C f args))

section
variable {T : List (Addr × Str)} {W : EW} {X : Cx} {C : Ctx} {k n : Nat} {α β : Type}
theorem PE.void {e : Expr} {t : TE} (h : ∀ σ H Q, ¬ t σ H Q) : PE X e t := ⟨fun _ _ σ H Q _ q => (h σ H Q q).elim⟩
theorem PT.void {e : Expr} {t : TT} (h : ∀ σ H Q, ¬ t σ H Q) : PT X e t := ⟨fun _ _ σ H Q _ q => (h σ H Q q).elim⟩
theorem tD.stuck {g : Gd} {rp : Wd → Hp → β → α → Prop} {m : DI.Env → M α} (h : ∀ ρ st, m ρ st = .stuck) (σ : L2.St) (H : Hp) (Q : β → Hp → Prop) : ¬ tD g W rp m σ H Q := fun ⟨w, st, _, _, p⟩ => by
  rw [h] at p
  exact p
theorem ixOf_get : ∀ {N : List Str} {x : Str} {i : Nat}, ixOf N x = some i → N[i]? = some x
  | [], _, _, h => by cases h
  | y :: r, x, i, h => by
    unfold ixOf at h
    split at h
    · cases h; rename_i e; simp [e]
    · simp only [Option.map_eq_some_iff] at h
      obtain ⟨j, h1, rfl⟩ := h
      simpa using ixOf_get h1
theorem bad_no {x : Str} (h : badName x = false) : (x == ("__debug__" : Str)) = false ∧ (x == ("__classdict__" : Str)) = false ∧ x ≠ "__name__" := by
  unfold badName at h
  simp only [Bool.or_eq_false_iff, decide_eq_false_iff_not] at h
  exact ⟨by simpa using h.1.1, by simpa using h.1.2, h.2⟩
theorem visB_ok {sc : Scope} {x : Str} (h : visB sc x = true) : Vis sc x := by
  unfold visB at h
  unfold Vis
  split at h <;> simp_all
theorem locB_ok {sc : Scope} {x : Str} (h : locB sc x = true) : L2.Loc sc x := by
  unfold locB at h
  unfold L2.Loc
  split at h <;> simp_all
theorem globB_ok {sc : Scope} {x : Str} (h : globB sc x = true) : sc.names.lookup x = some .globalImplicit := by
  unfold globB at h
  split at h <;> simp_all
theorem Good.room0 (G : Good T W X C k) : Room k X.A := by
  have r := G.room
  split at r
  · exact r.mono (Nat.le_add_right k 2)
  · exact r
theorem Good.gl (G : Good T W X C k) {x : Str} (h : gl C x = true) : Gl X x ∧ badName x = false := by
  unfold DI.gl at h
  simp only [Bool.and_eq_true, Bool.not_eq_true'] at h
  refine ⟨?_, h.2⟩
  have z := globB_ok h.1
  show X.env.scope.names.lookup x = _
  rw [G.sc]
  exact z
theorem Good.vis (G : Good T W X C k) {x : Str} (h : visB C.sc x = true) : Vis X.env.scope x := by
  rw [G.sc]
  exact visB_ok h
/-- a name of the def -/
theorem slotOf_some {ρ : DI.Env} {x : Str} {sv : SV} (h : slotOf C ρ x = some sv) : badName x = false ∧ visB C.sc x = true ∧ ∃ i, ixOf C.N x = some i ∧ ρ[i]? = some (some sv) := by
  unfold slotOf at h
  split at h
  · cases h
  · rename_i hb
    split at h
    · rename_i hv
      refine ⟨by simpa using hb, hv, ?_⟩
      split at h
      · rename_i i hi
        refine ⟨i, hi, ?_⟩
        split at h
        · rename_i o ho
          rw [ho, h]
        · cases h
      · cases h
    · cases h
/-- a name as it is read: f tells what of a slot is taken -/
theorem snd_name {rp : Wd → Hp → V → D → Prop} {f : DI.Env → M D} (G : Good T W X C k) {x : Str} {pos : Pos}
    (hr : ∀ w H v d, rpD (gX X T) w H v d → rp w H v d)
    (h1 : ∀ ρ st, (slotOf C ρ x = none → f ρ st = guardM (!badName x && globB C.sc x) (optM (C.con x)) st) ∧ (∀ sv, slotOf C ρ x = some sv → f ρ st = .stuck ∨ ∃ d, f ρ st = .ok d st ∧ ∀ w H v, w.ρ = ρ → ERep (gX X T) w H st → SRep X.K w.Hid w.p H v sv → rp w H v d)) :
    PE X (.Name x pos) (tD (gX X T) W rp f) := by
  by_cases hv : visB C.sc x = true
  · have ng : globB C.sc x = false := by
      unfold visB at hv
      unfold globB
      split at hv <;> simp_all
    cases hi : ixOf C.N x with
    | none =>
      refine PE.void (tD.stuck fun ρ st => ?_)
      have z : slotOf C ρ x = none := by
        unfold slotOf
        rw [hi]
        simp
      rw [(h1 ρ st).1 z, ng]
      simp [guardM]
    | some i =>
      by_cases hb : badName x = true
      · refine PE.void (tD.stuck fun ρ st => ?_)
        have z : slotOf C ρ x = none := by
          unfold slotOf
          rw [if_pos hb]
        rw [(h1 ρ st).1 z, hb]
        simp [guardM]
      have hb' : badName x = false := by simpa using hb
      obtain ⟨b1, b2, b3⟩ := bad_no hb'
      refine (pe_var (i := i) (by rw [G.N]; exact ixOf_get hi) (G.vis hv) b1 b2).mono fun σ H Q ⟨w, st, hσ, E, h⟩ => ?_
      subst hσ
      cases hs : slotOf C w.ρ x with
      | none =>
        rw [(h1 w.ρ st).1 hs, ng] at h
        simp only [Bool.and_false, guardM] at h
        exact h.elim
      | some sv =>
        obtain ⟨_, _, j, hj, hρ⟩ := slotOf_some hs
        rw [hi] at hj
        cases hj
        obtain ⟨v, hv1, hv2⟩ := E.slot i sv hρ
        refine ⟨v, hv1, ?_⟩
        rcases (h1 w.ρ st).2 sv hs with z | ⟨d, z, hd⟩
        · rw [z] at h
          exact h.elim
        · rw [z] at h
          exact h.now E (hd w H v rfl E hv2)
  · have hv' : visB C.sc x = false := by simpa using hv
    have z : ∀ ρ, slotOf C ρ x = none := fun ρ => by
      unfold slotOf
      rw [hv']
      simp
    cases hc : C.con x with
    | none =>
      refine PE.void (tD.stuck fun ρ st => ?_)
      rw [(h1 ρ st).1 (z ρ), hc]
      simp [guardM, optM, stuckM]
    | some d =>
      by_cases hg : (!badName x && globB C.sc x) = true
      · have hg2 : DI.gl C x = true := by
          unfold DI.gl
          rw [Bool.and_comm]
          exact hg
        obtain ⟨g1, g2⟩ := G.gl hg2
        obtain ⟨b1, b2, b3⟩ := bad_no g2
        obtain ⟨v, u, m1, m2, m3⟩ := G.con x d hc
        refine (pe_glob g1 m1 m2 b1).mono fun σ H Q ⟨w, st, hσ, E, h⟩ => ?_
        rw [(h1 w.ρ st).1 (z _), hc] at h
        obtain ⟨_, h⟩ := Post.grd h
        exact h.now E (hr w H v d (m3 _))
      · refine PE.void (tD.stuck fun ρ st => ?_)
        rw [(h1 ρ st).1 (z ρ)]
        unfold guardM
        rw [if_neg hg]
theorem snd_nameM (G : Good T W X C k) {x : Str} {pos : Pos} : PE X (.Name x pos) (tD (gX X T) W (rpD (gX X T)) (nameM C x)) := by
  refine snd_name G (fun _ _ _ _ h => h) fun ρ st => ⟨fun h => by unfold nameM; rw [h], fun sv h => ?_⟩
  unfold nameM
  rw [h]
  cases sv with
  | sh d => exact .inr ⟨d, rfl, fun w H v _ _ s => s⟩
  | ow ds => exact .inl rfl
  | ln ds => exact .inl rfl
  | stt => exact .inl rfl
theorem snd_nameB (G : Good T W X C k) {x : Str} {pos : Pos} : PE X (.Name x pos) (tD (gX X T) W (rpB (gX X T)) (nameB C x)) := by
  refine snd_name G (fun _ _ _ _ h => rpB.ofD h) fun ρ st => ⟨fun h => by unfold nameB; rw [h], fun sv h => ?_⟩
  unfold nameB
  rw [h]
  cases sv with
  | sh d => exact .inr ⟨d, rfl, fun w H v _ _ s => .inl s⟩
  | ow d => exact .inr ⟨d, rfl, fun w H v _ _ ⟨a, o, s1, s2, s3, s4, s5⟩ => .inr ⟨a, o, s1, s3, s4, s5⟩⟩
  | ln d => exact .inr ⟨d, rfl, fun w H v _ _ s => s.elim .inl fun ⟨a, o, s1, s2, s3, s4, s5⟩ => .inr ⟨a, o, s1, s3, s4, s5⟩⟩
  | stt => exact .inl rfl
theorem snd_const {c : Const} {j : Nat} {pos : Pos} : PE X (.Constant c j pos) (tD (gX X T) W (rpD (gX X T)) fun _ => constM c) := by
  cases c with
  | none => exact pe_non.mono fun σ H Q ⟨w, st, _, E, h⟩ => h.now E (rp := rpD _ w) Rp.non
  | bool b => exact pe_bl.mono fun σ H Q ⟨w, st, _, E, h⟩ => h.now E (rp := rpD _ w) (Rp.bl b)
  | int i => exact pe_int.mono fun σ H Q ⟨w, st, _, E, h⟩ => h.now E (rp := rpD _ w) (Rp.int i)
  | str x => exact pe_str.mono fun σ H Q ⟨w, st, _, E, h⟩ => h.now E (rp := rpD _ w) (Rp.str x)
  | _ => exact PE.void (tD.stuck fun _ _ => rfl)
/-! ### operators -/
theorem bin_ev (ih : Snd T n) (G : Good T W X C k) (a b : Expr) (op : Operator) (pos : Pos) :
    PE X (.BinOp a op b pos) (tD (gX X T) W (rpX (gX X T)) fun ρ => bnd (evB n C a ρ) fun x => bnd (evB n C b ρ) fun y => binM op x y) := by
  obtain ⟨r, hr, hq⟩ := bin_ok (X := X) (T := T) (W := W) op
  refine (pe_op hr (ih.B G a) (ih.B G b)).mono fun σ H Q ⟨w, st, hσ, E, h⟩ => ?_
  subst hσ
  exact ⟨w, st, rfl, E, h.bind fun x st1 v H1 e1 E1 r1 h1 => ⟨w, st1, rfl, E1, h1.bind fun y st2 u H2 e2 E2 r2 h2 => hq w st2 H2 v u x y Q E2 (r1.evo E1 e2) r2 h2⟩⟩
theorem tD.weak {g : Gd} {rp rp' : Wd → Hp → β → α → Prop} {m : DI.Env → M α} {σ : L2.St} {H : Hp} {Q : β → Hp → Prop} (h : tD g W rp m σ H Q) (k : ∀ w H b a, rp' w H b a → rp w H b a) : tD g W rp' m σ H Q := by
  obtain ⟨w, st, h1, h2, h3⟩ := h
  exact ⟨w, st, h1, h2, h3.weak (k w)⟩
theorem rpT_v {g : Gd} {w : Wd} {H : Hp} {r : R Bool} {Q : Bool → Hp → Prop} (h : Post g W w (rpT w) H r Q) : Post g W w (rpV w) H r (fun x H' => ∃ b, x = .bl b ∧ Q b H') := by
  cases r with
  | ok a st' => exact fun b H1 e1 E1 r1 => ⟨a, r1, h a H1 e1 E1 rfl⟩
  | err x st' => exact h
  | stuck => exact h
theorem rpD_v {g : Gd} {w : Wd} {H : Hp} {m : M Bool} {st : Stt} {Q : VK} (h : Post g W w (rpD g w) H (bnd m (fun c => ret (PyData.bool c)) st) Q) : Post g W w (rpV w) H (m st) Q := by
  refine Post.bind (rq := rpD g w) h fun a st1 b H1 e1 E1 r1 h1 => ?_
  have e : b = .bl a := r1
  subst e
  exact h1.now E1 (rp := rpD g w) (Rp.bl a)
theorem units_ok (G : Good T W X C k) : X.A.units + 65 < cLine := by
  have := G.room0.un
  omega
theorem behind_no {op : CmpOp} {b : Expr} (h : isSetE b = false) : behindInMarks op b = false := by
  cases b <;> first | rfl | cases h
end
end DI
end
section
set_option linter.all false
set_option autoImplicit false
set_option maxRecDepth 100000
/-! D8: the step of the soundness of expressions, case by case. -/
namespace DI
open PySem PySem.Spec L2
open PyProof.Rows hiding St
section
variable {T : List (Addr × Str)} {W : EW} {X : Cx} {C : Ctx} {k n : Nat}

theorem truth_ok {w : Wd} {H : Hp} {st : Stt} {v : V} {d : D} {Q : Bool → Hp → Prop} (E : ERep (gX X T) w H st) (r : rpB (gX X T) w H v d) (h : Post (gX X T) W w (rpT w) H (truthM d st) Q) : ∃ b, TruV X.K v H b ∧ Q b H := by
  cases d with
  | none =>
    have e := r.none'
    subst e
    exact ⟨false, rfl, h.now E (rp := rpT w) rfl⟩
  | bool b =>
    have e := r.bool
    subst e
    exact ⟨b, rfl, h.now E (rp := rpT w) rfl⟩
  | int i =>
    have e := r.int
    subst e
    exact ⟨i != 0, rfl, h.now E (rp := rpT w) rfl⟩
  | str x =>
    have e := r.str
    subst e
    obtain ⟨hb, h⟩ := Post.grd h
    exact ⟨_, ⟨fits_le hb, rfl⟩, h.now E (rp := rpT w) rfl⟩
  | list ds =>
    obtain ⟨a, vs, rfl, ha, hs⟩ := r.list
    refine ⟨_, .inl ⟨vs, .inl ha, rfl⟩, ?_⟩
    have e : (!vs.isEmpty) = (!ds.isEmpty) := by cases hs <;> rfl
    rw [e]
    exact h.now E (rp := rpT w) rfl
  | tuple ds =>
    obtain ⟨a, vs, rfl, ha, hs, _⟩ := r.tuple
    refine ⟨_, .inr (.inl ⟨vs, ha, rfl⟩), ?_⟩
    have e : (!vs.isEmpty) = (!ds.isEmpty) := by cases hs <;> rfl
    rw [e]
    exact h.now E (rp := rpT w) rfl
  | dict _ => exact h.elim
/-- a truth that goes on -/
theorem truth_on {α β : Type} {rq : Hp → β → α → Prop} {w : Wd} {H : Hp} {st : Stt} {v : V} {d : D} {f : Bool → M α} {Q : β → Hp → Prop} (E : ERep (gX X T) w H st) (r : rpB (gX X T) w H v d) (h : Post (gX X T) W w rq H ((bnd (truthM d) f) st) Q) :
    ∃ b, TruV X.K v H b ∧ Post (gX X T) W w rq H (f b st) Q := by
  obtain ⟨b, h1, h2⟩ := truth_ok (Q := fun b H' => Post (gX X T) W w rq H (f b st) Q) E r (by
    cases hq : truthM d st with
    | ok b st' =>
      intro b' H' e1 E1 hb
      have z : st' = st := by
        cases d <;> simp only [truthM, ret, guardM, stuckM] at hq <;> first | (cases hq; rfl) | cases hq | (split at hq <;> first | (cases hq; rfl) | cases hq)
      subst z
      have e : b' = b := hb
      subst e
      have y : (bnd (truthM d) f) st' = f b' st' := by
        show R.next (truthM d st') f = _
        rw [hq] <;> rfl
      rwa [y] at h
    | err e st' =>
      have y : (bnd (truthM d) f) st = .err e st' := by
        show R.next (truthM d st) f = _
        rw [hq] <;> rfl
      rw [y] at h
      exact h
    | stuck =>
      have y : (bnd (truthM d) f) st = .stuck := by
        show R.next (truthM d st) f = _
        rw [hq] <;> rfl
      rw [y] at h
      exact h)
  exact ⟨b, h1, h2⟩
/-! ### evE -/
theorem s_not (ih : Snd T n) (G : Good T W X C k) (a : Expr) (pos : Pos) : PE X (.UnaryOp .Not a pos) (tD (gX X T) W (rpD (gX X T)) fun ρ => bnd (evB n C a ρ) fun x => bnd (truthM x) fun b => ret (.bool (!b))) := by
  refine (pe_notT (ih.B G a)).mono fun σ H Q ⟨w, st, hσ, E, h⟩ => ?_
  subst hσ
  refine ⟨w, st, rfl, E, h.bind fun x st1 v H1 e1 E1 r1 h1 => ?_⟩
  obtain ⟨b, t1, h2⟩ := truth_on E1 r1 h1
  exact ⟨b, t1, h2.now E1 (rp := rpD _ w) (Rp.bl _)⟩
theorem s_un (ih : Snd T n) (G : Good T W X C k) (op : UnaryOp) (hop : op ≠ .Not) (a : Expr) (pos : Pos) : PE X (.UnaryOp op a pos) (tD (gX X T) W (rpD (gX X T)) fun ρ => bnd (evB n C a ρ) fun x => unM op x) := by
  by_cases h0 : op = .USub
  · subst h0
    refine (pe_un un_neg (ih.B G a)).mono fun σ H Q ⟨w, st, hσ, E, h⟩ => ?_
    subst hσ
    refine ⟨w, st, rfl, E, h.bind fun x st1 v H1 e1 E1 r1 h1 => ?_⟩
    cases x with
    | int i => exact ⟨i, r1.int, h1.now E1 (rp := rpD _ w) (Rp.int _)⟩
    | _ => exact h1.elim
  · have z : ∀ x, unM op x = stuckM := fun x => by cases op <;> first | (exact absurd rfl h0) | (exact absurd rfl hop) | (cases x <;> rfl)
    refine (pe_un (op := op) (r := fun _ _ _ => False) (fun _ _ _ _ _ _ _ _ _ q => q.elim) (ih.B G a)).mono fun σ H Q ⟨w, st, hσ, E, h⟩ => ?_
    subst hσ
    refine ⟨w, st, rfl, E, h.bind fun x st1 v H1 e1 E1 r1 h1 => ?_⟩
    rw [z] at h1
    exact h1.elim
theorem two_ops {α β : Type} {rq : Wd → Hp → β → α → Prop} (ih : Snd T n) (G : Good T W X C k) {a b : Expr} {f : D → D → M α} {r : V → V → Hp → (β → Hp → Prop) → Prop}
    (hq : ∀ (w : Wd) (st : Stt) (H : Hp) (x y : V) (dx dy : D) (Q : β → Hp → Prop), ERep (gX X T) w H st → rpB (gX X T) w H x dx → rpB (gX X T) w H y dy → Post (gX X T) W w (rq w) H (f dx dy st) Q → r x y H Q) {σ : L2.St} {H : Hp} {Q : β → Hp → Prop}
    (h : tD (gX X T) W rq (fun ρ => bnd (evB n C a ρ) fun x => bnd (evB n C b ρ) fun y => f x y) σ H Q) :
    tD (gX X T) W (rpB (gX X T)) (evB n C a) σ H fun x H1 => tD (gX X T) W (rpB (gX X T)) (evB n C b) σ H1 fun y H2 => r x y H2 Q := by
  obtain ⟨w, st, hσ, E, h⟩ := h
  subst hσ
  exact ⟨w, st, rfl, E, h.bind fun x st1 v H1 e1 E1 r1 h1 => ⟨w, st1, rfl, E1, h1.bind fun y st2 u H2 e2 E2 r2 h2 => hq w st2 H2 v u x y Q E2 (r1.evo E1 e2) r2 h2⟩⟩
theorem tD.grd {α β : Type} {g : Gd} {rp : Wd → Hp → β → α → Prop} {b : Bool} {m : DI.Env → M α} {σ : L2.St} {H : Hp} {Q : β → Hp → Prop} (h : tD g W rp (fun ρ => guardM b (m ρ)) σ H Q) : b = true ∧ tD g W rp m σ H Q := by
  obtain ⟨w, st, h1, h2, h3⟩ := h
  obtain ⟨hb, h3⟩ := Post.grd h3
  exact ⟨hb, w, st, h1, h2, h3⟩
theorem s_cmp1 (ih : Snd T n) (G : Good T W X C k) (a b : Expr) (op : CmpOp) (pos : Pos) :
    PE X (.Compare a [op] [b] pos) (tD (gX X T) W (rpD (gX X T)) fun ρ => guardM (!isSetE b) (bnd (evB n C a ρ) fun x => bnd (evB n C b ρ) fun y => bnd (cmpM op x y) fun c => ret (.bool c))) := by
  by_cases hs : isSetE b = true
  · refine PE.void (tD.stuck fun ρ st => ?_)
    rw [hs]
    rfl
  obtain ⟨r, hr, hq⟩ := cmp_ok (X := X) (T := T) (W := W) op (units_ok G)
  refine (pe_cmpR hr (ih.B G a) (ih.B G b) (behind_no (by simpa using hs))).mono fun σ H Q h => ?_
  exact two_ops ih G (fun w st H x y dx dy Q E rx ry h => hq w st H x y dx dy Q E rx ry (rpD_v h)) (tD.grd h).2
theorem s_cmp1T (ih : Snd T n) (G : Good T W X C k) (a b : Expr) (op : CmpOp) (pos : Pos) :
    PT X (.Compare a [op] [b] pos) (tD (gX X T) W rpT fun ρ => guardM (!isSetE b) (bnd (evB n C a ρ) fun x => bnd (evB n C b ρ) fun y => cmpM op x y)) := by
  by_cases hs : isSetE b = true
  · refine PT.void (tD.stuck fun ρ st => ?_)
    rw [hs]
    rfl
  obtain ⟨r, hr, hq⟩ := cmp_ok (X := X) (T := T) (W := W) op (units_ok G)
  refine (pt_cmpR hr (ih.B G a) (ih.B G b) (behind_no (by simpa using hs))).mono fun σ H Q h => ?_
  exact two_ops (r := fun x y H2 Q => r x y H2 fun z H3 => ∃ b, z = .bl b ∧ Q b H3) ih G (fun w st H x y dx dy Q E rx ry h => hq w st H x y dx dy _ E rx ry (rpT_v h)) (tD.grd h).2
/-- a comparison's bool, then the rest -/
theorem cmp_on {α β : Type} {rq : Hp → β → α → Prop} {w : Wd} {H : Hp} {m : M Bool} {st : Stt} {f : Bool → M α} {Q : β → Hp → Prop} (h : Post (gX X T) W w rq H ((bnd m f) st) Q) :
    Post (gX X T) W w (rpV w) H (m st) (fun z H3 => ∃ b st3, z = .bl b ∧ ERep (gX X T) w H3 st3 ∧ Evo w.p H H3 ∧ Post (gX X T) W w rq H3 (f b st3) Q) := by
  refine Post.bind (rq := rq) h fun a st1 b H1 e1 E1 r1 h1 => ⟨a, st1, r1, E1, e1, h1⟩
theorem s_cmp2 (ih : Snd T n) (G : Good T W X C k) (a b c : Expr) (op op' : CmpOp) (pos : Pos) :
    PE X (.Compare a [op, op'] [b, c] pos) (tD (gX X T) W (rpD (gX X T)) fun ρ => guardM (!isSetE c) (bnd (evB n C a ρ) fun x => bnd (evB n C b ρ) fun y => bnd (cmpM op x y) fun k =>
        if k = true then bnd (evB n C c ρ) fun z => bnd (cmpM op' y z) fun k' => ret (.bool k') else ret (.bool false))) := by
  by_cases hs : isSetE c = true
  · refine PE.void (tD.stuck fun ρ st => ?_)
    rw [hs]
    rfl
  obtain ⟨r, hr, hq⟩ := cmp_ok (X := X) (T := T) (W := W) op (units_ok G)
  obtain ⟨r', hr', hq'⟩ := cmp_ok (X := X) (T := T) (W := W) op' (units_ok G)
  refine (pe_chain hr hr' (ih.B G a) (ih.B G b) (ih.B G c) (by show behindInMarks op' c = false; exact behind_no (by simpa using hs))).mono fun σ H Q h => ?_
  obtain ⟨w, st, hσ, E, h'⟩ := (tD.grd h).2
  subst hσ
  refine ⟨w, st, rfl, E, h'.bind fun x st1 v H1 e1 E1 r1 h1 => ⟨w, st1, rfl, E1, h1.bind fun y st2 u H2 e2 E2 r2 h2 => ?_⟩⟩
  refine hq w st2 H2 v u x y _ E2 (r1.evo E1 e2) r2 ((cmp_on h2).ends (rp' := rpV w) fun _ _ z H3 e3 E3 hz => .inr ⟨hz, fun ⟨b3, st3, hb, E3', e3', h3⟩ => ?_⟩)
  refine ⟨b3, hb, ?_⟩
  cases b3 with
  | false => exact h3.now E3' (rp := rpD _ w) (Rp.bl _)
  | true => exact ⟨w, st3, rfl, E3', Post.bind (rq := rpD _ w) h3 fun dz st4 vz H4 e4 E4 r4 h4 => hq' w st4 H4 u vz y dz Q E4 ((r2.evo E2 e3').evo E3' e4) r4 (rpD_v h4)⟩
theorem s_cmp2T (ih : Snd T n) (G : Good T W X C k) (a b c : Expr) (op op' : CmpOp) (pos : Pos) :
    PT X (.Compare a [op, op'] [b, c] pos) (tD (gX X T) W rpT fun ρ => guardM (!isSetE c) (bnd (evB n C a ρ) fun x => bnd (evB n C b ρ) fun y => bnd (cmpM op x y) fun k =>
        if k = true then bnd (evB n C c ρ) fun z => cmpM op' y z else ret false)) := by
  by_cases hs : isSetE c = true
  · refine PT.void (tD.stuck fun ρ st => ?_)
    rw [hs]
    rfl
  obtain ⟨r, hr, hq⟩ := cmp_ok (X := X) (T := T) (W := W) op (units_ok G)
  obtain ⟨r', hr', hq'⟩ := cmp_ok (X := X) (T := T) (W := W) op' (units_ok G)
  refine (pt_chain hr hr' (ih.B G a) (ih.B G b) (ih.B G c) (by show behindInMarks op' c = false; exact behind_no (by simpa using hs))).mono fun σ H Q h => ?_
  obtain ⟨w, st, hσ, E, h'⟩ := (tD.grd h).2
  subst hσ
  refine ⟨w, st, rfl, E, h'.bind fun x st1 v H1 e1 E1 r1 h1 => ⟨w, st1, rfl, E1, h1.bind fun y st2 u H2 e2 E2 r2 h2 => ?_⟩⟩
  refine hq w st2 H2 v u x y _ E2 (r1.evo E1 e2) r2 ((cmp_on h2).ends (rp' := rpV w) fun _ _ z H3 e3 E3 hz => .inr ⟨hz, fun ⟨b3, st3, hb, E3', e3', h3⟩ => ?_⟩)
  refine ⟨b3, hb, ?_⟩
  cases b3 with
  | false => exact ⟨false, rfl, h3.now E3' (rp := rpT w) rfl⟩
  | true => exact ⟨w, st3, rfl, E3', Post.bind (rq := rpT w) h3 fun dz st4 vz H4 e4 E4 r4 h4 => hq' w st4 H4 u vz y dz _ E4 ((r2.evo E2 e3').evo E3' e4) r4 (rpT_v h4)⟩
theorem s_if (ih : Snd T n) (G : Good T W X C k) (t a b : Expr) (pos : Pos) : PE X (.IfExp t a b pos) (tD (gX X T) W (rpD (gX X T)) fun ρ => bnd (evT n C t ρ) fun c => if c = true then evE n C a ρ else evE n C b ρ) := by
  refine (pe_ifExp (ih.Te G t) (ih.E G a) (ih.E G b)).mono fun σ H Q ⟨w, st, hσ, E, h⟩ => ?_
  subst hσ
  refine ⟨w, st, rfl, E, h.bind fun x st1 v H1 e1 E1 r1 h1 => ?_⟩
  have e : v = x := r1
  subst e
  cases v with
  | true => exact ⟨w, st1, rfl, E1, h1⟩
  | false => exact ⟨w, st1, rfl, E1, h1⟩
theorem s_tuple (ih : Snd T n) (G : Good T W X C k) (es : List Expr) (j : Nat) (pos : Pos) : PE X (.Tuple es j pos) (tD (gX X T) W (rpD (gX X T)) fun ρ => bnd (evEs n C es ρ) fun ds => guardM (fits ds.length) (ret (.tuple ds))) := by
  refine (pe_tup (ih.Es G es)).mono fun σ H Q ⟨w, st, hσ, E, h⟩ => ?_
  subst hσ
  refine ⟨w, st, rfl, E, h.bind fun ds st1 vs H1 e1 E1 r1 h1 => ?_⟩
  obtain ⟨hb, h1⟩ := Post.grd h1
  refine ⟨by rw [RpAll.len r1]; exact fits_le hb, fun p hp => ?_⟩
  exact h1.at_ E1 (upd_kp hp) (rp := rpD _ w) (new_tuple E1 hp r1)
theorem f_list (ih : Snd T n) (G : Good T W X C k) (es : List Expr) (pos : Pos) : PE X (.List es pos) (tD (gX X T) W (rpF (gX X T)) fun ρ => bnd (evEs n C es ρ) fun ds => guardM (fits ds.length) (ret (.list ds))) := by
  refine (pe_lst (ih.Es G es)).mono fun σ H Q ⟨w, st, hσ, E, h⟩ => ?_
  subst hσ
  refine ⟨w, st, rfl, E, h.bind fun ds st1 vs H1 e1 E1 r1 h1 => ?_⟩
  obtain ⟨hb, h1⟩ := Post.grd h1
  refine ⟨by rw [RpAll.len r1]; exact fits_le hb, fun p hp => ?_⟩
  exact h1.at_ E1 (upd_kp hp) (rp := rpF _ w) (fresh_F E1 hp r1)
theorem next_next {α β γ : Type} (r : R α) (f : α → M β) (g : β → M γ) : (r.next f).next g = r.next fun x => bnd (f x) g := by
  cases r <;> rfl
def listOnly (d : D) : M D := match d with
  | .list ds => ret (.list ds)
  | _ => stuckM
theorem f_bin (ih : Snd T n) (G : Good T W X C k) (a b : Expr) (op : Operator) (pos : Pos) : PE X (.BinOp a op b pos) (tD (gX X T) W (rpF (gX X T)) fun ρ => bnd (evB n C a ρ) fun x => bnd (evB n C b ρ) fun y => bnd (binM op x y) listOnly) := by
  refine (bin_ev ih G a b op pos).mono fun σ H Q ⟨w, st, hσ, E, h⟩ => ⟨w, st, hσ, E, ?_⟩
  have e : ((fun ρ => bnd (evB n C a ρ) fun x => bnd (evB n C b ρ) fun y => bnd (binM op x y) listOnly) w.ρ st : R D) = ((bnd (evB n C a w.ρ) fun x => bnd (evB n C b w.ρ) fun y => binM op x y) st).next listOnly := by
    show R.next _ _ = R.next (R.next _ _) _
    rw [next_next]
    congr 1
    funext x st1
    show R.next _ _ = R.next (R.next _ _) _
    rw [next_next]
  rw [e] at h
  refine Post.bind (rq := rpF _ w) h fun d st1 v H1 e1 E1 r1 h1 => ?_
  cases d with
  | list ds => exact h1.now E1 (rp := rpF _ w) r1
  | _ => exact h1.elim
theorem f_dict0 (pos : Pos) : PE X (.Dict [] [] pos) (tD (gX X T) W (rpF (gX X T)) fun _ => ret (.dict [])) := by
  refine pe_dnewK.mono fun σ H Q ⟨w, st, hσ, E, h⟩ => ?_
  intro p hp
  exact h.at_ E (upd_kp hp) (rp := rpF _ w) ⟨p, .dK [], H, st, rfl, hp, rfl, E, E.new hp, .dK .nil⟩
/-! ### subscripts -/
theorem plain_ix {i : Expr} (h : ∀ lo hi p, i ≠ .Slice lo hi none p) : PlainIx i := by
  intro o j
  cases i with
  | Slice lo hi st p =>
    cases st with
    | none => exact absurd rfl (h lo hi p)
    | some _ => rfl
  | _ => rfl
theorem atI_rel {K : PySem.W.Frag} {H : Hp} {vs : List V} {ds : List D} {i : Int} {d : D} (h : RpAll K H vs ds) (e : atI ds i = some d) : ∃ v, atI vs i = some v ∧ Rp K H v d := by
  unfold atI at e ⊢
  rw [RpAll.len h]
  cases hj : ixN ds.length i with
  | none => rw [hj] at e; cases e
  | some j =>
    rw [hj] at e
    obtain ⟨v, h1, h2⟩ := RpAll.at_ h (show ds[j]? = some d from e)
    exact ⟨v, h1, h2⟩
theorem ix_ok {w : Wd} {H : Hp} {st : Stt} {x y : V} {dx dy : D} {Q : VK} (E : ERep (gX X T) w H st) (rx : rpB (gX X T) w H x dx) (ry : rpB (gX X T) w H y dy) (h : Post (gX X T) W w (rpD (gX X T) w) H (ixM dx dy st) Q) : rIx X.K x y H Q := by
  cases dy with
  | int i =>
    have ey := ry.int
    subst ey
    cases dx with
    | list xs =>
      obtain ⟨a, vs, rfl, ha, hs⟩ := rx.list
      obtain ⟨d, hd, h⟩ := Post.opt h
      obtain ⟨v, h1, h2⟩ := atI_rel hs hd
      exact .inl ⟨a, vs, i, v, rfl, rfl, .inl ha, h1, h.now E (rp := rpD _ w) h2⟩
    | tuple xs =>
      obtain ⟨a, vs, rfl, ha, hs, _⟩ := rx.tuple
      obtain ⟨d, hd, h⟩ := Post.opt h
      obtain ⟨v, h1, h2⟩ := atI_rel hs hd
      exact .inr (.inl ⟨a, vs, i, v, rfl, rfl, ha, h1, h.now E (rp := rpD _ w) h2⟩)
    | str z =>
      have ex := rx.str
      subst ex
      obtain ⟨hb, h⟩ := Post.grd h
      obtain ⟨d, hd, h⟩ := Post.opt h
      simp only [Option.map_eq_some_iff] at hd
      obtain ⟨c, hc, rfl⟩ := hd
      exact .inr (.inr ⟨z, i, c, rfl, rfl, fits_le hb, hc, h.now E (rp := rpD _ w) (Rp.str _)⟩)
    | _ => exact h.elim
  | _ => cases dx <;> exact h.elim
theorem slice_ok {w : Wd} {H : Hp} {st : Stt} {x : V} {dx : D} {lo hi : Option Int} {Q : VK} (E : ERep (gX X T) w H st) (rx : rpB (gX X T) w H x dx) (h : Post (gX X T) W w (rpD (gX X T) w) H (sliceM dx lo hi st) Q) : rSlL X.K x lo hi H Q ∨ rSlA X.K x lo hi H Q := by
  cases dx with
  | list xs =>
    obtain ⟨a, vs, rfl, ha, hs⟩ := rx.list
    exact .inl ⟨a, vs, rfl, .inl ha, fun p hp => h.at_ E (upd_kp hp) (rp := rpD _ w) (new_list E hp (cutV_cutD (gX X T) w H hs lo hi))⟩
  | tuple xs =>
    obtain ⟨a, vs, rfl, ha, hs, hr⟩ := rx.tuple
    refine .inr ⟨a, vs, rfl, ha, fun hw => h.now E (rp := rpD _ w) ?_, fun _ p hp => h.at_ E (upd_kp hp) (rp := rpD _ w) (new_tuple E hp (cutV_cutD (gX X T) w H hs lo hi))⟩
    have e : cutD xs lo hi = xs := by
      rw [RpAll.len hs] at hw
      unfold cutD
      rw [hw.1, hw.2]
      simp
    rw [e]
    exact hr
  | _ => exact h.elim
theorem s_slice (ih : Snd T n) (G : Good T W X C k) (a : Expr) (lo hi : Option Expr) (p pos : Pos) : PE X (.Subscript a (.Slice lo hi none p) pos) (tD (gX X T) W (rpD (gX X T)) fun ρ => bnd (evB n C a ρ) fun x => bnd (evO n C lo ρ) fun l => bnd (evO n C hi ρ) fun h => sliceM x l h) := by
  refine (pe_slice (sl_list.or sl_tupA) (ih.B G a) (ih.O G lo) (ih.O G hi)).mono fun σ H Q ⟨w, st, hσ, E, h⟩ => ?_
  subst hσ
  refine ⟨w, st, rfl, E, h.bind fun x st1 v H1 e1 E1 r1 h1 => ⟨w, st1, rfl, E1, h1.bind fun l st2 l' H2 e2 E2 r2 h2 => ⟨w, st2, rfl, E2, h2.bind fun u st3 u' H3 e3 E3 r3 h3 => ?_⟩⟩⟩
  have q2 : l' = l := r2
  have q3 : u' = u := r3
  subst q2 q3
  exact slice_ok E3 ((r1.evo E1 e2).evo E2 e3) h3
theorem _root_.L2.PE.orE {X : Cx} {e : Expr} {t t' : TE} (h : PE X e t) (h' : PE X e t') : PE X e (fun σ H Q => t σ H Q ∨ t' σ H Q) := ⟨fun pins s σ H Q I q => q.elim (h.run pins s σ H Q I) (h'.run pins s σ H Q I)⟩
/-- the state cell's name -/
theorem pe_stt (G : Good T W X C k) (a : Expr) : PE X a (fun σ H Q => ∃ (w : Wd) (st : Stt), w.σ = σ ∧ ERep (gX X T) w H st ∧ stCell C a w.ρ = true ∧ ∀ p, w.p = some p → Q (.ref p) H) := by
  by_cases ha : ∃ x pos, a = .Name x pos
  · obtain ⟨x, pos, rfl⟩ := ha
    by_cases hs : badName x = false ∧ visB C.sc x = true ∧ ∃ i, ixOf C.N x = some i
    · obtain ⟨hb, hv, i, hi⟩ := hs
      obtain ⟨b1, b2, b3⟩ := bad_no hb
      refine (pe_var (i := i) (by rw [G.N]; exact ixOf_get hi) (G.vis hv) b1 b2).mono fun σ H Q ⟨w, st, hσ, E, h1, h2⟩ => ?_
      subst hσ
      have z : slotOf C w.ρ x = some .stt := by
        have z : isStt (slotOf C w.ρ x) = true := h1
        unfold isStt at z
        split at z
        · assumption
        · cases z
      obtain ⟨_, _, j, hj, hr⟩ := slotOf_some z
      rw [hi] at hj
      cases hj
      obtain ⟨v, e1, p, rfl, e3⟩ := E.slot i .stt hr
      exact ⟨_, e1, h2 p e3⟩
    · refine PE.void fun σ H Q ⟨w, st, hσ, E, h1, h2⟩ => hs ?_
      have z : isStt (slotOf C w.ρ x) = true := h1
      cases q : slotOf C w.ρ x with
      | none => rw [q] at z; cases z
      | some sv =>
        obtain ⟨a, b, j, c, d⟩ := slotOf_some q
        exact ⟨a, b, j, c⟩
  · refine PE.void fun σ H Q ⟨w, st, hσ, E, h1, h2⟩ => ?_
    cases a <;> first | (exact ha ⟨_, _, rfl⟩) | (cases h1)
theorem s_ix (ih : Snd T n) (G : Good T W X C k) (a i : Expr) (pos : Pos) (hi : ∀ lo hi p, i ≠ .Slice lo hi none p) : PE X (.Subscript a i pos) (tD (gX X T) W (rpD (gX X T)) fun ρ => (match stCell C a ρ with
      | true => bnd (evE n C i ρ) fun y => fun st => ixM (.list st) y st
      | false => bnd (evB n C a ρ) fun x => bnd (evE n C i ρ) fun y => ixM x y)) := by
  refine (pe_ix ix_seq ((pe_stt (T := T) G a).orE (ih.B G a)) (ih.E G i) (plain_ix hi)).mono fun σ H Q ⟨w, st, hσ, E, h⟩ => ?_
  subst hσ
  cases hc : stCell C a w.ρ with
  | true =>
    have h : Post (gX X T) W w (rpD (gX X T) w) H ((bnd (evE n C i w.ρ) fun y => fun st => ixM (.list st) y st) st) Q := by
      have e : (match stCell C a w.ρ with
        | true => bnd (evE n C i w.ρ) fun y => fun st => ixM (.list st) y st
        | false => bnd (evB n C a w.ρ) fun x => bnd (evE n C i w.ρ) fun y => ixM x y) = (bnd (evE n C i w.ρ) fun y => fun st => ixM (.list st) y st) := by rw [hc]
      rw [← e]
      exact h
    refine .inl ⟨w, st, rfl, E, hc, fun p hp => ⟨w, st, rfl, E, Post.bind (rq := rpD _ w) h fun y st1 v H1 e1 E1 r1 h1 => ?_⟩⟩
    have s := E1.stt
    rw [hp] at s
    obtain ⟨q1, q2, vs, q3, q4⟩ := s
    cases y with
    | int j =>
      have ey := rpD.int r1
      subst ey
      obtain ⟨d, hd, h1⟩ := Post.opt h1
      obtain ⟨v, g1, g2⟩ := atI_rel q4 hd
      exact .inl ⟨p, vs, j, v, rfl, rfl, .inl (.inl q3), g1, h1.now E1 (rp := rpD _ w) g2⟩
    | _ => exact h1.elim
  | false =>
    have h : Post (gX X T) W w (rpD (gX X T) w) H ((bnd (evB n C a w.ρ) fun x => bnd (evE n C i w.ρ) fun y => ixM x y) st) Q := by
      have e : (match stCell C a w.ρ with
        | true => bnd (evE n C i w.ρ) fun y => fun st => ixM (.list st) y st
        | false => bnd (evB n C a w.ρ) fun x => bnd (evE n C i w.ρ) fun y => ixM x y) = (bnd (evB n C a w.ρ) fun x => bnd (evE n C i w.ρ) fun y => ixM x y) := by rw [hc]
      rw [← e]
      exact h
    exact .inr ⟨w, st, rfl, E, Post.bind (rq := rpD _ w) h fun x st1 v H1 e1 E1 r1 h1 => ⟨w, st1, rfl, E1, h1.bind fun y st2 u H2 e2 E2 r2 h2 => ix_ok E2 (r1.evo E1 e2) (.inl r2) h2⟩⟩
end
end DI
end
section
set_option linter.all false
set_option autoImplicit false
set_option maxRecDepth 100000
/-! D9: lists of arguments, tests, what is walked. -/
namespace DI
open PySem PySem.Spec L2
open PyProof.Rows hiding St
theorem _root_.L2.PA.monoA {X : Cx} {es : List Expr} {t t' : TA} (h : PA X es t) (k : ∀ σ H Q, t' σ H Q → t σ H Q) : PA X es t' := ⟨fun pos pins s σ H Q I q => h.run pos pins s σ H Q I (k σ H Q q)⟩
theorem _root_.L2.PW.monoW {X : Cx} {e : Expr} {t t' : TT} (h : PW X e t) (k : ∀ σ H Q, t' σ H Q → t σ H Q) : PW X e t' := ⟨fun wh pins s σ H Q I q => h.run wh pins s σ H Q I (k σ H Q q)⟩
theorem _root_.L2.PO.monoO {X : Cx} {e : Option Expr} {t t' : TO} (h : PO X e t) (k : ∀ σ H Q, t' σ H Q → t σ H Q) : PO X e t' := ⟨fun pins s σ H Q I q => h.run pins s σ H Q I (k σ H Q q)⟩
theorem _root_.L2.PI.monoI {X : Cx} {tg e : Expr} {t t' : TI} (h : PI X tg e t) (k : ∀ σ H Q, t' σ H Q → t σ H Q) : PI X tg e t' := ⟨fun pins s σ H Q I q => h.run pins s σ H Q I (k σ H Q q)⟩
theorem _root_.L2.PTs.monoT {X : Cx} {e : List Expr} {t t' : TT} (h : PTs X e t) (k : ∀ σ H Q, t' σ H Q → t σ H Q) : PTs X e t' := ⟨fun pins s σ H Q I q => h.run pins s σ H Q I (k σ H Q q)⟩
theorem PA.void {X : Cx} {e : List Expr} {t : TA} (h : ∀ σ H Q, ¬ t σ H Q) : PA X e t := ⟨fun _ _ _ σ H Q _ q => (h σ H Q q).elim⟩
theorem PW.void {X : Cx} {e : Expr} {t : TT} (h : ∀ σ H Q, ¬ t σ H Q) : PW X e t := ⟨fun _ _ _ σ H Q _ q => (h σ H Q q).elim⟩
theorem PO.void {X : Cx} {e : Option Expr} {t : TO} (h : ∀ σ H Q, ¬ t σ H Q) : PO X e t := ⟨fun _ _ σ H Q _ q => (h σ H Q q).elim⟩
theorem PI.void {X : Cx} {tg e : Expr} {t : TI} (h : ∀ σ H Q, ¬ t σ H Q) : PI X tg e t := ⟨fun _ _ σ H Q _ q => (h σ H Q q).elim⟩
theorem PTs.void {X : Cx} {e : List Expr} {t : TT} (h : ∀ σ H Q, ¬ t σ H Q) : PTs X e t := ⟨fun _ _ σ H Q _ q => (h σ H Q q).elim⟩
section
variable {T : List (Addr × Str)} {W : EW} {X : Cx} {C : Ctx} {k n : Nat}
theorem Post.optB {α β γ : Type} {g : Gd} {w : Wd} {H : Hp} {st : Stt} {rp : Hp → β → α → Prop} {Q : β → Hp → Prop} {o : Option γ} {f : γ → M α} (h : Post g W w rp H (bnd (optM o) f st) Q) : ∃ a, o = some a ∧ Post g W w rp H (f a st) Q := by
  cases o with
  | none => exact h.elim
  | some a => exact ⟨a, rfl, h⟩
theorem rpB_seq {g : Gd} {w : Wd} {H : Hp} {v : V} {d : D} {xs : List D} (r : rpB g w H v d) (hx : seqOf d = some xs) : ∃ a vs, v = .ref a ∧ (SqT g.K H a vs ∨ SqL g.K H a vs) ∧ RpAll g.K (hide w.Hid H) vs xs := by
  cases d with
  | list ds => cases hx; obtain ⟨a, vs, e, h1, h2⟩ := r.list; exact ⟨a, vs, e, .inr (.inl h1), h2⟩
  | tuple ds => cases hx; obtain ⟨a, vs, e, h1, h2, _⟩ := r.tuple; exact ⟨a, vs, e, .inl h1, h2⟩
  | _ => cases hx
theorem s_Es (ih : Snd T n) (G : Good T W X C k) (es : List Expr) : PA X es (tD (gX X T) W (rpDs (gX X T)) (evEs (n + 1) C es)) := by
  cases es with
  | nil => exact pa_nil.monoA fun σ H Q ⟨w, st, hσ, E, h⟩ => h.now E (rp := rpDs _ w) RpAll.nil
  | cons e es =>
    by_cases hs : ∃ a p, e = .Starred a p
    · obtain ⟨a, p, rfl⟩ := hs
      refine (StX.pa_star (ih.B G a) (ih.Es G es) rfl).monoA fun σ H Q ⟨w, st, hσ, E, h⟩ => ?_
      subst hσ
      refine ⟨w, st, rfl, E, Post.bind (rq := rpDs _ w) h fun d st1 v H1 e1 E1 r1 h1 => ?_⟩
      obtain ⟨xs, hx, h1⟩ := Post.optB h1
      obtain ⟨q, vs, rfl, hq, ra⟩ := rpB_seq r1 hx
      exact ⟨q, vs, rfl, hq, w, st1, rfl, E1, Post.bind (rq := rpDs _ w) h1 fun ds st2 us H2 e2 E2 r2 h2 => h2.now E2 (rp := rpDs _ w) (RpAll.app (rpDs.evo ra E1 e2) r2)⟩
    · have hs' : isStar e = false := by cases e <;> first | rfl | exact absurd ⟨_, _, rfl⟩ hs
      refine (pa_cons (ih.E G e) (ih.Es G es) (star_no hs')).monoA fun σ H Q ⟨w, st, hσ, E, h⟩ => ?_
      subst hσ
      have z : evEs (n + 1) C (e :: es) w.ρ = (bnd (evE n C e w.ρ) fun d => bnd (evEs n C es w.ρ) fun ds => ret (d :: ds)) := by cases e <;> first | rfl | exact absurd ⟨_, _, rfl⟩ hs
      rw [z] at h
      refine ⟨w, st, rfl, E, Post.bind (rq := rpDs _ w) h fun d st1 v H1 e1 E1 r1 h1 => ⟨w, st1, rfl, E1, Post.bind (rq := rpDs _ w) h1 fun ds st2 vs H2 e2 E2 r2 h2 => ?_⟩⟩
      exact h2.now E2 (rp := rpDs _ w) (RpAll.cons (rpD.evo r1 E1 e2) r2)
theorem BAll.evo {g : Gd} {w : Wd} {H H' : Hp} {st : Stt} : ∀ {ds : List D} {vs : List V}, BAll g w H vs ds → ERep g w H st → Evo w.p H H' → BAll g w H' vs ds
  | _, _, .nil, _, _ => .nil
  | _, _, .cons r t, E, e => .cons (r.evo E e) (BAll.evo t E e)
theorem Rp.ln {g : Gd} {w : Wd} {H H' : Hp} {st : Stt} {v : V} {d : D} (r : LRep g.K w.Hid w.p H v d) (E : ERep g w H st) (e : Evo w.p H H') : LRep g.K w.Hid w.p H' v d := by
  have s : SRep g.K w.Hid w.p H v (.ln d) := r
  exact s.evo E e
open Classical in
theorem rpB.ln {g : Gd} {w : Wd} {H : Hp} {v : V} {d : D} (r : rpB g w H v d) : LRep g.K w.Hid w.p H v d := by
  rcases r with r | ⟨a, o, rfl, h3, h4, h5⟩
  · exact .inl r
  · by_cases h : w.Hid a
    · exact .inr ⟨a, o, rfl, h, h3, h4, h5⟩
    · exact .inl (h5.rp (.inl (in_hide h4 h)))
theorem s_Ls (ih : Snd T n) (G : Good T W X C k) (fs : List Bool) (es : List Expr) (hs : es.any isStar = false) : PA X es (tD (gX X T) W (rpLs (gX X T) fs) (evLs (n + 1) C fs es)) := by
  cases es with
  | nil =>
    refine pa_nil.monoA fun σ H Q ⟨w, st, hσ, E, h⟩ => ?_
    cases fs with
    | nil => exact h.now E (rp := rpLs (gX X T) [] w) True.intro
    | cons f fs =>
      cases f with
      | true => exact h.now E (rp := rpLs (gX X T) (true :: fs) w) True.intro
      | false => exact h.now E (rp := rpLs (gX X T) (false :: fs) w) True.intro
  | cons e es =>
    have hs2 : isStar e = false ∧ es.any isStar = false := by simpa using hs
    have byE : ∀ fs', (∀ ρ, evLs (n + 1) C fs (e :: es) ρ = bnd (evE n C e ρ) fun d => bnd (evLs n C fs' es ρ) fun ds => ret (d :: ds)) → (∀ Hid p H v vs d ds, Rp X.K (hide Hid H) v d → LAll X.K Hid p H fs' vs ds → LAll X.K Hid p H fs (v :: vs) (d :: ds)) → PA X (e :: es) (tD (gX X T) W (rpLs (gX X T) fs) (evLs (n + 1) C fs (e :: es))) := fun fs' he hl => by
      refine (pa_cons (ih.E G e) (ih.Ls G fs' es hs2.2) (star_no hs2.1)).monoA fun σ H Q ⟨w, st, hσ, E, h⟩ => ?_
      subst hσ
      rw [he] at h
      refine ⟨w, st, rfl, E, Post.bind (rq := rpLs _ _ w) h fun d st1 v H1 e1 E1 r1 h1 => ⟨w, st1, rfl, E1, Post.bind (rq := rpLs _ _ w) h1 fun ds st2 vs H2 e2 E2 r2 h2 => ?_⟩⟩
      exact h2.now E2 (rp := rpLs _ _ w) (hl _ _ _ _ _ _ _ (rpD.evo r1 E1 e2) r2)
    cases fs with
    | nil => exact byE [] (fun _ => rfl) fun _ _ _ _ _ _ _ h1 h2 => ⟨h1, h2⟩
    | cons f fs =>
      cases f with
      | false => exact byE fs (fun _ => rfl) fun _ _ _ _ _ _ _ h1 h2 => ⟨h1, h2⟩
      | true =>
        refine (pa_cons (ih.B G e) (ih.Ls G fs es hs2.2) (star_no hs2.1)).monoA fun σ H Q ⟨w, st, hσ, E, h⟩ => ?_
        subst hσ
        have h : Post (gX X T) W w (rpLs (gX X T) (true :: fs) w) H (R.next (evB n C e w.ρ st) fun d => bnd (evLs n C fs es w.ρ) fun ds => ret (d :: ds)) Q := h
        refine ⟨w, st, rfl, E, Post.bind (rq := rpLs _ _ w) h fun d st1 v H1 e1 E1 r1 h1 => ⟨w, st1, rfl, E1, Post.bind (rq := rpLs _ _ w) h1 fun ds st2 vs H2 e2 E2 r2 h2 => ?_⟩⟩
        exact h2.now E2 (rp := rpLs _ _ w) ⟨(rpB.evo r1 E1 e2).ln, r2⟩
theorem s_Bs (ih : Snd T n) (G : Good T W X C k) (es : List Expr) : PA X es (tD (gX X T) W (rpBs (gX X T)) (evBs (n + 1) C es)) := by
  cases es with
  | nil => exact pa_nil.monoA fun σ H Q ⟨w, st, hσ, E, h⟩ => h.now E (rp := rpBs _ w) BAll.nil
  | cons e es =>
    by_cases hs : isStar e = true
    · refine PA.void (tD.stuck fun ρ st => ?_)
      show guardM (!isStar e) _ st = .stuck
      rw [hs]
      rfl
    refine (pa_cons (ih.B G e) (ih.Bs G es) (star_no (by simpa using hs))).monoA fun σ H Q h => ?_
    obtain ⟨w, st, hσ, E, h'⟩ := (tD.grd h).2
    subst hσ
    refine ⟨w, st, rfl, E, h'.bind fun d st1 v H1 e1 E1 r1 h1 => ⟨w, st1, rfl, E1, h1.bind fun ds st2 vs H2 e2 E2 r2 h2 => ?_⟩⟩
    exact h2.now E2 (rp := rpBs _ w) (BAll.cons (rpB.evo r1 E1 e2) r2)
theorem s_O (ih : Snd T n) (G : Good T W X C k) (o : Option Expr) : PO X o (tD (gX X T) W rpO (evO (n + 1) C o)) := by
  cases o with
  | none => exact po_none.monoO fun σ H Q ⟨w, st, hσ, E, h⟩ => h.now E (rp := rpO w) rfl
  | some e =>
    refine (po_some (ih.E G e)).monoO fun σ H Q ⟨w, st, hσ, E, h⟩ => ?_
    subst hσ
    refine ⟨w, st, rfl, E, Post.bind (rq := rpO w) h fun d st1 v H1 e1 E1 r1 h1 => ?_⟩
    cases d with
    | int i => exact ⟨i, rpD.int r1, h1.now E1 (rp := rpO w) rfl⟩
    | _ => exact h1.elim
theorem s_Bo (ih : Snd T n) (G : Good T W X C k) (op : BoolOp) (vs : List Expr) (pos : Pos) : PE X (.BoolOp op vs pos) (tD (gX X T) W (rpD (gX X T)) (evBool (n + 1) C op vs)) := by
  cases vs with
  | nil => exact PE.void (tD.stuck fun _ _ => by cases op <;> rfl)
  | cons e vs =>
    cases vs with
    | nil =>
      refine (pe_one (ih.E G e)).mono fun σ H Q h => ?_
      cases op <;> exact h
    | cons e2 r =>
      cases op with
      | And =>
        refine (pe_andT (ih.E G e) (ih.Bo G .And (e2 :: r) pos)).mono fun σ H Q ⟨w, st, hσ, E, h⟩ => ?_
        subst hσ
        refine ⟨w, st, rfl, E, Post.bind (rq := rpD _ w) h fun d st1 v H1 e1 E1 r1 h1 => ?_⟩
        obtain ⟨b, t1, h2⟩ := truth_on E1 (.inl r1) h1
        refine ⟨b, t1, ?_⟩
        cases b with
        | true => exact ⟨w, st1, rfl, E1, h2⟩
        | false => exact h2.now E1 (rp := rpD _ w) r1
      | Or =>
        refine (pe_orT (ih.E G e) (ih.Bo G .Or (e2 :: r) pos)).mono fun σ H Q ⟨w, st, hσ, E, h⟩ => ?_
        subst hσ
        refine ⟨w, st, rfl, E, Post.bind (rq := rpD _ w) h fun d st1 v H1 e1 E1 r1 h1 => ?_⟩
        obtain ⟨b, t1, h2⟩ := truth_on E1 (.inl r1) h1
        refine ⟨b, t1, ?_⟩
        cases b with
        | true => exact h2.now E1 (rp := rpD _ w) r1
        | false => exact ⟨w, st1, rfl, E1, h2⟩
theorem s_Ts (ih : Snd T n) (G : Good T W X C k) (op : BoolOp) (vs : List Expr) (pos : Pos) : PW X (.BoolOp op vs pos) (tD (gX X T) W rpT (evTs (n + 1) C op vs)) := by
  cases vs with
  | nil => exact PW.void (tD.stuck fun _ _ => by cases op <;> rfl)
  | cons e vs =>
    cases vs with
    | nil =>
      cases op with
      | And => exact pw_and1 (ih.Te G e)
      | Or => exact pw_or1 (ih.Te G e)
    | cons e2 r =>
      cases op with
      | And =>
        refine (pw_and (ih.Te G e) (ih.Ts G .And (e2 :: r) pos)).monoW fun σ H Q ⟨w, st, hσ, E, h⟩ => ?_
        subst hσ
        refine ⟨w, st, rfl, E, Post.bind (rq := rpT w) h fun d st1 v H1 e1 E1 r1 h1 => ?_⟩
        have e : v = d := r1
        subst e
        cases v with
        | true => exact ⟨w, st1, rfl, E1, h1⟩
        | false => exact h1.now E1 (rp := rpT w) rfl
      | Or =>
        refine (pw_or (ih.Te G e) (ih.Ts G .Or (e2 :: r) pos)).monoW fun σ H Q ⟨w, st, hσ, E, h⟩ => ?_
        subst hσ
        refine ⟨w, st, rfl, E, Post.bind (rq := rpT w) h fun d st1 v H1 e1 E1 r1 h1 => ?_⟩
        have e : v = d := r1
        subst e
        cases v with
        | true => exact h1.now E1 (rp := rpT w) rfl
        | false => exact ⟨w, st1, rfl, E1, h1⟩
theorem t_val (ih : Snd T n) (G : Good T W X C k) (e : Expr) (he : ∀ whole, isTrue e X.env whole = (do let v ← whole; standAt e.pos; holding [v] (truthy v))) : PT X e (tD (gX X T) W rpT fun ρ => bnd (evB n C e ρ) fun d => truthM d) := by
  refine (pt_truth (ih.B G e) he).mono fun σ H Q ⟨w, st, hσ, E, h⟩ => ?_
  subst hσ
  refine ⟨w, st, rfl, E, Post.bind (rq := rpT w) h fun d st1 v H1 e1 E1 r1 h1 => ?_⟩
  exact truth_ok E1 r1 h1
theorem s_T (ih : Snd T n) (G : Good T W X C k) (e : Expr) : PT X e (tD (gX X T) W rpT (evT (n + 1) C e)) := by
  cases e with
  | UnaryOp op a pos =>
    cases op with
    | Not =>
      refine (pt_not (ih.Te G a)).mono fun σ H Q ⟨w, st, hσ, E, h⟩ => ?_
      subst hσ
      refine ⟨w, st, rfl, E, Post.bind (rq := rpT w) h fun d st1 v H1 e1 E1 r1 h1 => ?_⟩
      have e : v = d := r1
      subst e
      exact h1.now E1 (rp := rpT w) rfl
    | _ => exact t_val ih G _ fun _ => rfl
  | BoolOp op vs pos => exact (ih.Ts G op vs pos).pt
  | IfExp t a b pos => exact PT.void (tD.stuck fun _ _ => rfl)
  | Compare a ops bs pos =>
    cases ops with
    | nil => exact PT.void (tD.stuck fun _ _ => rfl)
    | cons op ops =>
      cases ops with
      | nil =>
        cases bs with
        | nil => exact PT.void (tD.stuck fun _ _ => rfl)
        | cons b bs =>
          cases bs with
          | nil => exact s_cmp1T ih G a b op pos
          | cons _ _ => exact PT.void (tD.stuck fun _ _ => rfl)
      | cons op' ops =>
        cases ops with
        | nil =>
          cases bs with
          | nil => exact PT.void (tD.stuck fun _ _ => rfl)
          | cons b bs =>
            cases bs with
            | nil => exact PT.void (tD.stuck fun _ _ => rfl)
            | cons c bs =>
              cases bs with
              | nil => exact s_cmp2T ih G a b c op op' pos
              | cons _ _ => exact PT.void (tD.stuck fun _ _ => rfl)
        | cons _ _ => exact PT.void (tD.stuck fun _ _ => by cases bs with
            | nil => rfl
            | cons b bs => cases bs <;> rfl)
  | _ => exact t_val ih G _ fun _ => rfl
theorem s_If (ih : Snd T n) (G : Good T W X C k) (es : List Expr) : PTs X es (tD (gX X T) W rpT (evIfs (n + 1) C es)) := by
  cases es with
  | nil => exact pts_nil.monoT fun σ H Q ⟨w, st, hσ, E, h⟩ => h.now E (rp := rpT w) rfl
  | cons c r =>
    cases r with
    | nil => exact pts_one (ih.Te G c)
    | cons _ _ => exact PTs.void (tD.stuck fun _ _ => rfl)
theorem s_B (ih : Snd T n) (G : Good T W X C k) (e : Expr) : PE X e (tD (gX X T) W (rpB (gX X T)) (evB (n + 1) C e)) := by
  cases e with
  | Name x pos => exact snd_nameB G
  | _ => exact (ih.E G _).mono fun σ H Q h => h.weak fun _ _ _ _ r => .inl r
theorem s_W (ih : Snd T n) (G : Good T W X C k) (br : Bool) (e : Expr) : PE X e (tD (gX X T) W (rpW (gX X T) br) (evW (n + 1) C br e)) := by
  cases br with
  | true => exact (ih.B G e).mono fun σ H Q h => h.weak fun w _ _ _ r => by simpa [rpW] using r
  | false => exact (ih.E G e).mono fun σ H Q h => h.weak fun w _ _ _ r => by simpa [rpW] using r
/-! ### what is walked -/
theorem pi_seq {tg e : Expr} {tl : TE} (hl : PE X e tl) : PI X tg e (fun σ H R => tl σ H fun x H1 => ∃ a, x = .ref a ∧ ((∃ xs, SqL X.K H1 a xs ∧ R (Itl X.K a) H1) ∨ ∃ xs, SqT X.K H1 a xs ∧ R (Itt X.K a) H1)) := by
  constructor
  intro pins s σ H R I h
  refine thn (hl.run pins s σ H _ I h) ?_
  rintro v s1 ⟨x, H1, I1, r1, a, rfl, q⟩
  cases r1
  have fp : ∀ b ∈ [s1.heap.objs.size], FpOk X pins H1 b := fun b hb => by
    obtain rfl : b = s1.heap.objs.size := by simpa using hb
    exact I1.fpOk (Nat.le_refl _) I1.fresh
  rcases q with ⟨xs, hq, q⟩ | ⟨xs, hq, q⟩
  · obtain ⟨its, rv, p, _⟩ := I1.list hq
    exact wpAny_pyIter_list p.isList ⟨_, _, _, _, H1, rfl, I1.kept (t' := s1.toks) (fun b o z => Heap.get?_push_of_some _ z), turn_list a _, ⟨_, Heap.get?_push_size _ rfl, rfl, rfl⟩, fp, q⟩
  · obtain ⟨its, rv, p, _⟩ := I1.tuple hq
    exact wpAny_pyIter_tuple (show s1.heap.IsTuple a its.toArray from p) ⟨_, _, _, _, H1, rfl, I1.kept (t' := s1.toks) (fun b o z => Heap.get?_push_of_some _ z), turn_tuple a _, ⟨_, Heap.get?_push_size _ rfl, rfl, rfl⟩, fp, q⟩
/-- the items of a list that stays -/
theorem it_list {g : Gd} {br : Bool} {w : Wd} {H1 : Hp} {a : Addr} {vs : List V} {ds : List D} (h : Rd (hide (hd br w) H1) a (.lst vs)) (hs : RpAll g.K (hide w.Hid H1) vs ds) : rpI g (hd br) w H1 (Itl g.K a) ds := by
  intro H k i
  have hq : SqL g.K H a vs := .inl (k.rd h)
  have hl := RpAll.len hs
  refine ⟨fun hi => ?_, fun hi => ⟨vs, hq, by omega⟩⟩
  have e : ds[i]? = some ds[i] := List.getElem?_eq_getElem hi
  obtain ⟨v, h1, h2⟩ := RpAll.at_ hs e
  refine ⟨⟨vs, v, hq, h1⟩, fun x H' ⟨e1, e2⟩ => ?_⟩
  subst e1
  have e3 := e2 vs hq
  rw [h1] at e3
  cases e3
  exact ⟨fun _ _ z => z, _, e, fun Hid' _ k' => k'.dp _ _ h2⟩
theorem it_tuple {g : Gd} {br : Bool} {w : Wd} {H1 : Hp} {a : Addr} {vs : List V} {ds : List D} (h : SqT g.K (hide (hd br w) H1) a vs) (hs : RpAll g.K (hide w.Hid H1) vs ds) : rpI g (hd br) w H1 (Itt g.K a) ds := by
  intro H k i
  have hq : SqT g.K H a vs := k.sqT h
  have hl := RpAll.len hs
  refine ⟨fun hi => ?_, fun hi => ⟨vs, hq, by omega⟩⟩
  have e : ds[i]? = some ds[i] := List.getElem?_eq_getElem hi
  obtain ⟨v, h1, h2⟩ := RpAll.at_ hs e
  refine ⟨⟨vs, v, hq, h1⟩, fun x H' ⟨e1, e2⟩ => ?_⟩
  subst e1
  have e3 := e2 vs hq
  rw [h1] at e3
  cases e3
  exact ⟨fun _ _ z => z, _, e, fun Hid' _ k' => k'.dp _ _ h2⟩
/-- a list, a tuple as it is walked -/
theorem hd_kp {g : Gd} {w : Wd} {H : Hp} {st : Stt} (E : ERep g w H st) (br : Bool) : Kp (hide w.Hid H) (hide (hd br w) H) := fun b o h n => by
  obtain ⟨h1, h2⟩ := hide_in h
  refine in_hide h1 fun z => h2 ?_
  unfold hd at z
  split at z
  · exact E.stt.hid b z
  · exact z
theorem rpW_seq {g : Gd} {br : Bool} {w : Wd} {H : Hp} {st : Stt} {v : V} {d : D} {xs : List D} (E : ERep g w H st) (r : rpW g br w H v d) (hx : seqOf d = some xs) : ∃ a vs, v = .ref a ∧ RpAll g.K (hide w.Hid H) vs xs ∧ ((d = .list xs ∧ Rd (hide (hd br w) H) a (.lst vs)) ∨ (d = .tuple xs ∧ SqT g.K (hide (hd br w) H) a vs)) := by
  have full : rpD g w H v d → ∃ a vs, v = .ref a ∧ RpAll g.K (hide w.Hid H) vs xs ∧ ((d = .list xs ∧ Rd (hide (hd br w) H) a (.lst vs)) ∨ (d = .tuple xs ∧ SqT g.K (hide (hd br w) H) a vs)) := fun r => by
    cases r with
    | lst hs ha => cases hx; exact ⟨_, _, rfl, ha, .inl ⟨rfl, (hd_kp E br).rd hs⟩⟩
    | tup hs ha => cases hx; exact ⟨_, _, rfl, ha, .inr ⟨rfl, (hd_kp E br).sqT hs⟩⟩
    | _ => cases hx
  unfold rpW at r
  split at r
  · rename_i hb
    rcases r with r | ⟨a, o, h1, h3, h4, h5⟩
    · exact full r
    · subst h1
      cases h5 with
      | dK _ => cases hx
      | lst h5 =>
        cases hx
        refine ⟨a, _, rfl, h5, .inl ⟨rfl, .inl (in_hide h4 fun z => ?_)⟩⟩
        unfold hd at z
        rw [if_pos hb] at z
        exact h3 z
  · exact full r
theorem i_seq (ih : Snd T n) (G : Good T W X C k) (br : Bool) (tg e : Expr) : PI X tg e (tD (gX X T) W (rpI (gX X T) (hd br)) fun ρ => bnd (evW n C br e ρ) fun d => optM (seqOf d)) := by
  refine (pi_seq (ih.Wk G br e)).monoI fun σ H Q ⟨w, st, hσ, E, h⟩ => ?_
  subst hσ
  refine ⟨w, st, rfl, E, Post.bind (rq := rpI _ _ w) h fun d st1 v H1 e1 E1 r1 h1 => ?_⟩
  obtain ⟨xs, hx, h1⟩ := Post.opt h1
  obtain ⟨a, vs, rfl, hs, z | z⟩ := rpW_seq E1 r1 hx
  · exact ⟨a, rfl, .inl ⟨vs, .inl (kp_hide.rd z.2), h1.now E1 (rp := rpI _ _ w) (it_list z.2 hs)⟩⟩
  · exact ⟨a, rfl, .inr ⟨vs, kp_hide.sqT z.2, h1.now E1 (rp := rpI _ _ w) (it_tuple z.2 hs)⟩⟩
theorem it_range {g : Gd} {br : Bool} {w : Wd} {H1 : Hp} (i j : Int) : rpI g (hd br) w H1 (Itr i (j - i).toNat) (rangeD i j) := by
  intro H k m
  have hl : (rangeD i j).length = (j - i).toNat := by simp [rangeD]
  refine ⟨fun hi => ⟨by rw [hl] at hi; exact hi, fun x H' ⟨e1, e2⟩ => ?_⟩, fun hi => by rw [hl] at hi; exact Nat.le_of_eq hi⟩
  subst e1 e2
  refine ⟨fun _ _ z => z, .int (i + (m : Nat)), ?_, fun Hid' _ _ => Rp.int _⟩
  rw [hl] at hi
  simp [rangeD, hi]
theorem bi_none (G : Good T W X C k) {f : Str} (h : bi C f = true) (hb : f ∈ biNames) : Gl X f ∧ X.mg f = none := by
  unfold bi at h
  simp only [Bool.and_eq_true, Option.isNone_iff_eq_none] at h
  exact ⟨(G.gl h.1.1).1, G.bi f h.1.2 h.2 hb⟩
theorem i_range1 (ih : Snd T n) (G : Good T W X C k) (br : Bool) (tg a : Expr) (p pos : Pos) (hb : bi C "range" = true) : PI X tg (.Call (.Name "range" p) [a] [] pos) (tD (gX X T) W (rpI (gX X T) (hd br)) fun ρ => guardM (!isStar a) (bnd (evE n C a ρ) fun x => bnd (intM x) fun j => guardM (rgOk 0 j) (ret (rangeD 0 j)))) := by
  by_cases hs : isStar a = true
  · refine PI.void (tD.stuck fun ρ st => ?_)
    rw [hs]
    rfl
  have hs' : isStar a = false := by simpa using hs
  obtain ⟨g1, g2⟩ := bi_none G hb (by decide)
  refine (pi_range1 g1 g2 (pa_cons (ih.E G a) pa_nil (star_no hs')) (star_no hs')).monoI fun σ H Q h => ?_
  obtain ⟨w, st, hσ, E, h'⟩ := (tD.grd h).2
  subst hσ
  refine ⟨w, st, rfl, E, Post.bind (rq := rpI _ _ w) h' fun d st1 v H1 e1 E1 r1 h1 => ?_⟩
  cases d with
  | int j =>
    obtain ⟨hg, h1⟩ := Post.grd h1
    have hg' := of_decide_eq_true hg
    have z := h1.now E1 (rp := rpI _ _ w) (it_range (br := br) 0 j)
    rw [Int.sub_zero] at z
    exact ⟨j, by rw [rpD.int r1], hg'.2.2.1, hg'.2.2.2, z⟩
  | _ => exact h1.elim
theorem i_range2 (ih : Snd T n) (G : Good T W X C k) (br : Bool) (tg a b : Expr) (p pos : Pos) (hb : bi C "range" = true) : PI X tg (.Call (.Name "range" p) [a, b] [] pos) (tD (gX X T) W (rpI (gX X T) (hd br)) fun ρ => guardM (!isStar a && !isStar b) (bnd (evE n C a ρ) fun x => bnd (evE n C b ρ) fun y => bnd (intM x) fun i => bnd (intM y) fun j => guardM (rgOk i j) (ret (rangeD i j)))) := by
  by_cases hs : (!isStar a && !isStar b) = true
  · obtain ⟨s1, s2⟩ := Bool.and_eq_true_iff.mp hs
    have s1' : isStar a = false := by simpa using s1
    have s2' : isStar b = false := by simpa using s2
    obtain ⟨g1, g2⟩ := bi_none G hb (by decide)
    refine (pi_range2 g1 g2 (pa_cons (ih.E G a) (pa_cons (ih.E G b) pa_nil (star_no s2')) (star_no s1')) (by rw [star_no s1', star_no s2']; rfl) (by rw [star_no s2']; rfl)).monoI fun σ H Q h => ?_
    obtain ⟨w, st, hσ, E, h'⟩ := (tD.grd h).2
    subst hσ
    refine ⟨w, st, rfl, E, Post.bind (rq := rpI _ _ w) h' fun d st1 v H1 e1 E1 r1 h1 => ⟨w, st1, rfl, E1, Post.bind (rq := rpI _ _ w) h1 fun d' st2 u H2 e2 E2 r2 h2 => ?_⟩⟩
    cases d with
    | int i =>
      cases d' with
      | int j =>
        obtain ⟨hg, h2⟩ := Post.grd h2
        have hg' := of_decide_eq_true hg
        exact ⟨i, j, by rw [rpD.int r1, rpD.int r2], hg', h2.now E2 (rp := rpI _ _ w) (it_range (br := br) i j)⟩
      | _ => exact h2.elim
    | _ => exact h2.elim
  · refine PI.void (tD.stuck fun ρ st => ?_)
    unfold guardM
    rw [if_neg hs]
end
end DI
end
section
set_option linter.all false
set_option autoImplicit false
set_option maxRecDepth 100000
set_option maxHeartbeats 2000000
/-! D10e: enumerate of a list or a tuple. -/
namespace PySem
open Sem (wp)
open AutoSeq1 (wpAny_loadPart')
theorem enumT_new (l : Addr) (items : Array Value) (n : Nat) (od : Option Addr) (osl : Array (Option Value)) :
    Meets (Builtin.«enumerate.__new__» ⟨[Value.type "enumerate", Value.ref l], []⟩) (fun _ R s => s.heap.get? l = some { cls := .type "tuple", dict := od, data := .seq items n, slots := osl } ∧
      R (.ok (.ret (.ref (s.heap.push { cls := .type "tuple_iterator", data := .fields #[.ref l, .int 0 0] }).objs.size)))
        { s with heap := (s.heap.push { cls := .type "tuple_iterator", data := .fields #[.ref l, .int 0 0] }).push { cls := .type "enumerate", data := .fields #[.none, .bool false, .ref s.heap.objs.size, rawInt 0, .none, .none] } }) :=
  .of_wp fun prog w A R s q => by
    obtain ⟨hh, gg, dd, tt, oo⟩ := s
    obtain ⟨got, q⟩ := q
    have zsub := sub_enumerate
    have isT : Heap.IsTuple (Shared.heap ⟨hh, gg, dd, tt, oo⟩) l items := ⟨_, got, rfl, n, rfl⟩
    wp_walk using wpAny_loadPart' got
    refine wpAny_stack_any fun stk => wpAny_pure ?_
    split
    · rename_i c _ _ _ _ _
      cases (c == Value.type "enumerate") <;> (wp_walk using wpAny_loadPart' got, wpAny_pyIter_tuple isT; exact ⟨_, rfl, q⟩)
    · wp_walk using wpAny_loadPart' got, wpAny_pyIter_tuple isT
      exact ⟨_, rfl, q⟩
end PySem
namespace DI
open PySem PySem.Spec L2
open PyProof.Rows hiding St
theorem enumT_call {prog : Program} {w : World} {A : Around} {E : Value → Shared → Prop} {s : Shared} {l : Addr} {items : Array Value} {Q : Value → Shared → Prop} (isT : s.heap.IsTuple l items)
    (q : ∀ hN, IsEnum hN (s.heap.objs.size + 1) s.heap.objs.size 0 .none → hN.IsTupleIter s.heap.objs.size l 0 → (∀ b o, s.heap.get? b = some o → hN.get? b = some o) → Q (.ref (s.heap.objs.size + 1)) { s with heap := hN }) :
    wpAny (model prog w) A (call (.type "enumerate") [.ref l]) Q E s := by
  obtain ⟨⟨c, od, dt, osl⟩, got, hc, n, hd⟩ := isT
  simp only at hc hd
  subst hc hd
  refine callType_new F.called_enumerate (by decide) (F.typeCall_enumerate_1 _) (F.newCall_enumerate_1 _) (fun ob => F.args_object_init_2 ob _) F.entry_enumerate_new (enumT_new l items n od osl) ⟨got, ?_⟩
  have zsz : (s.heap.push { cls := .type "tuple_iterator", data := .fields #[.ref l, .int 0 0] }).objs.size = s.heap.objs.size + 1 := Heap.size_push ..
  have he : IsEnum ((s.heap.push { cls := .type "tuple_iterator", data := .fields #[.ref l, .int 0 0] }).push { cls := .type "enumerate", data := .fields #[.none, .bool false, .ref s.heap.objs.size, rawInt 0, .none, .none] }) (s.heap.objs.size + 1) s.heap.objs.size 0 .none := by
    have z := Heap.get?_push_size (s.heap.push { cls := .type "tuple_iterator", data := .fields #[.ref l, .int 0 0] }) (o := { cls := .type "enumerate", data := .fields #[.none, .bool false, .ref s.heap.objs.size, rawInt 0, .none, .none] }) rfl
    rw [zsz] at z
    exact z
  show _ ∧ _
  rw [zsz]
  exact ⟨⟨_, he, rfl⟩, q _ he ⟨_, Heap.get?_push_of_some _ (Heap.get?_push_size _ rfl), rfl, rfl⟩ fun b o x => Heap.get?_push_of_some _ (Heap.get?_push_of_some _ x)⟩
theorem enum_end {prog : Program} {w : World} {A : Around} {E : Value → Shared → Prop} {s : Shared} {e it t : Addr} {i : Nat} {items : Array Value} {old : Value} {Q : Option Value → Shared → Prop} (hd : A.handled = none)
    (he : IsEnum s.heap e it i old) (hit : s.heap.IsTupleIter it t i) (isT : s.heap.IsTuple t items) (no : items[i]? = none) (q : ∀ hN, Heap.ExtBut it s.heap hN → Q none { s with heap := hN }) : wpAny (model prog w) A (pyNext (.ref e)) Q E s := by
  have ty : s.TypeIs (.ref e) "enumerate" := ⟨_, he, rfl⟩
  unfold pyNext
  refine wpAny_bind (wpAny_attempt (wpAny_callSpecial?_slot (name := Str.ofString "__next__") ty F.slot_enumerate_next (wpAny_call_entry F.slot_enumerate_next ty F.entry_enumerate_next ?_ (F.args_enumerate_next_1 _))))
  show wpAny _ _ (field (.ref e) 2 >>= _) _ _ _
  refine wpAny_bind (wpAny_field he rfl (x := .ref it) rfl ?_)
  refine wpAny_bind (wpAny_nextOf_tuple_end hd hit isT no fun hN x ext ⟨o, ho, hc⟩ => ?_)
  refine wpAny_bind (wpAny_isInstance (T := "StopIteration") (b := true) ⟨o, ho, hc⟩ isSubtype_stop ?_)
  exact wpAny_pure (q _ ext)
/-- the tuple at a, each item in a new pair -/
def IteT (K : PySem.W.Frag) (a : Addr) : It :=
  ⟨fun i H => ∃ (xs : List V) (x : V), SqT K H a xs ∧ xs[i]? = some x, fun i H v H' => ∃ t x, v = .ref t ∧ H t = none ∧ H' = upd H t (.tup [.int (i : Nat), x]) ∧ ∀ xs, SqT K H a xs → xs[i]? = some x, fun i H => ∃ xs : List V, SqT K H a xs ∧ xs.length ≤ i⟩
theorem turn_enumT {P : Program} {w : World} {K : PySem.W.Frag} {elts : List Expr} {kk : Nat} {tpos : Pos} (a e it : Addr) (hai : a ≠ it) :
    Turn P w K (.Tuple elts kk tpos) (IteT K a) [e, it] e (fun i h => (∃ old, IsEnum h e it ((i : Nat) : Int) old) ∧ h.IsTupleIter it a i ∧ e ≠ it) where
  mem := List.mem_cons_self
  obj := fun i h st b hb => by
    obtain ⟨⟨old, he⟩, ⟨o, ho, hc, hd⟩, _⟩ := st
    rcases List.mem_cons.mp hb with z | z
    · rw [z]; exact ⟨_, he, fun v q => nomatch q⟩
    · rw [List.mem_singleton.mp z]; exact ⟨o, ho, fun v q => by rw [hd] at q; cases q⟩
  keep := fun i h h' st k => let ⟨⟨old, he⟩, hi, hne⟩ := st; ⟨⟨old, k e List.mem_cons_self _ he⟩, hi.at fun o q => k it (List.mem_cons_of_mem _ List.mem_cons_self) o q, hne⟩
  item := by
    intro X hP hw hK hc i pins s σ H E I hf st hg
    subst hP hw hK
    obtain ⟨⟨old, he⟩, hit, hne⟩ := st
    obtain ⟨xs, x, hq, hx⟩ := hg
    obtain ⟨its, rv, p, hz⟩ := I.tuple hq
    obtain ⟨u, hu, ru⟩ := rv.get hx
    have hu' : its.toArray[i]? = some u := by simpa using hu
    have hel : e < s.heap.objs.size := Heap.lt_size he
    have hil : it < s.heap.objs.size := by obtain ⟨_, q, _⟩ := hit; exact Heap.lt_size q
    by_cases hea : e = a
    · exfalso
      obtain ⟨o, ho, hc2, n, hd2⟩ := (show s.heap.IsTuple a its.toArray from p)
      subst hea
      rw [he] at ho
      cases ho
      exact absurd hc2 (by simp)
    refine wpAny_pyNext_enum_itemD (Draws.tuple (A := X.A.in1) (by simp [I.ok.hd hc]) it a hai its.toArray) he ⟨hit, (show s.heap.IsTuple a its.toArray from p)⟩ (by obtain ⟨z, _⟩ := Array.getElem?_eq_some_iff.mp hu'; exact z) hne (by simp [hne, hea]) fun y h' tk hy ho hst hT hsz hk => ?_
    rw [hu'] at hy
    cases hy
    refine ⟨_, rfl, wpAny_letOwnedTupleGo_enum (s := { s with heap := h', toks := tk + 1 }) ho fun h2 he' sb => ?_⟩
    have hT2 : h2.get? s.heap.objs.size = some { cls := .type "tuple", data := .seq #[.int i tk, u] } := (sb.2 _ (Nat.ne_of_gt hel)).trans hT
    have new : ObjOk X.prog X.w (upd H s.heap.objs.size (.tup [.int (i : Nat), x])) h2 s.heap.objs.size (.tup [.int (i : Nat), x]) :=
      ⟨by show 2 ≤ sizeLine; decide, [.int i tk, u], .cons ⟨_, rfl⟩ (.cons ru .nil), ⟨_, hT2, rfl, _, rfl⟩⟩
    have I1 : Inv X pins σ (upd H s.heap.objs.size (.tup [.int (i : Nat), x])) { s with heap := h2, toks := tk + 1 } :=
      I.turnedNew (ch := [e, it]) (fun b ob hb q => (sb.2 b (fun z => hb (by simp [z]))).trans (hk b ob (fun z => hb (by simp [z])) (fun z => hb (by simp [z])) q)) hf (Nat.le_refl _) new
    refine ⟨.ref s.heap.objs.size, _, I1, rfl, ⟨_, x, rfl, I.hok.fresh (Nat.le_refl _), rfl, fun ys hy => by rw [I.tuple_inj hy hq]; exact hx⟩, ⟨⟨u, ?_⟩, hst.1.at fun o q => (sb.2 it (Ne.symm hne)).trans q, hne⟩, fun b hb => ?_⟩
    · have e1 : ((i + 1 : Nat) : Int) = (i : Int) + 1 := by omega
      rw [e1]
      exact he'
    · have hb' : b < s.heap.objs.size := by
        rcases List.mem_cons.mp hb with z | z
        · rw [z]; exact hel
        · rw [List.mem_singleton.mp z]; exact hil
      rw [upd_ne (Nat.ne_of_lt hb')]
      exact (hf b hb).1
  done := by
    intro X hP hw hK hc i pins s σ H E I hf st hg
    subst hP hw hK
    obtain ⟨⟨old, he⟩, hit, hne⟩ := st
    obtain ⟨xs, hq, hx⟩ := hg
    obtain ⟨its, rv, p, hz⟩ := I.tuple hq
    obtain ⟨f0, f1, f2, f3, f4, f5⟩ := hf it (List.mem_cons_of_mem _ List.mem_cons_self)
    have hl := rv.length
    have hx' : its.toArray[i]? = none := by simp; omega
    exact DI.enum_end (I.ok.hd hc) he hit (show s.heap.IsTuple a its.toArray from p) hx' fun h' eb => ⟨rfl, I.turned (t' := s.toks) (fun b o hb q => eb b o hb q) f0 f1 f3 f4 f5⟩
  self := fun A i s Q E st h => let ⟨⟨_, he⟩, _⟩ := st; wpAny_pyIter_enum he h
def iEnumA (K : PySem.W.Frag) (ta : TA) : TI := fun σ H R => ta σ H fun vs H1 => ∃ a, vs = [.ref a] ∧ ((∃ xs, SqL K H1 a xs ∧ R (Ite K a) H1) ∨ ∃ xs, SqT K H1 a xs ∧ R (IteT K a) H1)
theorem pi_enumA {X : Cx} {e : Expr} {ta : TA} {p pos tpos : Pos} {elts : List Expr} {kk : Nat} (hg : Gl X "enumerate") (hm : X.mg "enumerate" = none) (ha : PA X [e] ta) (hs : starEach [e] X.env = [(false, eval e X.env)]) :
    PI X (.Tuple elts kk tpos) (.Call (.Name "enumerate" p) [e] [] pos) (iEnumA X.K ta) := by
  refine ⟨fun pins s σ H R I h => ?_⟩
  refine Call_ (ld_blt I hg hm boot_enumerate (PyProof.Rows.callWith_type1 (thn (ha.run pos pins s σ H _ I h) fun us s1 ⟨vs, H1, I1, r1, a, e1, q1⟩ => ?_) hs rfl))
  subst e1
  rw [Vals.ref1 r1]
  have fp : ∀ b ∈ [s1.heap.objs.size + 1, s1.heap.objs.size], FpOk X pins H1 b := fun b hb => by
    have hle : s1.heap.objs.size ≤ b := by
      rcases List.mem_cons.mp hb with z | z
      · rw [z]; exact Nat.le_add_right _ _
      · rw [List.mem_singleton.mp z]; exact Nat.le_refl _
    exact I1.fpOk hle (I1.hok.fresh hle)
  rcases q1 with ⟨xs, hq, q⟩ | ⟨xs, hq, q⟩
  · obtain ⟨its, rv, pl, hz⟩ := I1.list hq
    refine call_enumerate_list pl.isList fun hN he hit _ hk => wpAny_pyIter_enum he ?_
    exact ⟨s1.heap.objs.size + 1, [s1.heap.objs.size + 1, s1.heap.objs.size], _, _, H1, rfl, I1.kept (t' := s1.toks) hk, turn_enum a (s1.heap.objs.size + 1) s1.heap.objs.size, ⟨⟨.none, he⟩, hit, Nat.succ_ne_self _⟩, fp, q⟩
  · obtain ⟨its, rv, pt, hz⟩ := I1.tuple hq
    have isT : s1.heap.IsTuple a its.toArray := pt
    have lt : a < s1.heap.objs.size := by obtain ⟨_, q, _⟩ := isT; exact Heap.lt_size q
    refine enumT_call isT fun hN he hit hk => wpAny_pyIter_enum he ?_
    exact ⟨s1.heap.objs.size + 1, [s1.heap.objs.size + 1, s1.heap.objs.size], _, _, H1, rfl, I1.kept (t' := s1.toks) hk, turn_enumT a (s1.heap.objs.size + 1) s1.heap.objs.size (Nat.ne_of_lt lt), ⟨⟨.none, he⟩, hit, Nat.succ_ne_self _⟩, fp, q⟩
end DI
end
section
set_option linter.all false
set_option autoImplicit false
set_option maxRecDepth 100000
set_option maxHeartbeats 2000000
/-! D10z: zip of a tuple and a list, either way round. -/
namespace DI
open PySem PySem.Spec L2
open PyProof.Rows hiding St
/-- a tuple (true) or a list -/
def SqM (b : Bool) (K : PySem.W.Frag) (H : Hp) (a : Addr) (xs : List V) : Prop := match b with
  | true => SqT K H a xs
  | false => SqL K H a xs
def isS (b : Bool) (h : Heap) (l : Addr) (its : Array Value) : Prop := match b with
  | true => h.IsTuple l its
  | false => h.IsList l its
def isI (b : Bool) (h : Heap) (it l : Addr) (i : Nat) : Prop := match b with
  | true => h.IsTupleIter it l i
  | false => h.IsListIter it l i
def itO (b : Bool) (l : Addr) : Obj := match b with
  | true => { cls := .type "tuple_iterator", data := .fields #[.ref l, .int 0 0] }
  | false => { cls := .type "list_iterator", data := .fields #[.ref l, .int 0 0] }
theorem begins_m (b : Bool) (l : Addr) (its : Array Value) : Begins (.ref l) (itO b l) fun h => isS b h l its := by
  cases b with
  | true => exact begins_tuple l its
  | false => exact begins_list l its
theorem draws_m {prog : Program} {w : World} {A : Around} (b : Bool) (hh : A.handled = none) (it l : Addr) (ne : l ≠ it) (its : Array Value) : Draws prog w A it [it, l] its.size (fun i v => its[i]? = some v) (fun i h => isI b h it l i ∧ isS b h l its) := by
  cases b with
  | true => exact Draws.tuple hh it l ne its
  | false => exact Draws.list hh it l ne its
theorem isI.at_ {b : Bool} {h h' : Heap} {it l : Addr} {i : Nat} (x : isI b h it l i) (k : ∀ o, h.get? it = some o → h'.get? it = some o) : isI b h' it l i := by
  cases b with
  | true => exact Heap.IsTupleIter.at x k
  | false => exact Heap.IsListIter.at x k
theorem isI.obj {b : Bool} {h : Heap} {it l : Addr} {i : Nat} (x : isI b h it l i) : ∃ o, h.get? it = some o ∧ ∀ v, o.data ≠ .cell v := by
  cases b <;> (obtain ⟨o, e, _, d⟩ := x; exact ⟨o, e, fun v q => by rw [d] at q; cases q⟩)
theorem isI.new {b : Bool} {h : Heap} {it l : Addr} (x : h.get? it = some (itO b l)) : isI b h it l 0 := by
  cases b <;> exact ⟨_, x, rfl, rfl⟩
theorem isS.lt {b : Bool} {h : Heap} {l : Addr} {its : Array Value} (x : isS b h l its) : l < h.objs.size := by
  cases b <;> (obtain ⟨o, e, _⟩ := x; exact Heap.lt_size e)
section
variable {X : Cx} {pins : List (Addr × Obj)} {σ : L2.St} {H : Hp} {s : Shared}
theorem sqM_at {b : Bool} {a : Addr} {xs : List V} (I : Inv X pins σ H s) (h : SqM b X.K H a xs) : ∃ its : List Value, Vals xs its ∧ isS b s.heap a its.toArray := by
  cases b with
  | true => obtain ⟨its, r, p, _⟩ := I.tuple h; exact ⟨its, r, p⟩
  | false => obtain ⟨its, r, p, _⟩ := I.list h; exact ⟨its, r, p.isList⟩
theorem sqM_inj {b : Bool} {a : Addr} {xs ys : List V} (I : Inv X pins σ H s) (h : SqM b X.K H a xs) (h' : SqM b X.K H a ys) : xs = ys := by
  cases b with
  | true => exact I.tuple_inj h h'
  | false => exact I.list_inj h h'
end
/-- the things at a and b, their items in new pairs -/
def ItzM (b1 b2 : Bool) (K : PySem.W.Frag) (a b : Addr) : It :=
  ⟨fun i H => ∃ (xs ys : List V) (x y : V), SqM b1 K H a xs ∧ SqM b2 K H b ys ∧ xs[i]? = some x ∧ ys[i]? = some y,
    fun i H v H' => ∃ t x y, v = .ref t ∧ H t = none ∧ H' = upd H t (.tup [x, y]) ∧ (∀ us, SqM b1 K H a us → us[i]? = some x) ∧ ∀ us, SqM b2 K H b us → us[i]? = some y,
    fun i H => ∃ xs ys : List V, SqM b1 K H a xs ∧ SqM b2 K H b ys ∧ (xs.length ≤ i ∨ ys.length ≤ i) ∧ i ≤ xs.length ∧ i ≤ ys.length⟩
theorem sep_of {z t1 t2 i1 i2 a b : Addr} (D : ZipApart z t1 t2 i1 i2 a b) : ZipSep2 z t1 t2 i1 i2 [i1, a] [i2, b] where
  TIz := D.TIz
  TOz := D.TOz
  TITO := D.TITO
  TIi1 := D.TIi1
  mem1 := List.mem_cons_self
  zf1 := by simp [D.i1z.symm, D.l1z.symm]
  Tf1 := by simp [D.TOi1, D.l1TO.symm]
  TIi2 := D.TIi2
  mem2 := List.mem_cons_self
  zf2 := by simp [D.i2z.symm, D.l2z.symm]
  Tf2 := by simp [D.TOi2, D.l2TO.symm]
  sep1_2 := by simp [D.i12, D.l2i1.symm]
  sep2_1 := by simp [D.i12.symm, D.l1i2.symm]
theorem fiveA {c z t1 t2 i1 i2 : Addr} {p : Addr → Prop} (h : c ∈ [z, t1, t2, i1, i2]) (q1 : p z) (q2 : p t1) (q3 : p t2) (q4 : p i1) (q5 : p i2) : p c := by
  simp only [List.mem_cons, List.not_mem_nil, or_false] at h
  rcases h with rfl | rfl | rfl | rfl | rfl <;> assumption
theorem turn_zipM {P : Program} {w : World} {K : PySem.W.Frag} {elts : List Expr} {kk : Nat} {tpos : Pos} {b1 b2 : Bool} {a b z t1 t2 i1 i2 : Addr} (D : ZipApart z t1 t2 i1 i2 a b) :
    Turn P w K (.Tuple elts kk tpos) (ItzM b1 b2 K a b) [z, t1, t2, i1, i2] z (fun i h => IsZip h z t1 t2 .none ∧ IsPair h t1 (.ref i1) (.ref i2) ∧ (∃ x y, IsPair h t2 x y) ∧ isI b1 h i1 a i ∧ isI b2 h i2 b i) where
  mem := List.mem_cons_self
  obj := fun i h st c hc => by
    obtain ⟨hz, h1, ⟨x, y, h2⟩, h3, h4⟩ := st
    exact fiveA (p := fun c => ∃ o, h.get? c = some o ∧ ∀ v, o.data ≠ .cell v) hc ⟨_, hz, fun _ q => nomatch q⟩ ⟨_, h1, fun _ q => nomatch q⟩ ⟨_, h2, fun _ q => nomatch q⟩ h3.obj h4.obj
  keep := fun i h h' st k => by
    obtain ⟨hz, h1, ⟨x, y, h2⟩, h3, h4⟩ := st
    have m : ∀ c, c ∈ [z, t1, t2, i1, i2] → ∀ o, h.get? c = some o → h'.get? c = some o := k
    exact ⟨m z (by simp) _ hz, m t1 (by simp) _ h1, ⟨x, y, m t2 (by simp) _ h2⟩, h3.at_ (m i1 (by simp)), h4.at_ (m i2 (by simp))⟩
  item := by
    intro X hP hw hK hc i pins s σ H E I fp st hg
    subst hP hw hK
    obtain ⟨hz, h1, ⟨x0, y0, h2⟩, h3, h4⟩ := st
    obtain ⟨xs, ys, x, y, qa, qb, hx, hy⟩ := hg
    obtain ⟨its, rv, p⟩ := sqM_at I qa
    obtain ⟨its2, rv2, p2⟩ := sqM_at I qb
    obtain ⟨u, hu, ru⟩ := rv.get hx
    obtain ⟨u2, hu2, ru2⟩ := rv2.get hy
    have hu : its.toArray[i]? = some u := by simpa using hu
    have hu2 : its2.toArray[i]? = some u2 := by simpa using hu2
    have lt1 : i < its.toArray.size := (Array.getElem?_eq_some_iff.mp hu).1
    have lt2 : i < its2.toArray.size := (Array.getElem?_eq_some_iff.mp hu2).1
    have hzl : z < s.heap.objs.size := Heap.lt_size hz
    have hh : X.A.in1.handled = none := by simp [I.ok.hd hc]
    refine wpAny_pyNext_zipD2_item (sep_of D) (draws_m b1 hh i1 a D.l1i1 its.toArray) (draws_m b2 hh i2 b D.l2i2 its2.toArray) hz h1 h2 ⟨h3, p⟩ ⟨h4, p2⟩ lt1 lt2 fun v1 v2 hN tk e1 e2 z' TO' s1 s2 hT hsz hk => ?_
    rw [hu] at e1
    rw [hu2] at e2
    cases e1
    cases e2
    refine ⟨_, rfl, wpAny_letOwnedTupleGo_zip (s := { s with heap := hN, toks := tk }) z' fun hM z2 sb => ?_⟩
    have hT2 : hM.get? s.heap.objs.size = some { cls := .type "tuple", data := .seq #[u, u2] } := (sb.2 _ (Nat.ne_of_gt hzl)).trans hT
    have new : ObjOk X.prog X.w (upd H s.heap.objs.size (.tup [x, y])) hM s.heap.objs.size (.tup [x, y]) := ⟨by show 2 ≤ sizeLine; decide, [u, u2], .cons ru (.cons ru2 .nil), ⟨_, hT2, rfl, _, rfl⟩⟩
    have far : ∀ c, c ∈ [z, t1, t2, i1, i2] → c < s.heap.objs.size := fun c hcm => by
      obtain ⟨o3, e3, _⟩ := h3.obj
      obtain ⟨o4, e4, _⟩ := h4.obj
      exact fiveA (p := fun c => c < s.heap.objs.size) hcm hzl (Heap.lt_size h1) (Heap.lt_size h2) (Heap.lt_size e3) (Heap.lt_size e4)
    have IN := I.turnedNew (h' := hM) (t' := tk) (ch := [z, t1, t2, i1, i2]) (fun c o out q => by
      simp only [List.mem_cons, List.not_mem_nil, or_false, not_or] at out
      obtain ⟨c1, c2, c3, c4, c5⟩ := out
      exact (sb.2 c c1).trans (hk c o c1 c3 c4 c5 q)) fp (Nat.le_refl _) new
    refine ⟨.ref s.heap.objs.size, _, IN, rfl, ⟨_, x, y, rfl, I.hok.fresh (Nat.le_refl _), rfl, fun us q => by rw [sqM_inj I q qa]; exact hx, fun us q => by rw [sqM_inj I q qb]; exact hy⟩, ⟨z2, (sb.2 _ D.TIz).trans (hk _ _ D.TIz D.TITO D.TIi1 D.TIi2 h1), ⟨u, u2, (sb.2 _ D.TOz).trans TO'⟩, s1.1.at_ fun o q => (sb.2 _ D.i1z).trans q, s2.1.at_ fun o q => (sb.2 _ D.i2z).trans q⟩, fun c hcm => ?_⟩
    rw [upd_ne (Nat.ne_of_lt (far c hcm))]
    exact (fp c hcm).1
  done := by
    intro X hP hw hK hc i pins s σ H E I fp st hg
    subst hP hw hK
    obtain ⟨hz, h1, ⟨x0, y0, h2⟩, h3, h4⟩ := st
    obtain ⟨xs, ys, qa, qb, hend, le1, le2⟩ := hg
    obtain ⟨its, rv, p⟩ := sqM_at I qa
    obtain ⟨its2, rv2, p2⟩ := sqM_at I qb
    have l1 := rv.length
    have l2 := rv2.length
    have hh : X.A.in1.handled = none := by simp [I.ok.hd hc]
    refine wpAny_pyNext_zipD2_end (sep_of D) (draws_m b1 hh i1 a D.l1i1 its.toArray) (draws_m b2 hh i2 b D.l2i2 its2.toArray) hz h1 h2 ⟨h3, p⟩ ⟨h4, p2⟩ (i := i) (by simp; omega) (by simp; omega) (by simp; omega) fun hN tk hk => ⟨rfl, ?_⟩
    exact I.turnedL (t' := tk) (ch := [z, t1, t2, i1, i2]) (fun c o out q => by
      simp only [List.mem_cons, List.not_mem_nil, or_false, not_or] at out
      obtain ⟨c1, c2, c3, c4, c5⟩ := out
      exact hk c o c1 c3 c4 c5 q) fp
  self := fun A i s Q E st h => wpAny_pyIter_zip st.1 h
def iZipM (K : PySem.W.Frag) (ta : TA) : TI := fun σ H R => ta σ H fun vs H1 => ∃ (b1 b2 : Bool) (a b : Addr) (xs ys : List V), vs = [.ref a, .ref b] ∧ SqM b1 K H1 a xs ∧ SqM b2 K H1 b ys ∧ R (ItzM b1 b2 K a b) H1
theorem pi_zipM {X : Cx} {e e2 : Expr} {ta : TA} {p pos tpos : Pos} {elts : List Expr} {kk : Nat} (hg : Gl X "zip") (hm : X.mg "zip" = none) (ha : PA X [e, e2] ta)
    (hs : starEach [e, e2] X.env = (false, eval e X.env) :: starEach [e2] X.env) (hpl : (backTo pos (starEach [e2] X.env)).any (·.1) = false) : PI X (.Tuple elts kk tpos) (.Call (.Name "zip" p) [e, e2] [] pos) (iZipM X.K ta) := by
  refine ⟨fun pins s σ H R I h => Call_ (ld_blt I hg hm boot_zip (PyProof.Rows.callWith_type1 (thn (ha.run pos pins s σ H _ I h) fun us s1 ⟨vs, H1, I1, r1, q1⟩ => ?_) hs hpl))⟩
  obtain ⟨b1, b2, a, b, xs, ys, rfl, qa, qb, q⟩ := q1
  obtain ⟨u1, u2, rfl, e1, e2⟩ : ∃ u1 u2, us = [u1, u2] ∧ RelV (.ref a) u1 ∧ RelV (.ref b) u2 := by
    cases r1 with
    | cons x y => cases y with | cons x' y' => cases y'; exact ⟨_, _, rfl, x, x'⟩
  cases e1
  cases e2
  obtain ⟨its, rv, p1⟩ := sqM_at I1 qa
  obtain ⟨its2, rv2, p2⟩ := sqM_at I1 qb
  have fp : ∀ c, c ∈ [s1.heap.objs.size + 4, s1.heap.objs.size + 2, s1.heap.objs.size + 3, s1.heap.objs.size, s1.heap.objs.size + 1] → FpOk X pins H1 c := fun c hc => by
    have hle : s1.heap.objs.size ≤ c := fiveA (p := fun c => s1.heap.objs.size ≤ c) hc (Nat.le_add_right _ _) (Nat.le_add_right _ _) (Nat.le_add_right _ _) (Nat.le_refl _) (Nat.le_add_right _ _)
    exact I1.fpOk hle (I1.hok.fresh hle)
  obtain ⟨l1, l2⟩ := And.intro p1.lt p2.lt
  refine zip_begins2 (begins_m b1 a its.toArray) (begins_m b2 b its2.toArray) p1 p2 fun hN z t1 t2 i1 i2 _ hk => wpAny_pyIter_zip z ?_
  exact ⟨s1.heap.objs.size + 4, [s1.heap.objs.size + 4, s1.heap.objs.size + 2, s1.heap.objs.size + 3, s1.heap.objs.size, s1.heap.objs.size + 1], _, _, H1, rfl, I1.kept (t' := s1.toks) hk, turn_zipM (PySem.W.ktu_apart s1.heap.objs.size a b l1 l2), ⟨z, t1, ⟨_, _, t2⟩, isI.new i1, isI.new i2⟩, fp, q⟩
end DI
end
section
set_option linter.all false
set_option autoImplicit false
set_option maxRecDepth 100000
/-! D10: zip; what is walked, all; calls. -/
namespace DI
open PySem PySem.Spec L2
open PyProof.Rows hiding St
section
variable {T : List (Addr × Str)} {W : EW} {X : Cx} {C : Ctx} {k n : Nat}
theorem zipD_at {xs ys : List D} {i : Nat} (h : i < (zipD xs ys).length) : ∃ x y, xs[i]? = some x ∧ ys[i]? = some y ∧ (zipD xs ys)[i]? = some (.tuple [x, y]) := by
  have hl : (zipD xs ys).length = min xs.length ys.length := by simp [zipD]
  rw [hl] at h
  have h1 : i < xs.length := by omega
  have h2 : i < ys.length := by omega
  refine ⟨xs[i], ys[i], List.getElem?_eq_getElem h1, List.getElem?_eq_getElem h2, ?_⟩
  simp [zipD, List.getElem?_map, List.getElem?_zip_eq_some, h1, h2]
theorem Kp.sqM {K : PySem.W.Frag} {H H' : Hp} (k : Kp H H') {b : Bool} {a : Addr} {xs : List V} (h : SqM b K H a xs) : SqM b K H' a xs := by
  cases b with
  | true => exact k.sqT h
  | false => exact k.sqL h
theorem pair_rp {g : Gd} {w : Wd} {H H1 : Hp} {Hid' : Addr → Prop} {t : Addr} {x y : V} {d e : D} (ht : H t = none) (hn : ∀ b, Hid' b → H b ≠ none) (k : Kp (hide w.Hid H1) (hide Hid' (upd H t (.tup [x, y])))) (h1 : Rp g.K (hide w.Hid H1) x d) (h2 : Rp g.K (hide w.Hid H1) y e) : Rp g.K (hide Hid' (upd H t (.tup [x, y]))) (.ref t) (.tuple [d, e]) := by
  have nh : ¬ Hid' t := fun z => hn t z ht
  exact .tup (SqT.of (in_hide upd_same nh)) (.cons (k.dp _ _ h1) (.cons (k.dp _ _ h2) .nil))
theorem it_zipM {g : Gd} {br : Bool} {w : Wd} {H1 : Hp} {b1 b2 : Bool} {a b : Addr} {vs us : List V} {xs ys : List D} (ha : SqM b1 g.K (hide (hd br w) H1) a vs) (hb : SqM b2 g.K (hide (hd br w) H1) b us) (h1 : RpAll g.K (hide w.Hid H1) vs xs) (h2 : RpAll g.K (hide w.Hid H1) us ys) : rpI g (hd br) w H1 (ItzM b1 b2 g.K a b) (zipD xs ys) := by
  intro H k i
  have qa : SqM b1 g.K H a vs := k.sqM ha
  have qb : SqM b2 g.K H b us := k.sqM hb
  have l1 := RpAll.len h1
  have l2 := RpAll.len h2
  have hl : (zipD xs ys).length = min xs.length ys.length := by simp [zipD]
  refine ⟨fun hi => ?_, fun hi => ⟨vs, us, qa, qb, by omega, by omega, by omega⟩⟩
  obtain ⟨x, y, ex, ey, ez⟩ := zipD_at hi
  obtain ⟨v, v1, v2⟩ := RpAll.at_ h1 ex
  obtain ⟨u, u1, u2⟩ := RpAll.at_ h2 ey
  refine ⟨⟨vs, us, v, u, qa, qb, v1, u1⟩, fun z H' ⟨t, z1, z2, e1, e2, e3, e4, e5⟩ => ?_⟩
  subst e1 e3
  have q1 := e4 vs qa
  have q2 := e5 us qb
  rw [v1] at q1
  rw [u1] at q2
  cases q1
  cases q2
  exact ⟨upd_kp e2, _, ez, fun Hid' hn k' => pair_rp e2 hn k' v2 u2⟩
theorem rpW_m {g : Gd} {br : Bool} {w : Wd} {H : Hp} {st : Stt} {v : V} {d : D} {xs : List D} (E : ERep g w H st) (r : rpW g br w H v d) (hx : seqOf d = some xs) : ∃ (b : Bool) (a : Addr) (vs : List V), v = .ref a ∧ RpAll g.K (hide w.Hid H) vs xs ∧ SqM b g.K (hide (hd br w) H) a vs := by
  obtain ⟨a, vs, e, hs, z | z⟩ := rpW_seq E r hx
  · exact ⟨false, a, vs, e, hs, .inl z.2⟩
  · exact ⟨true, a, vs, e, hs, z.2⟩
theorem rpW.evo {g : Gd} {br : Bool} {w : Wd} {H H' : Hp} {st : Stt} {v : V} {d : D} (r : rpW g br w H v d) (E : ERep g w H st) (e : Evo w.p H H') : rpW g br w H' v d := by
  unfold rpW at r ⊢
  split at r
  · rename_i h
    rw [if_pos h]
    exact rpB.evo r E e
  · rename_i h
    rw [if_neg h]
    exact rpD.evo r E e
theorem i_zip (ih : Snd T n) (G : Good T W X C k) (br : Bool) (tg a b : Expr) (p pos : Pos) (hb : bi C "zip" = true) : PI X tg (.Call (.Name "zip" p) [a, b] [] pos) (tD (gX X T) W (rpI (gX X T) (hd br)) fun ρ => guardM (isTup tg && !isStar a && !isStar b) (bnd (evW n C br a ρ) fun x => bnd (evW n C br b ρ) fun y => bnd (optM (seqOf x)) fun xs => bnd (optM (seqOf y)) fun ys => ret (zipD xs ys))) := by
  by_cases hs : (isTup tg && !isStar a && !isStar b) = true
  · simp only [Bool.and_eq_true, Bool.not_eq_true'] at hs
    obtain ⟨⟨s0, s1⟩, s2⟩ := hs
    obtain ⟨es, kk, tpos, rfl⟩ : ∃ es kk tpos, tg = .Tuple es kk tpos := by
      cases tg <;> first | exact ⟨_, _, _, rfl⟩ | cases s0
    obtain ⟨g1, g2⟩ := bi_none G hb (by decide)
    refine (pi_zipM g1 g2 (pa_cons (ih.Wk G br a) (pa_cons (ih.Wk G br b) pa_nil (star_no s2)) (star_no s1)) (by rw [star_no s1]) (by rw [star_no s2]; rfl)).monoI fun σ H Q h => ?_
    obtain ⟨w, st, hσ, E, h'⟩ := (tD.grd h).2
    subst hσ
    refine ⟨w, st, rfl, E, Post.bind (rq := rpI _ _ w) h' fun d st1 v H1 e1 E1 r1 h1 => ⟨w, st1, rfl, E1, Post.bind (rq := rpI _ _ w) h1 fun d' st2 u H2 e2 E2 r2 h2 => ?_⟩⟩
    have r1' := rpW.evo r1 E1 e2
    obtain ⟨xs, hx, h3⟩ := Post.optB h2
    obtain ⟨ys, hy, h4⟩ := Post.optB h3
    obtain ⟨b1, a1, vs, rfl, hs1, z1⟩ := rpW_m E2 r1' hx
    obtain ⟨b2, a2, us, rfl, hs2, z2⟩ := rpW_m E2 r2 hy
    exact ⟨b1, b2, a1, a2, vs, us, rfl, kp_hide.sqM z1, kp_hide.sqM z2, h4.now E2 (rp := rpI _ _ w) (it_zipM z1 z2 hs1 hs2)⟩
  · refine PI.void (tD.stuck fun ρ st => ?_)
    unfold guardM
    rw [if_neg hs]
theorem enumD_len (xs : List D) : (enumD xs).length = xs.length := by simp [enumD]
theorem enumD_at {xs : List D} {i : Nat} (h : i < (enumD xs).length) : ∃ x, xs[i]? = some x ∧ (enumD xs)[i]? = some (.tuple [.int (i : Nat), x]) := by
  rw [enumD_len] at h
  refine ⟨xs[i], List.getElem?_eq_getElem h, ?_⟩
  simp [enumD, h]
theorem it_enumL {g : Gd} {br : Bool} {w : Wd} {H1 : Hp} {a : Addr} {vs : List V} {xs : List D} (ha : Rd (hide (hd br w) H1) a (.lst vs)) (h1 : RpAll g.K (hide w.Hid H1) vs xs) : rpI g (hd br) w H1 (Ite g.K a) (enumD xs) := by
  intro H k i
  have qa : SqL g.K H a vs := .inl (k.rd ha)
  have l1 := RpAll.len h1
  refine ⟨fun hi => ?_, fun hi => ⟨vs, qa, by rw [enumD_len] at hi; omega⟩⟩
  obtain ⟨x, ex, ez⟩ := enumD_at hi
  obtain ⟨v, v1, v2⟩ := RpAll.at_ h1 ex
  refine ⟨⟨vs, v, qa, v1⟩, fun z H' ⟨t, z1, e1, e2, e3, e4⟩ => ?_⟩
  subst e1 e3
  have q1 := e4 vs qa
  rw [v1] at q1
  cases q1
  exact ⟨upd_kp e2, _, ez, fun Hid' hn k' => .tup (SqT.of (in_hide upd_same fun z => hn _ z e2)) (.cons (.int _) (.cons (k'.rp v2) .nil))⟩
theorem it_enumT {g : Gd} {br : Bool} {w : Wd} {H1 : Hp} {a : Addr} {vs : List V} {xs : List D} (ha : SqT g.K (hide (hd br w) H1) a vs) (h1 : RpAll g.K (hide w.Hid H1) vs xs) : rpI g (hd br) w H1 (IteT g.K a) (enumD xs) := by
  intro H k i
  have qa : SqT g.K H a vs := k.sqT ha
  have l1 := RpAll.len h1
  refine ⟨fun hi => ?_, fun hi => ⟨vs, qa, by rw [enumD_len] at hi; omega⟩⟩
  obtain ⟨x, ex, ez⟩ := enumD_at hi
  obtain ⟨v, v1, v2⟩ := RpAll.at_ h1 ex
  refine ⟨⟨vs, v, qa, v1⟩, fun z H' ⟨t, z1, e1, e2, e3, e4⟩ => ?_⟩
  subst e1 e3
  have q1 := e4 vs qa
  rw [v1] at q1
  cases q1
  exact ⟨upd_kp e2, _, ez, fun Hid' hn k' => .tup (SqT.of (in_hide upd_same fun z => hn _ z e2)) (.cons (.int _) (.cons (k'.rp v2) .nil))⟩
theorem i_enum (ih : Snd T n) (G : Good T W X C k) (br : Bool) (tg a : Expr) (p pos : Pos) (hb : bi C "enumerate" = true) : PI X tg (.Call (.Name "enumerate" p) [a] [] pos) (tD (gX X T) W (rpI (gX X T) (hd br)) fun ρ => guardM (isTup tg && !isStar a) (bnd (evW n C br a ρ) fun d => bnd (optM (seqOf d)) fun xs => ret (enumD xs))) := by
  by_cases hs : (isTup tg && !isStar a) = true
  case neg =>
    refine PI.void (tD.stuck fun ρ st => ?_)
    unfold guardM
    rw [if_neg hs]
  simp only [Bool.and_eq_true, Bool.not_eq_true'] at hs
  obtain ⟨s0, s1⟩ := hs
  obtain ⟨es, kk, tpos, rfl⟩ : ∃ es kk tpos, tg = .Tuple es kk tpos := by
    cases tg <;> first | exact ⟨_, _, _, rfl⟩ | cases s0
  obtain ⟨g1, g2⟩ := bi_none G hb (by decide)
  refine (pi_enumA g1 g2 (pa_cons (ih.Wk G br a) pa_nil (star_no s1)) (star_no s1)).monoI fun σ H Q h => ?_
  obtain ⟨w, st, hσ, E, h'⟩ := (tD.grd h).2
  subst hσ
  refine ⟨w, st, rfl, E, Post.bind (rq := rpI _ _ w) h' fun d st1 v H1 e1 E1 r1 h1 => ?_⟩
  obtain ⟨xs, hx, h1⟩ := Post.optB h1
  obtain ⟨q, vs, rfl, hs, z | z⟩ := rpW_seq E1 r1 hx
  · exact ⟨q, rfl, .inl ⟨vs, .inl (kp_hide.rd z.2), h1.now E1 (rp := rpI _ _ w) (it_enumL z.2 hs)⟩⟩
  · exact ⟨q, rfl, .inr ⟨vs, kp_hide.sqT z.2, h1.now E1 (rp := rpI _ _ w) (it_enumT z.2 hs)⟩⟩
theorem s_I (ih : Snd T n) (G : Good T W X C k) (br : Bool) (tg e : Expr) : PI X tg e (tD (gX X T) W (rpI (gX X T) (hd br)) (evI (n + 1) C br (isTup tg) e)) := by
  cases e with
  | Call func args kws pos =>
    cases func with
    | Name f p =>
      cases kws with
      | nil =>
        cases args with
        | nil => exact i_seq ih G br tg _
        | cons a args =>
          cases args with
          | nil =>
            by_cases hb : bi C f = true ∧ f = "range"
            · obtain ⟨hb1, rfl⟩ := hb
              refine (i_range1 ih G br tg a p pos hb1).monoI fun σ H Q h => ?_
              have e : evI (n + 1) C br (isTup tg) (.Call (.Name "range" p) [a] [] pos) = fun ρ => guardM (!isStar a) (bnd (evE n C a ρ) fun x => bnd (intM x) fun j => guardM (rgOk 0 j) (ret (rangeD 0 j))) := by
                funext ρ
                show (if _ then _ else _) = _
                rw [if_pos ⟨hb1, rfl⟩]
              rw [e] at h
              exact h
            · by_cases hz : bi C f = true ∧ f = "enumerate"
              · have hz1 := hz.1
                have hz2 := hz.2
                subst hz2
                refine (i_enum ih G br tg a p pos hz1).monoI fun σ H Q h => ?_
                have e : evI (n + 1) C br (isTup tg) (.Call (.Name "enumerate" p) [a] [] pos) = fun ρ => guardM (isTup tg && !isStar a) (bnd (evW n C br a ρ) fun d => bnd (optM (seqOf d)) fun xs => ret (enumD xs)) := by
                  funext ρ
                  show (if _ then _ else if _ then _ else _) = _
                  rw [if_neg hb, if_pos ⟨hz1, rfl⟩]
                rw [e] at h
                exact h
              · refine (i_seq ih G br tg _).monoI fun σ H Q h => ?_
                have e : evI (n + 1) C br (isTup tg) (.Call (.Name f p) [a] [] pos) = fun ρ => bnd (evW n C br (.Call (.Name f p) [a] [] pos) ρ) fun d => optM (seqOf d) := by
                  funext ρ
                  show (if _ then _ else if _ then _ else _) = _
                  rw [if_neg hb, if_neg hz]
                rw [e] at h
                exact h
          | cons b args =>
            cases args with
            | nil =>
              by_cases hb : bi C f = true ∧ f = "range"
              · obtain ⟨hb1, rfl⟩ := hb
                refine (i_range2 ih G br tg a b p pos hb1).monoI fun σ H Q h => ?_
                have e : evI (n + 1) C br (isTup tg) (.Call (.Name "range" p) [a, b] [] pos) = fun ρ => guardM (!isStar a && !isStar b) (bnd (evE n C a ρ) fun x => bnd (evE n C b ρ) fun y => bnd (intM x) fun i => bnd (intM y) fun j => guardM (rgOk i j) (ret (rangeD i j))) := by
                  funext ρ
                  show (if _ then _ else _) = _
                  rw [if_pos ⟨hb1, rfl⟩]
                rw [e] at h
                exact h
              · by_cases hz : bi C f = true ∧ f = "zip"
                · have hz1 := hz.1
                  have hz2 := hz.2
                  subst hz2
                  refine (i_zip ih G br tg a b p pos hz1).monoI fun σ H Q h => ?_
                  have e : evI (n + 1) C br (isTup tg) (.Call (.Name "zip" p) [a, b] [] pos) = fun ρ => guardM (isTup tg && !isStar a && !isStar b) (bnd (evW n C br a ρ) fun x => bnd (evW n C br b ρ) fun y => bnd (optM (seqOf x)) fun xs => bnd (optM (seqOf y)) fun ys => ret (zipD xs ys)) := by
                    funext ρ
                    show (if _ then _ else if _ then _ else _) = _
                    rw [if_neg hb, if_pos ⟨hz1, rfl⟩]
                    all_goals rfl
                  rw [e] at h
                  exact h
                · refine (i_seq ih G br tg _).monoI fun σ H Q h => ?_
                  have e : evI (n + 1) C br (isTup tg) (.Call (.Name f p) [a, b] [] pos) = fun ρ => bnd (evW n C br (.Call (.Name f p) [a, b] [] pos) ρ) fun d => optM (seqOf d) := by
                    funext ρ
                    show (if _ then _ else if _ then _ else _) = _
                    rw [if_neg hb, if_neg hz]
                  rw [e] at h
                  exact h
            | cons _ _ => exact i_seq ih G br tg _
      | cons _ _ => cases args with
        | nil => exact i_seq ih G br tg _
        | cons a args => cases args with
          | nil => exact i_seq ih G br tg _
          | cons _ args => cases args <;> exact i_seq ih G br tg _
    | _ => exact i_seq ih G br tg _
  | _ => exact i_seq ih G br tg _
end
end DI
end
section
set_option linter.all false
set_option autoImplicit false
set_option maxRecDepth 100000
/-! D11: calls of defs, of isinstance, of built-in functions. -/
namespace DI
open PySem PySem.Spec L2
open PyProof.Rows hiding St
section
variable {T : List (Addr × Str)} {W : EW} {X : Cx} {C : Ctx} {k n : Nat}
theorem StRep.evoN {K : PySem.W.Frag} {Hid : Addr → Prop} {p : Option Addr} {H H' : Hp} {st : Stt} (s : StRep K Hid p H st) (e : Evo none H H') : StRep K Hid p H' st := by
  cases p with
  | none => exact s
  | some a =>
    obtain ⟨h1, h2, vs, h3, h4⟩ := s
    exact ⟨h1, h2, vs, e.kp a _ (by simp) h3 (by intro ps z; cases z), Kp.dps (fun b o q n => by obtain ⟨q1, q2⟩ := hide_in q; exact in_hide (e.kp b o (by simp) q1 n) q2) st vs h4⟩
theorem LAll.noP {K : PySem.W.Frag} {Hid : Addr → Prop} {p : Option Addr} {H : Hp} : ∀ {fs : List Bool} {vs : List V} {ds : List D}, LAll K Hid p H fs vs ds → LAll K Hid none H fs vs ds
  | [], [], [], _ => True.intro
  | true :: _, [], [], _ => True.intro
  | false :: _, [], [], _ => True.intro
  | true :: fs, v :: vs, d :: ds, h => ⟨h.1.elim .inl fun ⟨a, o, h1, h2, h3, h4, h5⟩ => .inr ⟨a, o, h1, h2, by simp, h4, h5⟩, LAll.noP h.2⟩
  | false :: fs, v :: vs, d :: ds, h => ⟨h.1, LAll.noP h.2⟩
  | [], v :: vs, d :: ds, h => ⟨h.1, LAll.noP h.2⟩
/-- what a def without the state asks, from what is wanted behind it -/
theorem call_P {w : Wd} {H : Hp} {st : Stt} {vs : List V} {ds : List D} {Q : VK} {fi : FnI} (hst : fi.st = false) (E : ERep (gX X T) w H st) (r : rpLs (gX X T) fi.lend w H vs ds) (h : Post (gX X T) W w (rpD (gX X T) w) H (guardM (decide (ds.length = fi.arity)) (purely (fi.sem ds)) st) Q) :
    spF X.K T fi vs H Q (fun cls d H => wx X W cls d [] H) := by
  obtain ⟨hb, h⟩ := Post.grd h
  have hl := of_decide_eq_true hb
  unfold spF
  rw [if_neg (by rw [hst]; simp)]
  refine ⟨by rw [LAll.len r]; exact hl, w.Hid, ds, E.dom, E.tabs, LAll.noP r, ?_⟩
  unfold purely at h
  cases hr : fi.sem ds [] with
  | ok d st' =>
    rw [hr] at h
    exact fun v H' e t rv => h v H' e.none_any (E.evo e.none_any (E.stt.evoN e) t) rv
  | err x st' =>
    rw [hr] at h
    exact fun H' e t => ⟨x, rfl, rfl, h H' e.none_any (E.evo e.none_any (E.stt.evoN e) t)⟩
  | stuck =>
    rw [hr] at h
    exact h.elim
/-- .. with the state -/
theorem call_S {w : Wd} {H : Hp} {st : Stt} {p : Addr} {vs : List V} {ds : List D} {Q : VK} {fi : FnI} (hst : fi.st = true) (hp : w.p = some p) (E : ERep (gX X T) w H st) (r : rpLs (gX X T) fi.lend w H vs ds) (h : Post (gX X T) W w (rpD (gX X T) w) H (guardM (decide (ds.length = fi.arity)) (fi.sem ds) st) Q) :
    spF X.K T fi (.ref p :: vs) H Q (fun cls d H => wx X W cls d [] H) := by
  obtain ⟨hb, h⟩ := Post.grd h
  have hl := of_decide_eq_true hb
  unfold spF
  rw [if_pos hst]
  have s := E.stt
  rw [hp] at s
  refine ⟨by rw [List.length_cons, LAll.len r, hl], w.Hid, p, vs, ds, st, rfl, E.dom, E.tabs, s, by rw [← hp]; exact r, ?_⟩
  cases hr : fi.sem ds st with
  | ok d st' =>
    rw [hr] at h
    exact fun v H' e t s' rv => h v H' (by rw [hp]; exact e) (E.evo (by rw [hp]; exact e) (by rw [hp]; exact s') t) rv
  | err x st' =>
    rw [hr] at h
    exact fun H' e t s' => ⟨x, rfl, rfl, h H' (by rw [hp]; exact e) (E.evo (by rw [hp]; exact e) (by rw [hp]; exact s') t)⟩
  | stuck =>
    rw [hr] at h
    exact h.elim
theorem LAll.nil {K : PySem.W.Frag} {Hid : Addr → Prop} {p : Option Addr} {H : Hp} : ∀ {fs : List Bool}, LAll K Hid p H fs [] []
  | [] => True.intro
  | true :: _ => True.intro
  | false :: _ => True.intro
theorem evEs_nil {m : Nat} {fs : List Bool} {ρ : DI.Env} {st : Stt} {ds : List D} {st' : Stt} (h : evLs m C fs [] ρ st = .ok ds st') : ds = [] ∧ st' = st := by
  cases m with
  | zero => cases h
  | succ m => cases fs with
    | nil => cases h; exact ⟨rfl, rfl⟩
    | cons f fs => cases f <;> (cases h; exact ⟨rfl, rfl⟩)
theorem evEs_nil_err {m : Nat} {fs : List Bool} {ρ : DI.Env} {st : Stt} {e : Exn} {st' : Stt} : evLs m C fs [] ρ st ≠ .err e st' := fun h => by
  cases m with
  | zero => cases h
  | succ m => cases fs with
    | nil => cases h
    | cons f fs => cases f <;> cases h
theorem grd2 {f : Str} {args : List Expr} (h : (gl C f && !args.any isStar) = true) : gl C f = true ∧ args.any isStar = false := by
  obtain ⟨h1, h2⟩ := Bool.and_eq_true_iff.mp h
  exact ⟨h1, by simpa using h2⟩
theorem c_fnP (ih : Snd T n) (G : Good T W X C k) {f : Str} {fi : FnI} (hf : C.fn f = some fi) (hst : fi.st = false) (p : Pos) (args : List Expr) (pos : Pos) (hg : gl C f = true) (hs : args.any isStar = false) :
    PE X (.Call (.Name f p) args [] pos) (tD (gX X T) W (rpD (gX X T)) fun ρ => (bnd (evLs n C fi.lend args ρ) fun ds => guardM (decide (ds.length = fi.arity)) (purely (fi.sem ds)))) := by
  obtain ⟨g1, g2⟩ := G.gl hg
  obtain ⟨b1, b2, b3⟩ := bad_no g2
  obtain ⟨a, fd, ps, F, hm, hk, hb⟩ := G.fn f fi hf
  have hx : Passes (L2N.CX X.prog X.w) X (fun cls d H => wx X W cls d [] H) := L2N.passes_call G.tk fun cls d σ H h => h
  have fin : ∀ {σ : L2.St} {H : Hp} {Q : VK}, tD (gX X T) W (rpD (gX X T)) (fun ρ => (bnd (evLs n C fi.lend args ρ) fun ds => guardM (decide (ds.length = fi.arity)) (purely (fi.sem ds)))) σ H Q →
      tD (gX X T) W (rpLs (gX X T) fi.lend) (evLs n C fi.lend args) σ H fun vs H1 => spF X.K T fi (vs ++ []) H1 Q (fun cls d H => wx X W cls d [] H) := fun {σ H Q} ⟨w, st, hσ, E, h⟩ => by
    subst hσ
    refine ⟨w, st, rfl, E, Post.bind (rq := rpD _ w) h fun ds st1 vs H1 e1 E1 r1 h1 => ?_⟩
    rw [List.append_nil]
    exact call_P hst E1 r1 h1
  cases args with
  | nil =>
    refine (pe_call0G G.gd F G.room0 g1 hm hk hb .nil hx b1).mono fun σ H Q h => ?_
    obtain ⟨w, st, hσ, E, h1⟩ := fin h
    cases hr : evLs n C fi.lend [] w.ρ st with
    | ok ds st' =>
      rw [hr] at h1
      obtain ⟨rfl, rfl⟩ := evEs_nil hr
      exact h1.now E (rp := rpLs _ _ w) LAll.nil
    | err e st' => exact absurd hr evEs_nil_err
    | stuck => rw [hr] at h1; exact h1.elim
  | cons e es =>
    have hs2 : isStar e = false ∧ es.any isStar = false := by simpa using hs
    exact (pe_callG G.gd F G.room0 g1 hm hk hb .nil hx (ih.Ls G fi.lend (e :: es) hs) b1 (star_no hs2.1) (stars_no hs2.2)).mono fun σ H Q h => fin h
theorem c_fnS (ih : Snd T n) (G : Good T W X C k) {f : Str} {fi : FnI} (hf : C.fn f = some fi) (hst : fi.st = true) (p q : Pos) (s : Str) (args : List Expr) (pos : Pos) (hg : gl C f = true) (hs : args.any isStar = false) :
    PE X (.Call (.Name f p) (.Name s q :: args) [] pos) (tD (gX X T) W (rpD (gX X T)) fun ρ => guardM (isStt (slotOf C ρ s)) (bnd (evLs n C fi.lend args ρ) fun ds => guardM (decide (ds.length = fi.arity)) (fi.sem ds))) := by
  obtain ⟨g1, g2⟩ := G.gl hg
  obtain ⟨b1, b2, b3⟩ := bad_no g2
  obtain ⟨a, fd, ps, F, hm, hk, hb⟩ := G.fn f fi hf
  have hx : Passes (L2N.CX X.prog X.w) X (fun cls d H => wx X W cls d [] H) := L2N.passes_call G.tk fun cls d σ H h => h
  refine (pe_callG G.gd F G.room0 g1 hm hk hb .nil hx (pa_cons (pe_stt (T := T) G (.Name s q)) (ih.Ls G fi.lend args hs) (star_no rfl)) b1 (star_no rfl) (stars_no hs)).mono fun σ H Q ⟨w, st, hσ, E, h⟩ => ?_
  subst hσ
  obtain ⟨hb1, h⟩ := Post.grd h
  refine ⟨w, st, rfl, E, hb1, fun p hp => ⟨w, st, rfl, E, Post.bind (rq := rpD _ w) h fun ds st1 vs H1 e1 E1 r1 h1 => ?_⟩⟩
  show spF X.K T fi ((.ref p :: vs) ++ []) H1 Q _
  rw [List.append_nil]
  exact call_S hst hp E1 r1 h1
/-! ### isinstance -/
theorem ty_rp {g : Gd} {w : Wd} {H : Hp} {v : V} {d : D} {t : String} (r : rpB g w H v d) (h : tyName d = some t) : TyX g.K H v (.type t) := by
  cases d with
  | none => have e := r.none'; subst e; cases h; exact .base .non
  | bool b => have e := r.bool; subst e; cases h; exact .base (.bl b)
  | int b => have e := r.int; subst e; cases h; exact .base (.int b)
  | str b => have e := r.str; subst e; cases h; exact .base (.str b)
  | list xs =>
    obtain ⟨a, vs, rfl, ha, hs⟩ := r.list
    cases h
    rcases ha with ha | ⟨o, ha⟩
    · exact .base (.lst ha)
    · exact .base (.frz ha)
  | tuple xs =>
    obtain ⟨a, vs, rfl, ha, hs, _⟩ := r.tuple
    cases h
    rcases ha with (ha | ⟨o, ha⟩) | ⟨o, its, m, h1, h2, _⟩
    · exact .base (.tup ha)
    · exact .fTuple ha
    · exact .kTuple h1 h2
  | dict _ => cases h
theorem c_isi (ih : Snd T n) (G : Good T W X C k) (p q : Pos) (e : Expr) (Ty : Str) (pos : Pos) (hf : C.fn "isinstance" = none) (hc : C.con "isinstance" = none) (hg : gl C "isinstance" = true) :
    PE X (.Call (.Name "isinstance" p) [e, .Name Ty q] [] pos) (tD (gX X T) W (rpD (gX X T)) fun ρ => guardM (bi C Ty && !isStar e && tyOk Ty) (bnd (evB n C e ρ) fun d => bnd (optM (isT Ty d)) fun b => ret (.bool b))) := by
  by_cases hs : (bi C Ty && !isStar e && tyOk Ty) = true
  · obtain ⟨h12, h3⟩ := Bool.and_eq_true_iff.mp hs
    obtain ⟨h1, h2⟩ := Bool.and_eq_true_iff.mp h12
    have hs1 : isStar e = false := by simpa using h2
    have go : ∀ (t : String), Ty = Str.ofString t → Ty ∈ biNames → bootBuiltins Ty = some (.type t) → (∀ d b, isT Ty d = some b → ∃ u, tyName d = some u ∧ kitB u t = some b) →
        PE X (.Call (.Name "isinstance" p) [e, .Name Ty q] [] pos) (tD (gX X T) W (rpD (gX X T)) fun ρ => guardM (bi C Ty && !isStar e && tyOk Ty) (bnd (evB n C e ρ) fun d => bnd (optM (isT Ty d)) fun b => ret (.bool b))) := fun t e1 e2 e3 e4 => by
      obtain ⟨g1, g2⟩ := bi_none G h1 e2
      have hb := h1
      unfold bi at hb
      simp only [Bool.and_eq_true, Option.isNone_iff_eq_none] at hb
      obtain ⟨b1, b2, b3⟩ := bad_no (G.gl hb.1.1).2
      refine (pe_callB call_isi (G.gl hg).1 (G.bi _ hf hc (by decide)) (by decide +kernel) (pa_cons (ih.B G e) (pa_cons (pe_bltn (v := .ty t) g1 g2 e3 rfl b3 b1) pa_nil (star_no rfl)) (star_no hs1)) (by decide) (by decide) (star_no hs1) (by rw [star_no (env := X.env) (es := []) (e := .Name Ty q) rfl]; rfl)).mono fun σ H Q h => ?_
      obtain ⟨w, st, hσ, E, h'⟩ := (tD.grd h).2
      subst hσ
      refine ⟨w, st, rfl, E, Post.bind (rq := rpD _ w) h' fun d st1 v H1 e1 E1 r1 h1 => ?_⟩
      cases hd : isT Ty d with
      | none => rw [hd] at h1; exact h1.elim
      | some b =>
        rw [hd] at h1
        obtain ⟨u, hu, hk⟩ := e4 d b hd
        exact ⟨v, .ty t, .type u, .type t, b, rfl, .ty t, ty_rp r1 hu, kit_ty hk, h1.now E1 (rp := rpD _ w) (Rp.bl b)⟩
    have ex : ∀ (t : String) (d : D) (b : Bool), ((tyName d).bind fun u => kitB u t) = some b → ∃ u, tyName d = some u ∧ kitB u t = some b := fun t d b h => by
      simpa [Option.bind_eq_some_iff] using h
    by_cases t1 : Ty = "int"
    · exact go "int" t1 (by rw [t1]; decide) (by rw [t1]; decide +kernel) fun d b h => ex _ d b (by unfold isT at h; rw [if_pos t1] at h; exact h)
    by_cases t2 : Ty = "str"
    · exact go "str" t2 (by rw [t2]; decide) (by rw [t2]; decide +kernel) fun d b h => ex _ d b (by unfold isT at h; rw [if_neg t1, if_pos t2] at h; exact h)
    by_cases t3 : Ty = "tuple"
    · exact go "tuple" t3 (by rw [t3]; decide) (by rw [t3]; decide +kernel) fun d b h => ex _ d b (by unfold isT at h; rw [if_neg t1, if_neg t2, if_pos t3] at h; exact h)
    by_cases t4 : Ty = "list"
    · exact go "list" t4 (by rw [t4]; decide) (by rw [t4]; decide +kernel) fun d b h => ex _ d b (by unfold isT at h; rw [if_neg t1, if_neg t2, if_neg t3, if_pos t4] at h; exact h)
    unfold tyOk at h3
    simp [t1, t2, t3, t4] at h3
  · refine PE.void (tD.stuck fun ρ st => ?_)
    unfold guardM
    rw [if_neg hs]
/-! ### built-in functions by name -/
theorem biOf_ok (hc : X.calm = true) (hu : X.A.units + 1 < cLine) {f : Str} {b : BI} (h : biOf f = some b) (hr : b ≠ .repr) : f ∈ biNames ∧ BiOk X T W f b := by
  unfold biOf at h
  have key : ∀ {l : List (Str × BI)}, l.lookup f = some b → (f, b) ∈ l := fun {l} h => PySem.mem_of_lookup h
  have hm := key h
  simp only [List.mem_cons, Prod.mk.injEq, List.not_mem_nil, or_false] at hm
  rcases hm with ⟨rfl, rfl⟩ | ⟨rfl, rfl⟩ | ⟨rfl, rfl⟩ | ⟨rfl, rfl⟩ | ⟨rfl, rfl⟩ | ⟨rfl, rfl⟩ | ⟨rfl, rfl⟩ | ⟨rfl, rfl⟩ | ⟨rfl, rfl⟩ | ⟨rfl, rfl⟩ | ⟨rfl, rfl⟩ | ⟨rfl, rfl⟩
  · exact ⟨by decide, bi_len⟩
  · exact ⟨by decide, bi_abs⟩
  · exact ⟨by decide, bi_int⟩
  · exact ⟨by decide, bi_all hc⟩
  · exact ⟨by decide, bi_any hc⟩
  · exact ⟨by decide, bi_sum hc⟩
  · exact ⟨by decide, bi_max hc hu⟩
  · exact ⟨by decide, bi_min hc hu⟩
  · exact ⟨by decide, bi_tuple⟩
  · exact ⟨by decide, bi_list⟩
  · exact absurd rfl hr
  · exact ⟨by decide, bi_sorted hc⟩
end
end DI
end
section
set_option linter.all false
set_option autoImplicit false
set_option maxRecDepth 100000
/-! D12: targets; comprehensions. -/
namespace DI
open PySem PySem.Spec L2
open PyProof.Rows hiding St
/-! ### targets -/
def TgOk (X : Cx) (sc : Scope) : Prop := ∀ x, locB sc x = true → Loc X.env.scope x ∧ (X.fn x = true ∨ X.env.scope.names.lookup x = some .local)
def Same (S : List Nat) (σ σ' : L2.St) : Prop := σ'.length = σ.length ∧ ∀ i, i ∉ S → σ'[i]? = σ[i]?
theorem Same.rfl' {S : List Nat} {σ : L2.St} : Same S σ σ := ⟨rfl, fun _ _ => rfl⟩
theorem Same.tr {S S' : List Nat} {σ σ1 σ2 : L2.St} (a : Same S σ σ1) (b : Same S' σ1 σ2) : Same (S ++ S') σ σ2 := ⟨b.1.trans a.1, fun i h => (b.2 i fun z => h (List.mem_append_right _ z)).trans (a.2 i fun z => h (List.mem_append_left _ z))⟩
/-- no owned slot is new -/
def OwnK (ρ ρ' : DI.Env) (σ σ' : L2.St) : Prop := ∀ (i : Nat) (sv : SV), sv.hid = true → ρ'[i]? = some (some sv) → ρ[i]? = some (some sv) ∧ σ'[i]? = σ[i]?
theorem OwnK.rfl' {ρ : DI.Env} {σ : L2.St} : OwnK ρ ρ σ σ := fun _ _ _ h => ⟨h, rfl⟩
theorem OwnK.tr {ρ ρ1 ρ2 : DI.Env} {σ σ1 σ2 : L2.St} (a : OwnK ρ ρ1 σ σ1) (b : OwnK ρ1 ρ2 σ1 σ2) : OwnK ρ ρ2 σ σ2 := fun i ds q h =>
  let z := b i ds q h
  let y := a i ds q z.1
  ⟨y.1, z.2.trans y.2⟩
section
variable {T : List (Addr × Str)} {W : EW} {X : Cx} {C : Ctx} {k n : Nat}
theorem OwnK.set {ρ : DI.Env} {σ : L2.St} (i : Nat) {v : V} {sv : SV} (h : sv.hid = false) : OwnK ρ (ρ.set i (some sv)) σ (σ.set i (some v)) := fun j ds hd e => by
  by_cases hij : i = j
  · subst hij
    rw [List.getElem?_set] at e
    rw [if_pos rfl] at e
    split at e
    · cases e; rw [h] at hd; cases hd
    · cases e
  · rw [List.getElem?_set_ne hij] at e ⊢
    exact ⟨e, rfl⟩
theorem ERep.set {g : Gd} {w : Wd} {H : Hp} {st : Stt} (E : ERep g w H st) (i : Nat) {v : V} {sv : SV} (s : SRep g.K w.Hid w.p H v sv)
    (ho : ∀ a ds, sv = .ow ds → v = .ref a → ∀ (j : Nat) es, j ≠ i → w.ρ[j]? = some (some (.ow es)) → w.σ[j]? ≠ some (some (.ref a))) : ERep g { w with σ := w.σ.set i (some v), ρ := w.ρ.set i (some sv) } H st := by
  refine ⟨by simpa using E.len, fun j u h0 => ?_, fun j1 j2 ds es a g1 g2 g3 g4 => ?_, E.stt, E.tabs, E.dom, E.old⟩
  · have h : (w.ρ.set i (some sv))[j]? = some (some u) := h0
    show ∃ v', (w.σ.set i (some v))[j]? = _ ∧ _
    rw [List.getElem?_set] at h ⊢
    by_cases e : i = j
    · subst e
      rw [if_pos rfl] at h ⊢
      by_cases hl : i < w.ρ.length
      · rw [if_pos hl] at h
        cases h
        rw [if_pos (by rw [← E.len]; exact hl)]
        exact ⟨v, rfl, s⟩
      · rw [if_neg hl] at h
        cases h
    · rw [if_neg e] at h ⊢
      exact E.slot j u h
  · have h1 : (w.ρ.set i (some sv))[j1]? = some (some (.ow ds)) := g1
    have h2 : (w.ρ.set i (some sv))[j2]? = some (some (.ow es)) := g2
    have h3 : (w.σ.set i (some v))[j1]? = some (some (.ref a)) := g3
    have h4 : (w.σ.set i (some v))[j2]? = some (some (.ref a)) := g4
    clear g1 g2 g3 g4
    rw [List.getElem?_set] at h1 h2 h3 h4
    by_cases e1 : i = j1
    · by_cases e2 : i = j2
      · rw [← e1, ← e2]
      · rw [if_pos e1] at h1 h3
        rw [if_neg e2] at h2 h4
        split at h1
        · cases h1
          split at h3
          · cases h3
            exact absurd h4 (ho a ds rfl rfl j2 es (fun z => e2 z.symm) h2)
          · cases h3
        · cases h1
    · rw [if_neg e1] at h1 h3
      by_cases e2 : i = j2
      · rw [if_pos e2] at h2 h4
        split at h2
        · cases h2
          split at h4
          · cases h4
            exact absurd h3 (ho a es rfl rfl j1 ds (fun z => e1 z.symm) h1)
          · cases h4
        · cases h2
      · rw [if_neg e2] at h2 h4
        exact E.own j1 j2 ds es a h1 h2 h3 h4
def gD (g : Gd) (n : Nat) (C : Ctx) (e : Expr) : TG := fun v σ H Q => ∃ (w : Wd) (st : Stt) (d : D) (ρ' : DI.Env), w.σ = σ ∧ ERep g w H st ∧ rpD g w H v d ∧ asg n C e d w.ρ = some ρ' ∧
  ∀ σ', ERep g { w with σ := σ', ρ := ρ' } H st → Same (tgIx n C e) σ σ' → OwnK w.ρ ρ' σ σ' → Q σ' H
def gDs (g : Gd) (n : Nat) (C : Ctx) (es : List Expr) : TGs := fun vs σ H Q => ∃ (w : Wd) (st : Stt) (ds : List D) (ρ' : DI.Env), w.σ = σ ∧ ERep g w H st ∧ rpDs g w H vs ds ∧ asgs n C es ds w.ρ = some ρ' ∧
  ∀ σ', ERep g { w with σ := σ', ρ := ρ' } H st → Same (tgIxs n C es) σ σ' → OwnK w.ρ ρ' σ σ' → Q σ' H
theorem PG.void {e : Expr} {t : TG} (h : ∀ v σ H Q, ¬ t v σ H Q) : PG X e t := ⟨fun _ _ σ H v _ Q _ _ q => (h v σ H Q q).elim⟩
theorem PGs.void {e : List Expr} {t : TGs} (h : ∀ v σ H Q, ¬ t v σ H Q) : PGs X e t := ⟨fun _ _ σ H v _ Q _ _ q => (h v σ H Q q).elim⟩
theorem _root_.L2.PG.monoG {X : Cx} {e : Expr} {t t' : TG} (h : PG X e t) (k : ∀ v σ H Q, t' v σ H Q → t v σ H Q) : PG X e t' := ⟨fun pins s σ H v u Q I r q => h.run pins s σ H v u Q I r (k v σ H Q q)⟩
theorem _root_.L2.PGs.monoG {X : Cx} {e : List Expr} {t t' : TGs} (h : PGs X e t) (k : ∀ v σ H Q, t' v σ H Q → t v σ H Q) : PGs X e t' := ⟨fun pins s σ H v u Q I r q => h.run pins s σ H v u Q I r (k v σ H Q q)⟩
theorem _root_.L2.PG.orG {X : Cx} {e : Expr} {t t' : TG} (h : PG X e t) (h' : PG X e t') : PG X e (fun v σ H Q => t v σ H Q ∨ t' v σ H Q) := ⟨fun pins s σ H v u Q I r q => q.elim (h.run pins s σ H v u Q I r) (h'.run pins s σ H v u Q I r)⟩
theorem each_cons {env : PySem.Env} {e : Expr} {es : List Expr} (h : isStar e = false) : (assignEach (e :: es) env).map (·.2) = assign e env :: (assignEach es env).map (·.2) ∧ (assignEach (e :: es) env) = (false, assign e env) :: assignEach es env := by
  cases e <;> first | exact ⟨rfl, rfl⟩ | cases h
theorem each_len {env : PySem.Env} : ∀ {es : List Expr}, es.any isStar = false → (assignEach es env).length = es.length ∧ (assignEach es env).findIdx? (·.1) = none
  | [], _ => ⟨rfl, rfl⟩
  | e :: es, h => by
    have h2 : isStar e = false ∧ es.any isStar = false := by simpa using h
    obtain ⟨a, b⟩ := each_len (env := env) h2.2
    rw [(each_cons h2.1).2]
    refine ⟨by simp [a], ?_⟩
    rw [List.findIdx?_cons]
    simp [b]
theorem g_name (hN : C.N = X.N) (nd : X.N.Nodup) (tg : TgOk X C.sc) (x : Str) (pos : Pos) : PG X (.Name x pos) (gD (gX X T) (n + 1) C (.Name x pos)) := by
  by_cases hx : locB C.sc x = true
  · cases hi : ixOf C.N x with
    | none =>
      refine PG.void fun v σ H Q ⟨w, st, d, ρ', _, _, _, h, _⟩ => ?_
      have h : asgName C x (.sh d) w.ρ = some ρ' := h
      unfold asgName at h
      rw [hi] at h
      split at h <;> cases h
    | some i =>
      refine (pg_name nd (i := i) (by rw [← hN]; exact ixOf_get hi) (tg x hx).1 (tg x hx).2).monoG fun v σ H Q ⟨w, st, d, ρ', hσ, E, r, h, q⟩ => ?_
      have h : asgName C x (.sh d) w.ρ = some ρ' := h
      unfold asgName at h
      rw [hi] at h
      split at h
      · cases h
        subst hσ
        refine q _ (E.set i (sv := .sh d) r (fun a ds z => by cases z)) ⟨by simp, fun j hj => ?_⟩ (OwnK.set i rfl)
        rw [List.getElem?_set_ne]
        intro e
        apply hj
        show j ∈ (if locB C.sc x = true then (ixOf C.N x).toList else [])
        rw [if_pos hx, hi, e]
        simp
      · cases h
  · refine PG.void fun v σ H Q ⟨w, st, d, ρ', _, _, _, h, _⟩ => ?_
    have h : asgName C x (.sh d) w.ρ = some ρ' := h
    unfold asgName at h
    rw [if_neg (fun z => hx z.2)] at h
    cases h
theorem asg_ok (hc : X.calm = true) (hN : C.N = X.N) (nd : X.N.Nodup) (tg : TgOk X C.sc) : ∀ n, (∀ e, PG X e (gD (gX X T) n C e)) ∧ (∀ es, es.any isStar = false → PGs X es (gDs (gX X T) n C es))
  | 0 => by
    refine ⟨fun e => PG.void fun v σ H Q ⟨w, st, d, ρ', _, _, _, h, _⟩ => ?_, fun es _ => PGs.void fun v σ H Q ⟨w, st, d, ρ', _, _, _, h, _⟩ => ?_⟩
    · cases h
    · cases h
  | n + 1 => by
    obtain ⟨ih1, ih2⟩ := asg_ok hc hN nd tg n
    refine ⟨fun e => ?_, fun es hs => ?_⟩
    · by_cases hn : ∃ x pos, e = .Name x pos
      · obtain ⟨x, pos, rfl⟩ := hn
        exact g_name hN nd tg x pos
      by_cases ht : ∃ es j pos, e = .Tuple es j pos
      · obtain ⟨es, j, pos, rfl⟩ := ht
        by_cases hs : es.any isStar = true
        · refine PG.void fun v σ H Q ⟨w, st, d, ρ', _, _, _, h, _⟩ => ?_
          have h : (if es.any isStar = true then none else _) = some ρ' := h
          rw [if_pos hs] at h
          cases h
        have hs' : es.any isStar = false := by simpa using hs
        obtain ⟨l1, l2⟩ := each_len (env := X.env) hs'
        refine ((pg_tup hc (ih2 es hs') l1 l2).orG (pg_lst hc (ih2 es hs') l1 l2)).monoG fun v σ H Q ⟨w, st, d, ρ', hσ, E, r, h, q⟩ => ?_
        have h : (if es.any isStar = true then none else (match d with
      | .tuple ds => if ds.length = es.length then asgs n C es ds w.ρ else none
      | .list ds => if ds.length = es.length then asgs n C es ds w.ρ else none
      | _ => none)) = some ρ' := h
        rw [if_neg hs] at h
        cases d with
        | tuple ds =>
          simp only at h
          split at h
          · rename_i hl
            obtain ⟨a, vs, rfl, ha, hr, _⟩ := rpB.tuple (.inl r)
            exact .inl ⟨a, vs, rfl, ha, by rw [RpAll.len hr, hl], w, st, ds, ρ', hσ, E, hr, h, q⟩
          · cases h
        | list ds =>
          simp only at h
          split at h
          · rename_i hl
            obtain ⟨a, vs, rfl, ha, hr⟩ := rpB.list (.inl r)
            exact .inr ⟨a, vs, rfl, .inl ha, by rw [RpAll.len hr, hl], w, st, ds, ρ', hσ, E, hr, h, q⟩
          · cases h
        | _ => cases h
      · refine PG.void fun v σ H Q ⟨w, st, d, ρ', _, _, _, h, _⟩ => ?_
        cases e <;> first | (exact hn ⟨_, _, rfl⟩) | (exact ht ⟨_, _, _, rfl⟩) | (cases h)
    · cases es with
      | nil =>
        refine pgs_nil.monoG fun v σ H Q ⟨w, st, ds, ρ', hσ, E, r, h, q⟩ => ?_
        cases ds with
        | nil =>
          cases r
          cases h
          subst hσ
          exact ⟨rfl, q w.σ E Same.rfl' OwnK.rfl'⟩
        | cons _ _ => cases h
      | cons e es =>
        have hs2 : isStar e = false ∧ es.any isStar = false := by simpa using hs
        refine (pgs_cons (ih1 e) (ih2 es hs2.2) (each_cons hs2.1).1).monoG fun v σ H Q ⟨w, st, ds, ρ', hσ, E, r, h, q⟩ => ?_
        cases ds with
        | nil => cases h
        | cons d ds =>
          cases r with
          | cons r1 r2 =>
            have h : (asg n C e d w.ρ).bind (fun ρ1 => asgs n C es ds ρ1) = some ρ' := h
            rw [Option.bind_eq_some_iff] at h
            obtain ⟨ρ1, h1, h2⟩ := h
            refine ⟨_, _, rfl, w, st, d, ρ1, hσ, E, r1, h1, fun σ1 E1 s1 o1 => ?_⟩
            exact ⟨_, st, ds, ρ', rfl, E1, r2, h2, fun σ2 E2 s2 o2 => q σ2 E2 (s1.tr s2) (o1.tr o2)⟩
end
end DI
end
section
set_option linter.all false
set_option autoImplicit false
set_option maxRecDepth 100000
/-! D13: list comprehensions. -/
namespace DI
open PySem PySem.Spec L2
open PyProof.Rows hiding St
open Classical in
/-- the heap without D -/
noncomputable def ers (D : Addr) (H : Hp) : Hp := fun a => if a = D then none else H a
theorem ers_ne {D a : Addr} {H : Hp} (h : a ≠ D) : ers D H a = H a := by unfold ers; rw [if_neg h]
theorem ers_eq {D : Addr} {H : Hp} : ers D H D = none := by unfold ers; rw [if_pos rfl]
theorem ers_in {D a : Addr} {H : Hp} {o : HO} (h : ers D H a = some o) : a ≠ D ∧ H a = some o := by
  by_cases e : a = D
  · subst e; rw [ers_eq] at h; cases h
  · rw [ers_ne e] at h; exact ⟨e, h⟩
theorem ers_upd {D : Addr} {H : Hp} {o : HO} (h : H D = none) : ers D (upd H D o) = H := by
  funext a
  by_cases e : a = D
  · subst e; rw [ers_eq, h]
  · rw [ers_ne e, upd_ne e]
theorem ers_upd2 {D : Addr} {H : Hp} {o : HO} : ers D (upd H D o) = ers D H := by
  funext a
  by_cases e : a = D
  · subst e; rw [ers_eq, ers_eq]
  · rw [ers_ne e, ers_ne e, upd_ne e]
theorem upd_ers {D : Addr} {H : Hp} {o : HO} (h : H D = some o) : H = upd (ers D H) D o := by
  funext a
  by_cases e : a = D
  · subst e; rw [h, upd_same]
  · rw [upd_ne e, ers_ne e]
def hid2 (Hid : Addr → Prop) (D : Addr) : Addr → Prop := fun a => Hid a ∨ a = D
theorem hide_ers (Hid : Addr → Prop) (D : Addr) (H : Hp) : hide (hid2 Hid D) H = hide Hid (ers D H) := by
  funext a
  by_cases e : a = D
  · subst e
    have h1 : hide (hid2 Hid a) H a = none := by unfold hide; exact if_pos (Or.inr rfl)
    rw [h1]
    unfold hide
    split
    · rfl
    · rw [ers_eq]
  · unfold hide hid2
    by_cases h : Hid a
    · rw [if_pos (Or.inl h), if_pos h]
    · rw [if_neg (fun z => z.elim h e), if_neg h, ers_ne e]
/-- the world of a block: its new list is hidden, its own names are forgotten -/
def Wd.blk (w : Wd) (D : Addr) (vs : List Nat) : Wd := ⟨hid2 w.Hid D, w.p, wipe w.σ vs, wipeE w.ρ vs, w.H0⟩
theorem wipeE_some {ρ : DI.Env} {i : Nat} {x : SV} : ∀ {vs : List Nat}, (wipeE ρ vs)[i]? = some (some x) → ρ[i]? = some (some x) ∧ i ∉ vs
  | [], h => ⟨h, by simp⟩
  | v :: vs, h => by
    unfold wipeE at h
    by_cases hi : v = i
    · subst hi
      by_cases hv : v < (wipeE ρ vs).length
      · rw [List.getElem?_set_self hv] at h; cases h
      · rw [List.getElem?_eq_none (by simpa using hv)] at h; cases h
    · rw [List.getElem?_set_ne hi] at h
      obtain ⟨h1, h2⟩ := wipeE_some h
      exact ⟨h1, by simp only [List.mem_cons, not_or]; exact ⟨fun e => hi e.symm, h2⟩⟩
theorem wipeE_length (ρ : DI.Env) : ∀ vs : List Nat, (wipeE ρ vs).length = ρ.length
  | [] => rfl
  | v :: vs => by unfold wipeE; rw [List.length_set, wipeE_length ρ vs]
theorem wipe_keep {σ : L2.St} {i : Nat} : ∀ {vs : List Nat}, i ∉ vs → (wipe σ vs)[i]? = σ[i]?
  | [], _ => rfl
  | v :: vs, h => by
    unfold wipe
    rw [List.getElem?_set_ne (by intro e; subst e; exact h List.mem_cons_self)]
    exact wipe_keep fun z => h (List.mem_cons_of_mem _ z)
theorem wipe_in {σ : L2.St} {i : Nat} : ∀ {vs : List Nat}, i ∈ vs → i < σ.length → (wipe σ vs)[i]? = some none
  | [], h, _ => by cases h
  | v :: vs, h, hl => by
    unfold wipe
    by_cases e : v = i
    · subst e
      rw [List.getElem?_set_self (by rw [wipe_length]; exact hl)]
    · rw [List.getElem?_set_ne e]
      exact wipe_in (by rcases List.mem_cons.mp h with z | z; exact absurd z.symm e; exact z) hl
theorem wipe_same {S : List Nat} {σ σ' : L2.St} {vs : List Nat} (s : Same S (wipe σ vs) σ') (h : ∀ i ∈ S, i ∈ vs) : wipe σ' vs = wipe σ vs := by
  have hl : σ'.length = σ.length := by rw [s.1, wipe_length]
  refine List.ext_getElem? fun i => ?_
  by_cases hi : i ∈ vs
  · by_cases hL : i < σ.length
    · rw [wipe_in hi (by rw [hl]; exact hL), wipe_in hi hL]
    · rw [List.getElem?_eq_none (by rw [wipe_length, hl]; omega), List.getElem?_eq_none (by rw [wipe_length]; omega)]
  · rw [wipe_keep hi, wipe_keep hi, s.2 i fun z => hi (h i z), wipe_keep hi]
section
variable {g : Gd} {w : Wd} {H H' : Hp} {st st' : Stt} {D : Addr} {vs : List Nat}
theorem Evo.ers {p : Option Addr} (e : Evo p H H') : Evo p (ers D H) (ers D H') := ⟨fun b o n h t => by
  obtain ⟨h1, h2⟩ := ers_in h
  rw [ers_ne h1]
  exact e.kp b o n h2 t, fun b h => by
  by_cases z : b = D
  · subst z; exact absurd ers_eq h
  · rw [ers_ne z] at h ⊢; exact e.dom b h⟩
theorem StRep.ers {K : PySem.W.Frag} {Hid : Addr → Prop} {p : Option Addr} (hp : p ≠ some D) : StRep K (hid2 Hid D) p H st ↔ StRep K Hid p (DI.ers D H) st := by
  unfold StRep
  rw [hide_ers]
  cases p with
  | none => exact Iff.rfl
  | some a =>
    have ha : a ≠ D := fun e => hp (by rw [e])
    simp only
    rw [ers_ne ha]
    constructor
    · rintro ⟨h1, h2⟩
      exact ⟨h1.elim id fun e => absurd e ha, h2⟩
    · rintro ⟨h1, h2⟩
      exact ⟨.inl h1, h2⟩
theorem Tabs.ers {T : List (Addr × Str)} (hD : ∀ ps, H D ≠ some (.tbl ps)) (hC : ∀ q, H D ≠ some (LamX.CodeO D q)) : LamX.Tabs T H ↔ LamX.Tabs T (DI.ers D H) := by
  constructor
  · intro h p hp
    obtain ⟨ps, h1, h2, h3⟩ := h p hp
    have e : p.1 ≠ D := fun e => hD ps (e ▸ h1)
    refine ⟨ps, by rw [ers_ne e]; exact h1, h2, fun pos cv hc => ?_⟩
    obtain ⟨c, e1, e2⟩ := h3 pos cv hc
    refine ⟨c, e1, ?_⟩
    rw [ers_ne fun z => hC p.2 (by rw [z] at e2; exact e2)]
    exact e2
  · intro h p hp
    obtain ⟨ps, h1, h2, h3⟩ := h p hp
    refine ⟨ps, (ers_in h1).2, h2, fun pos cv hc => ?_⟩
    obtain ⟨c, e1, e2⟩ := h3 pos cv hc
    exact ⟨c, e1, (ers_in e2).2⟩
/-- neither a table nor a code object -/
def Pln (o : HO) : Prop := (∀ ps, o ≠ .tbl ps) ∧ ∀ c q, o ≠ LamX.CodeO c q
theorem pln_lst {acc : List V} : Pln (.lst acc) := ⟨fun _ z => (by cases z), fun _ _ z => (by cases z)⟩
theorem pln_dK {kvs : List (Key × V)} : Pln (.dK kvs) := ⟨fun _ z => (by cases z), fun _ _ z => (by cases z)⟩
theorem lst_tabs {T : List (Addr × Str)} {o : HO} (pl : Pln o) (hD : H D = some o) : LamX.Tabs T H ↔ LamX.Tabs T (DI.ers D H) := Tabs.ers (fun ps z => by rw [hD] at z; exact pl.1 ps (Option.some.inj z)) (fun q z => by rw [hD] at z; exact pl.2 D q (Option.some.inj z))
/-- into the block -/
theorem ERep.blkO (E : ERep g w (ers D H) st) {ob : HO} (pl : Pln ob) (hD : H D = some ob) (nD : ¬ w.Hid D) : ERep g (w.blk D vs) H st := by
  have np : w.p ≠ some D := fun e => nD (E.stt.hid D e)
  refine ⟨by show (wipeE w.ρ vs).length = (wipe w.σ vs).length; rw [wipe_length, wipeE_length]; exact E.len, fun i sv h => ?_, fun i j ds es a h1 h2 h3 h4 => ?_, (StRep.ers np).mpr E.stt, (lst_tabs pl hD).mpr E.tabs, fun a h => ?_, fun a h => ?_⟩
  · obtain ⟨h1, h2⟩ := wipeE_some (show (wipeE w.ρ vs)[i]? = _ from h)
    obtain ⟨v, a, b⟩ := E.slot i sv h1
    refine ⟨v, (wipe_keep h2).trans a, ?_⟩
    cases sv with
    | sh d => show Rp g.K (hide (hid2 w.Hid D) H) v d; rw [hide_ers]; exact b
    | ow ds =>
      obtain ⟨x, us, q1, q2, q3, q4, q5⟩ := b
      refine ⟨x, us, q1, .inl q2, q3, (ers_in q4).2, ?_⟩
      show RpO g.K (hide (hid2 w.Hid D) H) us ds
      rw [hide_ers]
      exact q5
    | ln d =>
      show LRep g.K (hid2 w.Hid D) w.p H v d
      rcases b with b | ⟨x, us, q1, q2, q3, q4, q5⟩
      · exact .inl (by rw [hide_ers]; exact b)
      · exact .inr ⟨x, us, q1, .inl q2, q3, (ers_in q4).2, by rw [hide_ers]; exact q5⟩
    | stt => exact b
  · exact E.own i j ds es a (wipeE_some (show (wipeE w.ρ vs)[i]? = _ from h1)).1 (wipeE_some (show (wipeE w.ρ vs)[j]? = _ from h2)).1 (wipe_some (show (wipe w.σ vs)[i]? = _ from h3)).1 (wipe_some (show (wipe w.σ vs)[j]? = _ from h4)).1
  · rcases (show w.Hid a ∨ a = D from h) with h | h
    · intro z
      refine E.dom a h ?_
      unfold DI.ers
      split
      · rfl
      · exact z
    · subst h; rw [hD]; simp
  · intro z
    refine E.old a h ?_
    unfold DI.ers
    split
    · rfl
    · exact z
theorem ERep.blk (E : ERep g w (ers D H) st) {acc : List V} (hD : H D = some (.lst acc)) (nD : ¬ w.Hid D) : ERep g (w.blk D vs) H st := E.blkO pln_lst hD nD
/-- out of it -/
theorem ERep.unblk {σ' : L2.St} {ρ' : DI.Env} (E : ERep g w (ers D H) st) {H0' : Hp} (E' : ERep g ⟨hid2 w.Hid D, w.p, σ', ρ', H0'⟩ H' st') (nD : ¬ w.Hid D) {o : HO} (pl : Pln o) (hD' : H' D = some o) (e : Evo w.p (ers D H) (ers D H')) : ERep g w (ers D H') st' := by
  have np : w.p ≠ some D := fun z => nD (E.stt.hid D z)
  exact E.evo e ((StRep.ers np).mp E'.stt) ((lst_tabs pl hD').mp E'.tabs)
end
theorem compM_ok {f : D → M (Option D)} (hf : ∀ x st, (f x st) = (f x st).noErr) : ∀ (xs : List D) (st : Stt), compM f xs st = .stuck ∨ ∃ ys st', compM f xs st = .ok ys st'
  | [], st => .inr ⟨[], st, rfl⟩
  | x :: xs, st => by
    have h := hf x st
    show R.next (f x st) _ = _ ∨ ∃ ys st', R.next (f x st) _ = _
    cases hx : f x st with
    | ok o st1 =>
      show R.next (compM f xs st1) _ = _ ∨ ∃ ys st', R.next (compM f xs st1) _ = _
      rcases compM_ok hf xs st1 with z | ⟨ys, st', z⟩
      · rw [z]; exact .inl rfl
      · rw [z]; exact .inr ⟨_, _, rfl⟩
    | err e st1 => rw [hx] at h; cases h
    | stuck => exact .inl rfl
/-- one more -/
theorem compM_cons {f : D → M (Option D)} {x : D} {xs ys : List D} {st st' : Stt} (h : compM f (x :: xs) st = .ok ys st') : ∃ o st1 r, f x st = .ok o st1 ∧ compM f xs st1 = .ok r st' ∧ ys = (match o with | some y => y :: r | none => r) := by
  have h : R.next (f x st) _ = _ := h
  cases hx : f x st with
  | ok o st1 =>
    rw [hx] at h
    have h : R.next (compM f xs st1) _ = _ := h
    cases hy : compM f xs st1 with
    | ok r st2 =>
      rw [hy] at h
      cases o with
      | none => cases h; exact ⟨none, st1, _, rfl, hy, rfl⟩
      | some y => cases h; exact ⟨some y, st1, r, rfl, hy, rfl⟩
    | err e st2 => rw [hy] at h; cases h
    | stuck => rw [hy] at h; cases h
  | err e st1 => rw [hx] at h; cases h
  | stuck => rw [hx] at h; cases h

section
variable {T : List (Addr × Str)} {W : EW} {X : Cx} {C : Ctx} {k n : Nat}
/-- a turn -/
def compFv (n : Nat) (C : Ctx) (vs : List Nat) (tg elt : Expr) (ifs : List Expr) (scope : Scope) (ρ : DI.Env) (x : D) : M (Option D) := fun st => (match asg n (C.into scope) tg x (wipeE ρ vs) with
          | some ρ' => (bnd (evIfs n (C.into (relSc scope C.sc)) ifs ρ') fun b => if b = true then bnd (evE n (C.into (relSc scope C.sc)) elt ρ') fun y => ret (some y) else ret none) st
          | none => R.stuck).noErr
abbrev compF (n : Nat) (C : Ctx) (tg elt : Expr) (ifs : List Expr) (scope : Scope) (ρ : DI.Env) (x : D) : M (Option D) := compFv n C (ownIx C.N scope) tg elt ifs scope ρ x
theorem noErr_id {α : Type} (r : R α) : r.noErr = r.noErr.noErr := by cases r <;> rfl
theorem compF_ok {vs : List Nat} {tg elt : Expr} {ifs : List Expr} {scope : Scope} {ρ : DI.Env} {x : D} {st st' : Stt} {o : Option D} (h : compFv n C vs tg elt ifs scope ρ x st = .ok o st') :
    ∃ ρ', asg n (C.into scope) tg x (wipeE ρ vs) = some ρ' ∧ ∃ b st1, evIfs n (C.into (relSc scope C.sc)) ifs ρ' st = .ok b st1 ∧
      ((b = false ∧ o = none ∧ st' = st1) ∨ (b = true ∧ ∃ y, evE n (C.into (relSc scope C.sc)) elt ρ' st1 = .ok y st' ∧ o = some y)) := by
  unfold compFv at h
  cases ha : asg n (C.into scope) tg x (wipeE ρ vs) with
  | none => rw [ha] at h; cases h
  | some ρ' =>
    rw [ha] at h
    simp only at h
    refine ⟨ρ', rfl, ?_⟩
    cases hi : evIfs n (C.into (relSc scope C.sc)) ifs ρ' st with
    | ok b st1 =>
      refine ⟨b, st1, rfl, ?_⟩
      have h : R.noErr ((if b = true then bnd (evE n (C.into (relSc scope C.sc)) elt ρ') fun y => ret (some y) else ret none) st1) = R.ok o st' := by
        have z : bnd (evIfs n (C.into (relSc scope C.sc)) ifs ρ') (fun b => if b = true then bnd (evE n (C.into (relSc scope C.sc)) elt ρ') fun y => ret (some y) else ret none) st = (if b = true then bnd (evE n (C.into (relSc scope C.sc)) elt ρ') fun y => ret (some y) else ret none) st1 := by
          show R.next _ _ = _
          rw [hi]
          rfl
        rw [← z]
        exact h
      cases b with
      | false => cases h; exact .inl ⟨rfl, rfl, rfl⟩
      | true =>
        refine .inr ⟨rfl, ?_⟩
        have h : R.noErr (R.next (evE n (C.into (relSc scope C.sc)) elt ρ' st1) fun y => ret (some y)) = R.ok o st' := h
        cases hy : evE n (C.into (relSc scope C.sc)) elt ρ' st1 with
        | ok y st2 => rw [hy] at h; cases h; exact ⟨y, rfl, rfl⟩
        | err e st2 => rw [hy] at h; cases h
        | stuck => rw [hy] at h; cases h
    | err e st1 =>
      exfalso
      have z : bnd (evIfs n (C.into (relSc scope C.sc)) ifs ρ') (fun b => if b = true then bnd (evE n (C.into (relSc scope C.sc)) elt ρ') fun y => ret (some y) else ret none) st = .err e st1 := by
        show R.next _ _ = _
        rw [hi]
        rfl
      rw [z] at h
      cases h
    | stuck =>
      exfalso
      have z : bnd (evIfs n (C.into (relSc scope C.sc)) ifs ρ') (fun b => if b = true then bnd (evE n (C.into (relSc scope C.sc)) elt ρ') fun y => ret (some y) else ret none) st = .stuck := by
        show R.next _ _ = _
        rw [hi]
        rfl
      rw [z] at h
      cases h
/-- the block's context -/
theorem blk_good (G : Good T W X C k) (scope : Scope) (s : Shared) (H : Hp) (A : Addr) (cl : List (Str × Addr)) (fp : List Addr) : Good T (fun _ _ => False) (X.blk s H scope (compEnvC scope cl A X.env) fp) (C.into (relSc scope C.sc)) k :=
  ⟨G.N, by rw [← G.sc]; rfl, G.nd, G.calm, fun u s' ⟨a, B, sI, pins, σ, H, cls, d, e, I, nb, up, sky, na, os, ag, w⟩ => w.elim fun _ z => z.2.2.elim, G.gd, G.room, fun h => ⟨(G.told h).home, (G.told h).fn⟩, G.con, G.bi, G.fn⟩
theorem blk_tg (G : Good T W X C k) (scope : Scope) (s : Shared) (H : Hp) (A : Addr) (cl : List (Str × Addr)) (fp : List Addr) : TgOk (X.blk s H scope (compEnvC scope cl A X.env) fp) (C.into scope).sc := by
  intro x hx
  have hx : locB scope x = true := hx
  have keep : ∀ k, k ≠ .free → scope.names.lookup x = some k → (relS scope X.env.scope).names.lookup x = some k := fun k h1 h2 => lookup_relS_keep h1 h2
  unfold locB at hx
  split at hx
  · rename_i e
    exact ⟨.inl (keep _ (by simp) e), .inr (keep _ (by simp) e)⟩
  · rename_i e
    refine ⟨.inr (keep _ (by simp) e), .inl ?_⟩
    show (scope.names.lookup x == some .cell) = true
    rw [e]
    rfl
  · cases hx
theorem own_mem {C : Ctx} {scope : Scope} {x : Str} {i : Nat} (h : locB (C.into scope).sc x = true) (hi : ixOf (C.into scope).N x = some i) : i ∈ (ownOf C.N scope).map (·.2) := by
  have h : locB scope x = true := h
  have hi : ixOf C.N x = some i := hi
  unfold locB at h
  have hm : (x, i) ∈ ownOf C.N scope := by
    unfold ownOf
    rw [List.mem_filterMap]
    split at h
    · rename_i e
      exact ⟨(x, .local), PySem.mem_of_lookup e, by simp [hi]⟩
    · rename_i e
      exact ⟨(x, .cell), PySem.mem_of_lookup e, by simp [hi]⟩
    · cases h
  exact List.mem_map.mpr ⟨_, hm, rfl⟩
mutual
theorem tgIx_loc : ∀ (n : Nat) (C : Ctx) (e : Expr) (i : Nat), i ∈ tgIx n C e → ∃ x, locB C.sc x = true ∧ ixOf C.N x = some i
  | 0, _, _, _, h => by cases h
  | n + 1, C, e, i, h => by
    cases e with
    | Name x _ =>
      have h : i ∈ (if locB C.sc x = true then (ixOf C.N x).toList else []) := h
      split at h
      · rename_i hx
        exact ⟨x, hx, by simpa using h⟩
      · cases h
    | Tuple es _ _ => exact tgIxs_loc n C es i h
    | _ => cases h
theorem tgIxs_loc : ∀ (n : Nat) (C : Ctx) (es : List Expr) (i : Nat), i ∈ tgIxs n C es → ∃ x, locB C.sc x = true ∧ ixOf C.N x = some i
  | 0, _, _, _, h => by cases h
  | n + 1, C, [], _, h => by cases h
  | n + 1, C, e :: es, i, h => by
    have h : i ∈ tgIx n C e ++ tgIxs n C es := h
    rcases List.mem_append.mp h with h | h
    · exact tgIx_loc n C e i h
    · exact tgIxs_loc n C es i h
end
theorem tg_own {n : Nat} {C : Ctx} {scope : Scope} {e : Expr} : ∀ i ∈ tgIx n (C.into scope) e, i ∈ ownIx C.N scope := fun i h => by
  obtain ⟨x, h1, h2⟩ := tgIx_loc n (C.into scope) e i h
  exact own_mem h1 h2
theorem ownIx_eq {N : List Str} {scope : Scope} : (ownOf N scope).map (·.2) = ownIx N scope := rfl
theorem folded_no {e : Expr} {env : PySem.Env} (h : isSetE e = false) : ∀ x, foldedSetIterable e env x = pure x := by
  intro x
  cases e <;> first | rfl | cases h
theorem comp_t (ih : Snd T n) (G : Good T W X C k) (elt tg iter : Expr) (ifs : List Expr) (scope : Scope) {σ : L2.St} {H : Hp} {Q : VK}
    (h : tD (gX X T) W (rpF (gX X T)) (fun ρ => guardM (blkC C.N C.sc scope (ownOf C.N scope) && !isSetE iter) (bnd (evI n C true (isTup tg) iter ρ) fun xs => guardM (fits xs.length) (bnd (compM (compF n C tg elt ifs scope ρ) xs) fun ds => ret (.list ds)))) σ H Q) :
    tLc (tD (gX X T) W (rpI (gX X T) (hd true)) (evI n C true (isTup tg) iter)) (gD (gX X T) n (C.into scope) tg) (tD (gX X T) (fun _ _ => False) rpT (evIfs n (C.into (relSc scope C.sc)) ifs)) (tD (gX X T) (fun _ _ => False) (rpD (gX X T)) (evE n (C.into (relSc scope C.sc)) elt)) ((ownOf C.N scope).map (·.2)) σ H Q := by
  obtain ⟨w, st, hσ, E, h'⟩ := (tD.grd h).2
  clear h
  subst hσ
  refine ⟨w, st, rfl, E, Post.bind (rq := rpF _ w) h' fun xs st1 J H1 e1 E1 r1 h1 => ?_⟩
  obtain ⟨hf, h1⟩ := Post.grd h1
  have hf := fits_le hf
  intro D hD
  have nD : ¬ w.Hid D := fun z => E1.dom D z hD
  have hrun : ∃ all stF, compM (compF n C tg elt ifs scope w.ρ) xs st1 = .ok all stF := by
    rcases compM_ok (f := compF n C tg elt ifs scope w.ρ) (fun x st => noErr_id _) xs st1 with z | z
    · have h1 : Post (gX X T) W w (rpF (gX X T) w) H1 (R.next (compM (compF n C tg elt ifs scope w.ρ) xs st1) fun ds => ret (.list ds)) Q := h1
      rw [z] at h1
      exact h1.elim
    · exact z
  obtain ⟨all, stF, hrun⟩ := hrun
  have h1 : Post (gX X T) W w (rpF (gX X T) w) H1 (R.next (compM (compF n C tg elt ifs scope w.ρ) xs st1) fun ds => ret (.list ds)) Q := h1
  rw [hrun] at h1
  let Pv : Nat → Hp → Prop := fun i H => ∃ (st : Stt) (acc : List V) (da rest : List DI.D), H D = some (.lst acc) ∧ Evo w.p H1 (ers D H) ∧ ERep (gX X T) w (ers D H) st ∧ RpAll X.K (hide w.Hid (ers D H)) acc da ∧ acc.length ≤ i ∧
    compM (compF n C tg elt ifs scope w.ρ) (xs.drop i) st = .ok rest stF ∧ all = da ++ rest
  refine ⟨fun i m H => m = xs.length - i ∧ i ≤ xs.length ∧ Pv i H, ⟨xs.length, by simp, Nat.zero_le _, st1, [], [], all, upd_same, ?_, ?_, .nil, Nat.le_refl _, by rw [List.drop_zero]; exact hrun, rfl⟩, ?_⟩
  · rw [ers_upd hD]; exact Evo.rfl'
  · rw [ers_upd hD]; exact E1
  rintro i m H2 ⟨rfl, hi, st2, acc, da, rest, hD2, e2, E2, ra, hl, hr, hall⟩
  have kp0 : ∀ {H3 : Hp}, Evo w.p H1 (ers D H3) → Kp (hide (hd true w) H1) H3 := fun {H3} e b o hb n => by
    obtain ⟨q1, q2⟩ := hide_in hb
    exact (ers_in (e.kp b o (fun z => q2 (by unfold hd; rw [if_pos rfl]; exact z)) q1 n)).2
  obtain ⟨go, stop⟩ := r1 H2 (kp0 e2) i
  by_cases hlt : i < xs.length
  · obtain ⟨jg, jy⟩ := go hlt
    refine .inr ⟨jg, Pv (i + 1), fun H' p' => ⟨xs.length - (i + 1), by omega, rfl, hlt, p'⟩, fun x H3 y => ?_⟩
    obtain ⟨kx, d, hd, rx⟩ := jy x H3 y
    have e3 : Evo w.p (ers D H2) (ers D H3) := (Evo.of kx).ers
    have hD3 := kx _ _ hD2
    have e13 := e2.tr e3
    have E3 : ERep (gX X T) w (ers D H3) st2 := E2.evo e3 (E2.stt.kp fun b o h => by
      obtain ⟨z1, z2⟩ := ers_in h
      rw [ers_ne z1]
      exact kx b o z2) (E2.tabs.ext fun b o h => by
      obtain ⟨z1, z2⟩ := ers_in h
      rw [ers_ne z1]
      exact kx b o z2)
    have rd : Rp X.K (hide (hid2 w.Hid D) H3) x d := rx (hid2 w.Hid D) (fun b hb => by
      rcases hb with hb | rfl
      · intro z
        exact e2.dom b (E1.dom b hb) (by unfold ers; split; rfl; exact z)
      · rw [hD2]; simp) (by rw [hide_ers]; exact E1.kph e13)
    have hdrop : xs.drop i = d :: xs.drop (i + 1) := by
      obtain ⟨hlt', e⟩ := List.getElem?_eq_some_iff.mp hd
      rw [List.drop_eq_getElem_cons hlt', e]
    rw [hdrop] at hr
    obtain ⟨o, st3, rest', hc1, hc2, hc3⟩ := compM_cons hr
    obtain ⟨ρ', ha, b, st4, hi4, hcase⟩ := compF_ok hc1
    refine ⟨w.blk D (ownIx C.N scope), st2, d, ρ', rfl, E3.blk hD3 nD, rd, ha, fun σ' E4 same _ => ⟨wipe_same same tg_own, ?_⟩⟩
    refine ⟨_, st2, rfl, E4, ?_⟩
    show Post _ _ _ _ _ (evIfs n (C.into (relSc scope C.sc)) ifs ρ' st2) _
    rw [hi4]
    intro b5 H5 e5 E5 hb5
    have hb5 : b5 = b := hb5
    subst hb5
    have hD5 : H5 D = some (.lst acc) := e5.kp D _ (fun z => nD (E1.stt.hid D z)) hD3 (by intro ps z; cases z)
    have e35 : Evo w.p (ers D H3) (ers D H5) := Evo.ers (p := w.p) e5
    have E5' : ERep (gX X T) w (ers D H5) st4 := E3.unblk E5 nD pln_lst hD5 e35
    rcases hcase with ⟨rfl, rfl, rfl⟩ | ⟨rfl, y, hy, rfl⟩
    · simp only [Bool.false_eq_true, if_false]
      simp only at hc3
      exact ⟨st3, acc, da, rest', hD5, e13.tr e35, E5', (E2.kph (e3.tr e35)).dps da acc ra, by omega, hc2, by rw [hall, hc3]⟩
    · simp only [if_true]
      simp only at hc3
      refine ⟨_, st4, rfl, E5, ?_⟩
      show Post _ _ _ _ _ (evE n (C.into (relSc scope C.sc)) elt ρ' st4) _
      rw [hy]
      intro v6 H6 e6 E6 r6
      have hD6 : H6 D = some (.lst acc) := e6.kp D _ (fun z => nD (E1.stt.hid D z)) hD5 (by intro ps z; cases z)
      have e56 : Evo w.p (ers D H5) (ers D H6) := Evo.ers (p := w.p) e6
      have E6' : ERep (gX X T) w (ers D H6) st3 := E5'.unblk E6 nD pln_lst hD6 e56
      have r6 : Rp X.K (hide (hid2 w.Hid D) H6) v6 y := r6
      rw [hide_ers] at r6
      refine ⟨acc, hD6, by omega, st3, acc ++ [v6], da ++ [y], rest', upd_same, ?_, ?_, ?_, by simp; omega, hc2, by rw [hall, hc3]; simp⟩
      · rw [ers_upd2]; exact (e13.tr e35).tr e56
      · rw [ers_upd2]; exact E6'
      · rw [ers_upd2]
        exact RpAll.app ((E2.kph ((e3.tr e35).tr e56)).dps da acc ra) (.cons r6 .nil)
  · have e : i = xs.length := by omega
    subst e
    refine .inl ⟨stop rfl, ?_⟩
    rw [List.drop_length] at hr
    cases hr
    rw [List.append_nil] at hall
    subst hall
    refine h1 _ H2 ⟨fun b o n h t => (ers_in (e2.kp b o n h t)).2, fun b h => ?_⟩ (E2.kp fun b o h => (ers_in h).2) ⟨D, .lst acc, ers D H2, stF, rfl, ers_eq, upd_ers hD2, E2, E2.kp fun b o h => (ers_in h).2, .lst ra⟩
    have z := e2.dom b h
    cases q : ers D H2 b with
    | none => exact absurd q z
    | some o => rw [(ers_in q).2]; simp
theorem blk_ok (G : Good T W X C k) {scope : Scope} {iter : Expr} (hb : (blkC C.N C.sc scope (ownOf C.N scope) && !isSetE iter) = true) : BlkOk X.N X.env.scope scope (ownOf C.N scope) ∧ isSetE iter = false := by
  refine ⟨?_, by simpa using (Bool.and_eq_true_iff.mp hb).2⟩
  rw [G.N, G.sc]
  exact blkOk_by (Bool.and_eq_true_iff.mp hb).1
theorem f_comp (ih : Snd T n) (G : Good T W X C k) (elt tg iter : Expr) (ifs : List Expr) (scope : Scope) (pos : Pos) :
    PE X (.ListComp elt [⟨tg, iter, ifs, 0⟩] scope pos) (tD (gX X T) W (rpF (gX X T)) fun ρ => guardM (blkC C.N C.sc scope (ownOf C.N scope) && !isSetE iter) (bnd (evI n C true (isTup tg) iter ρ) fun xs => guardM (fits xs.length) (bnd (compM (compF n C tg elt ifs scope ρ) xs) fun ds => ret (.list ds)))) := by
  by_cases hb : (blkC C.N C.sc scope (ownOf C.N scope) && !isSetE iter) = true
  case neg =>
    refine PE.void (tD.stuck fun ρ st => ?_)
    unfold guardM
    rw [if_neg hb]
  obtain ⟨ok, hset⟩ := blk_ok G hb
  exact (pe_lc (g := gD (gX X T) n (C.into scope) tg) (tt := tD (gX X T) (fun _ _ => False) rpT (evIfs n (C.into (relSc scope C.sc)) ifs)) (te := tD (gX X T) (fun _ _ => False) (rpD (gX X T)) (evE n (C.into (relSc scope C.sc)) elt)) G.calm G.nd (ih.I G true tg iter) ok (fun s H A cl fp => (asg_ok (X := X.blk s H scope (compEnvC scope cl A X.env) fp) (T := T) (C := C.into scope) G.calm G.N.symm G.nd (blk_tg G scope s H A cl fp) n).1 tg)
    (fun s H A cl fp => ih.If (blk_good G scope s H A cl fp) ifs) (fun s H A cl fp => ih.E (blk_good G scope s H A cl fp) elt) (folded_no hset)).mono fun σ H Q h => comp_t ih G elt tg iter ifs scope h
/-- name = [..], as it is written in one line or not -/
theorem set_comp (ih : Snd T n) (G : Good T W X C k) (tgo : TgOk X C.sc) (elt tg iter : Expr) (ifs : List Expr) (scope : Scope) (pos spos py : Pos) (y : Str) (i : Nat) (hi : ixOf C.N y = some i) (hy : locB C.sc y = true) :
    PS X (.Assign [.Name y py] (.ListComp elt [⟨tg, iter, ifs, 0⟩] scope pos) spos) (tAsg (tD (gX X T) W (rpF (gX X T)) fun ρ => guardM (blkC C.N C.sc scope (ownOf C.N scope) && !isSetE iter) (bnd (evI n C true (isTup tg) iter ρ) fun xs => guardM (fits xs.length) (bnd (compM (compF n C tg elt ifs scope ρ) xs) fun ds => ret (.list ds)))) (gName i)) := by
  by_cases hb : (blkC C.N C.sc scope (ownOf C.N scope) && !isSetE iter) = true
  case neg =>
    refine ⟨fun pins s σ H D I h => ?_⟩
    exact (tD.stuck (fun ρ st => by unfold guardM; rw [if_neg hb]) σ H _ h).elim
  obtain ⟨ok, hset⟩ := blk_ok G hb
  have hN : X.N[i]? = some y := by rw [G.N]; exact ixOf_get hi
  cases hw : (X.env.blockKind == .function && X.env.kindOf y == some .local && py.line == pos.line && !(scope.names.any fun (n, k) => n == y && (k == .local || k == .cell))) with
  | false => exact ps_set G.nd hN (tgo y hy).1 (f_comp ih G elt tg iter ifs scope pos) (by show (pure _ : Sem Bool) = pure false; rw [show (X.env.blockKind == .function && X.env.kindOf y == some .local && py.line == (Expr.ListComp elt [⟨tg, iter, ifs, 0⟩] scope pos).pos.line && !(scope.names.any fun (n, k) => n == y && (k == .local || k == .cell))) = false from hw]) (tgo y hy).2
  | true =>
    have hl : X.env.scope.names.lookup y = some .local := by
      simp only [Bool.and_eq_true, beq_iff_eq] at hw
      exact hw.1.1.2
    have h := ps_setLc (spos := spos) (py := py) (g := gD (gX X T) n (C.into scope) tg) (tt := tD (gX X T) (fun _ _ => False) rpT (evIfs n (C.into (relSc scope C.sc)) ifs)) (te := tD (gX X T) (fun _ _ => False) (rpD (gX X T)) (evE n (C.into (relSc scope C.sc)) elt)) (pos := pos) G.calm G.nd hN hl
      (by show (pure _ : Sem Bool) = pure true; rw [show (X.env.blockKind == .function && X.env.kindOf y == some .local && py.line == (Expr.ListComp elt [⟨tg, iter, ifs, 0⟩] scope pos).pos.line && !(scope.names.any fun (n, k) => n == y && (k == .local || k == .cell))) = true from hw])
      (ih.I G true tg iter) ok (fun s H A cl fp => (asg_ok (X := X.blk s H scope (compEnvC scope cl A X.env) fp) (T := T) (C := C.into scope) G.calm G.N.symm G.nd (blk_tg G scope s H A cl fp) n).1 tg)
      (fun s H A cl fp => ih.If (blk_good G scope s H A cl fp) ifs) (fun s H A cl fp => ih.E (blk_good G scope s H A cl fp) elt) (folded_no hset)
    exact ⟨fun pins s σ H D I q => h.run pins s σ H D I (comp_t ih G elt tg iter ifs scope q)⟩
end
end DI
end
section
set_option linter.all false
set_option autoImplicit false
set_option maxRecDepth 100000
set_option maxHeartbeats 1000000
/-! D13b: comprehensions of two clauses; displays of dicts. -/
namespace DI
open PySem PySem.Spec L2
open PyProof.Rows hiding St
theorem compLM_ok {f : D → M (List D)} (hf : ∀ x st, (f x st) = (f x st).noErr) : ∀ (xs : List D) (st : Stt), compLM f xs st = .stuck ∨ ∃ ys st', compLM f xs st = .ok ys st'
  | [], st => .inr ⟨[], st, rfl⟩
  | x :: xs, st => by
    have h := hf x st
    show R.next (f x st) _ = _ ∨ ∃ ys st', R.next (f x st) _ = _
    cases hx : f x st with
    | ok o st1 =>
      show R.next (compLM f xs st1) _ = _ ∨ ∃ ys st', R.next (compLM f xs st1) _ = _
      rcases compLM_ok hf xs st1 with z | ⟨ys, st', z⟩
      · rw [z]; exact .inl rfl
      · rw [z]; exact .inr ⟨_, _, rfl⟩
    | err e st1 => rw [hx] at h; cases h
    | stuck => exact .inl rfl
theorem compLM_cons {f : D → M (List D)} {x : D} {xs ys : List D} {st st' : Stt} (h : compLM f (x :: xs) st = .ok ys st') : ∃ o st1 r, f x st = .ok o st1 ∧ compLM f xs st1 = .ok r st' ∧ ys = o ++ r := by
  have h : R.next (f x st) _ = _ := h
  cases hx : f x st with
  | ok o st1 =>
    rw [hx] at h
    have h : R.next (compLM f xs st1) _ = _ := h
    cases hy : compLM f xs st1 with
    | ok r st2 =>
      rw [hy] at h
      cases h
      exact ⟨o, st1, r, rfl, hy, rfl⟩
    | err e st2 => rw [hy] at h; cases h
    | stuck => rw [hy] at h; cases h
  | err e st1 => rw [hx] at h; cases h
  | stuck => rw [hx] at h; cases h
section
variable {T : List (Addr × Str)} {W : EW} {X : Cx} {C : Ctx} {k n : Nat}
/-- a turn of the first clause -/
def compG (n : Nat) (C : Ctx) (tg tg1 iter1 elt : Expr) (ifs ifs1 : List Expr) (scope : Scope) (ρ : DI.Env) (x : D) : M (List D) := fun st => (match asg n (C.into scope) tg x (wipeE ρ (ownIx C.N scope)) with
          | some ρ' => (bnd (evIfs n (C.into (relSc scope C.sc)) ifs ρ') fun b => if b = true then bnd (evI n (C.into (relSc scope C.sc)) false (isTup tg1) iter1 ρ') fun ys =>
              compM (compFv n C (tgIx n (C.into scope) tg1) tg1 elt ifs1 scope ρ') ys else ret []) st
          | none => R.stuck).noErr
theorem noErr_ok {α : Type} {r : R α} {a : α} {st : Stt} (h : r.noErr = .ok a st) : r = .ok a st := by
  cases r <;> first | exact h | cases h
theorem next_ok {α β : Type} {r : R α} {f : α → M β} {b : β} {st : Stt} (h : r.next f = .ok b st) : ∃ a st1, r = .ok a st1 ∧ f a st1 = .ok b st := by
  cases r with
  | ok a st1 => exact ⟨a, st1, rfl, h⟩
  | err e st1 => cases h
  | stuck => cases h
theorem compG_ok {tg tg1 iter1 elt : Expr} {ifs ifs1 : List Expr} {scope : Scope} {ρ : DI.Env} {x : D} {st st' : Stt} {o : List D} (h : compG n C tg tg1 iter1 elt ifs ifs1 scope ρ x st = .ok o st') :
    ∃ ρ', asg n (C.into scope) tg x (wipeE ρ (ownIx C.N scope)) = some ρ' ∧ ∃ b st1, evIfs n (C.into (relSc scope C.sc)) ifs ρ' st = .ok b st1 ∧
      ((b = false ∧ o = [] ∧ st' = st1) ∨ (b = true ∧ ∃ ys st2, evI n (C.into (relSc scope C.sc)) false (isTup tg1) iter1 ρ' st1 = .ok ys st2 ∧ compM (compFv n C (tgIx n (C.into scope) tg1) tg1 elt ifs1 scope ρ') ys st2 = .ok o st')) := by
  unfold compG at h
  cases ha : asg n (C.into scope) tg x (wipeE ρ (ownIx C.N scope)) with
  | none => rw [ha] at h; cases h
  | some ρ' =>
    rw [ha] at h
    obtain ⟨b, st1, h1, h2⟩ := next_ok (noErr_ok h)
    refine ⟨ρ', rfl, b, st1, h1, ?_⟩
    cases b with
    | false => cases h2; exact .inl ⟨rfl, rfl, rfl⟩
    | true =>
      obtain ⟨ys, st2, h3, h4⟩ := next_ok h2
      exact .inr ⟨rfl, ys, st2, h3, h4⟩
theorem hide_upd {Hid : Addr → Prop} {H : Hp} {a : Addr} {o : HO} (h : Hid a) : hide Hid (upd H a o) = hide Hid H := by
  funext b
  unfold hide
  split
  · rfl
  · rename_i n
    exact upd_ne fun z => by subst z; exact n h
theorem rd_ers {Hid : Addr → Prop} {H : Hp} {D : Addr} {o : HO} (r : Rd (hide Hid (ers D H)) D o) : False := by
  have z : hide Hid (ers D H) D = none := by
    unfold hide
    split
    · rfl
    · exact ers_eq
  rcases r with r | ⟨u, r⟩ <;> (rw [z] at r; cases r)
/-- a hidden list changes -/
theorem ERep.redo {g : Gd} {w : Wd} {H : Hp} {st : Stt} {D : Addr} {acc acc' : List V} (E : ERep g w H st) (hid : w.Hid D) (np : w.p ≠ some D) (no : ∀ (i : Nat) (sv : SV), sv.hid = true → (∀ ds, sv ≠ .ln (.tuple ds)) → w.ρ[i]? = some (some sv) → w.σ[i]? ≠ some (some (.ref D))) (hD : H D = some (.lst acc)) : ERep g w (upd H D (.lst acc')) st := by
  refine ⟨E.len, fun i sv h => ?_, E.own, ?_, ?_, fun a h => ?_, fun a h => ?_⟩
  · obtain ⟨v, h1, h2⟩ := E.slot i sv h
    refine ⟨v, h1, ?_⟩
    cases sv with
    | sh d => show Rp _ _ _ _; rw [hide_upd hid]; exact h2
    | ow d =>
      obtain ⟨x, us, q1, q2, q3, q4, q5⟩ := h2
      have ne : x ≠ D := fun z => no i _ rfl (fun ds z => by cases z) h (by rw [h1, q1, z])
      exact ⟨x, us, q1, q2, q3, by rw [upd_ne ne]; exact q4, by rw [hide_upd hid]; exact q5⟩
    | ln d =>
      rcases h2 with h2 | ⟨x, us, q1, q2, q3, q4, q5⟩
      · exact .inl (by rw [hide_upd hid]; exact h2)
      · have ne : x ≠ D := fun z => no i _ rfl (fun ds z => by cases z; cases q5) h (by rw [h1, q1, z])
        exact .inr ⟨x, us, q1, q2, q3, by rw [upd_ne ne]; exact q4, by rw [hide_upd hid]; exact q5⟩
    | stt => exact h2
  · have s := E.stt
    unfold StRep at s ⊢
    cases hp : w.p with
    | none => rw [hp] at s; exact s
    | some q =>
      rw [hp] at s
      obtain ⟨s1, s2, us, s3, s4⟩ := s
      exact ⟨s1, s2, us, by rw [upd_ne (fun z => np (by rw [hp, z]))]; exact s3, by rw [hide_upd hid]; exact s4⟩
  · have z := (lst_tabs pln_lst hD).mp E.tabs
    rw [← ers_upd2 (o := .lst acc')] at z
    exact (lst_tabs pln_lst upd_same).mpr z
  · by_cases e : a = D
    · subst e; rw [upd_same]; simp
    · rw [upd_ne e]; exact E.dom a h
  · by_cases e : a = D
    · subst e; rw [upd_same]; simp
    · rw [upd_ne e]; exact E.old a h
/-- names are forgotten -/
def Wd.wip (w : Wd) (vs : List Nat) : Wd := { w with σ := wipe w.σ vs, ρ := wipeE w.ρ vs }
theorem ERep.wip {g : Gd} {w : Wd} {H : Hp} {st : Stt} (E : ERep g w H st) (vs : List Nat) : ERep g (w.wip vs) H st := by
  refine ⟨by show (wipeE w.ρ vs).length = (wipe w.σ vs).length; rw [wipe_length, wipeE_length]; exact E.len, fun i sv h => ?_, fun i j ds es a h1 h2 h3 h4 => ?_, E.stt, E.tabs, E.dom, E.old⟩
  · obtain ⟨h1, h2⟩ := wipeE_some (show (wipeE w.ρ vs)[i]? = _ from h)
    obtain ⟨v, a, b⟩ := E.slot i sv h1
    exact ⟨v, (wipe_keep h2).trans a, b⟩
  · exact E.own i j ds es a (wipeE_some (show (wipeE w.ρ vs)[i]? = _ from h1)).1 (wipeE_some (show (wipeE w.ρ vs)[j]? = _ from h2)).1 (wipe_some (show (wipe w.σ vs)[i]? = _ from h3)).1 (wipe_some (show (wipe w.σ vs)[j]? = _ from h4)).1
theorem evo_unhid {p : Option Addr} {D : Addr} {H H' : Hp} {acc : List V} (e : Evo p H H') (np : p ≠ some D) (hD : H D = some (.lst acc)) : H' D = some (.lst acc) := e.kp D _ np hD (by intro ps z; cases z)
theorem comp2_t (ih : Snd T n) (G : Good T W X C k) (elt tg iter tg1 iter1 : Expr) (ifs ifs1 : List Expr) (scope : Scope) {σ : L2.St} {H : Hp} {Q : VK}
    (h : tD (gX X T) W (rpF (gX X T)) (fun ρ => guardM (blkC C.N C.sc scope (ownOf C.N scope) && !isSetE iter && !isSetE iter1) (bnd (evI n C true (isTup tg) iter ρ) fun xs => bnd (compLM (compG n C tg tg1 iter1 elt ifs ifs1 scope ρ) xs) fun ds => guardM (fits ds.length) (ret (.list ds)))) σ H Q) :
    tLc2 (tD (gX X T) W (rpI (gX X T) (hd true)) (evI n C true (isTup tg) iter)) (gD (gX X T) n (C.into scope) tg) (tD (gX X T) (fun _ _ => False) rpT (evIfs n (C.into (relSc scope C.sc)) ifs))
      (tD (gX X T) (fun _ _ => False) (rpI (gX X T) (hd false)) (evI n (C.into (relSc scope C.sc)) false (isTup tg1) iter1)) (gD (gX X T) n (C.into scope) tg1) (tD (gX X T) (fun _ _ => False) rpT (evIfs n (C.into (relSc scope C.sc)) ifs1)) (tD (gX X T) (fun _ _ => False) (rpD (gX X T)) (evE n (C.into (relSc scope C.sc)) elt)) ((ownOf C.N scope).map (·.2)) (tgIx n (C.into scope) tg1) σ H Q := by
  obtain ⟨w, st, hσ, E, h'⟩ := (tD.grd h).2
  clear h
  subst hσ
  refine ⟨w, st, rfl, E, Post.bind (rq := rpF _ w) h' fun xs st1 J H1 e1 E1 r1 h1 => ?_⟩
  intro D hD
  have nD : ¬ w.Hid D := fun z => E1.dom D z hD
  have npD : w.p ≠ some D := fun z => nD (E1.stt.hid D z)
  have h1 : Post (gX X T) W w (rpF (gX X T) w) H1 (R.next (compLM (compG n C tg tg1 iter1 elt ifs ifs1 scope w.ρ) xs st1) fun ds => guardM (fits ds.length) (ret (.list ds))) Q := h1
  have hrun : ∃ all stF, compLM (compG n C tg tg1 iter1 elt ifs ifs1 scope w.ρ) xs st1 = .ok all stF := by
    rcases compLM_ok (f := compG n C tg tg1 iter1 elt ifs ifs1 scope w.ρ) (fun x st => noErr_id _) xs st1 with z | z
    · rw [z] at h1
      exact h1.elim
    · exact z
  obtain ⟨all, stF, hrun⟩ := hrun
  rw [hrun] at h1
  obtain ⟨hfit, h1⟩ := Post.grd (show Post (gX X T) W w (rpF (gX X T) w) H1 (guardM (fits all.length) (ret (.list all)) stF) Q from h1)
  have hfit := fits_le hfit
  let Pv : Nat → Hp → Prop := fun i H => ∃ (st : Stt) (acc : List V) (da rest : List DI.D), H D = some (.lst acc) ∧ Evo w.p H1 (ers D H) ∧ ERep (gX X T) w (ers D H) st ∧ RpAll X.K (hide w.Hid (ers D H)) acc da ∧
    compLM (compG n C tg tg1 iter1 elt ifs ifs1 scope w.ρ) (xs.drop i) st = .ok rest stF ∧ all = da ++ rest
  refine ⟨fun i m H => m = xs.length - i ∧ i ≤ xs.length ∧ Pv i H, ⟨xs.length, by simp, Nat.zero_le _, st1, [], [], all, upd_same, ?_, ?_, .nil, by rw [List.drop_zero]; exact hrun, rfl⟩, ?_⟩
  · rw [ers_upd hD]; exact Evo.rfl'
  · rw [ers_upd hD]; exact E1
  rintro i m H2 ⟨rfl, hi, st2, acc, da, rest, hD2, e2, E2, ra, hr, hall⟩
  have kp0 : ∀ {H3 : Hp}, Evo w.p H1 (ers D H3) → Kp (hide (hd true w) H1) H3 := fun {H3} e b o hb n => by
    obtain ⟨q1, q2⟩ := hide_in hb
    exact (ers_in (e.kp b o (fun z => q2 (by unfold hd; rw [if_pos rfl]; exact z)) q1 n)).2
  obtain ⟨go, stop⟩ := r1 H2 (kp0 e2) i
  by_cases hlt : i < xs.length
  case neg =>
    have e : i = xs.length := by omega
    subst e
    refine .inl ⟨stop rfl, ?_⟩
    rw [List.drop_length] at hr
    cases hr
    rw [List.append_nil] at hall
    subst hall
    refine h1 _ H2 ⟨fun b o n h t => (ers_in (e2.kp b o n h t)).2, fun b h => ?_⟩ (E2.kp fun b o h => (ers_in h).2) ⟨D, .lst acc, ers D H2, stF, rfl, ers_eq, upd_ers hD2, E2, E2.kp fun b o h => (ers_in h).2, .lst ra⟩
    have z := e2.dom b h
    cases q : ers D H2 b with
    | none => exact absurd q z
    | some o => rw [(ers_in q).2]; simp
  obtain ⟨jg, jy⟩ := go hlt
  refine .inr ⟨jg, Pv (i + 1), fun H' p' => ⟨xs.length - (i + 1), by omega, rfl, hlt, p'⟩, fun x H3 y => ?_⟩
  obtain ⟨kx, d, hd, rx⟩ := jy x H3 y
  have e3 : Evo w.p (ers D H2) (ers D H3) := (Evo.of kx).ers
  have hD3 := kx _ _ hD2
  have e13 := e2.tr e3
  have E3 : ERep (gX X T) w (ers D H3) st2 := E2.evo e3 (E2.stt.kp fun b o h => by
    obtain ⟨z1, z2⟩ := ers_in h
    rw [ers_ne z1]
    exact kx b o z2) (E2.tabs.ext fun b o h => by
    obtain ⟨z1, z2⟩ := ers_in h
    rw [ers_ne z1]
    exact kx b o z2)
  have rd : Rp X.K (hide (hid2 w.Hid D) H3) x d := rx (hid2 w.Hid D) (fun b hb => by
    rcases hb with hb | rfl
    · intro z
      exact e2.dom b (E1.dom b hb) (by unfold ers; split; rfl; exact z)
    · rw [hD2]; simp) (by rw [hide_ers]; exact E1.kph e13)
  have hdrop : xs.drop i = d :: xs.drop (i + 1) := by
    obtain ⟨hlt', e⟩ := List.getElem?_eq_some_iff.mp hd
    rw [List.drop_eq_getElem_cons hlt', e]
  rw [hdrop] at hr
  obtain ⟨o, st3, rest', hc1, hc2, hc3⟩ := compLM_cons hr
  obtain ⟨ρ', ha, b, st4, hi4, hcase⟩ := compG_ok hc1
  refine ⟨w.blk D (ownIx C.N scope), st2, d, ρ', rfl, E3.blk hD3 nD, rd, ha, fun σ' E4 same ow => ⟨wipe_same same tg_own, ?_⟩⟩
  have noD : ∀ (i : Nat) (sv : SV), sv.hid = true → (∀ ds, sv ≠ .ln (.tuple ds)) → ρ'[i]? = some (some sv) → σ'[i]? ≠ some (some (.ref D)) := fun i sv q0 qt q1 q2 => by
    obtain ⟨z1, z2⟩ := ow i sv q0 q1
    obtain ⟨y1, y2⟩ := wipeE_some (show (wipeE w.ρ (ownIx C.N scope))[i]? = _ from z1)
    obtain ⟨v, v1, v0⟩ := E3.slot i _ y1
    have v4 : σ'[i]? = w.σ[i]? := z2.trans (wipe_keep y2)
    rw [q2, v1] at v4
    cases v4
    cases sv with
    | sh d => cases q0
    | stt => cases q0
    | ow d =>
      obtain ⟨x, us, v2, v3, _⟩ := v0
      cases v2
      exact nD v3
    | ln d =>
      rcases v0 with v0 | ⟨x, us, v2, v3, _⟩
      · cases v0 with
        | lst r _ => exact (rd_ers r).elim
        | tup r _ => exact qt _ rfl
        | dic r _ => exact (rd_ers r).elim
      · cases v2
        exact nD v3
  let wB : Wd := { w.blk D (ownIx C.N scope) with σ := σ', ρ := ρ' }
  have E4 : ERep (gX X T) wB H3 st2 := E4
  refine ⟨wB, st2, rfl, E4, ?_⟩
  show Post _ _ _ _ _ (evIfs n (C.into (relSc scope C.sc)) ifs ρ' st2) _
  rw [hi4]
  intro b5 H5 e5 E5 hb5
  have hb5 : b5 = b := hb5
  subst hb5
  have hD5 : H5 D = some (.lst acc) := evo_unhid (p := w.p) e5 npD hD3
  have e35 : Evo w.p (ers D H3) (ers D H5) := Evo.ers (p := w.p) e5
  have E5' : ERep (gX X T) w (ers D H5) st4 := E3.unblk E5 nD pln_lst hD5 e35
  rcases hcase with ⟨rfl, rfl, rfl⟩ | ⟨rfl, ys, st5, hy, hcm⟩
  · simp only [Bool.false_eq_true, if_false]
    exact ⟨st3, acc, da, rest', hD5, e13.tr e35, E5', (E2.kph (e3.tr e35)).dps da acc ra, hc2, by rw [hall, hc3]; rfl⟩
  simp only [if_true]
  refine ⟨wB, st4, rfl, E5, ?_⟩
  show Post _ _ _ _ _ (evI n (C.into (relSc scope C.sc)) false (isTup tg1) iter1 ρ' st4) _
  rw [hy]
  intro J1 H6 e6 E6 rI
  have hD6 : H6 D = some (.lst acc) := evo_unhid (p := w.p) e6 npD hD5
  have e56 : Evo w.p (ers D H5) (ers D H6) := Evo.ers (p := w.p) e6
  have E6' : ERep (gX X T) w (ers D H6) st5 := E5'.unblk E6 nD pln_lst hD6 e56
  have e26 := (e3.tr e35).tr e56
  let Pw : Nat → Hp → Prop := fun j H => ∃ (st : Stt) (acc : List V) (da r2 : List DI.D), H D = some (.lst acc) ∧ Evo w.p (ers D H6) (ers D H) ∧ ERep (gX X T) w (ers D H) st ∧ ERep (gX X T) wB H st ∧ RpAll X.K (hide w.Hid (ers D H)) acc da ∧
    compM (compFv n C (tgIx n (C.into scope) tg1) tg1 elt ifs1 scope ρ') (ys.drop j) st = .ok r2 st3 ∧ all = da ++ r2 ++ rest'
  refine ⟨fun j k H => k = ys.length - j ∧ j ≤ ys.length ∧ Pw j H, ⟨ys.length, by simp, Nat.zero_le _, st5, acc, da, o, hD6, Evo.rfl', E6', E6, (E2.kph e26).dps da acc ra, by rw [List.drop_zero]; exact hcm, by rw [hall, hc3, List.append_assoc]⟩, ?_⟩
  rintro j k7 H7 ⟨rfl, hj, st7, acc7, da7, r2, hD7, e7, E7, B7, ra7, hr7, hall7⟩
  have kpj : Kp (hide (DI.hd false wB) H6) H7 := fun b o hb n => by
    obtain ⟨q1, q2⟩ := hide_in hb
    have q3 : ¬ (w.Hid b ∨ b = D) := fun z => q2 (by unfold DI.hd; simpa [wB, Wd.blk, hid2] using z)
    have q4 : b ≠ D := fun z => q3 (.inr z)
    exact (ers_in (e7.kp b o (fun z => q3 (.inl (E1.stt.hid b z))) (by rw [ers_ne q4]; exact q1) n)).2
  obtain ⟨go1, stop1⟩ := rI H7 kpj j
  by_cases hlt1 : j < ys.length
  case neg =>
    have e : j = ys.length := by omega
    subst e
    refine .inl ⟨stop1 rfl, ?_⟩
    rw [List.drop_length] at hr7
    cases hr7
    rw [List.append_nil] at hall7
    exact ⟨_, acc7, da7, rest', hD7, (e2.tr e26).tr e7, E7, ra7, hc2, hall7⟩
  obtain ⟨jg1, jy1⟩ := go1 hlt1
  refine .inr ⟨jg1, Pw (j + 1), fun H' p' => ⟨ys.length - (j + 1), by omega, rfl, hlt1, p'⟩, fun x8 H8 y8 => ?_⟩
  obtain ⟨kx8, d8, hd8, rx8⟩ := jy1 x8 H8 y8
  have e8 : Evo w.p (ers D H7) (ers D H8) := (Evo.of kx8).ers
  have hD8 := kx8 _ _ hD7
  have E8 : ERep (gX X T) w (ers D H8) st7 := E7.evo e8 (E7.stt.kp fun b o h => by
    obtain ⟨z1, z2⟩ := ers_in h
    rw [ers_ne z1]
    exact kx8 b o z2) (E7.tabs.ext fun b o h => by
    obtain ⟨z1, z2⟩ := ers_in h
    rw [ers_ne z1]
    exact kx8 b o z2)
  have B8 : ERep (gX X T) wB H8 st7 := B7.kp kx8
  have k68 : Kp (hide wB.Hid H6) (hide wB.Hid H8) := by
    show Kp (hide (hid2 w.Hid D) H6) (hide (hid2 w.Hid D) H8)
    rw [hide_ers, hide_ers]
    exact E6'.kph (e7.tr e8)
  have rd8 : Rp X.K (hide wB.Hid H8) x8 d8 := rx8 wB.Hid (fun b hb => by
    rcases (show w.Hid b ∨ b = D from hb) with hb | rfl
    · intro z
      exact E7.dom b hb (by unfold ers; split; rfl; exact z)
    · rw [hD7]; simp) k68
  have hdrop8 : ys.drop j = d8 :: ys.drop (j + 1) := by
    obtain ⟨hlt', e⟩ := List.getElem?_eq_some_iff.mp hd8
    rw [List.drop_eq_getElem_cons hlt', e]
  rw [hdrop8] at hr7
  obtain ⟨o9, st9, rest9, hc91, hc92, hc93⟩ := compM_cons hr7
  obtain ⟨ρ9, ha9, b9, st10, hi10, hcase9⟩ := compF_ok hc91
  refine ⟨wB.wip (tgIx n (C.into scope) tg1), st7, d8, ρ9, rfl, B8.wip _, rd8, ha9, fun σ9 E9 same9 _ => ⟨wipe_same same9 (fun i z => z), ?_⟩⟩
  refine ⟨_, st7, rfl, E9, ?_⟩
  show Post _ _ _ _ _ (evIfs n (C.into (relSc scope C.sc)) ifs1 ρ9 st7) _
  rw [hi10]
  intro b10 H10 e10 E10 hb10
  have hb10 : b10 = b9 := hb10
  subst hb10
  have hD10 : H10 D = some (.lst acc7) := evo_unhid (p := w.p) e10 npD hD8
  have e810 : Evo w.p (ers D H8) (ers D H10) := Evo.ers (p := w.p) e10
  have E10' : ERep (gX X T) w (ers D H10) st10 := E8.unblk E10 nD pln_lst hD10 e810
  have B10 : ERep (gX X T) wB H10 st10 := B8.evo e10 E10.stt E10.tabs
  rcases hcase9 with ⟨rfl, rfl, rfl⟩ | ⟨rfl, y9, hy9, rfl⟩
  · simp only [Bool.false_eq_true, if_false]
    simp only at hc93
    exact ⟨st9, acc7, da7, rest9, hD10, e7.tr (e8.tr e810), E10', B10, (E7.kph (e8.tr e810)).dps da7 acc7 ra7, hc92, by rw [hall7, hc93]⟩
  · simp only [if_true]
    simp only at hc93
    refine ⟨_, st10, rfl, E10, ?_⟩
    show Post _ _ _ _ _ (evE n (C.into (relSc scope C.sc)) elt ρ9 st10) _
    rw [hy9]
    intro v11 H11 e11 E11 r11
    have hD11 : H11 D = some (.lst acc7) := evo_unhid (p := w.p) e11 npD hD10
    have e1011 : Evo w.p (ers D H10) (ers D H11) := Evo.ers (p := w.p) e11
    have E11' : ERep (gX X T) w (ers D H11) st9 := E10'.unblk E11 nD pln_lst hD11 e1011
    have B11 : ERep (gX X T) wB H11 st9 := B10.evo e11 E11.stt E11.tabs
    have r11 : Rp X.K (hide (hid2 w.Hid D) H11) v11 y9 := r11
    rw [hide_ers] at r11
    have hlen : acc7.length < sizeLine := by
      have z1 := RpAll.len ra7
      have z2 : all.length = da7.length + (rest9.length + 1) + rest'.length := by rw [hall7, hc93]; simp only [List.length_append, List.length_cons]
      omega
    have e711 := (e8.tr e810).tr e1011
    refine ⟨acc7, hD11, hlen, st9, acc7 ++ [v11], da7 ++ [y9], rest9, upd_same, ?_, ?_, B11.redo (.inr rfl) npD noD hD11, ?_, hc92, by rw [hall7, hc93]; simp⟩
    · rw [ers_upd2]; exact e7.tr e711
    · rw [ers_upd2]; exact E11'
    · rw [ers_upd2]
      exact RpAll.app ((E7.kph e711).dps da7 acc7 ra7) (.cons r11 .nil)
end
end DI
end
section
set_option linter.all false
set_option autoImplicit false
set_option maxRecDepth 100000
set_option maxHeartbeats 1000000
/-! D13c: comprehensions of two clauses as expressions; displays of dicts. -/
namespace DI
open PySem PySem.Spec L2
open PyProof.Rows hiding St
section
variable {T : List (Addr × Str)} {W : EW} {X : Cx} {C : Ctx} {k n : Nat}
theorem f_comp2 (ih : Snd T n) (G : Good T W X C k) (elt tg iter tg1 iter1 : Expr) (ifs ifs1 : List Expr) (scope : Scope) (pos : Pos) :
    PE X (.ListComp elt [⟨tg, iter, ifs, 0⟩, ⟨tg1, iter1, ifs1, 0⟩] scope pos) (tD (gX X T) W (rpF (gX X T)) fun ρ => guardM (blkC C.N C.sc scope (ownOf C.N scope) && !isSetE iter && !isSetE iter1) (bnd (evI n C true (isTup tg) iter ρ) fun xs => bnd (compLM (compG n C tg tg1 iter1 elt ifs ifs1 scope ρ) xs) fun ds => guardM (fits ds.length) (ret (.list ds)))) := by
  by_cases hb : (blkC C.N C.sc scope (ownOf C.N scope) && !isSetE iter && !isSetE iter1) = true
  case neg =>
    refine PE.void (tD.stuck fun ρ st => ?_)
    unfold guardM
    rw [if_neg hb]
  obtain ⟨hb1, hb2⟩ := Bool.and_eq_true_iff.mp hb
  obtain ⟨ok, hset⟩ := blk_ok G hb1
  have hset1 : isSetE iter1 = false := by simpa using hb2
  exact (pe_lc2 (g := gD (gX X T) n (C.into scope) tg) (g1 := gD (gX X T) n (C.into scope) tg1) (tt := tD (gX X T) (fun _ _ => False) rpT (evIfs n (C.into (relSc scope C.sc)) ifs)) (tt1 := tD (gX X T) (fun _ _ => False) rpT (evIfs n (C.into (relSc scope C.sc)) ifs1)) (te := tD (gX X T) (fun _ _ => False) (rpD (gX X T)) (evE n (C.into (relSc scope C.sc)) elt))
    (wi1 := tD (gX X T) (fun _ _ => False) (rpI (gX X T) (hd false)) (evI n (C.into (relSc scope C.sc)) false (isTup tg1) iter1)) (vs1 := tgIx n (C.into scope) tg1)
    G.calm G.nd (ih.I G true tg iter) ok (fun i hi => tg_own i hi) (fun s H A cl fp => (asg_ok (X := X.blk s H scope (compEnvC scope cl A X.env) fp) (T := T) (C := C.into scope) G.calm G.N.symm G.nd (blk_tg G scope s H A cl fp) n).1 tg)
    (fun s H A cl fp => ih.If (blk_good G scope s H A cl fp) ifs) (fun s H A cl fp => ih.I (blk_good G scope s H A cl fp) false tg1 iter1)
    (fun s H A cl fp => (asg_ok (X := X.blk s H scope (compEnvC scope cl A X.env) fp) (T := T) (C := C.into scope) G.calm G.N.symm G.nd (blk_tg G scope s H A cl fp) n).1 tg1) (fun s H A cl fp => ih.If (blk_good G scope s H A cl fp) ifs1)
    (fun s H A cl fp => ih.E (blk_good G scope s H A cl fp) elt) (folded_no hset) (fun env x => folded_no hset1 x)).mono fun σ H Q h => comp2_t ih G elt tg iter tg1 iter1 ifs ifs1 scope h
theorem set_comp2 (ih : Snd T n) (G : Good T W X C k) (tgo : TgOk X C.sc) (elt tg iter tg1 iter1 : Expr) (ifs ifs1 : List Expr) (scope : Scope) (pos spos py : Pos) (y : Str) (i : Nat) (hi : ixOf C.N y = some i) (hy : locB C.sc y = true) :
    PS X (.Assign [.Name y py] (.ListComp elt [⟨tg, iter, ifs, 0⟩, ⟨tg1, iter1, ifs1, 0⟩] scope pos) spos) (tAsg (tD (gX X T) W (rpF (gX X T)) fun ρ => guardM (blkC C.N C.sc scope (ownOf C.N scope) && !isSetE iter && !isSetE iter1) (bnd (evI n C true (isTup tg) iter ρ) fun xs => bnd (compLM (compG n C tg tg1 iter1 elt ifs ifs1 scope ρ) xs) fun ds => guardM (fits ds.length) (ret (.list ds)))) (gName i)) := by
  by_cases hb : (blkC C.N C.sc scope (ownOf C.N scope) && !isSetE iter && !isSetE iter1) = true
  case neg =>
    refine ⟨fun pins s σ H D I h => ?_⟩
    exact (tD.stuck (fun ρ st => by unfold guardM; rw [if_neg hb]) σ H _ h).elim
  obtain ⟨hb1, hb2⟩ := Bool.and_eq_true_iff.mp hb
  obtain ⟨ok, hset⟩ := blk_ok G hb1
  have hset1 : isSetE iter1 = false := by simpa using hb2
  have hN : X.N[i]? = some y := by rw [G.N]; exact ixOf_get hi
  cases hw : (X.env.blockKind == .function && X.env.kindOf y == some .local && py.line == pos.line && !(scope.names.any fun (n, k) => n == y && (k == .local || k == .cell))) with
  | false => exact ps_set G.nd hN (tgo y hy).1 (f_comp2 ih G elt tg iter tg1 iter1 ifs ifs1 scope pos) (by show (pure _ : Sem Bool) = pure false; rw [show (X.env.blockKind == .function && X.env.kindOf y == some .local && py.line == (Expr.ListComp elt [⟨tg, iter, ifs, 0⟩, ⟨tg1, iter1, ifs1, 0⟩] scope pos).pos.line && !(scope.names.any fun (n, k) => n == y && (k == .local || k == .cell))) = false from hw]) (tgo y hy).2
  | true =>
    have hl : X.env.scope.names.lookup y = some .local := by
      simp only [Bool.and_eq_true, beq_iff_eq] at hw
      exact hw.1.1.2
    have h := ps_setLc2 (spos := spos) (py := py) (g := gD (gX X T) n (C.into scope) tg) (g1 := gD (gX X T) n (C.into scope) tg1) (tt := tD (gX X T) (fun _ _ => False) rpT (evIfs n (C.into (relSc scope C.sc)) ifs)) (tt1 := tD (gX X T) (fun _ _ => False) rpT (evIfs n (C.into (relSc scope C.sc)) ifs1)) (te := tD (gX X T) (fun _ _ => False) (rpD (gX X T)) (evE n (C.into (relSc scope C.sc)) elt))
      (wi1 := tD (gX X T) (fun _ _ => False) (rpI (gX X T) (hd false)) (evI n (C.into (relSc scope C.sc)) false (isTup tg1) iter1)) (vs1 := tgIx n (C.into scope) tg1) (pos := pos) G.calm G.nd hN hl
      (by show (pure _ : Sem Bool) = pure true; rw [show (X.env.blockKind == .function && X.env.kindOf y == some .local && py.line == (Expr.ListComp elt [⟨tg, iter, ifs, 0⟩, ⟨tg1, iter1, ifs1, 0⟩] scope pos).pos.line && !(scope.names.any fun (n, k) => n == y && (k == .local || k == .cell))) = true from hw])
      (ih.I G true tg iter) ok (fun i hi => tg_own i hi) (fun s H A cl fp => (asg_ok (X := X.blk s H scope (compEnvC scope cl A X.env) fp) (T := T) (C := C.into scope) G.calm G.N.symm G.nd (blk_tg G scope s H A cl fp) n).1 tg)
      (fun s H A cl fp => ih.If (blk_good G scope s H A cl fp) ifs) (fun s H A cl fp => ih.I (blk_good G scope s H A cl fp) false tg1 iter1)
      (fun s H A cl fp => (asg_ok (X := X.blk s H scope (compEnvC scope cl A X.env) fp) (T := T) (C := C.into scope) G.calm G.N.symm G.nd (blk_tg G scope s H A cl fp) n).1 tg1) (fun s H A cl fp => ih.If (blk_good G scope s H A cl fp) ifs1)
      (fun s H A cl fp => ih.E (blk_good G scope s H A cl fp) elt) (folded_no hset) (fun env x => folded_no hset1 x)
    exact ⟨fun pins s σ H D I q => h.run pins s σ H D I (comp2_t ih G elt tg iter tg1 iter1 ifs ifs1 scope q)⟩
/-! ### dicts -/
theorem keyV_kD (k : Key) : keyV (kD k) = some k := by cases k <;> rfl
theorem keyV_some {d : D} {k : Key} (h : keyV d = some k) : d = kD k := by
  cases d <;> first | (cases h; rfl) | cases h
theorem RpKs.any {K : PySem.W.Frag} {H : Hp} (κ : Key) : ∀ {kvs : List (Key × V)} {es : List (D × D)}, RpKs K H kvs es → (kvs.any fun kv => decide (kv.1 = κ)) = es.any fun e => decide (keyV e.1 = some κ)
  | _, _, .nil => rfl
  | _, _, .cons (k := k) _ r => by
    rw [List.any_cons, List.any_cons, RpKs.any κ r]
    congr 1
    rw [keyV_kD]
    by_cases e : k = κ <;> simp [e]
theorem RpKs.get {K : PySem.W.Frag} {H : Hp} (κ : Key) : ∀ {kvs : List (Key × V)} {es : List (D × D)}, RpKs K H kvs es → (∀ d, getK es κ = some d → ∃ v, valV kvs κ = some v ∧ Rp K H v d) ∧ (getK es κ = none → valV kvs κ = none)
  | _, _, .nil => ⟨fun d h => (by cases h), fun _ => rfl⟩
  | _, _, .cons (k := k) (v := v) (d := d) h r => by
    obtain ⟨i1, i2⟩ := RpKs.get κ r
    by_cases e : k = κ
    · rw [valV_pos (p := (k, v)) e]
      unfold getK
      rw [List.find?_cons_of_pos (by simp [keyV_kD, e])]
      exact ⟨fun d' q => (by cases q; exact ⟨v, rfl, h⟩), fun q => (by cases q)⟩
    · rw [valV_neg (p := (k, v)) e]
      unfold getK
      rw [List.find?_cons_of_neg (by simp [keyV_kD, e])]
      exact ⟨i1, i2⟩
theorem RpKs.repl {K : PySem.W.Frag} {H : Hp} (κ : Key) {y : V} {d' : D} (hy : Rp K H y d') : ∀ {kvs : List (Key × V)} {es : List (D × D)}, RpKs K H kvs es → RpKs K H (kvs.map fun kv => if kv.1 = κ then (kv.1, y) else kv) (es.map fun e => if keyV e.1 = some κ then (e.1, d') else e)
  | _, _, .nil => .nil
  | _, _, .cons (k := k) h r => by
    rw [List.map_cons, List.map_cons]
    by_cases e : k = κ
    · rw [if_pos e, if_pos (by rw [keyV_kD, e])]
      exact .cons hy (RpKs.repl κ hy r)
    · rw [if_neg e, if_neg (by rw [keyV_kD]; simpa using e)]
      exact .cons h (RpKs.repl κ hy r)
theorem RpKs.snoc {K : PySem.W.Frag} {H : Hp} (κ : Key) {y : V} {d' : D} (hy : Rp K H y d') : ∀ {kvs : List (Key × V)} {es : List (D × D)}, RpKs K H kvs es → RpKs K H (kvs ++ [(κ, y)]) (es ++ [(kD κ, d')])
  | _, _, .nil => .cons hy .nil
  | _, _, .cons h r => .cons h (RpKs.snoc κ hy r)
theorem RpKs.put {K : PySem.W.Frag} {H : Hp} (κ : Key) {y : V} {d' : D} (hy : Rp K H y d') {kvs : List (Key × V)} {es : List (D × D)} (r : RpKs K H kvs es) : RpKs K H (putK kvs κ y) (putK' es κ d') := by
  unfold putK putK'
  rw [r.any κ]
  by_cases c : (es.any fun e => decide (keyV e.1 = some κ)) = true
  · rw [if_pos c, if_pos c]
    exact r.repl κ hy
  · rw [if_neg c, if_neg c]
    exact r.snoc κ hy
theorem RpKs.merge {K : PySem.W.Frag} {H : Hp} : ∀ {more : List (Key × V)} {em : List (D × D)} {kvs : List (Key × V)} {es : List (D × D)}, RpKs K H more em → RpKs K H kvs es → RpKs K H (mergeK kvs more) (mergeE es em)
  | _, _, _, _, .nil, r => r
  | _, _, kvs, es, .cons (k := k) (v := v) (d := d) (es := em) h m, r => by
    have z : mergeE es ((kD k, d) :: em) = mergeE (putK' es k d) em := by
      show List.foldl _ (match keyV (kD k) with | some k => putK' es k d | none => es) _ = _
      rw [keyV_kD]
      rfl
    rw [z]
    exact RpKs.merge (kvs := putK kvs k v) m (r.put k h)
theorem PrAll.kvs {K : PySem.W.Frag} {H : Hp} : ∀ {ps : List (V × V)} {es : List (D × D)}, PrAll K H ps es → ∃ kvs : List (Key × V), ps = kvs.map (fun kv => (kV kv.1, kv.2)) ∧ RpKs K H kvs es
  | _, _, .nil => ⟨[], rfl, .nil⟩
  | _, _, .cons (k := k) (v := v) h r => by
    obtain ⟨kvs, e, z⟩ := PrAll.kvs r
    exact ⟨(k, v) :: kvs, by rw [e]; rfl, .cons h z⟩
theorem PrAll.kp {K : PySem.W.Frag} {H H' : Hp} (kp : Kp H H') : ∀ {ps : List (V × V)} {es : List (D × D)}, PrAll K H ps es → PrAll K H' ps es
  | _, _, .nil => .nil
  | _, _, .cons h r => .cons (kp.rp h) (PrAll.kp kp r)
theorem s_Ps (ih : Snd T n) (G : Good T W X C k) (pos : Pos) (ks : List (Option Expr)) (vs : List Expr) : ∃ trs, PPs X pos ks vs trs ∧ ∀ σ H Q, tD (gX X T) W (rpPs (gX X T)) (evPs (n + 1) C ks vs) σ H Q → tPairs trs σ H Q := by
  have void : (∀ ρ st, evPs (n + 1) C ks vs ρ st = .stuck) → ∃ trs, PPs X pos ks vs trs ∧ ∀ σ H Q, tD (gX X T) W (rpPs (gX X T)) (evPs (n + 1) C ks vs) σ H Q → tPairs trs σ H Q := fun h =>
    ⟨[(fun _ _ _ => False, fun _ _ _ => False)], ⟨fun _ _ _ _ _ _ q => q.elim⟩, fun σ H Q q => (tD.stuck h σ H Q q).elim⟩
  cases ks with
  | nil =>
    cases vs with
    | nil =>
      refine ⟨[], pps_nil, fun σ H Q ⟨w, st, hσ, E, h⟩ => ?_⟩
      exact h.now E (rp := rpPs _ w) .nil
    | cons _ _ => exact void fun _ _ => rfl
  | cons ko ks =>
    cases ko with
    | none => exact void fun _ _ => by cases vs <;> rfl
    | some e =>
      cases vs with
      | nil => exact void fun _ _ => rfl
      | cons v vs =>
        obtain ⟨trs, h1, h2⟩ := ih.Ps G pos ks vs
        refine ⟨_, pps_cons (ih.E G e) (ih.E G v) h1, fun σ H Q ⟨w, st, hσ, E, h⟩ => ?_⟩
        subst hσ
        refine ⟨w, st, rfl, E, Post.bind (rq := rpPs _ w) h fun x st1 u H1 e1 E1 r1 h3 => ?_⟩
        obtain ⟨κ, hκ, h3'⟩ := Post.optB h3
        have ex := keyV_some hκ
        subst ex
        clear h3
        refine ⟨w, st1, rfl, E1, Post.bind (rq := rpPs _ w) h3' fun d st2 u2 H2 e2 E2 r2 h4 => ?_⟩
        refine h2 _ _ _ ⟨w, st2, rfl, E2, Post.bind (rq := rpPs _ w) h4 fun r st3 ps H3 e3 E3 r3 h5 => ?_⟩
        have eu : u = kV κ := by cases κ <;> (cases r1; rfl)
        rw [eu]
        exact h5.now E3 (rp := rpPs _ w) (.cons (rpD.evo r2 E2 e3) r3)
theorem f_disp (ih : Snd T n) (G : Good T W X C k) (ko : Option Expr) (ks : List (Option Expr)) (vs : List Expr) (pos : Pos) :
    PE X (.Dict (ko :: ks) vs pos) (tD (gX X T) W (rpF (gX X T)) fun ρ => guardM (dispOk (ko :: ks) vs) (bnd (evPs n C (ko :: ks) vs ρ) fun es => guardM (decide (es.length ≤ 15)) (ret (.dict (mergeE [] es))))) := by
  by_cases hb : dispOk (ko :: ks) vs = true
  case neg =>
    refine PE.void (tD.stuck fun ρ st => ?_)
    unfold guardM
    rw [if_neg hb]
  have hb' := hb
  unfold dispOk at hb'
  simp only [Bool.and_eq_true, decide_eq_true_eq] at hb'
  obtain ⟨trs, h1, h2⟩ := ih.Ps G pos (ko :: ks) vs
  refine (pe_disp h1 hb'.1.1 hb'.1.2 (by simp) hb'.2).mono fun σ H Q h => ?_
  obtain ⟨w, st, hσ, E, h'⟩ := (tD.grd h).2
  subst hσ
  intro D hD
  have nD : ¬ w.Hid D := fun z => E.dom D z hD
  have npD : w.p ≠ some D := fun z => nD (E.stt.hid D z)
  have EB : ERep (gX X T) (w.blk D []) (upd H D (.dK [])) st := ERep.blkO (by rw [ers_upd hD]; exact E) pln_dK upd_same nD
  refine h2 _ _ _ ⟨w.blk D [], st, rfl, EB, ?_⟩
  have h' : Post (gX X T) W w (rpF (gX X T) w) H (R.next (evPs n C (ko :: ks) vs w.ρ st) fun es => guardM (decide (es.length ≤ 15)) (ret (.dict (mergeE [] es)))) Q := h'
  have back : ∀ {H2 : Hp} {st2 : Stt}, Evo w.p (upd H D (.dK [])) H2 → ERep (gX X T) (w.blk D []) H2 st2 → H2 D = some (.dK []) ∧ Evo w.p H (ers D H2) ∧ ERep (gX X T) w (ers D H2) st2 := fun {H2 st2} e2 E2 => by
    have hD2 : H2 D = some (.dK []) := e2.kp D _ npD upd_same (by intro ps z; cases z)
    have e2' : Evo w.p H (ers D H2) := by
      have z := Evo.ers (D := D) e2
      rw [ers_upd hD] at z
      exact z
    have z : ERep (gX X T) w (ers D (upd H D (.dK []))) st := by rw [ers_upd hD]; exact E
    exact ⟨hD2, e2', z.unblk E2 nD pln_dK hD2 (Evo.ers e2)⟩
  show Post (gX X T) W (w.blk D []) (rpPs (gX X T) (w.blk D [])) (upd H D (.dK [])) (evPs n C (ko :: ks) vs w.ρ st) _
  cases hr : evPs n C (ko :: ks) vs w.ρ st with
  | stuck => rw [hr] at h'; exact h'.elim
  | err x st' =>
    rw [hr] at h'
    intro H2 e2 E2
    obtain ⟨hD2, e3, E3⟩ := back e2 E2
    exact h' H2 ⟨fun b o n h t => (ers_in (e3.kp b o n h t)).2, fun b h => by
      have z := e3.dom b h
      cases q : ers D H2 b with
      | none => exact absurd q z
      | some o => rw [(ers_in q).2]; simp⟩ (E3.kp fun b o h => (ers_in h).2)
  | ok es st' =>
    rw [hr] at h'
    obtain ⟨h15, h'⟩ := Post.grd (show Post (gX X T) W w (rpF (gX X T) w) H (guardM (decide (es.length ≤ 15)) (ret (.dict (mergeE [] es))) st') Q from h')
    intro ps H2 e2 E2 rps
    obtain ⟨hD2, e3, E3⟩ := back e2 E2
    obtain ⟨kvs, ek, rk⟩ := PrAll.kvs rps
    refine ⟨hD2, kvs, ek, by rw [RpKs.len rk]; exact of_decide_eq_true h15, ?_⟩
    have rk : RpKs X.K (hide (hid2 w.Hid D) H2) kvs es := rk
    rw [hide_ers] at rk
    have eH : upd H2 D (.dK (mergeK [] kvs)) = upd (ers D H2) D (.dK (mergeK [] kvs)) := by
      funext b
      by_cases q : b = D
      · subst q; rw [upd_same, upd_same]
      · rw [upd_ne q, upd_ne q, ers_ne q]
    rw [eH]
    refine h' _ _ (e3.tr (Evo.new ers_eq)) (E3.new ers_eq) ⟨D, _, ers D H2, st', rfl, ers_eq, rfl, E3, E3.new ers_eq, .dK (RpKs.merge rk .nil)⟩
end
end DI
end
section
set_option linter.all false
set_option autoImplicit false
set_option maxRecDepth 100000
/-! D14: the evaluator of expressions is sound, by fuel. -/
namespace DI
open PySem PySem.Spec L2
open PyProof.Rows hiding St
section
variable {T : List (Addr × Str)} {W : EW} {X : Cx} {C : Ctx} {k n : Nat}
theorem bi_repr (hg : X.A.guards = some []) (hu : X.A.units + 102 < cLine) : BiOk X T W "repr" .repr := by
  refine biB (id := "repr") (call_reprD hg hu) (by decide +kernel) (by decide) (by decide) fun w st H vs ds Q E r h => ?_
  cases r with
  | nil => exact h.elim
  | cons r1 r2 =>
    cases r2 with
    | cons _ _ => rw [one_arg _ (by decide)] at h; exact h.elim
    | nil =>
      rename_i v d
      cases d with
      | list xs =>
        obtain ⟨hb, h⟩ := Post.grd h
        obtain ⟨hb1, h4⟩ := Bool.and_eq_true_iff.mp hb
        obtain ⟨hb2, h3⟩ := Bool.and_eq_true_iff.mp hb1
        obtain ⟨h1, h2⟩ := Bool.and_eq_true_iff.mp hb2
        obtain ⟨a, us, rfl, ha, hs⟩ := r1.list
        exact ⟨a, .list xs, rfl, r1.rp.dp (by simpa using h2), h1, by simpa using h2, of_decide_eq_true h3, fits_le h4, h.now E (rp := rpD _ w) (Rp.str _)⟩
      | _ => exact h.elim
theorem biOf_all (hc : X.calm = true) (hgd : X.A.guards = some []) (hu : X.A.units + 102 < cLine) {f : Str} {b : BI} (h : biOf f = some b) : f ∈ biNames ∧ BiOk X T W f b := by
  by_cases hr : b = .repr
  · subst hr
    have hm : (f, BI.repr) ∈ _ := PySem.mem_of_lookup h
    simp only [List.mem_cons, Prod.mk.injEq, List.not_mem_nil, or_false] at hm
    rcases hm with ⟨rfl, e⟩ | ⟨rfl, e⟩ | ⟨rfl, e⟩ | ⟨rfl, e⟩ | ⟨rfl, e⟩ | ⟨rfl, e⟩ | ⟨rfl, e⟩ | ⟨rfl, e⟩ | ⟨rfl, e⟩ | ⟨rfl, e⟩ | ⟨rfl, e⟩ | ⟨rfl, e⟩
    all_goals first | (cases e; done) | skip
    exact ⟨by decide, bi_repr hgd hu⟩
  · exact biOf_ok hc (by omega) h hr
theorem c_bi (ih : Snd T n) (G : Good T W X C k) {f : Str} {b : BI} (hf : C.fn f = none) (hc : C.con f = none) (hb : biOf f = some b) (hg : gl C f = true) (p pos : Pos) (e : Expr) (es : List Expr) (hs : (e :: es).any isStar = false) :
    PE X (.Call (.Name f p) (e :: es) [] pos) (tD (gX X T) W (rpD (gX X T)) fun ρ => bnd (evBs n C (e :: es) ρ) fun ds => biM b ds) := by
  obtain ⟨hm, r, h1, h2⟩ := biOf_all (X := X) (T := T) (W := W) G.calm G.gd (by have := G.room0.un; omega) hb
  have hs2 : isStar e = false ∧ es.any isStar = false := by simpa using hs
  refine (h1 p pos e es _ (G.gl hg).1 (G.bi f hf hc hm) hs2.1 hs2.2 (ih.Bs G (e :: es))).mono fun σ H Q ⟨w, st, hσ, E, h⟩ => ?_
  subst hσ
  exact ⟨w, st, rfl, E, Post.bind (rq := rpD _ w) h fun ds st1 vs H1 e1 E1 r1 h3 => h2 w st1 H1 vs ds Q E1 r1 h3⟩
theorem c_set (ih : Snd T n) (G : Good T W X C k) {f : Str} (hfn : f = "sorted" ∨ f = "len") {args : List Expr} {a : Expr} (hf : C.fn f = none) (hc : C.con f = none) (hg : gl C f = true) (hs : bi C "set" = true) (ha : setArg args = some (("set" : Str), a)) (p pos : Pos) :
    PE X (.Call (.Name f p) args [] pos) (tD (gX X T) W (rpD (gX X T)) fun ρ => bnd (evB n C a ρ) fun d => bnd (optM (seqOf d)) fun xs => bnd (optM (intsOf xs)) fun ns => guardM (decide (ns.length < 63)) (if f = "sorted" then ret (.list ((setI ns).map PyData.int)) else ret (.int (setI ns).length))) := by
  obtain ⟨p2, p3, rfl, hst⟩ : ∃ p2 p3, args = [.Call (.Name "set" p2) [a] [] p3] ∧ isStar a = false := by
    unfold setArg at ha
    split at ha
    · split at ha
      · cases ha
      · rename_i hn
        cases ha
        exact ⟨_, _, rfl, by cases a <;> first | rfl | exact absurd rfl hn⟩
    · cases ha
  obtain ⟨g1, g2⟩ := bi_none G hs (by decide)
  have hset : PE X (.Call (.Name "set" p2) [a] [] p3) (tCB (rSetI X.K X.w) (tCons (tD (gX X T) W (rpB (gX X T)) (evB n C a)) tNil)) := pe_callTy (cr_setI G.calm) g1 g2 (by decide +kernel) (pa_cons (ih.B G a) pa_nil (star_no hst)) (by decide) (by decide) (star_no hst) (by rfl)
  have ss : isStar (.Call (.Name "set" p2) [a] [] p3) = false := rfl
  rcases hfn with h1 | h2
  · subst h1
    refine (pe_callB (cr_sortedSet G.calm) (G.gl hg).1 (G.bi _ hf hc (by decide)) (by decide +kernel) (pa_cons hset pa_nil (star_no ss)) (by decide) (by decide) (star_no ss) (by rfl)).mono fun σ H Q ⟨w, st, hσ, E, h⟩ => ?_
    subst hσ
    refine ⟨w, st, rfl, E, Post.bind (rq := rpD _ w) h fun d st1 v H1 e1 E1 r1 h1 => ?_⟩
    obtain ⟨xs, hx, h2⟩ := Post.optB h1
    obtain ⟨ns, hn, h3⟩ := Post.optB h2
    obtain ⟨hl, h4⟩ := Post.grd h3
    obtain ⟨l, vs, rfl, hq, ra⟩ := rpB_seq r1 hx
    have ev := ints_v hn ra
    subst ev
    refine ⟨l, ns, rfl, hq.symm, of_decide_eq_true hl, fun q c hqn hcn => ?_⟩
    refine ⟨q, _, c, rfl, upd_same, by have := of_decide_eq_true hl; omega, fun ns' t hr hm _ ht => ?_⟩
    have e : ns' = setI ns := setI_is hr (fun k => by rw [hm]; simp)
    subst e
    have kp2 : ∀ b o, H1 b = some o → upd (upd H1 q (SetO X.w q (fun j => decide (j ∈ ns)) c)) t (.lst ((setI ns).map V.int)) b = some o := fun b o z => upd_kp ht b o (upd_kp hqn b o z)
    exact h4.at_ E1 kp2 (rp := rpD _ w) (new_list (E1.new hqn) ht (rp_intsD _))
  · subst h2
    refine (pe_callB call_lenSetI (G.gl hg).1 (G.bi _ hf hc (by decide)) (by decide +kernel) (pa_cons hset pa_nil (star_no ss)) (by decide) (by decide) (star_no ss) (by rfl)).mono fun σ H Q ⟨w, st, hσ, E, h⟩ => ?_
    subst hσ
    refine ⟨w, st, rfl, E, Post.bind (rq := rpD _ w) h fun d st1 v H1 e1 E1 r1 h1 => ?_⟩
    obtain ⟨xs, hx, h2⟩ := Post.optB h1
    obtain ⟨ns, hn, h3⟩ := Post.optB h2
    obtain ⟨hl, h4⟩ := Post.grd h3
    obtain ⟨l, vs, rfl, hq, ra⟩ := rpB_seq r1 hx
    have ev := ints_v hn ra
    subst ev
    refine ⟨l, ns, rfl, hq.symm, of_decide_eq_true hl, fun q c hqn hcn => ?_⟩
    refine ⟨q, ns, c, rfl, upd_same, ?_⟩
    exact h4.at_ E1 (upd_kp hqn) (rp := rpD _ w) (Rp.int _)
theorem s_Ca (ih : Snd T n) (to : ToldOk T n) (G : Good T W X C k) (f : Str) (p : Pos) (args : List Expr) (pos : Pos) : PE X (.Call (.Name f p) args [] pos) (tD (gX X T) W (rpD (gX X T)) (evCall (n + 1) C f args)) := by
  by_cases hg : (gl C f && !args.any isStar) = true
  case neg =>
    refine PE.void (tD.stuck fun ρ st => ?_)
    show guardM _ _ st = _
    unfold guardM
    rw [if_neg hg]
  obtain ⟨hg1, hs⟩ := grd2 hg
  have cut : ∀ {m : DI.Env → M D}, (∀ ρ, evCall (n + 1) C f args ρ = guardM (gl C f && !args.any isStar) (m ρ)) → PE X (.Call (.Name f p) args [] pos) (tD (gX X T) W (rpD (gX X T)) m) → PE X (.Call (.Name f p) args [] pos) (tD (gX X T) W (rpD (gX X T)) (evCall (n + 1) C f args)) := fun {m} he h => h.mono fun σ H Q ⟨w, st, hσ, E, q⟩ => ⟨w, st, hσ, E, by
    rw [he] at q
    exact (Post.grd q).2⟩
  have none' : (∀ ρ st, evCall (n + 1) C f args ρ st = .stuck) → PE X (.Call (.Name f p) args [] pos) (tD (gX X T) W (rpD (gX X T)) (evCall (n + 1) C f args)) := fun h => PE.void (tD.stuck h)
  have dead : ∀ {m : DI.Env → M D}, (∀ ρ, evCall (n + 1) C f args ρ = guardM (gl C f && !args.any isStar) (m ρ)) → (∀ ρ st, m ρ st = .stuck) → ∀ ρ st, evCall (n + 1) C f args ρ st = .stuck := fun {m} he h ρ st => by
    rw [he]
    unfold guardM
    rw [if_pos hg, h]
  cases hf : C.fn f with
  | some fi =>
    cases hst : fi.st with
    | false =>
      refine cut (m := fun ρ => (bnd (evLs n C fi.lend args ρ) fun ds => guardM (decide (ds.length = fi.arity)) (purely (fi.sem ds)))) (fun ρ => ?_) (c_fnP ih G hf hst p args pos hg1 hs)
      show guardM _ (match C.fn f with | some fi => _ | none => _) = _
      rw [hf]
      simp only [hst]
    | true =>
      cases args with
      | nil =>
        refine none' (dead (m := fun _ => stuckM) (fun ρ => ?_) fun _ _ => rfl)
        show guardM _ (match C.fn f with | some fi => _ | none => _) = _
        rw [hf]
        simp only [hst]
      | cons a args =>
        by_cases ha : ∃ s q, a = .Name s q
        · obtain ⟨s, q, rfl⟩ := ha
          have hs2 : args.any isStar = false := by
            have z : isStar (.Name s q) = false ∧ args.any isStar = false := by simpa using hs
            exact z.2
          refine cut (m := fun ρ => guardM (isStt (slotOf C ρ s)) (bnd (evLs n C fi.lend args ρ) fun ds => guardM (decide (ds.length = fi.arity)) (fi.sem ds))) (fun ρ => ?_) (c_fnS ih G hf hst p q s args pos hg1 hs2)
          show guardM _ (match C.fn f with | some fi => _ | none => _) = _
          rw [hf]
          simp only [hst]
        · refine none' (dead (m := fun _ => stuckM) (fun ρ => ?_) fun _ _ => rfl)
          show guardM _ (match C.fn f with | some fi => _ | none => _) = _
          rw [hf]
          simp only [hst]
          cases a <;> first | rfl | exact absurd ⟨_, _, rfl⟩ ha
  | none =>
    cases hc : C.con f with
    | some d =>
      refine none' (dead (m := fun _ => stuckM) (fun ρ => ?_) fun _ _ => rfl)
      show guardM _ (match C.fn f with | some fi => _ | none => _) = _
      rw [hf]
      simp only [hc]
      rfl
    | none =>
      by_cases ht : f = "_law_told"
      · subst ht
        by_cases ha : ∃ a body scope lpos, args = [.Lambda a body scope lpos]
        · obtain ⟨a, body, scope, lpos, rfl⟩ := ha
          by_cases hl : (C.lam && lamOk C a scope) = true
          · obtain ⟨l1, l2⟩ := Bool.and_eq_true_iff.mp hl
            refine cut (m := fun ρ => toldM (evE n (C.lamIn scope) body (wipeE ρ (ownIx C.N scope)))) (fun ρ => ?_) (to G p lpos pos a body scope l1 l2 hf hc hg1)
            show guardM _ (match C.fn "_law_told" with | some fi => _ | none => _) = _
            rw [hf]
            simp only [hc]
            show guardM _ (guardM (C.lam && lamOk C a scope) _) = _
            rw [hl]
            rfl
          · refine none' (dead (m := fun _ => stuckM) (fun ρ => ?_) fun _ _ => rfl)
            show guardM _ (match C.fn "_law_told" with | some fi => _ | none => _) = _
            rw [hf]
            simp only [hc]
            show guardM _ (guardM (C.lam && lamOk C a scope) _) = _
            funext st
            unfold guardM
            rw [if_neg hl]
        · refine none' (dead (m := fun _ => stuckM) (fun ρ => ?_) fun _ _ => rfl)
          show guardM _ (match C.fn "_law_told" with | some fi => _ | none => _) = _
          rw [hf]
          simp only [hc]
          rw [if_pos True.intro]
          cases args with
          | nil => rfl
          | cons a r =>
            cases r with
            | nil => cases a <;> first | rfl | exact absurd ⟨_, _, _, _, rfl⟩ ha
            | cons _ _ => cases a <;> rfl
      by_cases hi : f = "isinstance"
      · subst hi
        by_cases ha : ∃ e Ty q, args = [e, .Name Ty q]
        · obtain ⟨e, Ty, q, rfl⟩ := ha
          refine cut (m := fun ρ => guardM (bi C Ty && !isStar e && tyOk Ty) (bnd (evB n C e ρ) fun d => bnd (optM (isT Ty d)) fun b => ret (.bool b))) (fun ρ => ?_) (c_isi ih G p q e Ty pos hf hc hg1)
          show guardM _ (match C.fn "isinstance" with | some fi => _ | none => _) = _
          rw [hf]
          simp only [hc]
          rfl
        · refine none' (dead (m := fun _ => stuckM) (fun ρ => ?_) fun _ _ => rfl)
          show guardM _ (match C.fn "isinstance" with | some fi => _ | none => _) = _
          rw [hf]
          simp only [hc]
          rw [if_neg ht, if_pos True.intro]
          cases args with
          | nil => rfl
          | cons a r =>
            cases r with
            | nil => rfl
            | cons b r =>
              cases r with
              | nil => cases b <;> first | rfl | exact absurd ⟨_, _, _, rfl⟩ ha
              | cons _ _ => cases b <;> rfl
      have base : ∀ ρ, evCall (n + 1) C f args ρ = guardM (gl C f && !args.any isStar) (match setArg args with
        | some (g, a) => if bi C g = true ∧ g = "set" ∧ (f = "sorted" ∨ f = "len") then bnd (evB n C a ρ) fun d => bnd (optM (seqOf d)) fun xs => bnd (optM (intsOf xs)) fun ns => guardM (decide (ns.length < 63)) (if f = "sorted" then ret (.list ((setI ns).map PyData.int)) else ret (.int (setI ns).length))
            else evBi n C f args ρ
        | none => evBi n C f args ρ) := fun ρ => by
        show guardM _ (match C.fn f with | some fi => _ | none => _) = _
        rw [hf]
        simp only [hc]
        rw [if_neg ht, if_neg hi]
        rfl
      cases hsa : setArg args with
      | none =>
        refine cut (m := fun ρ => evBi n C f args ρ) (fun ρ => ?_) (ih.Bi G f p args pos hf hc hg1 hs)
        rw [base, hsa]
      | some ga =>
        obtain ⟨g, a⟩ := ga
        by_cases hg : bi C g = true ∧ g = "set" ∧ (f = "sorted" ∨ f = "len")
        · obtain ⟨hg2, rfl, hfn⟩ := hg
          refine cut (m := fun ρ => bnd (evB n C a ρ) fun d => bnd (optM (seqOf d)) fun xs => bnd (optM (intsOf xs)) fun ns => guardM (decide (ns.length < 63)) (if f = "sorted" then ret (.list ((setI ns).map PyData.int)) else ret (.int (setI ns).length))) (fun ρ => ?_) (c_set ih G hfn hf hc hg1 hg2 hsa p pos)
          rw [base, hsa]
          show guardM _ (if _ then _ else _) = _
          rw [if_pos ⟨hg2, rfl, hfn⟩]
        · refine cut (m := fun ρ => evBi n C f args ρ) (fun ρ => ?_) (ih.Bi G f p args pos hf hc hg1 hs)
          rw [base, hsa]
          show guardM _ (if _ then _ else _) = _
          rw [if_neg hg]
theorem s_Bi (ih : Snd T n) (G : Good T W X C k) (f : Str) (p : Pos) (args : List Expr) (pos : Pos) (hf : C.fn f = none) (hc : C.con f = none) (hg : gl C f = true) (hs : args.any isStar = false) : PE X (.Call (.Name f p) args [] pos) (tD (gX X T) W (rpD (gX X T)) (evBi (n + 1) C f args)) := by
  cases hb : biOf f with
  | none =>
    refine PE.void (tD.stuck fun ρ st => ?_)
    clear hs
    show (match biOf f, args with | some b, e :: es => _ | _, _ => _ : M D) st = _
    rw [hb]
  | some b =>
    cases args with
    | nil =>
      refine PE.void (tD.stuck fun ρ st => ?_)
      show (match biOf f, ([] : List Expr) with | some b, e :: es => _ | _, _ => _ : M D) st = _
      rw [hb]
    | cons e es =>
      refine (c_bi ih G hf hc hb hg p pos e es hs).mono fun σ H Q h => ?_
      have z : evBi (n + 1) C f (e :: es) = fun ρ => bnd (evBs n C (e :: es) ρ) fun ds => biM b ds := by
        funext ρ
        show (match biOf f, e :: es with | some b, e :: es => _ | _, _ => _ : M D) = _
        rw [hb]
      rw [z] at h
      exact h
theorem s_F (ih : Snd T n) (G : Good T W X C k) (e : Expr) : PE X e (tD (gX X T) W (rpF (gX X T)) (evF (n + 1) C e)) := by
  cases e with
  | List es pos => exact f_list ih G es pos
  | BinOp a op b pos => exact f_bin ih G a b op pos
  | Dict ks vs pos =>
    cases ks with
    | cons ko ks => exact f_disp ih G ko ks vs pos
    | nil =>
      cases vs with
      | nil => exact f_dict0 pos
      | cons _ _ => exact PE.void (tD.stuck fun _ _ => rfl)
  | ListComp elt gs scope pos =>
    have big : ∀ a : Int, a ≠ 0 → (∃ m : Nat, a = .ofNat (m + 1)) ∨ ∃ m, a = .negSucc m := fun a h => by
      cases a with
      | ofNat m => cases m with
        | zero => exact absurd rfl h
        | succ m => exact .inl ⟨m, rfl⟩
      | negSucc m => exact .inr ⟨m, rfl⟩
    cases gs with
    | nil => exact PE.void (tD.stuck fun _ _ => rfl)
    | cons g gs =>
      obtain ⟨tg, iter, ifs, a⟩ := g
      by_cases ha : a = 0
      case neg =>
        refine PE.void (tD.stuck fun _ _ => ?_)
        rcases big a ha with ⟨m, rfl⟩ | ⟨m, rfl⟩
        · cases gs <;> rfl
        · cases gs <;> rfl
      subst ha
      cases gs with
      | nil => exact f_comp ih G elt tg iter ifs scope pos
      | cons g gs =>
        obtain ⟨tg1, iter1, ifs1, a1⟩ := g
        by_cases ha1 : a1 = 0
        case neg =>
          refine PE.void (tD.stuck fun _ _ => ?_)
          rcases big a1 ha1 with ⟨m, rfl⟩ | ⟨m, rfl⟩
          · cases gs <;> rfl
          · cases gs <;> rfl
        subst ha1
        cases gs with
        | nil => exact f_comp2 ih G elt tg iter tg1 iter1 ifs ifs1 scope pos
        | cons _ _ => exact PE.void (tD.stuck fun _ _ => rfl)
  | _ => exact PE.void (tD.stuck fun _ _ => rfl)
/-- a new object as a value -/
theorem s_Fv (ih : Snd T n) (G : Good T W X C k) (e : Expr) : PE X e (tD (gX X T) W (rpD (gX X T)) (evF n C e)) :=
  (ih.F G e).mono fun σ H Q h => h.weak fun _ _ _ _ r => rpF.toD r
theorem s_E (ih : Snd T n) (G : Good T W X C k) (e : Expr) : PE X e (tD (gX X T) W (rpD (gX X T)) (evE (n + 1) C e)) := by
  cases e with
  | Constant c j pos => exact snd_const
  | Name x pos => exact snd_nameM G
  | BinOp a op b pos =>
    refine (bin_ev ih G a b op pos).mono fun σ H Q h => ?_
    obtain ⟨w, st, h1, h2, h3⟩ := h
    exact ⟨w, st, h1, h2, h3.weak fun H v d r => rpX.toD r⟩
  | UnaryOp op a pos =>
    cases op with
    | Not => exact s_not ih G a pos
    | _ => exact s_un ih G _ (by simp) a pos
  | BoolOp op vs pos => exact ih.Bo G op vs pos
  | IfExp t a b pos => exact s_if ih G t a b pos
  | Tuple es j pos => exact s_tuple ih G es j pos
  | Compare a ops bs pos =>
    cases ops with
    | nil => exact s_Fv ih G _
    | cons op ops =>
      cases ops with
      | nil =>
        cases bs with
        | nil => exact s_Fv ih G _
        | cons b bs =>
          cases bs with
          | nil => exact s_cmp1 ih G a b op pos
          | cons _ _ => exact s_Fv ih G _
      | cons op' ops =>
        cases ops with
        | nil =>
          cases bs with
          | nil => exact s_Fv ih G _
          | cons b bs =>
            cases bs with
            | nil => exact s_Fv ih G _
            | cons c bs =>
              cases bs with
              | nil => exact s_cmp2 ih G a b c op op' pos
              | cons _ _ => exact s_Fv ih G _
        | cons _ _ => cases bs with
            | nil => exact s_Fv ih G _
            | cons b bs => cases bs <;> exact s_Fv ih G _
  | Subscript a i pos =>
    by_cases hi : ∃ lo hi p, i = .Slice lo hi none p
    · obtain ⟨lo, hi, p, rfl⟩ := hi
      exact s_slice ih G a lo hi p pos
    · have hi' : ∀ lo hi p, i ≠ .Slice lo hi none p := fun lo h p e => hi ⟨lo, h, p, e⟩
      refine (s_ix ih G a i pos hi').mono fun σ H Q h => ?_
      have e : evE (n + 1) C (.Subscript a i pos) = fun ρ => (match stCell C a ρ with
      | true => bnd (evE n C i ρ) fun y => fun st => ixM (.list st) y st
      | false => bnd (evB n C a ρ) fun x => bnd (evE n C i ρ) fun y => ixM x y) := by
        funext ρ
        cases i with
        | Slice lo h2 st p =>
          cases st with
          | none => exact absurd rfl (hi' lo h2 p)
          | some _ => rfl
        | _ => rfl
      rw [e] at h
      exact h
  | Call func args kws pos =>
    cases func with
    | Name f p =>
      cases kws with
      | nil => exact ih.Ca G f p args pos
      | cons _ _ => exact s_Fv ih G _
    | _ => exact s_Fv ih G _
  | _ => exact s_Fv ih G _
theorem snd_step (ih : Snd T n) (to : ToldOk T n) : Snd T (n + 1) where
  E G e := s_E ih G e
  F G e := s_F ih G e
  B G e := s_B ih G e
  Wk G br e := s_W ih G br e
  Te G e := s_T ih G e
  Ts G op vs pos := s_Ts ih G op vs pos
  Bo G op vs pos := s_Bo ih G op vs pos
  Es G es := s_Es ih G es
  Bs G es := s_Bs ih G es
  Ls G fs es hs := s_Ls ih G fs es hs
  O G o := s_O ih G o
  I G br tg e := s_I ih G br tg e
  If G es := s_If ih G es
  Ca G f p args pos := s_Ca ih to G f p args pos
  Ps G pos ks vs := s_Ps ih G pos ks vs
  Bi G f p args pos hf hc hg hs := s_Bi ih G f p args pos hf hc hg hs
theorem snd_zero : Snd T 0 where
  E G e := PE.void (tD.stuck fun _ _ => rfl)
  F G e := PE.void (tD.stuck fun _ _ => rfl)
  B G e := PE.void (tD.stuck fun _ _ => rfl)
  Wk G br e := PE.void (tD.stuck fun _ _ => rfl)
  Te G e := PT.void (tD.stuck fun _ _ => rfl)
  Ts G op vs pos := PW.void (tD.stuck fun _ _ => rfl)
  Bo G op vs pos := PE.void (tD.stuck fun _ _ => rfl)
  Es G es := PA.void (tD.stuck fun _ _ => rfl)
  Bs G es := PA.void (tD.stuck fun _ _ => rfl)
  Ls G fs es hs := PA.void (tD.stuck fun _ _ => rfl)
  O G o := PO.void (tD.stuck fun _ _ => rfl)
  I G br tg e := PI.void (tD.stuck fun _ _ => rfl)
  If G es := PTs.void (tD.stuck fun _ _ => rfl)
  Ca G f p args pos := PE.void (tD.stuck fun _ _ => rfl)
  Ps G pos ks vs := ⟨[(fun _ _ _ => False, fun _ _ _ => False)], ⟨fun _ _ _ _ _ _ q => q.elim⟩, fun σ H Q q => (tD.stuck (fun _ _ => rfl) σ H Q q).elim⟩
  Bi G f p args pos hf hc hg hs := PE.void (tD.stuck fun _ _ => rfl)
end
end DI
end
section
set_option linter.all false
set_option autoImplicit false
set_option maxRecDepth 100000
set_option maxHeartbeats 2000000
/-! D23: _law_told(lambda ..) is sound. -/
namespace DI
open PySem PySem.Spec L2
open PyProof.Rows hiding St
open LamX
section
variable {T : List (Addr × Str)} {W : EW} {X : Cx} {C : Ctx} {k n : Nat}
/-- the lambda's parameters, as lamOk has them -/
theorem lam_shape {a : Arguments} {scope : Scope} (h : lamOk C a scope = true) : ∃ pl ds, LamDef a pl ds ∧ lamNames C.sc scope pl = true := by
  unfold lamOk at h
  split at h
  · exact ⟨[], [], .none, h⟩
  · exact ⟨_, _, .one _ _ _ _ _, h⟩
  · cases h
theorem lam_names {sc scope : Scope} {pl : List Str} (h : lamNames sc scope pl = true) : LamS3 sc scope pl := by
  unfold lamNames at h
  simp only [Bool.and_eq_true, decide_eq_true_eq, Bool.not_eq_true', List.all_eq_true] at h
  obtain ⟨⟨⟨⟨h1, h2⟩, h3⟩, h4⟩, h5⟩ := h
  refine ⟨h1, h2, h3, fun y hy e => ?_, h5, fun y hy e => ?_⟩
  · have z := h4 y hy
    rw [e] at z
    cases z
  · have z := h4 y hy
    rw [e] at z
    simp only [Bool.and_eq_true] at z
    have z2 := z.2
    split at z2
    · exact .inl (by assumption)
    · exact .inr (by assumption)
    · cases z2
theorem ix_has : ∀ {N : List Str} {i : Nat} {y : Str}, N[i]? = some y → ∃ j, ixOf N y = some j
  | [], _, _, h => by simp at h
  | z :: r, i, y, h => by
    unfold ixOf
    by_cases e : y = z
    · rw [if_pos e]; exact ⟨0, rfl⟩
    · rw [if_neg e]
      cases i with
      | zero => simp at h; exact absurd h.symm e
      | succ i =>
        obtain ⟨j, hj⟩ := ix_has (i := i) (by simpa using h)
        exact ⟨j + 1, by rw [hj]; rfl⟩
theorem own_all {C : Ctx} {scope : Scope} (nd : C.N.Nodup) : ∀ i y, C.N[i]? = some y → scope.names.lookup y = some .local → i ∈ ownIx C.N scope := fun i y h1 h2 => by
  obtain ⟨j, hj⟩ := ix_has h1
  have e : j = i := nodup_ix nd (ixOf_get hj) h1
  subst e
  exact own_mem (C := C) (scope := scope) (x := y) (by show locB scope y = true; unfold locB; rw [h2]) hj
/-- the world in the lambda -/
def Wd.lam (w : Wd) (vs : List Nat) : Wd := ⟨w.Hid, w.p, wipe w.σ vs, wipeE w.ρ vs, w.H0⟩
theorem ERep.lam {g : Gd} {w : Wd} {H : Hp} {st : Stt} (E : ERep g w H st) (vs : List Nat) : ERep g (w.lam vs) H st := by
  refine ⟨by show (wipeE w.ρ vs).length = (wipe w.σ vs).length; rw [wipe_length, wipeE_length]; exact E.len, fun i sv h => ?_, fun i j ds es a h1 h2 h3 h4 => ?_, E.stt, E.tabs, E.dom, E.old⟩
  · obtain ⟨h1, h2⟩ := wipeE_some (show (wipeE w.ρ vs)[i]? = _ from h)
    obtain ⟨v, a, b⟩ := E.slot i sv h1
    exact ⟨v, (wipe_keep h2).trans a, b⟩
  · exact E.own i j ds es a (wipeE_some (show (wipeE w.ρ vs)[i]? = _ from h1)).1 (wipeE_some (show (wipeE w.ρ vs)[j]? = _ from h2)).1 (wipe_some (show (wipe w.σ vs)[i]? = _ from h3)).1 (wipe_some (show (wipe w.σ vs)[j]? = _ from h4)).1
/-- behind the making of the lambda -/
theorem made_evo {p : Option Addr} {H H1 : Hp} (e : ExtN H H1) (d : ∀ b, H b ≠ none → H1 b ≠ none) : Evo p H H1 := ⟨fun b o _ h t => e b o h t, d⟩
theorem StRep.ext {K : PySem.W.Frag} {Hid : Addr → Prop} {p : Option Addr} {H H' : Hp} {st : Stt} (s : StRep K Hid p H st) (e : ExtN H H') : StRep K Hid p H' st := by
  cases p with
  | none => exact s
  | some a =>
    obtain ⟨h1, h2, vs, h3, h4⟩ := s
    exact ⟨h1, h2, vs, e _ _ h3 (by intro ps z; cases z), Kp.dps (fun b o h n => by obtain ⟨q1, q2⟩ := hide_in h; exact in_hide (e _ _ q1 n) q2) st vs h4⟩
theorem kindOf_ix {c w : Str} (h : kindOfErr c = some w) : ∃ i : Nat, toldKinds[i]? = some c ∧ toldWords[i]? = some w := by
  unfold kindOfErr at h
  have hm := PySem.mem_of_lookup h
  simp only [List.mem_cons, Prod.mk.injEq, List.not_mem_nil, or_false] at hm
  rcases hm with ⟨rfl, rfl⟩ | ⟨rfl, rfl⟩ | ⟨rfl, rfl⟩ | ⟨rfl, rfl⟩ | ⟨rfl, rfl⟩
  · exact ⟨0, rfl, rfl⟩
  · exact ⟨1, rfl, rfl⟩
  · exact ⟨2, rfl, rfl⟩
  · exact ⟨3, rfl, rfl⟩
  · exact ⟨4, rfl, rfl⟩
theorem told_ok (ih : Snd T n) : ToldOk T n := by
  intro W X C k G p lpos pos a body scope hl hok hf hc hg
  obtain ⟨⟨c, P, hcode, TB, hmT, hu⟩, TF⟩ := G.told hl
  obtain ⟨gt, fd, params, q, sg, csc, SC, hline, hmt, hkt, FD, hbt⟩ := TF.fn
  obtain ⟨oc, od, dV, kV, doc, pm, an, cdv, ct, osl, rfl, lk, hcd, _, _⟩ := FD.ex
  obtain ⟨pl, ds, LD, LN⟩ := lam_shape hok
  have L : LamS3 X.env.scope scope pl := by rw [G.sc]; exact lam_names LN
  have hr2 : Room (k + 2) X.A := by
    have r := G.room
    rw [if_pos hl] at r
    exact r
  obtain ⟨g1, g2⟩ := G.gl hg
  refine ⟨fun pins s σ H Q I h => ?_⟩
  obtain ⟨w, st, hσ, E, h⟩ := h
  subst hσ
  refine wpAny_Call_Name_kw (ld_glob I g1 hmt ?_ (by decide))
  refine PySem.W.callWith_K (h₀ := X.base) I.ok.mod.kin hkt ?_ (by rfl) (by rfl)
  show wpAny _ _ (spliced ((false, eval (.Lambda a body scope lpos) X.env) :: backTo pos (starEach [] X.env))) _ _ s
  refine Calls.spliced_cons (lam_make3 I TB hcode hmT hu E.tabs (L.has I.ok) LD fun f c' H1 s' I1 Md => ?_)
  refine Calls.spliced_nil ⟨I1.kIn, ?_⟩
  have ev1 : Evo w.p H H1 := made_evo Md.ext Md.dom
  have E1 : ERep (gX X T) w H1 st := E.evo ev1 (E.stt.ext Md.ext) Md.tabs
  -- what is wanted of an error
  let W' : EW := fun e H2 => ∃ kd, kindOfErr e.cls = some kd ∧ ∀ (b : Addr) (H3 : Hp), (∀ x o, H2 x = some o → H3 x = some o) → H2 b = none → H3 b = some (.tup [.str kd]) → Q (.ref b) H3
  let Q' : VK := fun v H2 => ∀ b, H2 b = none → Q (.ref b) (upd H2 b (.tup [.str "told", v]))
  have back : ∀ {H2 : Hp} {st2 : Stt}, Evo w.p H1 H2 → ERep (gX X T) (w.lam (ownIx C.N scope)) H2 st2 → Evo w.p H H2 ∧ ERep (gX X T) w H2 st2 := fun {H2 st2} e2 E2 => ⟨ev1.tr e2, E1.evo e2 E2.stt E2.tabs⟩
  have hm : Post (gX X T) W' (w.lam (ownIx C.N scope)) (rpD (gX X T) (w.lam (ownIx C.N scope))) H1 (evE n (C.lamIn scope) body (wipeE w.ρ (ownIx C.N scope)) st) Q' := by
    have h : Post (gX X T) W w (rpD (gX X T) w) H (toldM (evE n (C.lamIn scope) body (wipeE w.ρ (ownIx C.N scope))) st) Q := h
    unfold toldM at h
    cases hr : evE n (C.lamIn scope) body (wipeE w.ρ (ownIx C.N scope)) st with
    | ok d st' =>
      rw [hr] at h
      intro v H2 e2 E2 r2 b hb
      obtain ⟨z1, z2⟩ := back e2 E2
      exact h (.ref b) _ (z1.tr (Evo.new hb)) (z2.new hb) (new_tuple z2 hb (.cons (Rp.str _) (.cons r2 .nil)))
    | err e st' =>
      rw [hr] at h
      intro H2 e2 E2
      obtain ⟨z1, z2⟩ := back e2 E2
      have h : Post (gX X T) W w (rpD (gX X T) w) H (match kindOfErr e.cls with
        | some k => R.ok (PyData.tuple [.str k]) st'
        | none => R.stuck) Q := h
      cases hk : kindOfErr e.cls with
      | none => rw [hk] at h; exact h.elim
      | some kd =>
        rw [hk] at h
        refine ⟨kd, hk, fun b H3 kp hb h3 => ?_⟩
        have nh : ¬ w.Hid b := fun z => z2.dom b z hb
        exact h (.ref b) H3 (z1.tr (Evo.of kp)) (z2.kp kp) (Rp.tup (SqT.of (in_hide h3 nh)) (.cons (Rp.str _) .nil))
    | stuck => rw [hr] at h; exact h
  -- the def that calls it
  have rc : codeAny (model X.prog X.w) X.A (.call (.ref gt) ⟨[.ref f], []⟩) (CR C8.CX0 X.stack X.prog X.w H1 s' Q C8.E0) s' := by
    refine run_ofS (N := toldN) (ps := ["call"]) (us := [.ref f]) (vs := [.ref f]) lk hcd SC.S hr2 I1.env0 (hbt s' [.ref f] I1.kIn rfl) (.cons rfl .nil) rfl fun hr' => ?_
    let Z : Cx := (cxOf C8.CX0 X.prog X.w X.K X.mg X.base toldN "_law_told" sg gt cdv X.A X.stack s' H1 C8.E0).nox
    obtain ⟨CS, hCS, hex⟩ := TF.C.err
    have suite : ∀ (a : Addr) (oe : Obj) (cls : Value) (d : Option Addr) (pn : List (Addr × Obj)), L2N.Zn cls d oe → (∃ vs, oe.data = .fields vs) → PSs (Z.suite a ((a, oe) :: pn)) [toldS1 q, toldS2 q csc, toldS3 q] (toldTs (He.ga X.K) a cls d) := fun a oe cls d pn hz hf =>
      suite_ok (X := Z) rfl rfl SC (fun _ => rfl) TF.C TF.bi hline hz hf
    have body' : ∀ (WW : WX) (pn : List (Addr × Obj)) (xe : Value → Shared → Prop), L2N.Takes (Z.tr pn xe) WW → PassesOwn (model Z.prog Z.w) Z.A Z.env xe → PSs (Z.tr pn xe) [toldTry q]
        (fun D σ H => (∀ cls d H', wx X W' cls d [] H' → WW cls d (L2.start toldN [V.ref f]) H') ∧ σ = L2.start toldN [V.ref f] ∧ σ[0]? = some (some (.ref f)) ∧ H c' = some (CodeO c' (X.env.qual ++ "<lambda>")) ∧ tD (gX X T) W' (rpD (gX X T)) (evE n (C.lamIn scope) body) (wipe w.σ (ownIx C.N scope)) H fun v H2 => ∀ b, H2 b = none → D.rt (.ref b) (upd H2 b (.tup [.str "told", v]))) := fun WW pn xe tk po => by
      refine ⟨fun pinsZ sZ σZ HZ D IZ hZ => ?_⟩
      obtain ⟨z1, z0, z2, z3, z4⟩ := hZ
      have act := pe_act3 (i := 0) (p1 := q 1) (p2 := q 2) (pn := pn) (xe := xe) (E := fun cls d H => wx X W' cls d [] H) (tb := tD (gX X T) W' (rpD (gX X T)) (evE n (C.lamIn scope) body)) (vs := ownIx C.N scope) (CXg := C8.CX0) (Eg := C8.E0) (Ng := toldN) (qg := "_law_told") (sg := sg) (g := gt) (cdg := cdv)
        I1 G.nd G.gd L LD Md (fun i y h1 h2 => own_all (by rw [← G.N]; exact G.nd) i y (by rw [← G.N]; exact h1) h2) (a := "call") tk z1 hr'
        (fun A outer s2 H2 hgd hr3 => ih.E (X := lamCxN X A outer s2 H2 (fun cls d H => wx X W' cls d [] H) scope f c') (C := C.lamIn scope) (k := k)
          ⟨G.N, rfl, G.nd, rfl, (L2N.takes_of rfl rfl rfl rfl), hgd, hr3, (fun z => absurd (show false = true from z) (by simp)), G.con, G.bi, G.fn⟩ body)
        rfl (.inl SC.call) (by decide) (by decide)
      have P := pss_one (ps_ret (pos := q 4) (pe_tup (x1 := 0) (pos := q 3) (pa_cons (pe_str (x := "told") (j := 0) (pos := q 0)) (pa_cons act pa_nil))))
      refine P.run pinsZ sZ σZ HZ D IZ ?_
      refine ⟨z0, z2, z3, ?_⟩
      obtain ⟨w4, st4, y1, y2, y3⟩ := z4
      exact ⟨w4, st4, y1, y2, y3.ends (rp' := rpD _ w4) fun d st5 v H5 e5 E5 r5 => .inr ⟨r5, fun y => ⟨sz2, fun b hb => y b hb⟩⟩⟩
    have try' := L2N.ps_try_as (X := Z) (i := 1) (np := q 5) (pos := q 66) (pos' := q 65) (n := "e") (x := "HandError") (c := .ref CS) (Wout := fun _ _ _ _ => False) rfl rfl (by show toldN.Nodup; decide) rfl SC.e ⟨SC.gl "HandError" (by simp), by decide, .inl hCS⟩
      (fun u s' ⟨_, _, _, _, _, _, _, _, _, _, _, _, _, _, _, _, z⟩ => z.elim) body' suite
    refine ⟨_, (pss_one try').nox, ?_⟩
    refine ⟨fun cls d H' hw => ?_, rfl, rfl, Md.code, w.lam (ownIx C.N scope), st, rfl, E1.lam _, hm⟩
    obtain ⟨e, rfl, rfl, kd, hk, hq⟩ := hw
    obtain ⟨i, hi1, hi2⟩ := kindOf_ix hk
    refine ⟨true, hex _ (kinds_mem hi1), fun _ a ha => ⟨e.cls, kd, i, hi1, hi2, rfl, rfl, rfl, rfl, fun p H3 kp hp h3 => hq p H3 kp hp h3⟩, fun z => by cases z⟩
  refine wpAny_call (codeAny_mono rc fun r s2 hq => ?_)
  match r, hq with
  | .error e, hq => exact (show False from hq).elim
  | .ok (.ret u), hq => exact I1.after hq
end
end DI
end
section
set_option linter.all false
set_option autoImplicit false
set_option maxRecDepth 100000
/-! D15: statements: what is wanted behind them; sharing; writes. -/
namespace DI
open PySem PySem.Spec L2
open PyProof.Rows hiding St
/-- how a def was entered -/
structure Bs where
  Hid : Addr → Prop
  p : Option Addr
  H : Hp
structure BOk (B : Bs) (w : Wd) (H : Hp) : Prop where
  sub : ∀ a, B.Hid a → w.Hid a
  dom : ∀ a, B.Hid a → B.H a ≠ none
  pp : w.p = B.p ∨ (B.p = none ∧ ∃ a, w.p = some a ∧ B.H a = none)
  ev : Evo B.p B.H H
  own : ∀ (i : Nat) (ds : D) (a : Addr), w.ρ[i]? = some (some (.ow ds)) → w.σ[i]? = some (some (.ref a)) → B.H a = none
  pin : ∀ a, B.p = some a → B.Hid a
  lnt : ∀ (i : Nat) (d : D) (a : Addr), w.ρ[i]? = some (some (.ln d)) → (∀ ds, d ≠ .tuple ds) → w.σ[i]? = some (some (.ref a)) → w.Hid a → B.Hid a
theorem BOk.lnn {B : Bs} {w : Wd} {H : Hp} (b : BOk B w H) {i : Nat} {d : D} {a c : Addr} (h1 : w.ρ[i]? = some (some (.ln d))) (n : ∀ ds, d ≠ .tuple ds) (h2 : w.σ[i]? = some (some (.ref c))) (h3 : w.Hid c) (hB : B.H a = none) : c ≠ a := fun z => b.dom c (b.lnt i d c h1 n h2 h3) (z ▸ hB)
structure Stp (w : Wd) (H : Hp) (w' : Wd) (H' : Hp) : Prop where
  kp : Kp (hide w.Hid H) (hide w'.Hid H')
  dom : ∀ b, H b ≠ none → H' b ≠ none
theorem Stp.rfl' {w : Wd} {H : Hp} : Stp w H w H := ⟨Kp.rfl', fun _ h => h⟩
theorem Stp.tr {w w1 w2 : Wd} {H H1 H2 : Hp} (a : Stp w H w1 H1) (b : Stp w1 H1 w2 H2) : Stp w H w2 H2 := ⟨a.kp.tr b.kp, fun c h => b.dom c (a.dom c h)⟩
/-- what a def leaves -/
def Left (g : Gd) (B : Bs) (H : Hp) (st : Stt) : Prop := Evo B.p B.H H ∧ LamX.Tabs g.T H ∧ ∀ a, B.p = some a → StRep g.K B.Hid B.p H st
def PostS (g : Gd) (W : EW) (B : Bs) (w : Wd) (H : Hp) (r : R (Fl × DI.Env)) (D : Ends) : Prop := match r with
  | .ok (.nx, ρ') st' => ∀ w' H', w'.ρ = ρ' → BOk B w' H' → Stp w H w' H' → ERep g w' H' st' → D.nx w'.σ H'
  | .ok (.bk, ρ') st' => ∀ w' H', w'.ρ = ρ' → BOk B w' H' → Stp w H w' H' → ERep g w' H' st' → D.bk w'.σ H'
  | .ok (.ct, ρ') st' => ∀ w' H', w'.ρ = ρ' → BOk B w' H' → Stp w H w' H' → ERep g w' H' st' → D.ct w'.σ H'
  | .ok (.rt d, _) st' => ∀ v H', Left g B H' st' → Rp g.K (hide B.Hid H') v d → D.rt v H'
  | .err e st' => ∀ H', Left g B H' st' → W e H'
  | .stuck => False
section
variable {g : Gd} {W : EW} {B : Bs} {w w' : Wd} {H H' : Hp} {st st' : Stt} {D : Ends}
theorem PostS.later {r : R (Fl × DI.Env)} (h : PostS g W B w H r D) (s : Stp w H w' H') : PostS g W B w' H' r D := by
  match r, h with
  | .ok (.nx, ρ') st', h => exact fun w2 H2 a b c => h w2 H2 a b (s.tr c)
  | .ok (.bk, ρ') st', h => exact fun w2 H2 a b c => h w2 H2 a b (s.tr c)
  | .ok (.ct, ρ') st', h => exact fun w2 H2 a b c => h w2 H2 a b (s.tr c)
  | .ok (.rt d, _) st', h => exact h
  | .err e st', h => exact h
/-- an expression's step -/
theorem Stp.of (E : ERep g w H st) (e : Evo w.p H H') : Stp w H w H' := ⟨E.kph e, e.dom⟩
theorem BOk.evo (b : BOk B w H) (e : Evo w.p H H') : BOk B w H' := by
  refine ⟨b.sub, b.dom, b.pp, ⟨fun c o n h t => ?_, fun c h => e.dom c (b.ev.dom c h)⟩, b.own, b.pin, b.lnt⟩
  refine e.kp c o (fun z => ?_) (b.ev.kp c o n h t) t
  rcases b.pp with q | ⟨q, a, q1, q2⟩
  · exact n (q ▸ z)
  · rw [q1] at z
    cases z
    rw [q2] at h
    cases h
theorem RpO.nt {K : PySem.W.Frag} {H : Hp} {o : HO} {d : DI.D} (r : RpO K H o d) : ∀ ds, d ≠ .tuple ds := fun ds z => by
  subst z
  cases r
theorem LRep.lo {K : PySem.W.Frag} {Hid : Addr → Prop} {p : Option Addr} {H : Hp} {a : Addr} {d : DI.D} (h : LRep K Hid p H (.ref a) d) (n : H a = none) : ∃ ds, d = .tuple ds := by
  have nr : ∀ {o : HO}, Rd (hide Hid H) a o → False := fun {o} r => by
    have z : hide Hid H a = none := by
      unfold hide
      split
      · rfl
      · exact n
    rcases r with r | ⟨u, r⟩ <;> (rw [z] at r; cases r)
  rcases h with h | ⟨x, us, q1, q2, q3, q4, q5⟩
  · cases h with
    | lst r _ => exact (nr r).elim
    | tup r _ => exact ⟨_, rfl⟩
    | dic r _ => exact (nr r).elim
  · cases q1
    rw [n] at q4
    cases q4
theorem BOk.left (b : BOk B w H) (E : ERep g w H st) : Left g B H st := by
  refine ⟨b.ev, E.tabs, fun a ha => ?_⟩
  have hp : w.p = B.p := by
    rcases b.pp with q | ⟨q, _⟩
    · exact q
    · rw [ha] at q; cases q
  have s := E.stt
  rw [hp] at s
  rw [ha] at s ⊢
  obtain ⟨h1, h2, vs, h3, h4⟩ := s
  exact ⟨b.pin a ha, h2, vs, h3, Kp.dps (fun c o h n => by obtain ⟨q1, q2⟩ := hide_in h; exact in_hide q1 fun z => q2 (b.sub c z)) st vs h4⟩
theorem BOk.val (b : BOk B w H) {v : V} {d : DI.D} (r : rpD g w H v d) : Rp g.K (hide B.Hid H) v d := Kp.dp (fun c o h n => by obtain ⟨q1, q2⟩ := hide_in h; exact in_hide q1 fun z => q2 (b.sub c z)) d v r
/-- an expression, then the rest -/
theorem PostS.bind {α β : Type} {r : R α} {f : α → M (Fl × DI.Env)} {rp : Hp → β → α → Prop} {Q : β → Hp → Prop} (h : PostS g W B w H (r.next f) D) (b : BOk B w H) (E : ERep g w H st)
    (k : ∀ a st1 x H1, Evo w.p H H1 → ERep g w H1 st1 → BOk B w H1 → rp H1 x a → PostS g W B w H1 (f a st1) D → Q x H1) : Post g W w rp H r Q := by
  cases r with
  | ok a st' => exact fun x H1 e1 E1 r1 => k a st' x H1 e1 E1 (b.evo e1) r1 (PostS.later h (Stp.of E e1))
  | err x st' => exact fun H1 e1 E1 => h H1 ((b.evo e1).left E1)
  | stuck => exact h
/-- .. told from where it began -/
theorem PostS.bind0 {α β : Type} {r : R α} {f : α → M (Fl × DI.Env)} {rp : Hp → β → α → Prop} {Q : β → Hp → Prop} (h : PostS g W B w H (r.next f) D) (b : BOk B w H) (E : ERep g w H st)
    (k : ∀ a st1 x H1, Evo w.p H H1 → ERep g w H1 st1 → BOk B w H1 → rp H1 x a → PostS g W B w H (f a st1) D → Q x H1) : Post g W w rp H r Q := by
  cases r with
  | ok a st' => exact fun x H1 e1 E1 r1 => k a st' x H1 e1 E1 (b.evo e1) r1 h
  | err x st' => exact fun H1 e1 E1 => h H1 ((b.evo e1).left E1)
  | stuck => exact h
theorem PostS.grd {c : Bool} {m : M (Fl × DI.Env)} (h : PostS g W B w H (guardM c m st) D) : c = true ∧ PostS g W B w H (m st) D := by
  unfold guardM at h
  split at h
  · exact ⟨by assumption, h⟩
  · exact h.elim
theorem PostS.opt {α : Type} {o : Option α} {f : α → M (Fl × DI.Env)} (h : PostS g W B w H (bnd (optM o) f st) D) : ∃ a, o = some a ∧ PostS g W B w H (f a st) D := by
  cases o with
  | none => exact h.elim
  | some a => exact ⟨a, rfl, h⟩
theorem PostS.nx' {ρ' : DI.Env} (h : PostS g W B w H (.ok (.nx, ρ') st') D) (e : w'.ρ = ρ') (b : BOk B w' H') (s : Stp w H w' H') (E : ERep g w' H' st') : D.nx w'.σ H' := h w' H' e b s E
end
/-- the reading of a statement -/
def tSD (g : Gd) (W : EW) (m : DI.Env → M (Fl × DI.Env)) : TS := fun D σ H => ∃ (B : Bs) (w : Wd) (st : Stt), w.σ = σ ∧ BOk B w H ∧ ERep g w H st ∧ PostS g W B w H (m w.ρ st) D
/-! ### sharing -/
section
variable {g : Gd} {B : Bs} {H : Hp} {st : Stt}
/-- a slot's value by its place, data as they were -/
def Wd.show' (w : Wd) (a : Addr) (ρ : DI.Env) : Wd := { w with Hid := fun b => w.Hid b ∧ b ≠ a, ρ := ρ }
theorem share_at {w : Wd} (E : ERep g w H st) (b : BOk B w H) (i : Nat) : ∃ w' : Wd, w'.σ = w.σ ∧ w'.ρ = shareAt w.ρ i ∧ ERep g w' H st ∧ BOk B w' H ∧ Stp w H w' H := by
  have same : shareAt w.ρ i = w.ρ → ∃ w' : Wd, w'.σ = w.σ ∧ w'.ρ = shareAt w.ρ i ∧ ERep g w' H st ∧ BOk B w' H ∧ Stp w H w' H := fun e => ⟨w, rfl, e.symm, E, b, Stp.rfl'⟩
  cases hs : w.ρ[i]? with
  | none => exact same (by unfold shareAt; rw [hs])
  | some o =>
    cases o with
    | none => exact same (by unfold shareAt; rw [hs])
    | some sv =>
      have set_same : ∀ sv', w.ρ[i]? = some (some sv') → w.ρ.set i (some sv') = w.ρ := fun sv' h => by
        refine List.ext_getElem? fun j => ?_
        rw [List.getElem?_set]
        split
        · rename_i e
          subst e
          obtain ⟨hl, _⟩ := List.getElem?_eq_some_iff.mp h
          rw [if_pos hl, h]
        · rfl
      cases sv with
      | sh d => exact same (by unfold shareAt; rw [hs]; exact set_same _ hs)
      | stt => exact same (by unfold shareAt; rw [hs]; exact set_same _ hs)
      | ln d => exact same (by unfold shareAt; rw [hs]; exact set_same _ hs)
      | ow ds =>
        have e : shareAt w.ρ i = w.ρ.set i (some (.sh ds)) := by unfold shareAt; rw [hs]; rfl
        obtain ⟨v, hv, a, vs, rfl, h2, h3, h4, h5⟩ := E.slot i _ hs
        have hB : B.H a = none := b.own i ds a hs hv
        have kp : Kp (hide w.Hid H) (hide (fun b => w.Hid b ∧ b ≠ a) H) := fun c o h n => by
          obtain ⟨q1, q2⟩ := hide_in h
          exact in_hide q1 fun z => q2 z.1
        have na : ∀ {c o}, hide w.Hid H c = some o → c ≠ a := fun {c o} h z => (hide_in h).2 (z ▸ h2)
        have here : Rp g.K (hide (fun b => w.Hid b ∧ b ≠ a) H) (.ref a) ds := (kp.rpo h5).rp (.inl (in_hide h4 fun z => z.2 rfl))
        refine ⟨w.show' a (shareAt w.ρ i), rfl, rfl, ?_, ?_, ⟨kp, fun _ h => h⟩⟩
        · rw [e]
          refine ⟨by show (w.ρ.set i _).length = _; rw [List.length_set]; exact E.len, fun j sv h0 => ?_, fun j1 j2 ds1 ds2 a2 g1 g2 g3 g4 => ?_, ?_, E.tabs, fun c h => E.dom c h.1, E.old⟩
          · have h : (w.ρ.set i (some (.sh ds)))[j]? = some (some sv) := h0
            show ∃ v, w.σ[j]? = _ ∧ _
            rw [List.getElem?_set] at h
            by_cases hij : i = j
            · subst hij
              rw [if_pos rfl] at h
              split at h
              · cases h
                exact ⟨_, hv, here⟩
              · cases h
            · rw [if_neg hij] at h
              obtain ⟨u, u1, u2⟩ := E.slot j sv h
              refine ⟨u, u1, ?_⟩
              cases sv with
              | sh d => exact kp.dp d u u2
              | stt => exact u2
              | ow es =>
                obtain ⟨a', us, rfl, q2, q3, q4, q5⟩ := u2
                exact ⟨a', us, rfl, ⟨q2, fun z => hij (E.own i j ds es a hs h hv (z ▸ u1))⟩, q3, q4, kp.rpo q5⟩
              | ln es =>
                rcases u2 with u2 | ⟨a', us, rfl, q2, q3, q4, q5⟩
                · exact .inl (kp.dp es u u2)
                · exact .inr ⟨a', us, rfl, ⟨q2, b.lnn h q5.nt u1 q2 hB⟩, q3, q4, kp.rpo q5⟩
          · have pick : ∀ {j : Nat} {ds' : D}, (w.ρ.set i (some (SV.sh ds)))[j]? = some (some (SV.ow ds')) → w.ρ[j]? = some (some (SV.ow ds')) := fun {j ds'} h => by
              rw [List.getElem?_set] at h
              split at h
              · split at h <;> cases h
              · exact h
            exact E.own j1 j2 ds1 ds2 a2 (pick g1) (pick g2) g3 g4
          · have s := E.stt
            show StRep g.K _ w.p H st
            cases hp : w.p with
            | none => rw [hp] at s; exact s
            | some q =>
              rw [hp] at s
              obtain ⟨q1, q2, us, q3, q4⟩ := s
              exact ⟨⟨q1, fun z => h3 (by rw [hp, z])⟩, q2, us, q3, kp.dps st us q4⟩
        · refine ⟨fun c h => ⟨b.sub c h, fun z => b.dom c h (z ▸ hB)⟩, b.dom, b.pp, b.ev, fun j es c h1 h2 => ?_, b.pin, fun j es c h1 h2 h3 h4 => ?_⟩
          · refine b.own j es c ?_ h2
            have h : (shareAt w.ρ i)[j]? = some (some (.ow es)) := h1
            rw [e, List.getElem?_set] at h
            split at h
            · split at h <;> cases h
            · exact h
          · refine b.lnt j es c ?_ h2 h3 h4.1
            have h : (shareAt w.ρ i)[j]? = some (some (.ln es)) := h1
            rw [e, List.getElem?_set] at h
            split at h
            · split at h <;> cases h
            · exact h
theorem share_ok (C : Ctx) : ∀ (xs : List Str) {w : Wd}, ERep g w H st → BOk B w H → ∃ w' : Wd, w'.σ = w.σ ∧ w'.ρ = share C xs w.ρ ∧ ERep g w' H st ∧ BOk B w' H ∧ Stp w H w' H
  | [], w, E, b => ⟨w, rfl, rfl, E, b, Stp.rfl'⟩
  | x :: xs, w, E, b => by
    have h1 : ∃ w1 : Wd, w1.σ = w.σ ∧ w1.ρ = (match ixOf C.N x with | some i => shareAt w.ρ i | none => w.ρ) ∧ ERep g w1 H st ∧ BOk B w1 H ∧ Stp w H w1 H := by
      cases ixOf C.N x with
      | none => exact ⟨w, rfl, rfl, E, b, Stp.rfl'⟩
      | some i => exact share_at E b i
    obtain ⟨w1, a1, a2, a3, a4, a5⟩ := h1
    obtain ⟨w2, c1, c2, c3, c4, c5⟩ := share_ok C xs a3 a4
    refine ⟨w2, c1.trans a1, ?_, c3, c4, a5.tr c5⟩
    rw [c2, a2]
    rfl
/-- sharing first -/
theorem tSD.share {W : EW} {m : DI.Env → M (Fl × DI.Env)} {C : Ctx} {xs : List Str} {D : Ends} {σ : L2.St} (h : tSD g W (fun ρ => m (DI.share C xs ρ)) D σ H) : tSD g W m D σ H := by
  obtain ⟨B, w, st, hσ, b, E, p⟩ := h
  obtain ⟨w', a1, a2, a3, a4, a5⟩ := share_ok C xs E b
  exact ⟨B, w', st, a1.trans hσ, a4, a3, by rw [a2]; exact p.later a5⟩
/-! ### writes -/
/-- an owned list is rewritten -/
theorem own_write {w : Wd} (E : ERep g w H st) (b : BOk B w H) {i : Nat} {a : Addr} {ds ds' : D} {o' : HO} (hs : w.ρ[i]? = some (some (.ow ds))) (hv : w.σ[i]? = some (some (.ref a))) (r : RpO g.K (hide w.Hid H) o' ds') :
    ERep g { w with ρ := w.ρ.set i (some (.ow ds')) } (upd H a o') st ∧ BOk B { w with ρ := w.ρ.set i (some (.ow ds')) } (upd H a o') ∧ Stp w H { w with ρ := w.ρ.set i (some (.ow ds')) } (upd H a o') := by
  obtain ⟨v, hv', a', us, rfl, h2, h3, h4, h5⟩ := E.slot i _ hs
  rw [hv] at hv'
  cases hv'
  have hB : B.H a = none := b.own i ds a hs hv
  have kp : Kp (hide w.Hid H) (hide w.Hid (upd H a o')) := fun c o h n => by
    obtain ⟨q1, q2⟩ := hide_in h
    exact in_hide (by rw [upd_ne (show c ≠ a from fun z => q2 (z ▸ h2))]; exact q1) q2
  have pick : ∀ {j : Nat} {es : D}, (w.ρ.set i (some (.ow ds')))[j]? = some (some (.ow es)) → ∃ es', w.ρ[j]? = some (some (.ow es')) := fun {j es} h => by
    rw [List.getElem?_set] at h
    split at h
    · rename_i e
      subst e
      exact ⟨ds, hs⟩
    · exact ⟨es, h⟩
  have ev : Evo B.p B.H (upd H a o') := ⟨fun c o n h t => by rw [upd_ne (show c ≠ a from fun z => by subst z; rw [hB] at h; cases h)]; exact b.ev.kp c o n h t, fun c h => by
    rw [upd_ne (show c ≠ a from fun z => h (z ▸ hB))]
    exact b.ev.dom c h⟩
  have pickL : ∀ {j : Nat} {es : D}, (w.ρ.set i (some (.ow ds')))[j]? = some (some (.ln es)) → w.ρ[j]? = some (some (.ln es)) := fun {j es} h => by
    rw [List.getElem?_set] at h
    split at h
    · split at h <;> cases h
    · exact h
  refine ⟨⟨by show (w.ρ.set i _).length = _; rw [List.length_set]; exact E.len, fun j sv h0 => ?_, fun j1 j2 ds1 ds2 a2 g1 g2 g3 g4 => ?_, ?_, ?_, fun c h => ?_, fun c h => ?_⟩, ⟨b.sub, b.dom, b.pp, ev, fun j es c h1 h2 => ?_, b.pin, fun j es c h1 h2 h3 h4 => b.lnt j es c (pickL h1) h2 h3 h4⟩, ⟨kp, fun c h => ?_⟩⟩
  · have h : (w.ρ.set i (some (.ow ds')))[j]? = some (some sv) := h0
    show ∃ v, w.σ[j]? = _ ∧ _
    rw [List.getElem?_set] at h
    by_cases hij : i = j
    · subst hij
      rw [if_pos rfl] at h
      split at h
      · cases h
        exact ⟨_, hv, a, o', rfl, h2, h3, upd_same, kp.rpo r⟩
      · cases h
    · rw [if_neg hij] at h
      obtain ⟨u, u1, u2⟩ := E.slot j sv h
      refine ⟨u, u1, ?_⟩
      cases sv with
      | sh d => exact kp.dp d u u2
      | stt => exact u2
      | ow es =>
        obtain ⟨a', us', rfl, q2, q3, q4, q5⟩ := u2
        have ne : a' ≠ a := fun z => hij (E.own i j ds es a hs h hv (z ▸ u1))
        exact ⟨a', us', rfl, q2, q3, by rw [upd_ne ne]; exact q4, kp.rpo q5⟩
      | ln es =>
        rcases u2 with u2 | ⟨a', us', rfl, q2, q3, q4, q5⟩
        · exact .inl (kp.dp es u u2)
        · have ne : a' ≠ a := b.lnn h q5.nt u1 q2 hB
          exact .inr ⟨a', us', rfl, q2, q3, by rw [upd_ne ne]; exact q4, kp.rpo q5⟩
  · obtain ⟨e1, p1⟩ := pick g1
    obtain ⟨e2, p2⟩ := pick g2
    exact E.own j1 j2 e1 e2 a2 p1 p2 g3 g4
  · have s := E.stt
    show StRep g.K _ w.p _ st
    cases hp : w.p with
    | none => rw [hp] at s; exact s
    | some q =>
      rw [hp] at s
      obtain ⟨q1, q2, us', q3, q4⟩ := s
      exact ⟨q1, q2, us', by rw [upd_ne (show q ≠ a from fun z => h3 (by rw [hp, z]))]; exact q3, kp.dps st us' q4⟩
  · intro p hp
    obtain ⟨ps, t1, t2, t3⟩ := E.tabs p hp
    refine ⟨ps, by rw [upd_ne (show p.1 ≠ a from fun z => by rw [z, h4] at t1; exact h5.notbl.1 _ (Option.some.inj t1))]; exact t1, t2, fun pos cv hc => ?_⟩
    obtain ⟨c, e1, e2⟩ := t3 pos cv hc
    exact ⟨c, e1, by rw [upd_ne (show c ≠ a from fun z => by rw [z, h4] at e2; exact h5.notbl.2 _ _ (Option.some.inj e2))]; exact e2⟩
  · by_cases z : c = a
    · subst z; rw [upd_same]; simp
    · rw [upd_ne z]; exact E.dom c h
  · by_cases z : c = a
    · subst z; rw [upd_same]; simp
    · rw [upd_ne z]; exact E.old c h
  · obtain ⟨es', p1⟩ := pick h1
    exact b.own j es' c p1 h2
  · by_cases z : c = a
    · subst z; rw [upd_same]; simp
    · rw [upd_ne z]; exact h
/-- the state is rewritten -/
theorem stt_write {w : Wd} (E : ERep g w H st) (b : BOk B w H) {p : Addr} (hp : w.p = some p) {vs : List V} {st' : Stt} (n : st' ≠ []) (r : RpAll g.K (hide w.Hid H) vs st') :
    ERep g w (upd H p (.lst vs)) st' ∧ BOk B w (upd H p (.lst vs)) ∧ Stp w H w (upd H p (.lst vs)) := by
  have s := E.stt
  rw [hp] at s
  obtain ⟨q1, q2, us, q3, q4⟩ := s
  have e : Evo w.p H (upd H p (.lst vs)) := ⟨fun c o n h t => by rw [upd_ne (show c ≠ p from fun z => n (by rw [hp, z]))]; exact h, fun c h => by
    by_cases z : c = p
    · subst z; rw [upd_same]; simp
    · rw [upd_ne z]; exact h⟩
  have kp := E.kph e
  refine ⟨E.evo e ?_ ?_, b.evo e, Stp.of E e⟩
  · rw [hp]
    exact ⟨q1, n, vs, upd_same, kp.dps _ _ r⟩
  · intro q hq
    obtain ⟨ps, t1, t2, t3⟩ := E.tabs q hq
    refine ⟨ps, by rw [upd_ne (show q.1 ≠ p from fun z => by rw [z, q3] at t1; cases t1)]; exact t1, t2, fun pos cv hc => ?_⟩
    obtain ⟨c, e1, e2⟩ := t3 pos cv hc
    exact ⟨c, e1, by rw [upd_ne (show c ≠ p from fun z => by rw [z, q3] at e2; cases e2)]; exact e2⟩
/-- a slot is set to shared data -/
theorem BOk.set {w : Wd} {σ' : L2.St} {ρ' : DI.Env} (b : BOk B w H) (o : OwnK w.ρ ρ' w.σ σ') : BOk B { w with σ := σ', ρ := ρ' } H :=
  ⟨b.sub, b.dom, b.pp, b.ev, fun i ds a h1 h2 => by
    obtain ⟨z1, z2⟩ := o i _ rfl h1
    exact b.own i ds a z1 (by rw [← z2]; exact h2), b.pin, fun i ds a h1 h2 h3 h4 => by
    obtain ⟨z1, z2⟩ := o i _ rfl h1
    exact b.lnt i ds a z1 h2 (by rw [← z2]; exact h3) h4⟩
/-- a new list is owned -/
theorem own_new {w : Wd} {H1 : Hp} {a : Addr} {ob : HO} {ds : D} (E1 : ERep g w H1 st) (n : H1 a = none) (b : BOk B w H1) (r : RpO g.K (hide w.Hid H1) ob ds) (i : Nat) :
    ERep g ⟨hid2 w.Hid a, w.p, w.σ.set i (some (.ref a)), w.ρ.set i (some (.ow ds)), w.H0⟩ (upd H1 a ob) st ∧ BOk B ⟨hid2 w.Hid a, w.p, w.σ.set i (some (.ref a)), w.ρ.set i (some (.ow ds)), w.H0⟩ (upd H1 a ob) ∧ Stp w H1 ⟨hid2 w.Hid a, w.p, w.σ.set i (some (.ref a)), w.ρ.set i (some (.ow ds)), w.H0⟩ (upd H1 a ob) := by
  have nh : ¬ w.Hid a := fun z => E1.dom a z n
  have np : w.p ≠ some a := fun z => nh (E1.stt.hid a z)
  have E2 : ERep g (w.blk a []) (upd H1 a ob) st := ERep.blkO (by rw [ers_upd n]; exact E1) r.notbl upd_same nh
  have hB : B.H a = none := by
    cases q : B.H a with
    | none => rfl
    | some o => exact absurd n (b.ev.dom a (by rw [q]; simp))
  have nown : ∀ (j : Nat) es, j ≠ i → w.ρ[j]? = some (some (.ow es)) → w.σ[j]? ≠ some (some (.ref a)) := fun j es _ h z => by
    obtain ⟨v, hv, a', us, e, q2, q3, q4, q5⟩ := E1.slot j _ h
    rw [z] at hv
    cases hv
    cases e
    exact nh q2
  have sv : SRep g.K (hid2 w.Hid a) w.p (upd H1 a ob) (.ref a) (.ow ds) := ⟨a, ob, rfl, .inr rfl, np, upd_same, by rw [hide_ers, ers_upd n]; exact r⟩
  refine ⟨E2.set i sv fun a' ds' e e2 j es hj h => ?_, ⟨fun c h => .inl (b.sub c h), b.dom, b.pp, ?_, fun j es c h1 h2 => ?_, b.pin, fun j es c h1 h2 h3 h4 => ?_⟩, ⟨fun c o h _ => ?_, fun c h => ?_⟩⟩
  · cases e2
    exact nown j es hj h
  · exact ⟨fun c o nn h t => by rw [upd_ne (show c ≠ a from fun z => by subst z; rw [hB] at h; cases h)]; exact b.ev.kp c o nn h t, fun c h => by
      rw [upd_ne (show c ≠ a from fun z => h (z ▸ hB))]
      exact b.ev.dom c h⟩
  · have h1 : (w.ρ.set i (some (.ow ds)))[j]? = some (some (.ow es)) := h1
    have h2 : (w.σ.set i (some (.ref a)))[j]? = some (some (.ref c)) := h2
    rw [List.getElem?_set] at h1 h2
    by_cases hij : i = j
    · rw [if_pos hij] at h2
      split at h2
      · cases h2; exact hB
      · cases h2
    · rw [if_neg hij] at h1 h2
      exact b.own j es c h1 h2
  · have h1 : (w.ρ.set i (some (.ow ds)))[j]? = some (some (.ln es)) := h1
    have h3 : (w.σ.set i (some (.ref a)))[j]? = some (some (.ref c)) := h3
    rw [List.getElem?_set] at h1 h3
    by_cases hij : i = j
    · rw [if_pos hij] at h1
      split at h1 <;> cases h1
    · rw [if_neg hij] at h1 h3
      rcases h4 with h4 | h4
      · exact b.lnt j es c h1 h2 h3 h4
      · obtain ⟨v, hv, q⟩ := E1.slot j _ h1
        rw [h3] at hv
        cases hv
        obtain ⟨ds, z⟩ := LRep.lo q (h4 ▸ n)
        exact absurd z (h2 ds)
  · obtain ⟨q1, q2⟩ := hide_in h
    have ne : c ≠ a := fun z => by subst z; rw [n] at q1; cases q1
    exact in_hide (by rw [upd_ne ne]; exact q1) fun z => z.elim q2 ne
  · by_cases z : c = a
    · subst z; rw [upd_same]; simp
    · rw [upd_ne z]; exact h
/-- the state is laid -/
theorem stt_new {w : Wd} {H1 : Hp} {a : Addr} {vs : List V} {ds : List D} (E1 : ERep g w H1 []) (n : H1 a = none) (b : BOk B w H1) (hd : ds ≠ []) (r : RpAll g.K (hide w.Hid H1) vs ds) (i : Nat) :
    ERep g ⟨hid2 w.Hid a, some a, w.σ.set i (some (.ref a)), w.ρ.set i (some .stt), w.H0⟩ (upd H1 a (.lst vs)) ds ∧ BOk B ⟨hid2 w.Hid a, some a, w.σ.set i (some (.ref a)), w.ρ.set i (some .stt), w.H0⟩ (upd H1 a (.lst vs)) ∧ Stp w H1 ⟨hid2 w.Hid a, some a, w.σ.set i (some (.ref a)), w.ρ.set i (some .stt), w.H0⟩ (upd H1 a (.lst vs)) := by
  have nh : ¬ w.Hid a := fun z => E1.dom a z n
  have np : w.p = none := by
    have s := E1.stt
    cases hp : w.p with
    | none => rfl
    | some q => rw [hp] at s; exact absurd rfl s.2.1
  have E2 : ERep g (w.blk a []) (upd H1 a (.lst vs)) [] := ERep.blk (by rw [ers_upd n]; exact E1) upd_same nh
  have hB : B.H a = none := by
    cases q : B.H a with
    | none => rfl
    | some o => exact absurd n (b.ev.dom a (by rw [q]; simp))
  have hbp : B.p = none := by
    rcases b.pp with q | ⟨q, _⟩
    · rw [← q]; exact np
    · exact q
  have E3 : ERep g ⟨hid2 w.Hid a, some a, w.σ, w.ρ, w.H0⟩ (upd H1 a (.lst vs)) ds := by
    refine ⟨E2.len, fun j sv h => ?_, E2.own, ⟨.inr rfl, hd, vs, upd_same, by rw [hide_ers, ers_upd n]; exact r⟩, E2.tabs, E2.dom, E2.old⟩
    obtain ⟨v, h1, h2⟩ := E2.slot j sv h
    refine ⟨v, h1, ?_⟩
    cases sv with
    | sh d => exact h2
    | stt =>
      obtain ⟨q, _, q2⟩ := h2
      have q2 : w.p = some q := q2
      rw [np] at q2
      cases q2
    | ow es =>
      obtain ⟨v', hv', a', us, e, z2, z3, z4, z5⟩ := E1.slot j _ h
      obtain ⟨a2, us2, e2, y2, y3, y4, y5⟩ := h2
      have hv2 : w.σ[j]? = some (some v) := h1
      rw [hv'] at hv2
      cases hv2
      rw [e] at e2
      cases e2
      refine ⟨a', us2, e, y2, fun q => ?_, y4, y5⟩
      cases q
      exact nh z2
    | ln es =>
      rcases h2 with h2 | ⟨a2, us2, e2, y2, y3, y4, y5⟩
      · exact .inl h2
      · refine .inr ⟨a2, us2, e2, y2, fun q => ?_, y4, y5⟩
        cases q
        obtain ⟨v', hv', z⟩ := E1.slot j _ h
        have hv2 : w.σ[j]? = some (some v) := h1
        rw [hv', e2] at hv2
        cases hv2
        obtain ⟨ds, z⟩ := LRep.lo z n
        exact y5.nt ds z
  refine ⟨E3.set i ⟨a, rfl, rfl⟩ (fun a' ds' e => by cases e), ⟨fun c h => .inl (b.sub c h), b.dom, .inr ⟨hbp, a, rfl, hB⟩, ?_, fun j es c h1 h2 => ?_, b.pin, fun j es c h1 h2 h3 h4 => ?_⟩, ⟨fun c o h _ => ?_, fun c h => ?_⟩⟩
  · exact ⟨fun c o nn h t => by rw [upd_ne (show c ≠ a from fun z => by subst z; rw [hB] at h; cases h)]; exact b.ev.kp c o nn h t, fun c h => by
      rw [upd_ne (show c ≠ a from fun z => h (z ▸ hB))]
      exact b.ev.dom c h⟩
  · obtain ⟨z1, z2⟩ := (OwnK.set (ρ := w.ρ) (σ := w.σ) i (v := .ref a) (sv := .stt) rfl) j _ rfl h1
    exact b.own j es c z1 (by rw [← z2]; exact h2)
  · obtain ⟨z1, z2⟩ := (OwnK.set (ρ := w.ρ) (σ := w.σ) i (v := .ref a) (sv := .stt) rfl) j _ rfl h1
    have h3 : w.σ[j]? = some (some (.ref c)) := by rw [← z2]; exact h3
    rcases h4 with h4 | h4
    · exact b.lnt j es c z1 h2 h3 h4
    · obtain ⟨v, hv, q⟩ := E1.slot j _ z1
      rw [h3] at hv
      cases hv
      obtain ⟨ds, z⟩ := LRep.lo q (h4 ▸ n)
      exact absurd z (h2 ds)
  · obtain ⟨q1, q2⟩ := hide_in h
    have ne : c ≠ a := fun z => by subst z; rw [n] at q1; cases q1
    exact in_hide (by rw [upd_ne ne]; exact q1) fun z => z.elim q2 ne
  · by_cases z : c = a
    · subst z; rw [upd_same]; simp
    · rw [upd_ne z]; exact h
end
end DI
end
section
set_option linter.all false
set_option autoImplicit false
set_option maxRecDepth 100000
/-! D16: the evaluator of statements is sound. -/
namespace DI
open PySem PySem.Spec L2
open PyProof.Rows hiding St
/-! ### a value's datum is one -/
def DetH (K : PySem.W.Frag) (H : Hp) : Prop := ∀ v d d', Rp K H v d → Rp K H v d' → d = d'
theorem DetH.all {K : PySem.W.Frag} {H : Hp} (h : DetH K H) : ∀ {ds ds' : List D} {vs : List V}, RpAll K H vs ds → RpAll K H vs ds' → ds = ds'
  | [], _, _, a, b => by cases a; cases b; rfl
  | d :: ds, _, _, a, b => by
    cases a with
    | cons a1 a2 =>
      cases b with
      | cons b1 b2 => rw [h _ _ _ a1 b1, DetH.all h a2 b2]
section
variable {X : Cx} {pins : List (Addr × Obj)} {σ : L2.St} {H : Hp} {s : Shared}
theorem lt_apart (I : Inv X pins σ H s) {a : Addr} {xs ys : List V} (h : Rd H a (.lst xs)) (h' : SqT X.K H a ys) : False := by
  obtain ⟨its, r, ⟨o, n, e, c, _, d⟩, _⟩ := I.list (.inl h)
  obtain ⟨its', r', ⟨o', e', c', n', d'⟩, _⟩ := I.tuple h'
  rw [e] at e'; cases e'
  rw [c] at c'
  exact absurd c' (by simp)
theorem rd_inj {a : Addr} {o o' : HO} (h : Rd H a o) (h' : Rd H a o') (n : ∀ x y, o ≠ .frz x y) (n' : ∀ x y, o' ≠ .frz x y) : o = o' := by
  rcases h with h | ⟨x, h⟩ <;> rcases h' with h' | ⟨y, h'⟩ <;> rw [h] at h'
  · exact Option.some.inj h'
  · exact absurd (Option.some.inj h') (n _ _)
  · exact absurd (Option.some.inj h').symm (n' _ _)
  · cases h'; rfl
theorem dt_apart (I : Inv X pins σ H s) {a : Addr} {kvs : List (Key × V)} {ys : List V} (h : Rd H a (.dK kvs)) (h' : SqT X.K H a ys) : False := by
  obtain ⟨_, _, vs, _, dd⟩ := dk_rd I.hok h
  obtain ⟨o1, e1, c1⟩ := dd.typeIs (s := s)
  obtain ⟨its', r', ⟨o', e', c', n', d'⟩, _⟩ := I.tuple h'
  rw [e1] at e'
  cases e'
  rw [c1] at c'
  exact absurd c' (by simp)
mutual
theorem rp_det (I : Inv X pins σ H s) : ∀ {v : V} {d : D}, Rp X.K H v d → ∀ (d' : D), Rp X.K H v d' → d = d'
  | _, _, .non, _, b => by cases b; rfl
  | _, _, .bl _, _, b => by cases b; rfl
  | _, _, .int _, _, b => by cases b; rfl
  | _, _, .str _, _, b => by cases b; rfl
  | _, _, .lst h1 h2, _, b => by
    cases b with
    | lst g1 g2 =>
      have e := I.list_inj (.inl h1) (.inl g1)
      subst e
      rw [rps_det I h2 _ g2]
    | tup g1 g2 => exact (lt_apart I h1 g1).elim
    | dic g1 g2 => exact absurd (rd_inj h1 g1 (by intro x y z; cases z) (by intro x y z; cases z)) (by intro z; cases z)
  | _, _, .tup h1 h2, _, b => by
    cases b with
    | lst g1 g2 => exact (lt_apart I g1 h1).elim
    | tup g1 g2 =>
      have e := I.tuple_inj h1 g1
      subst e
      rw [rps_det I h2 _ g2]
    | dic g1 g2 => exact (dt_apart I g1 h1).elim
  | _, _, .dic h1 h2, _, b => by
    cases b with
    | lst g1 g2 => exact absurd (rd_inj h1 g1 (by intro x y z; cases z) (by intro x y z; cases z)) (by intro z; cases z)
    | tup g1 g2 => exact (dt_apart I h1 g1).elim
    | dic g1 g2 =>
      have e := rd_inj h1 g1 (by intro x y z; cases z) (by intro x y z; cases z)
      cases e
      rw [rpk_det I h2 _ g2]
theorem rps_det (I : Inv X pins σ H s) : ∀ {vs : List V} {ds : List D}, RpAll X.K H vs ds → ∀ (ds' : List D), RpAll X.K H vs ds' → ds = ds'
  | _, _, .nil, _, b => by cases b; rfl
  | _, _, .cons a1 a2, _, b => by
    cases b with
    | cons b1 b2 => rw [rp_det I a1 _ b1, rps_det I a2 _ b2]
theorem rpk_det (I : Inv X pins σ H s) : ∀ {kvs : List (Key × V)} {es : List (D × D)}, RpKs X.K H kvs es → ∀ (es' : List (D × D)), RpKs X.K H kvs es' → es = es'
  | _, _, .nil, _, b => by cases b; rfl
  | _, _, .cons a1 a2, _, b => by
    cases b with
    | cons b1 b2 => rw [rp_det I a1 _ b1, rpk_det I a2 _ b2]
end
theorem _root_.L2.PS.det {X : Cx} {st : Stmt} {t : TS} (h : PS X st t) : PS X st (fun D σ H => t { D with nx := fun σ H => DetH X.K H → D.nx σ H } σ H) := by
  refine ⟨fun pins s σ H D I q => ?_⟩
  refine thn (h.run pins s σ H _ I q) fun f s1 hs => ?_
  cases f with
  | next =>
    obtain ⟨σ', H', I', q⟩ := hs
    exact ⟨σ', H', I', q fun v d d' h1 h2 => rp_det I' h1 d' h2⟩
  | brk => exact hs
  | cont => exact hs
  | ret u => exact hs
end
theorem _root_.L2.PS.monoS {X : Cx} {st : Stmt} {t t' : TS} (h : PS X st t) (k : ∀ D σ H, t' D σ H → t D σ H) : PS X st t' := ⟨fun pins s σ H D I q => h.run pins s σ H D I (k D σ H q)⟩
theorem _root_.L2.PSs.monoS {X : Cx} {st : List Stmt} {t t' : TS} (h : PSs X st t) (k : ∀ D σ H, t' D σ H → t D σ H) : PSs X st t' := ⟨fun pins s σ H D I q => h.run pins s σ H D I (k D σ H q)⟩
theorem PS.void {X : Cx} {st : Stmt} {t : TS} (h : ∀ D σ H, ¬ t D σ H) : PS X st t := ⟨fun _ _ σ H D _ q => (h D σ H q).elim⟩
theorem tSD.stuck {g : Gd} {W : EW} {m : DI.Env → M (Fl × DI.Env)} (h : ∀ ρ st, m ρ st = .stuck) (D : Ends) (σ : L2.St) (H : Hp) : ¬ tSD g W m D σ H := fun ⟨B, w, st, _, _, _, p⟩ => by
  rw [h] at p
  exact p
/-- a context that the statements' evaluator serves -/
structure GoodS (T : List (Addr × Str)) (W : EW) (X : Cx) (C : Ctx) (k : Nat) : Prop where
  G : Good T W X C k
  tg : TgOk X C.sc
  own : PassesOwn (model X.prog X.w) X.A X.env X.xe
  exc : ∀ c ∈ C.exc, ∀ (m : Str) (j : Nat) (p p2 pos : Pos), Gl X c → badName c = false → L2N.PMk X (.Call (.Name c p) [.Constant (.str m) j p2] [] pos) (fun _ H Q => Q (.ref (He.ga X.K c)) none H)
structure SndS (T : List (Addr × Str)) (n : Nat) : Prop where
  S : ∀ {W : EW} {X : Cx} {C : Ctx} {k : Nat}, GoodS T W X C k → ∀ s, PS X s (tSD (gX X T) W (evS n C s))
  Ss : ∀ {W : EW} {X : Cx} {C : Ctx} {k : Nat}, GoodS T W X C k → ∀ s, PSs X s (tSD (gX X T) W (evSs n C s))
section
variable {T : List (Addr × Str)} {W : EW} {X : Cx} {C : Ctx} {k n : Nat}
/-- sharing first, then m -/
theorem ps_share {s : Stmt} {m : DI.Env → M (Fl × DI.Env)} {xs : List Str} (h : PS X s (tSD (gX X T) W m)) : PS X s (tSD (gX X T) W fun ρ => m (share C xs ρ)) := h.monoS fun D σ H q => tSD.share q
theorem st_ret (ih : Snd T n) (G : GoodS T W X C k) (e : Expr) (pos : Pos) : PS X (.Return (some e) pos) (tSD (gX X T) W fun ρ => bnd (evE n C e ρ) fun d => ret (.rt d, ρ)) := by
  refine (ps_ret (ih.E G.G e)).monoS fun D σ H ⟨B, w, st, hσ, b, E, p⟩ => ?_
  subst hσ
  exact ⟨w, st, rfl, E, PostS.bind (rp := rpD _ w) p b E fun d st1 v H1 e1 E1 b1 r1 h1 => h1 v H1 (b1.left E1) (b1.val r1)⟩
theorem st_retN (pos : Pos) : PS X (.Return none pos) (tSD (gX X T) W fun ρ => ret (.rt .none, ρ)) := by
  refine ps_retN.monoS fun D σ H ⟨B, w, st, hσ, b, E, p⟩ => ?_
  exact p .non H (b.left E) Rp.non
theorem st_nx {s : Stmt} (h : PS X s tNext) : PS X s (tSD (gX X T) W fun ρ => ret (.nx, ρ)) := by
  refine h.monoS fun D σ H ⟨B, w, st, hσ, b, E, p⟩ => ?_
  subst hσ
  exact p w H rfl b Stp.rfl' E
theorem st_bk (pos : Pos) : PS X (.Break pos) (tSD (gX X T) W fun ρ => ret (.bk, ρ)) := by
  refine ps_break.monoS fun D σ H ⟨B, w, st, hσ, b, E, p⟩ => ?_
  subst hσ
  exact p w H rfl b Stp.rfl' E
theorem st_ct (pos : Pos) : PS X (.Continue pos) (tSD (gX X T) W fun ρ => ret (.ct, ρ)) := by
  refine ps_continue.monoS fun D σ H ⟨B, w, st, hσ, b, E, p⟩ => ?_
  subst hσ
  exact p w H rfl b Stp.rfl' E
theorem swaps_no {e : Expr} {tg : Option Expr} {l : Nat} {env : PySem.Env} (h : isComp e = false) : swapsWith e tg l env = pure false := by
  cases e <;> first | rfl | cases h
theorem swaps_some {e tg : Expr} {l : Nat} {env : PySem.Env} (h : ∀ x p, tg ≠ .Name x p) : swapsWith e (some tg) l env = pure false := by
  cases e <;> first | rfl | (cases tg <;> first | rfl | exact absurd rfl (h _ _))
theorem st_expr (ih : Snd T n) (G : GoodS T W X C k) (e : Expr) (pos : Pos) : PS X (.Expr e pos) (tSD (gX X T) W fun ρ => guardM (!isComp e) (bnd (evE n C e ρ) fun _ => ret (.nx, ρ))) := by
  by_cases hc : isComp e = true
  · refine PS.void (tSD.stuck fun ρ st => ?_)
    rw [hc]
    rfl
  refine (ps_expr (ih.E G.G e) (swaps_no (by simpa using hc))).monoS fun D σ H ⟨B, w, st, hσ, b, E, p⟩ => ?_
  subst hσ
  obtain ⟨_, p⟩ := PostS.grd p
  exact ⟨w, st, rfl, E, PostS.bind (rp := rpD _ w) p b E fun d st1 v H1 e1 E1 b1 r1 h1 => h1 w H1 rfl b1 Stp.rfl' E1⟩
theorem st_raise (G : GoodS T W X C k) (c m : Str) (j : Nat) (p p2 pos pos' : Pos) : PS X (.Raise (some (.Call (.Name c p) [.Constant (.str m) j p2] [] pos)) none pos') (tSD (gX X T) W fun ρ => guardM (gl C c && decide (c ∈ C.exc)) (throwM ⟨c⟩)) := by
  by_cases hc : (gl C c && decide (c ∈ C.exc)) = true
  case neg =>
    refine PS.void (tSD.stuck fun ρ st => ?_)
    unfold guardM
    rw [if_neg hc]
  obtain ⟨h1, h2⟩ := Bool.and_eq_true_iff.mp hc
  obtain ⟨g1, g2⟩ := G.G.gl h1
  refine (L2N.ps_raise G.G.calm G.G.tk (G.exc c (of_decide_eq_true h2) m j p p2 pos g1 g2)).monoS fun D σ H ⟨B, w, st, hσ, b, E, q⟩ => ?_
  obtain ⟨_, q⟩ := PostS.grd q
  exact ⟨⟨c⟩, rfl, rfl, q H (b.left E)⟩
theorem st_if (ih : Snd T n) (ihs : SndS T n) (G : GoodS T W X C k) (t : Expr) (a b : List Stmt) (pos : Pos) : PS X (.If t a b pos) (tSD (gX X T) W fun ρ => bnd (evT n C t ρ) fun c => if c = true then evSs n C a ρ else evSs n C b ρ) := by
  refine (ps_if (ih.Te G.G t) (ihs.Ss G a) (ihs.Ss G b)).monoS fun D σ H ⟨B, w, st, hσ, bo, E, p⟩ => ?_
  subst hσ
  refine ⟨w, st, rfl, E, PostS.bind (rp := rpT w) p bo E fun c st1 c' H1 e1 E1 b1 r1 h1 => ?_⟩
  have e : c' = c := r1
  subst e
  cases c' with
  | true => exact ⟨B, w, st1, rfl, b1, E1, h1⟩
  | false => exact ⟨B, w, st1, rfl, b1, E1, h1⟩
/-! ### names -/
theorem nm_ok {x : Str} (h : nmOk C x = true) : badName x = false ∧ locB C.sc x = true ∧ ∃ i, ixOf C.N x = some i ∧ ∀ sv ρ, asgName C x sv ρ = some (ρ.set i (some sv)) := by
  unfold nmOk at h
  simp only [Bool.and_eq_true, Bool.not_eq_true', Option.isSome_iff_exists] at h
  obtain ⟨⟨h1, h2⟩, i, h3⟩ := h
  refine ⟨h1, h2, i, h3, fun sv ρ => ?_⟩
  unfold asgName
  rw [if_pos ⟨h1, h2⟩, h3]
  rfl
/-- behind the value of a shared datum -/
theorem asg_sh {B : Bs} {w : Wd} {H : Hp} {st : Stt} {D : Ends} {v : V} {d : DI.D} {i : Nat} (p : PostS (gX X T) W B w H (.ok (.nx, w.ρ.set i (some (.sh d))) st) D) (b : BOk B w H) (E : ERep (gX X T) w H st) (r : rpD (gX X T) w H v d) : D.nx (w.σ.set i (some v)) H :=
  p { w with σ := w.σ.set i (some v), ρ := w.ρ.set i (some (.sh d)) } H rfl (b.set (OwnK.set i rfl)) ⟨Kp.rfl', fun _ h => h⟩ (E.set i (sv := .sh d) r fun a ds z => by cases z)
/-- the same world, its heap before told -/
def Wd.now (w : Wd) (H : Hp) : Wd := { w with H0 := H }
theorem ERep.now {w : Wd} {H : Hp} {st : Stt} {g : Gd} (E : ERep g w H st) : ERep g (w.now H) H st := ⟨E.len, E.slot, E.own, E.stt, E.tabs, E.dom, fun _ h => h⟩
theorem BOk.now {B : Bs} {w : Wd} {H : Hp} (b : BOk B w H) (H0 : Hp) : BOk B (w.now H0) H := ⟨b.sub, b.dom, b.pp, b.ev, b.own, b.pin, b.lnt⟩
theorem PostS.now {B : Bs} {w : Wd} {H : Hp} {g : Gd} {r : R (Fl × DI.Env)} {D : Ends} (h : PostS g W B w H r D) (H0 : Hp) : PostS g W B (w.now H0) H r D := PostS.later h ⟨Kp.rfl', fun _ h => h⟩
/-- .. of a new list -/
theorem asg_ow {B : Bs} {w : Wd} {Hs H : Hp} {st st0 : Stt} {D : Ends} {v : V} {ds : DI.D} {i : Nat} (p : PostS (gX X T) W B w Hs (.ok (.nx, w.ρ.set i (some (.ow ds))) st) D) (h0 : w.H0 = Hs) (b : BOk B w Hs) (e : Evo w.p Hs H) (Es : ERep (gX X T) w Hs st0) (E : ERep (gX X T) w H st) (r : rpF (gX X T) w H v ds) (det : DetH X.K H) : D.nx (w.σ.set i (some v)) H := by
  obtain ⟨a, vs, H1, st', rfl, n, rfl, E1, E2, rr⟩ := r
  have es : st' = st := by
    have s := E.stt
    have s' := E2.stt
    cases hp : w.p with
    | none => rw [hp] at s s'; exact (show st' = [] from s').trans (show st = [] from s).symm
    | some q =>
      rw [hp] at s s'
      obtain ⟨_, _, us, q3, q4⟩ := s
      obtain ⟨_, _, us', q3', q4'⟩ := s'
      rw [q3] at q3'
      cases q3'
      exact DetH.all det (kp_hide.dps _ _ q4') (kp_hide.dps _ _ q4)
  subst es
  have nS : Hs a = none := by
    cases q : Hs a with
    | none => rfl
    | some o => exact absurd n (E1.old a (by rw [h0, q]; simp))
  have e1 : Evo w.p Hs H1 := ⟨fun c o hn h t => by
    have ne : c ≠ a := fun z => by subst z; rw [nS] at h; cases h
    have z := e.kp c o hn h t
    rw [upd_ne ne] at z
    exact z, fun c h => by
    have ne : c ≠ a := fun z => h (z ▸ nS)
    have z := e.dom c h
    rw [upd_ne ne] at z
    exact z⟩
  obtain ⟨z1, z2, z3⟩ := own_new E1 n (b.evo e1) rr i
  exact p _ _ rfl z2 ((Stp.of Es e1).tr z3) z1
end
end DI
end
section
set_option linter.all false
set_option autoImplicit false
set_option maxRecDepth 100000
/-! D17: assignments, append, loops; the step of the statements. -/
namespace DI
open PySem PySem.Spec L2
open PyProof.Rows hiding St
section
variable {T : List (Addr × Str)} {W : EW} {X : Cx} {C : Ctx} {k n : Nat}
/-! ### name = e -/
theorem evV_next {e : Expr} {ρ : DI.Env} {f : SV → M (Fl × DI.Env)} (h : isFresh e = false) : bnd (evV n C e ρ) f = bnd (evE n C e ρ) fun d => f (.sh d) := by
  funext st
  unfold evV
  rw [if_neg (by rw [h]; simp)]
  exact next_next _ _ _
theorem evV_next' {e : Expr} {ρ : DI.Env} {f : SV → M (Fl × DI.Env)} (h : isFresh e = true) : bnd (evV n C e ρ) f = bnd (evF n C e ρ) fun ds => f (.ow ds) := by
  funext st
  unfold evV
  rw [if_pos h]
  exact next_next _ _ _
theorem asg_name {x : Str} (h : nmOk C x = true) {i : Nat} (hi : ixOf C.N x = some i) (sv : SV) (ρ : DI.Env) : asgName C x sv ρ = some (ρ.set i (some sv)) := by
  obtain ⟨_, _, j, hj, h4⟩ := nm_ok h
  rw [hi] at hj
  cases hj
  exact h4 sv ρ
theorem st_name (ihs : ∀ m, m ≤ n → Snd T m) (G : GoodS T W X C k) (x : Str) (py : Pos) (e : Expr) (pos : Pos) (hm : C.mkst ≠ some x) :
    PS X (.Assign [.Name x py] e pos) (tSD (gX X T) W fun ρ => guardM (nmOk C x) (bnd (evV n C e ρ) fun sv => bnd (optM (asgName C x sv ρ)) fun ρ' => ret (.nx, ρ'))) := by
  have ih := ihs n (Nat.le_refl n)
  by_cases hx : nmOk C x = true
  case neg =>
    refine PS.void (tSD.stuck fun ρ st => ?_)
    unfold guardM
    rw [if_neg hx]
  obtain ⟨h1, h2, i, hi, h4⟩ := nm_ok hx
  have hN : X.N[i]? = some x := by rw [G.G.N]; exact ixOf_get hi
  by_cases hf : isFresh e = true
  case neg =>
    have hf : isFresh e = false := by simpa using hf
    by_cases hc : isComp e = true
    · refine PS.void (tSD.stuck fun ρ st => ?_)
      unfold guardM
      rw [if_pos hx, evV_next hf]
      cases n with
      | zero => rfl
      | succ m => cases e <;> first | (cases hc; done) | (cases hf; done) | (cases m <;> rfl)
    refine (ps_set G.G.nd hN (G.tg x h2).1 (ih.E G.G e) (swaps_no (by simpa using hc)) (G.tg x h2).2).monoS fun D σ H ⟨B, w, st, hσ, b, E, p⟩ => ?_
    subst hσ
    obtain ⟨_, p⟩ := PostS.grd p
    rw [evV_next hf] at p
    refine ⟨w, st, rfl, E, PostS.bind (rp := rpD _ w) p b E fun d st1 v H1 e1 E1 b1 r1 p1 => ?_⟩
    rw [asg_name hx hi] at p1
    exact asg_sh p1 b1 E1 r1
  have fin : ∀ {D : Ends} {σ : L2.St} {H : Hp}, tSD (gX X T) W (fun ρ => guardM (nmOk C x) (bnd (evV n C e ρ) fun sv => bnd (optM (asgName C x sv ρ)) fun ρ' => ret (.nx, ρ'))) D σ H →
      tD (gX X T) W (rpF (gX X T)) (evF n C e) σ H fun v H1 => DetH X.K H1 → D.nx (σ.set i (some v)) H1 := fun {D σ H} ⟨B, w, st, hσ, b, E, p⟩ => by
    subst hσ
    obtain ⟨_, p⟩ := PostS.grd p
    rw [evV_next' hf] at p
    refine ⟨w.now H, st, rfl, E.now, PostS.bind0 (rp := rpF _ (w.now H)) (p.now H) (b.now H) E.now fun ds st1 v H1 e1 E1 b1 r1 p1 det => ?_⟩
    rw [asg_name hx hi] at p1
    exact asg_ow (w := w.now H) p1 rfl (b.now H) e1 E.now E1 r1 det
  by_cases hl : ∃ elt tg iter ifs scope p2, e = .ListComp elt [⟨tg, iter, ifs, 0⟩] scope p2
  · obtain ⟨elt, tg, iter, ifs, scope, p2, rfl⟩ := hl
    cases n with
    | zero =>
      refine PS.void (tSD.stuck fun ρ st => ?_)
      unfold guardM
      rw [if_pos hx, evV_next' hf]
      rfl
    | succ m => exact ((set_comp (ihs m (Nat.le_succ m)) G.G G.tg elt tg iter ifs scope p2 pos py x i hi h2).det).monoS fun D σ H h => fin h
  · by_cases hl2 : ∃ elt tg iter ifs tg1 iter1 ifs1 scope p2, e = .ListComp elt [⟨tg, iter, ifs, 0⟩, ⟨tg1, iter1, ifs1, 0⟩] scope p2
    · obtain ⟨elt, tg, iter, ifs, tg1, iter1, ifs1, scope, p2, rfl⟩ := hl2
      cases n with
      | zero =>
        refine PS.void (tSD.stuck fun ρ st => ?_)
        unfold guardM
        rw [if_pos hx, evV_next' hf]
        rfl
      | succ m => exact ((set_comp2 (ihs m (Nat.le_succ m)) G.G G.tg elt tg iter tg1 iter1 ifs ifs1 scope p2 pos py x i hi h2).det).monoS fun D σ H h => fin h
    by_cases hc : isComp e = true
    · refine PS.void (tSD.stuck fun ρ st => ?_)
      unfold guardM
      rw [if_pos hx, evV_next' hf]
      cases e with
      | ListComp elt gs scope p2 =>
        cases n with
        | zero => rfl
        | succ m =>
          cases gs with
          | nil => rfl
          | cons g gs =>
            obtain ⟨tg, iter, ifs, a⟩ := g
            have big : ∀ a : Int, a ≠ 0 → (∃ m : Nat, a = .ofNat (m + 1)) ∨ ∃ m, a = .negSucc m := fun a h => by
              cases a with
              | ofNat m => cases m with
                | zero => exact absurd rfl h
                | succ m => exact .inl ⟨m, rfl⟩
              | negSucc m => exact .inr ⟨m, rfl⟩
            by_cases ha : a = 0
            case neg =>
              rcases big a ha with ⟨m, rfl⟩ | ⟨m, rfl⟩
              · cases gs <;> rfl
              · cases gs <;> rfl
            subst ha
            cases gs with
            | nil => exact absurd ⟨_, _, _, _, _, _, rfl⟩ hl
            | cons g gs =>
              obtain ⟨tg1, iter1, ifs1, a1⟩ := g
              by_cases ha1 : a1 = 0
              case neg =>
                rcases big a1 ha1 with ⟨m, rfl⟩ | ⟨m, rfl⟩
                · cases gs <;> rfl
                · cases gs <;> rfl
              subst ha1
              cases gs with
              | nil => exact absurd ⟨_, _, _, _, _, _, _, _, _, rfl⟩ hl2
              | cons _ _ => rfl
      | _ => first | (cases hc; done) | (cases hf; done)
    exact ((ps_set G.G.nd hN (G.tg x h2).1 (ih.F G.G e) (swaps_no (by simpa using hc)) (G.tg x h2).2).det).monoS fun D σ H h => fin h
/-! ### the state is made -/
theorem st_mk (ih : Snd T n) (G : GoodS T W X C k) (x : Str) (py : Pos) (es : List Expr) (p2 pos : Pos) :
    PS X (.Assign [.Name x py] (.List es p2) pos) (tSD (gX X T) W fun ρ => guardM (nmOk C x) (fun st => (match st with
            | [] => (bnd (evEs n C es ρ) fun ds => guardM (fits ds.length && !ds.isEmpty) fun _ => (match asgName C x .stt ρ with
              | some ρ' => R.ok (Fl.nx, ρ') ds
              | none => R.stuck)) []
            | _ => R.stuck))) := by
  by_cases hx : nmOk C x = true
  case neg =>
    refine PS.void (tSD.stuck fun ρ st => ?_)
    unfold guardM
    rw [if_neg hx]
  obtain ⟨h1, h2, i, hi, h4⟩ := nm_ok hx
  have hN : X.N[i]? = some x := by rw [G.G.N]; exact ixOf_get hi
  refine (ps_set G.G.nd hN (G.tg x h2).1 (pe_lst (ih.Es G.G es)) (swaps_no rfl) (G.tg x h2).2).monoS fun D σ H ⟨B, w, st, hσ, b, E, p⟩ => ?_
  subst hσ
  obtain ⟨_, p⟩ := PostS.grd p
  cases st with
  | cons _ _ => exact p.elim
  | nil =>
    have p : PostS (gX X T) W B w H (R.next (evEs n C es w.ρ []) fun ds => guardM (fits ds.length && !ds.isEmpty) fun _ => (match asgName C x .stt w.ρ with
              | some ρ' => R.ok (Fl.nx, ρ') ds
              | none => R.stuck)) D := p
    refine ⟨w, [], rfl, E, PostS.bind (rp := rpDs _ w) p b E fun ds st1 vs H1 e1 E1 b1 r1 p1 => ?_⟩
    obtain ⟨hb, p2⟩ := PostS.grd p1
    clear p1
    obtain ⟨hb1, hb2⟩ := Bool.and_eq_true_iff.mp hb
    rw [asg_name hx hi] at p2
    have hst : st1 = [] := by
      have s := E.stt
      have s1 := E1.stt
      cases hp : w.p with
      | none => rw [hp] at s1; exact s1
      | some q => rw [hp] at s; exact absurd rfl s.2.1
    subst hst
    refine ⟨by rw [RpAll.len r1]; exact fits_le hb1, fun a ha => ?_⟩
    obtain ⟨z1, z2, z3⟩ := stt_new E1 ha b1 (by intro e; subst e; simp at hb2) r1 i
    exact p2 _ _ rfl z2 z3 z1
theorem sole_tup {e : Expr} {es : List Expr} {j : Nat} {p : Pos} {l : Nat} {env : PySem.Env} : swapsWithSole [.Tuple es j p] e l env = pure false := swaps_some (tg := .Tuple es j p) (l := l) (env := env) fun _ _ => by simp
theorem sole_sub {e a i : Expr} {p : Pos} {l : Nat} {env : PySem.Env} : swapsWithSole [.Subscript a i p] e l env = pure false := swaps_some (tg := .Subscript a i p) (l := l) (env := env) fun _ _ => by simp
theorem sub_asg {o i : Expr} {pos : Pos} {env : PySem.Env} (h : isSl i = false) : ∀ v, assign (.Subscript o i pos) env v = (do
      let ov ← holding [v] (eval o env)
      let iv ← holding [v, ov] (eval i env)
      standAt pos
      holding [v, ov, iv] (setItem ov iv v)
      release [v, ov, iv] []) := fun v => by
  cases i <;> first | rfl | cases h
/-! ### a tuple of names -/
theorem st_tup (ih : Snd T n) (G : GoodS T W X C k) (es : List Expr) (j : Nat) (pt : Pos) (e : Expr) (pos : Pos) (he : swappedStores [.Tuple es j pt] e X.env = pure none) :
    PS X (.Assign [.Tuple es j pt] e pos) (tSD (gX X T) W fun ρ => bnd (evE n C e ρ) fun d => bnd (optM (asg n C (.Tuple es j pt) d ρ)) fun ρ' => ret (.nx, ρ')) := by
  refine (ps_asg (ih.E G.G e) ((asg_ok (T := T) G.G.calm G.G.N.symm G.G.nd G.tg n).1 (.Tuple es j pt)) sole_tup he rfl).monoS fun D σ H ⟨B, w, st, hσ, b, E, p⟩ => ?_
  subst hσ
  refine ⟨w, st, rfl, E, PostS.bind (rp := rpD _ w) p b E fun d st1 v H1 e1 E1 b1 r1 p1 => ?_⟩
  obtain ⟨ρ', ha, p1⟩ := PostS.opt p1
  exact ⟨w, st1, d, ρ', rfl, E1, r1, ha, fun σ' E2 _ ow => p1 { w with σ := σ', ρ := ρ' } H1 rfl (b1.set ow) ⟨Kp.rfl', fun _ h => h⟩ E2⟩
/-! ### xs[i] = e, xs.append(e) -/
/-- a name's value, whatever it is -/
theorem pe_slot (G : GoodS T W X C k) (x : Str) (p : Pos) : PE X (.Name x p) (fun σ H Q => ∃ i v, ixOf C.N x = some i ∧ badName x = false ∧ visB C.sc x = true ∧ σ[i]? = some (some v) ∧ Q v H) := by
  by_cases h : badName x = false ∧ visB C.sc x = true ∧ ∃ i, ixOf C.N x = some i
  · obtain ⟨hb, hv, i, hi⟩ := h
    obtain ⟨b1, b2, b3⟩ := bad_no hb
    refine (pe_var (i := i) (by rw [G.G.N]; exact ixOf_get hi) (G.G.vis hv) b1 b2).mono fun σ H Q ⟨j, v, hj, _, _, h1, h2⟩ => ?_
    rw [hi] at hj
    cases hj
    exact ⟨v, h1, h2⟩
  · exact PE.void fun σ H Q ⟨i, v, h1, h2, h3, _⟩ => h ⟨h2, h3, i, h1⟩
theorem setD_ok {K : PySem.W.Frag} {H : Hp} {vs : List V} {ds ds' : List D} {v : V} {d j : D} (h : setD ds j d = some ds') (r : RpAll K H vs ds) (rv : Rp K H v d) : ∃ i m, j = .int i ∧ ixN vs.length i = some m ∧ RpAll K H (vs.set m v) ds' ∧ ds'.length = ds.length := by
  cases j with
  | int i =>
    unfold setD at h
    simp only [Option.map_eq_some_iff] at h
    obtain ⟨m, h1, rfl⟩ := h
    exact ⟨i, m, rfl, by rw [RpAll.len r]; exact h1, RpAll.set rv m r, by simp⟩
  | _ => cases h
/-- d[k] = v of an owned dict -/
def rSetK : TSet := fun x y v H Q => ∃ (a : Addr) (kvs : List (Key × V)) (κ : Key), x = .ref a ∧ y = kV κ ∧ H a = some (.dK kvs) ∧ kvs.length < sizeLine ∧ Q (upd H a (.dK (putK kvs κ v)))
theorem set_dict (hu : X.A.units + 1 < cLine) : PSet X rSetK := by
  intro pins s σ H x y v ov iv u Q I rx ry rv ⟨a, kvs, κ, ex, ey, ha, hl, q⟩
  subst ex ey
  cases rx
  exact d_setItem hu I (DPut.k ha hl) ry rv fun s' I' => ⟨_, I', q⟩
theorem _root_.L2.PSet.orS {X : Cx} {t t' : TSet} (h : PSet X t) (h' : PSet X t') : PSet X (fun x y v H Q => t x y v H Q ∨ t' x y v H Q) := by
  intro pins s σ H x y v ov iv u Q I rx ry rv q
  exact q.elim (h pins s σ H x y v ov iv u Q I rx ry rv) (h' pins s σ H x y v ov iv u Q I rx ry rv)
theorem st_sub (ih : Snd T n) (G : GoodS T W X C k) (x : Str) (px : Pos) (i : Expr) (psb : Pos) (e : Expr) (pos : Pos) :
    PS X (.Assign [.Subscript (.Name x px) i psb] e pos) (tSD (gX X T) W fun ρ => guardM (!isSl i) <| bnd (evE n C e ρ) fun d => (match slotOf C ρ x, ixOf C.N x with
        | some (.ow o), some k => bnd (evE n C i ρ) fun j => bnd (optM (setO o j d)) fun o' => ret (.nx, ρ.set k (some (.ow o')))
        | some .stt, _ => bnd (evE n C i ρ) fun j => fun st => (match setD st j d with
          | some st' => R.ok (Fl.nx, ρ) st'
          | none => R.stuck)
        | _, _ => stuckM)) := by
  by_cases hsl : isSl i = true
  · refine PS.void (tSD.stuck fun ρ st => ?_)
    rw [hsl]
    rfl
  have hsl : isSl i = false := by simpa using hsl
  refine (ps_asg (ih.E G.G e) (pg_sub (pe_slot G x px) (ih.E G.G i) (set_list.orS (set_dict (by have := G.G.room0.un; omega))) (sub_asg hsl)) sole_sub rfl rfl).monoS fun D σ H ⟨B, w, st, hσ, b, E, p⟩ => ?_
  subst hσ
  obtain ⟨_, p⟩ := PostS.grd p
  refine ⟨w, st, rfl, E, PostS.bind (rp := rpD _ w) p b E fun d st1 v H1 e1 E1 b1 r1 p1 => ?_⟩
  cases hs : slotOf C w.ρ x with
  | none => rw [hs] at p1; exact p1.elim
  | some sv =>
    obtain ⟨hb, hv, m, hm, hρ⟩ := slotOf_some hs
    obtain ⟨u, hu, su⟩ := E1.slot m sv hρ
    rw [hs, hm] at p1
    cases sv with
    | sh d => exact p1.elim
    | ln d => exact p1.elim
    | ow ds =>
      obtain ⟨a, ob, rfl, q2, q3, q4, q5⟩ := su
      refine ⟨m, _, hm, hb, hv, hu, w, st1, rfl, E1, PostS.bind (rp := rpD _ w) p1 b1 E1 fun j st2 y H2 e2 E2 b2 r2 p2 => ?_⟩
      obtain ⟨ds', hd, p3⟩ := PostS.opt p2
      clear p2
      have q4' := e2.kp a _ q3 q4 q5.notbl.1
      cases q5 with
      | lst q5 =>
        rename_i vs ds
        simp only [setO, Option.map_eq_some_iff] at hd
        obtain ⟨ds2, hd, rfl⟩ := hd
        obtain ⟨jj, mm, rfl, hix, rr, _⟩ := setD_ok hd ((E1.kph e2).dps ds vs q5) ((E1.kph e2).dp d v r1)
        have ey := rpD.int r2
        subst ey
        obtain ⟨z1, z2, z3⟩ := own_write E2 b2 hρ hu (.lst rr)
        exact .inl ⟨a, vs, jj, mm, rfl, rfl, q4', hix, p3 { w with ρ := w.ρ.set m (some (.ow (.list ds2))) } _ rfl z2 z3 z1⟩
      | dK q5 =>
        rename_i kvs es
        simp only [setO, Option.bind_eq_some_iff] at hd
        obtain ⟨κ, hκ, hd⟩ := hd
        split at hd
        · rename_i hlen
          cases hd
          have ej := keyV_some hκ
          subst ej
          have ey : y = kV κ := by cases κ <;> (cases r2; rfl)
          subst ey
          obtain ⟨z1, z2, z3⟩ := own_write E2 b2 hρ hu (.dK (RpKs.put κ ((E1.kph e2).rp r1) ((E1.kph e2).rpk q5)))
          exact .inr ⟨a, kvs, κ, rfl, rfl, q4', by rw [RpKs.len q5]; exact hlen, p3 { w with ρ := w.ρ.set m (some (.ow (.dict (putK' es κ d)))) } _ rfl z2 z3 z1⟩
        · cases hd
    | stt =>
      obtain ⟨a, rfl, hp⟩ := su
      refine ⟨m, _, hm, hb, hv, hu, w, st1, rfl, E1, PostS.bind (rp := rpD _ w) p1 b1 E1 fun j st2 y H2 e2 E2 b2 r2 p2 => ?_⟩
      have s := E2.stt
      rw [hp] at s
      obtain ⟨q1, q2, vs, q3, q4⟩ := s
      cases hd : setD st2 j d with
      | none => rw [hd] at p2; exact p2.elim
      | some st3 =>
        rw [hd] at p2
        obtain ⟨jj, mm, rfl, hix, rr, hl⟩ := setD_ok hd q4 ((E1.kph e2).dp d v r1)
        have ey := rpD.int r2
        subst ey
        obtain ⟨z1, z2, z3⟩ := stt_write E2 b2 hp (by intro z; rw [z] at hl; exact q2 (List.eq_nil_of_length_eq_zero hl.symm)) rr
        exact .inl ⟨a, vs, jj, mm, rfl, rfl, q3, hix, p2 w _ rfl z2 z3 z1⟩
theorem st_app (ih : Snd T n) (G : GoodS T W X C k) (x m : Str) (px ap cp pos : Pos) (a : Expr) :
    PS X (.Expr (.Call (.Attribute (.Name x px) m ap) [a] [] cp) pos) (tSD (gX X T) W fun ρ => (match slotOf C ρ x, ixOf C.N x with
        | some (.ow (.list ds)), some i => guardM (decide (m = "append") && !isStar a && visB C.sc x && (ap.endLine == cp.line)) (bnd (evE n C a ρ) fun d => guardM (fits (ds.length + 1)) (ret (.nx, ρ.set i (some (.ow (.list (ds ++ [d])))))))
        | _, _ => stuckM)) := by
  by_cases hg : (decide (m = "append") && !isStar a && visB C.sc x && (ap.endLine == cp.line)) = true
  case neg =>
    refine PS.void (tSD.stuck fun ρ st => ?_)
    cases slotOf C ρ x with
    | none => rfl
    | some sv =>
      cases ixOf C.N x with
      | none =>
        cases sv with
        | ow d => cases d <;> rfl
        | _ => rfl
      | some i =>
        cases sv with
        | ow ds =>
          cases ds with
          | list ds =>
            show guardM _ _ _ = _
            unfold guardM
            rw [if_neg hg]
          | _ => rfl
        | _ => rfl
  obtain ⟨hg1, hg4⟩ := Bool.and_eq_true_iff.mp hg
  obtain ⟨hg2, hg3⟩ := Bool.and_eq_true_iff.mp hg1
  obtain ⟨hg0, hg5⟩ := Bool.and_eq_true_iff.mp hg2
  have hm := of_decide_eq_true hg0
  subst hm
  have hs : isStar a = false := by simpa using hg5
  have hst := star_no (env := X.env) (es := []) hs
  refine (ps_expr (pe_bm PySem.F.plainAttrs_list PySem.F.slot_list_append PySem.F.type_list_append mt_append (pe_slot G x px) (pa_cons (ih.E G.G a) pa_nil hst) rfl (by rw [hst]; rfl) hg4 hst rfl) rfl).monoS fun D σ H ⟨B, w, st, hσ, b, E, p⟩ => ?_
  subst hσ
  cases hs : slotOf C w.ρ x with
  | none =>
    exfalso
    have p : PostS (gX X T) W B w H ((match slotOf C w.ρ x, ixOf C.N x with
        | some (.ow (.list ds)), some i => guardM (decide ((("append" : Str)) = "append") && !isStar a && visB C.sc x && (ap.endLine == cp.line)) (bnd (evE n C a w.ρ) fun d => guardM (fits (ds.length + 1)) (ret (Fl.nx, w.ρ.set i (some (.ow (.list (ds ++ [d])))))))
        | _, _ => stuckM) st) D := p
    rw [hs] at p
    exact p.elim
  | some sv =>
    obtain ⟨hb, hv, m, hm, hρ⟩ := slotOf_some hs
    obtain ⟨u, hu, su⟩ := E.slot m sv hρ
    have p : PostS (gX X T) W B w H ((match slotOf C w.ρ x, ixOf C.N x with
        | some (.ow (.list ds)), some i => guardM (decide ((("append" : Str)) = "append") && !isStar a && visB C.sc x && (ap.endLine == cp.line)) (bnd (evE n C a w.ρ) fun d => guardM (fits (ds.length + 1)) (ret (Fl.nx, w.ρ.set i (some (.ow (.list (ds ++ [d])))))))
        | _, _ => stuckM) st) D := p
    rw [hs, hm] at p
    cases sv with
    | sh d => exact p.elim
    | stt => exact p.elim
    | ln d => exact p.elim
    | ow ds =>
      cases ds with
      | list ds =>
        obtain ⟨_, p⟩ := PostS.grd p
        obtain ⟨l, ob, rfl, q2, q3, q4, q5⟩ := su
        cases q5 with
        | lst q5 =>
          rename_i vs
          refine ⟨m, _, hm, hb, hv, hu, .inl ⟨rfl, vs, .inl (.inl q4)⟩, w, st, rfl, E, PostS.bind (rp := rpD _ w) p b E fun d st1 y H1 e1 E1 b1 r1 p1 => ?_⟩
          obtain ⟨hf, p2⟩ := PostS.grd p1
          clear p1
          have hf := fits_le hf
          have q5' := (E.kph e1).dps ds vs q5
          obtain ⟨z1, z2, z3⟩ := own_write E1 b1 hρ hu (.lst (RpAll.app q5' (.cons r1 .nil)))
          exact ⟨l, vs, y, rfl, rfl, e1.kp l _ q3 q4 (by intro ps z; cases z), by rw [RpAll.len q5]; omega, p2 { w with ρ := w.ρ.set m (some (.ow (.list (ds ++ [d])))) } _ rfl z2 z3 z1⟩
      | _ => exact p.elim
end
end DI
end
section
set_option linter.all false
set_option autoImplicit false
set_option maxRecDepth 100000
set_option maxHeartbeats 1000000
/-! D17b: a, b = x, y. -/
namespace DI
open PySem PySem.Spec L2
open PyProof.Rows hiding St
section
variable {T : List (Addr × Str)} {W : EW} {X : Cx} {C : Ctx} {k n : Nat}
theorem swap_none {ts es : List Expr} {kt k2 : Nat} {pt p2 : Pos} {env : PySem.Env} (h : es.all (foldedForSure 8) = true) : swappedStores [.Tuple ts kt pt] (.Tuple es k2 p2) env = pure none := by
  unfold swappedStores
  simp only []
  split
  · rfl
  split
  · rfl
  split
  · rfl
  rfl
def setV : L2.St → List Nat → List V → L2.St
  | σ, i :: is, v :: vs => setV (σ.set i (some v)) is vs
  | σ, _, _ => σ
def tParN (is : List Nat) (ta : TA) : TS := fun D σ H => ta σ H fun vs H1 => vs.length = is.length ∧ D.nx (setV σ is vs) H1
theorem swap2 {x y : Str} {px py pt p2 : Pos} {a b : Expr} {kt k2 : Nat} {env : PySem.Env} (hk : env.scope.kind = .function) (hx : env.scope.names.lookup x = some .local) (hy : env.scope.names.lookup y = some .local) (hl : py.line = px.line) (hxy : x ≠ y)
    (hs : [a, b].any isStar = false) (hf : [a, b].all (foldedForSure 8) = false) (hc : [a, b].all (constantsAlone 8) = false) : swappedStores [.Tuple [.Name x px, .Name y py] kt pt] (.Tuple [a, b] k2 p2) env = pure (some [x, y]) := by
  have hb : env.blockKind = .function := by unfold Env.blockKind; rw [hk]; rfl
  unfold swappedStores
  simp only []
  split
  · rename_i h
    exact absurd h (by simp [hb])
  split
  · rename_i h
    exact absurd (show [a, b].any isStar = true from h) (by rw [hs]; simp)
  split
  · rename_i h
    exact absurd h (by simp [Env.kindOf, hx, hy, hl, Expr.pos, List.eraseDups_cons, hxy, Ne.symm hxy])
  rw [if_neg (by rw [hf]; simp), if_neg (by rw [hc]; simp)]
  simp [Env.kindOf, hx, hy, hl, Expr.pos]
theorem swap3 {x y z : Str} {px py pz pt p2 : Pos} {a b c : Expr} {kt k2 : Nat} {env : PySem.Env} (hk : env.scope.kind = .function) (hx : env.scope.names.lookup x = some .local) (hy : env.scope.names.lookup y = some .local) (hz : env.scope.names.lookup z = some .local) (hl : py.line = px.line) (hl2 : pz.line = px.line) (hxy : x ≠ y) (hxz : x ≠ z) (hyz : y ≠ z)
    (hs : [a, b, c].any isStar = false) (hf : [a, b, c].all (foldedForSure 8) = false) (hc : [a, b, c].all (constantsAlone 8) = false) : swappedStores [.Tuple [.Name x px, .Name y py, .Name z pz] kt pt] (.Tuple [a, b, c] k2 p2) env = pure (some [x, y, z]) := by
  have hb : env.blockKind = .function := by unfold Env.blockKind; rw [hk]; rfl
  unfold swappedStores
  simp only []
  split
  · rename_i h
    exact absurd h (by simp [hb])
  split
  · rename_i h
    exact absurd (show [a, b, c].any isStar = true from h) (by rw [hs]; simp)
  split
  · rename_i h
    exact absurd h (by simp [Env.kindOf, hx, hy, hz, hl, hl2, Expr.pos, List.eraseDups_cons, hxy, Ne.symm hxy, hxz, Ne.symm hxz, hyz, Ne.symm hyz])
  rw [if_neg (by rw [hf]; simp), if_neg (by rw [hc]; simp)]
  simp [Env.kindOf, hx, hy, hz, hl, hl2, Expr.pos]
theorem ps_par3 {i j l : Nat} {x y z : Str} {a b c : Expr} {ta : TA} {px py pz pt pos : Pos} {kt k2 : Nat} {pt2 : Pos} (hc : X.calm = true) (hN : X.N.Nodup) (hi : X.N[i]? = some x) (hj : X.N[j]? = some y) (hl : X.N[l]? = some z) (hij : i ≠ j) (hil : i ≠ l) (hjl : j ≠ l)
    (hx : X.env.scope.names.lookup x = some .local) (hy : X.env.scope.names.lookup y = some .local) (hz : X.env.scope.names.lookup z = some .local) (ha : PA X [a, b, c] ta)
    (hw : swappedStores [.Tuple [.Name x px, .Name y py, .Name z pz] kt pt] (.Tuple [a, b, c] k2 pt2) X.env = pure (some [x, y, z])) :
    PS X (.Assign [.Tuple [.Name x px, .Name y py, .Name z pz] kt pt] (.Tuple [a, b, c] k2 pt2) pos) (tParN [i, j, l] ta) := by
  refine ⟨fun pins s σ H D I h => ?_⟩
  rw [exec_Assign_arm]
  refine wpAny_bind (wpAny_standAt ?_)
  rw [show swapsWithSole [.Tuple [.Name x px, .Name y py, .Name z pz] kt pt] (.Tuple [a, b, c] k2 pt2) pos.line X.env = pure false from rfl]
  refine wpAny_bind (wpAny_pure ?_)
  rw [if_neg (by decide)]
  refine wpAny_bind (Tuple_ (thn (ha.run _ pins s σ H _ I h) fun us s1 ⟨vs, H1, I1, r1, q1, q2⟩ => ?_))
  obtain ⟨v1, v2, v3, rfl⟩ : ∃ v1 v2 v3, vs = [v1, v2, v3] := by
    match vs, q1 with
    | [v1, v2, v3], _ => exact ⟨v1, v2, v3, rfl⟩
  obtain ⟨u1, u2, u3, rfl, e1, e2, e3⟩ : ∃ u1 u2 u3, us = [u1, u2, u3] ∧ RelV v1 u1 ∧ RelV v2 u2 ∧ RelV v3 u3 := by
    cases r1 with
    | cons p q => cases q with
      | cons p' q' => cases q' with
        | cons p2 q2 => cases q2; exact ⟨_, _, _, rfl, p, p', p2⟩
  refine wpAny_newObj_type ?_ (by show 3 ≤ sizeLine; decide)
  have I2 : Inv X pins σ H1 { s1 with heap := s1.heap.push { cls := .type "tuple", data := .seq [u1, u2, u3].toArray } } := I1.kept (t' := s1.toks) fun b o e => Heap.get?_push_of_some _ e
  rw [hw]
  refine wpAny_bind (wpAny_pure ?_)
  show wpAny (model X.prog X.w) X.A (do rule "assign.swapped-stores"; let items ← unpackItems (.ref s1.heap.objs.size) 3 none; assignInOrder [fun v => bindName X.env z v, fun v => bindName X.env y v, fun v => bindName X.env x v] items.reverse; pure Flow.next) _ _ _
  refine wpAny_bind (wpAny_rule (wpAny_bind (unpackItems_tuple (items := #[u1, u2, u3]) (I.ok.hd hc) (IsTup.new s1.heap _) fun h' hx' => ?_)))
  have I3 := I2.kept (h' := h') (t' := s1.toks) fun b o e => hx' b o (Nat.ne_of_lt (Heap.lt_size e)) e
  show wpAny _ _ (assignInOrder [fun v => bindName X.env z v, fun v => bindName X.env y v, fun v => bindName X.env x v] [u3, u2, u1] >>= fun _ => pure Flow.next) _ _ _
  refine wpAny_bind (assignInOrder_cons (wpAny_bindName (store_ok I3 hN hl (.inl hz) e3 (fun s2 I4 => ?_) (.inr hz))))
  refine assignInOrder_cons (wpAny_bindName (store_ok I4 hN hj (.inl hy) e2 (fun s3 I5 => ?_) (.inr hy)))
  refine assignInOrder_cons (wpAny_bindName (store_ok I5 hN hi (.inl hx) e1 (fun s4 I6 => assignInOrder_nil (wpAny_pure ?_)) (.inr hx)))
  have e : ((σ.set l (some v3)).set j (some v2)).set i (some v1) = setV σ [i, j, l] [v1, v2, v3] := by
    show _ = ((σ.set i (some v1)).set j (some v2)).set l (some v3)
    rw [List.set_comm _ _ (Ne.symm hjl), List.set_comm _ _ (Ne.symm hil), List.set_comm _ _ (Ne.symm hij)]
  rw [e] at I6
  exact ⟨_, H1, I6, q2⟩
end
end DI
end
section
set_option linter.all false
set_option autoImplicit false
set_option maxRecDepth 100000
set_option maxHeartbeats 1000000
/-! D17c: several values at once, the last new one owned. -/
namespace DI
open PySem PySem.Spec L2
open PyProof.Rows hiding St
section
variable {T : List (Addr × Str)} {W : EW} {X : Cx} {C : Ctx} {k n : Nat}
def rpPar (g : Gd) : Wd → Hp → List V → List SV → Prop := fun w H vs svs => (∃ ds : List D, svs = ds.map .sh ∧ RpAll g.K (hide w.Hid H) vs ds) ∨
  ∃ (ds1 ds2 : List D) (d : D) (a : Addr) (o : HO) (vs1 vs2 : List V) (st : Stt), svs = ds1.map .sh ++ .ow d :: ds2.map .sh ∧ vs = vs1 ++ .ref a :: vs2 ∧ H a = some o ∧ ERep g w (ers a H) st ∧ RpO g.K (hide w.Hid (ers a H)) o d ∧ RpAll g.K (hide w.Hid (ers a H)) vs1 ds1 ∧ RpAll g.K (hide w.Hid (ers a H)) vs2 ds2
theorem ERep.unnow {g : Gd} {w : Wd} {H1 H' : Hp} {st st' : Stt} (E : ERep g w H1 st) (E' : ERep g (w.now H1) H' st') : ERep g w H' st' := ⟨E'.len, E'.slot, E'.own, E'.stt, E'.tabs, E'.dom, fun a h => E'.old a (E.old a h)⟩
theorem evo_ers {p : Option Addr} {H H' : Hp} {a : Addr} (e : Evo p H H') (n : H a = none) : Evo p H (ers a H') := ⟨fun b o nb h t => by
    have ne : b ≠ a := fun z => by subst z; rw [n] at h; cases h
    rw [ers_ne ne]
    exact e.kp b o nb h t, fun b h => by
    have ne : b ≠ a := fun z => h (z ▸ n)
    rw [ers_ne ne]
    exact e.dom b h⟩
theorem ers_dom {H : Hp} {a b : Addr} (h : ers a H b ≠ none) : H b ≠ none := by
  intro z
  apply h
  unfold ers
  split
  · rfl
  · exact z
theorem ers_sub {H : Hp} {a : Addr} : ∀ b o, ers a H b = some o → H b = some o := fun b o h => (ers_in h).2
theorem _root_.L2.PE.det {X : Cx} {e : Expr} {t : TE} (h : PE X e t) : PE X e (fun σ H Q => t σ H fun v H' => DetH X.K H' → Q v H') := by
  refine ⟨fun pins s σ H Q I q => ?_⟩
  refine thn (h.run pins s σ H _ I q) fun u s1 ⟨v, H1, I1, r, z⟩ => ?_
  exact ⟨v, H1, I1, r, z fun v d d' h1 h2 => rp_det I1 h1 d' h2⟩
/-- the state as it is told twice -/
theorem stt_eq {g : Gd} {w : Wd} {H : Hp} {st st' : Stt} (det : DetH g.K H) (E : ERep g w H st) (E' : ERep g w H st') : st' = st := by
  have s := E.stt
  have s' := E'.stt
  cases hp : w.p with
  | none => rw [hp] at s s'; exact (show st' = [] from s').trans (show st = [] from s).symm
  | some q =>
    rw [hp] at s s'
    obtain ⟨_, _, us, q3, q4⟩ := s
    obtain ⟨_, _, us', q3', q4'⟩ := s'
    rw [q3] at q3'
    cases q3'
    exact DetH.all det (kp_hide.rps q4') (kp_hide.rps q4)
/-- out of a block that hid a new object -/
theorem blk_back {g : Gd} {w : Wd} {H0 H2 : Hp} {a : Addr} {o : HO} {st st2 : Stt} (E0 : ERep g w H0 st) (n0 : H0 a = none) (pl : Pln o) (e2 : Evo w.p (upd H0 a o) H2) (E2 : ERep g (w.blk a []) H2 st2) : H2 a = some o ∧ Evo w.p H0 (ers a H2) ∧ ERep g w (ers a H2) st2 := by
  have na : ¬ w.Hid a := fun z => E0.dom a z n0
  have np : w.p ≠ some a := fun z => na (E0.stt.hid a z)
  have h2 : H2 a = some o := e2.kp a _ np upd_same pl.1
  have e3 : Evo w.p H0 (ers a H2) := by
    have z := Evo.ers (D := a) e2
    rw [ers_upd n0] at z
    exact z
  have z : ERep g w (ers a (upd H0 a o)) st := by rw [ers_upd n0]; exact E0
  exact ⟨h2, e3, z.unblk E2 na pl h2 (Evo.ers e2)⟩
theorem evo_grow {p : Option Addr} {H0 H2 : Hp} {a : Addr} {o : HO} (n0 : H0 a = none) (e : Evo p H0 (ers a H2)) (h2 : H2 a = some o) : Evo p (upd H0 a o) H2 := ⟨fun b u nb h t => by
    by_cases z : b = a
    · subst z; rw [upd_same] at h; cases h; exact h2
    · rw [upd_ne z] at h; exact ers_sub _ _ (e.kp b u nb h t), fun b h => by
    by_cases z : b = a
    · subst z; rw [h2]; simp
    · rw [upd_ne z] at h; exact ers_dom (e.dom b h)⟩
theorem evPar_ok (ih : Snd T n) (G : Good T W X C k) : ∀ (es : List Expr), es.any isStar = false → PA X es (tD (gX X T) W (rpPar (gX X T)) (evPar n C es))
  | [], _ => pa_nil.monoA fun σ H Q ⟨w, st, hσ, E, h⟩ => h.now E (rp := rpPar _ w) (.inl ⟨[], rfl, .nil⟩)
  | e :: es, hs => by
    have hs2 : isStar e = false ∧ es.any isStar = false := by simpa using hs
    by_cases hf : (isFresh e && !es.any isFresh) = true
    · refine (pa_cons (ih.F G e).det (ih.Es G es) (star_no hs2.1)).monoA fun σ H Q ⟨w, st, hσ, E, h⟩ => ?_
      subst hσ
      have z : evPar n C (e :: es) w.ρ = bnd (evF n C e w.ρ) fun d => bnd (evEs n C es w.ρ) fun ds => ret (.ow d :: ds.map .sh) := by
        show guardM (!(e :: es).any isStar) _ = _
        rw [hs, if_pos hf]
        rfl
      rw [z] at h
      refine ⟨w, st, rfl, E, Post.bind (rq := rpPar _ w) h fun d st1 v H1 e1 E1 r1 h1 det => ?_⟩
      obtain ⟨a, o, H0, st0, rfl, n0, rfl, E0, E0', ro⟩ := r1
      have es0 : st0 = st1 := stt_eq det E1 E0'
      subst es0
      have na : ¬ w.Hid a := fun z => E0.dom a z n0
      have EB : ERep (gX X T) (w.blk a []) (upd H0 a o) st0 := ERep.blkO (by rw [ers_upd n0]; exact E0) ro.notbl upd_same na
      refine ⟨w.blk a [], st0, rfl, EB, ?_⟩
      have h1 : Post (gX X T) W w (rpPar (gX X T) w) (upd H0 a o) (R.next (evEs n C es w.ρ st0) fun ds => ret (.ow d :: ds.map .sh)) Q := h1
      show Post (gX X T) W (w.blk a []) (rpDs (gX X T) (w.blk a [])) (upd H0 a o) (evEs n C es w.ρ st0) _
      cases hr : evEs n C es w.ρ st0 with
      | stuck => rw [hr] at h1; exact h1.elim
      | err x st' =>
        rw [hr] at h1
        intro H2 e2 E2
        obtain ⟨h2, e3, E3⟩ := blk_back E0 n0 ro.notbl e2 E2
        exact h1 H2 e2 (E3.kp ers_sub)
      | ok ds st' =>
        rw [hr] at h1
        intro us H2 e2 E2 rus
        obtain ⟨h2, e3, E3⟩ := blk_back E0 n0 ro.notbl e2 E2
        have rus : RpAll X.K (hide (hid2 w.Hid a) H2) us ds := rus
        rw [hide_ers] at rus
        exact h1 _ H2 e2 (E3.kp ers_sub) (.inr ⟨[], ds, d, a, o, [], us, st', rfl, rfl, h2, E3, (E0.kph e3).rpo ro, .nil, rus⟩)
    · refine (pa_cons (ih.E G e) (evPar_ok ih G es hs2.2) (star_no hs2.1)).monoA fun σ H Q ⟨w, st, hσ, E, h⟩ => ?_
      subst hσ
      have z : evPar n C (e :: es) w.ρ = bnd (evE n C e w.ρ) fun d => bnd (evPar n C es w.ρ) fun svs => ret (.sh d :: svs) := by
        show guardM (!(e :: es).any isStar) _ = _
        rw [hs, if_neg hf]
        rfl
      rw [z] at h
      refine ⟨w, st, rfl, E, Post.bind (rq := rpPar _ w) h fun d st1 v H1 e1 E1 r1 h1 => ⟨w.now H1, st1, rfl, E1.now, ?_⟩⟩
      have h1 : Post (gX X T) W w (rpPar (gX X T) w) H1 (R.next (evPar n C es w.ρ st1) fun svs => ret (.sh d :: svs)) Q := h1
      show Post (gX X T) W (w.now H1) (rpPar (gX X T) (w.now H1)) H1 (evPar n C es w.ρ st1) _
      cases hr : evPar n C es w.ρ st1 with
      | stuck => rw [hr] at h1; exact h1.elim
      | err x st' =>
        rw [hr] at h1
        exact fun H2 e2 E2 => h1 H2 e2 (E1.unnow E2)
      | ok svs st' =>
        rw [hr] at h1
        intro us H2 e2 E2 rus
        refine h1 _ H2 e2 (E1.unnow E2) ?_
        rcases rus with ⟨ds, rfl, ra⟩ | ⟨ds1, ds2, d', a, o, vs1, vs2, st2, rfl, rfl, q3, q4, q5, q6, q7⟩
        · exact .inl ⟨d :: ds, rfl, .cons ((E1.kph e2).rp r1) ra⟩
        · have n1 : H1 a = none := by
            cases q : H1 a with
            | none => rfl
            | some o' => exact absurd (ers_eq (D := a) (H := H2)) (q4.old a (show H1 a ≠ none by rw [q]; simp))
          exact .inr ⟨d :: ds1, ds2, d', a, o, v :: vs1, vs2, st2, rfl, rfl, q3, E1.unnow q4, q5, .cons ((E1.kph (evo_ers e2 n1)).rp r1) q6, q7⟩
/-! ### all are stored -/
theorem BOk.world {B : Bs} {w w' : Wd} {H : Hp} (b : BOk B w H) (h1 : w'.Hid = w.Hid) (h2 : w'.p = w.p) (o : OwnK w.ρ w'.ρ w.σ w'.σ) : BOk B w' H :=
  ⟨fun a h => h1 ▸ b.sub a h, b.dom, by rw [h2]; exact b.pp, b.ev, fun i d a q1 q2 => by
    obtain ⟨z1, z2⟩ := o i _ rfl q1
    exact b.own i d a z1 (by rw [← z2]; exact q2), b.pin, fun i d a q1 q2 q3 q4 => by
    obtain ⟨z1, z2⟩ := o i _ rfl q1
    exact b.lnt i d a z1 q2 (by rw [← z2]; exact q3) (h1 ▸ q4)⟩
theorem set_shs {g : Gd} : ∀ {is : List Nat} {ds : List D} {vs : List V} {w : Wd} {H : Hp} {st : Stt}, vs.length = is.length → ERep g w H st → RpAll g.K (hide w.Hid H) vs ds →
    ∃ w' : Wd, w'.σ = setV w.σ is vs ∧ w'.ρ = setAll w.ρ is (ds.map .sh) ∧ w'.Hid = w.Hid ∧ w'.p = w.p ∧ w'.H0 = w.H0 ∧ ERep g w' H st ∧ OwnK w.ρ w'.ρ w.σ w'.σ
  | [], _, _, w, H, st, hl, E, r => by
    cases r with
    | nil => exact ⟨w, rfl, rfl, rfl, rfl, rfl, E, OwnK.rfl'⟩
    | cons _ _ => cases hl
  | i :: is, _, _, w, H, st, hl, E, r => by
    cases r with
    | nil => cases hl
    | cons r1 r2 =>
      rename_i v vs d ds
      have E1 : ERep g { w with σ := w.σ.set i (some v), ρ := w.ρ.set i (some (.sh d)) } H st := E.set i (sv := .sh d) r1 fun a ds z => by cases z
      obtain ⟨w', h1, h2, h3, h4, h5, h6, h7⟩ := set_shs (is := is) (w := { w with σ := w.σ.set i (some v), ρ := w.ρ.set i (some (.sh d)) }) (by simpa using hl) E1 r2
      exact ⟨w', h1, h2, h3, h4, h5, h6, OwnK.tr (OwnK.set i rfl) h7⟩
theorem setV_app : ∀ {is1 is2 : List Nat} {vs1 vs2 : List V} {σ : L2.St}, vs1.length = is1.length → setV σ (is1 ++ is2) (vs1 ++ vs2) = setV (setV σ is1 vs1) is2 vs2
  | [], _, [], _, _, _ => rfl
  | [], _, _ :: _, _, _, h => by cases h
  | _ :: _, _, [], _, _, h => by cases h
  | i :: is1, is2, v :: vs1, vs2, σ, h => setV_app (is1 := is1) (by simpa using h)
theorem setAll_app : ∀ {is1 is2 : List Nat} {vs1 vs2 : List SV} {ρ : DI.Env}, vs1.length = is1.length → setAll ρ (is1 ++ is2) (vs1 ++ vs2) = setAll (setAll ρ is1 vs1) is2 vs2
  | [], _, [], _, _, _ => by cases ‹List Nat› <;> rfl
  | [], _, _ :: _, _, _, h => by cases h
  | _ :: _, _, [], _, _, h => by cases h
  | i :: is1, is2, v :: vs1, vs2, σ, h => setAll_app (is1 := is1) (by simpa using h)
theorem par_end {B : Bs} {w : Wd} {Hs H : Hp} {st st0 : Stt} {D : Ends} {is : List Nat} {vs : List V} {svs : List SV} (p : PostS (gX X T) W B w Hs (.ok (.nx, setAll w.ρ is svs) st) D) (hl : vs.length = is.length) (h0 : w.H0 = Hs) (b : BOk B w Hs) (e : Evo w.p Hs H) (Es : ERep (gX X T) w Hs st0) (E : ERep (gX X T) w H st) (r : rpPar (gX X T) w H vs svs) (det : DetH X.K H) : D.nx (setV w.σ is vs) H := by
  rcases r with ⟨ds, rfl, ra⟩ | ⟨ds1, ds2, d, a, o, vs1, vs2, st', rfl, rfl, q3, q4, q5, q6, q7⟩
  · obtain ⟨w', h1, h2, h3, h4, h5, h6, h7⟩ := set_shs hl E ra
    rw [← h1]
    exact p w' H h2 ((b.evo e).world h3 h4 h7) ⟨by rw [h3]; exact (Stp.of Es e).kp, (Stp.of Es e).dom⟩ h6
  · have es : st' = st := stt_eq det E (q4.kp ers_sub)
    subst es
    have nS : Hs a = none := by
      cases q : Hs a with
      | none => rfl
      | some o' => exact absurd (ers_eq (D := a) (H := H)) (q4.old a (by rw [h0, q]; simp))
    have e1 : Evo w.p Hs (ers a H) := evo_ers e nS
    obtain ⟨is1, i, is2, rfl, hl1, hl2⟩ : ∃ is1 i is2, is = is1 ++ i :: is2 ∧ vs1.length = is1.length ∧ vs2.length = is2.length := by
      have hz : is.length = vs1.length + (vs2.length + 1) := by rw [← hl]; simp
      have hlt : vs1.length < is.length := by omega
      refine ⟨is.take vs1.length, is[vs1.length], is.drop (vs1.length + 1), ?_, by simp; omega, by simp; omega⟩
      rw [← List.drop_eq_getElem_cons hlt, List.take_append_drop]
    obtain ⟨w1, a1, a2, a3, a4, a5, a6, a7⟩ := set_shs hl1 q4 q6
    have b1 : BOk B w1 (ers a H) := (b.evo e1).world a3 a4 a7
    obtain ⟨z1, z2, z3⟩ := own_new a6 ers_eq b1 (by rw [a3]; exact q5) i
    rw [← upd_ers q3] at z1 z2 z3
    obtain ⟨w2, c1, c2, c3, c4, c5, c6, c7⟩ := set_shs (is := is2) hl2 z1 (show RpAll X.K (hide (hid2 w1.Hid a) H) vs2 ds2 by rw [hide_ers, a3]; exact q7)
    have hσ : w2.σ = setV w.σ (is1 ++ i :: is2) (vs1 ++ .ref a :: vs2) := by
      rw [setV_app hl1, c1, a1]
      rfl
    have hρ : w2.ρ = setAll w.ρ (is1 ++ i :: is2) (ds1.map .sh ++ .ow d :: ds2.map .sh) := by
      rw [setAll_app (by rw [List.length_map, ← RpAll.len q6]; exact hl1), c2, a2]
      rfl
    rw [← hσ]
    refine p w2 H hρ (z2.world c3 c4 c7) ⟨?_, e.dom⟩ c6
    have s1 : Kp (hide w.Hid Hs) (hide w.Hid (ers a H)) := (Stp.of Es e1).kp
    rw [c3]
    refine s1.tr ?_
    rw [← a3]
    exact z3.kp
theorem parNames_ok (G : GoodS T W X C k) : ∀ {ts : List Expr} {is : List Nat}, parNames C ts = some is → ∃ xs : List (Str × Pos), ts = xs.map (fun q => .Name q.1 q.2) ∧ is.length = ts.length ∧ is.Nodup ∧ ∀ j : Nat, ∀ q, xs[j]? = some q → ∃ i, is[j]? = some i ∧ X.N[i]? = some q.1 ∧ X.env.scope.names.lookup q.1 = some .local
  | [], is, h => by
    cases h
    exact ⟨[], rfl, rfl, .nil, fun j q z => by simp at z⟩
  | t :: ts, is, h => by
    cases t with
    | Name x p =>
      unfold parNames at h
      split at h
      · rename_i hx
        simp only [Option.bind_eq_some_iff] at h
        obtain ⟨i, hi, is', his, h⟩ := h
        split at h
        · cases h
        · rename_i hni
          cases h
          obtain ⟨xs, h1, h2, h3, h4⟩ := parNames_ok G his
          refine ⟨(x, p) :: xs, by rw [h1]; rfl, by simp [h2], List.nodup_cons.mpr ⟨hni, h3⟩, fun j q z => ?_⟩
          cases j with
          | zero =>
            simp at z
            subst z
            exact ⟨i, rfl, by rw [G.G.N]; exact ixOf_get hi, by rw [G.G.sc]; exact hx.2⟩
          | succ j => exact h4 j q (by simpa using z)
      · cases h
    | _ => cases h
theorem _root_.L2.PA.detA {X : Cx} {es : List Expr} {t : TA} (h : PA X es t) : PA X es (fun σ H Q => t σ H fun v H' => DetH X.K H' → Q v H') := by
  refine ⟨fun pos pins s σ H Q I q => ?_⟩
  refine thn (h.run pos pins s σ H _ I q) fun u s1 ⟨v, H1, I1, r, z⟩ => ?_
  exact ⟨v, H1, I1, r, z fun v d d' h1 h2 => rp_det I1 h1 d' h2⟩
theorem all_line {ts : List Expr} {l : Nat} (h : ts.all (fun t => decide (t.pos.line = l)) = true) : ∀ t ∈ ts, t.pos.line = l := fun t ht => of_decide_eq_true (List.all_eq_true.mp h t ht)
theorem evEs_len : ∀ (m : Nat) (es : List Expr) {ρ : DI.Env} {st st' : Stt} {ds : List D}, es.any isStar = false → evEs m C es ρ st = .ok ds st' → ds.length = es.length
  | 0, _, _, _, _, _, _, h => by cases h
  | m + 1, [], _, _, _, _, _, h => by cases h; rfl
  | m + 1, e :: es, ρ, st, st', ds, hs, h => by
    have hs2 : isStar e = false ∧ es.any isStar = false := by simpa using hs
    have z : evEs (m + 1) C (e :: es) ρ = (bnd (evE m C e ρ) fun d => bnd (evEs m C es ρ) fun ds => ret (d :: ds)) := by cases e <;> first | rfl | cases hs2.1
    rw [z] at h
    obtain ⟨d, st1, h1, h2⟩ := next_ok h
    obtain ⟨ds', st2, h3, h4⟩ := next_ok h2
    cases h4
    simp [evEs_len m es hs2.2 h3]
theorem evPar_len : ∀ (es : List Expr) {ρ : DI.Env} {st st' : Stt} {svs : List SV}, es.any isStar = false → evPar n C es ρ st = .ok svs st' → svs.length = es.length
  | [], _, _, _, _, _, h => by cases h; rfl
  | e :: es, ρ, st, st', svs, hs, h => by
    have hs2 : isStar e = false ∧ es.any isStar = false := by simpa using hs
    by_cases hf : (isFresh e && !es.any isFresh) = true
    · have z : evPar n C (e :: es) ρ = bnd (evF n C e ρ) fun d => bnd (evEs n C es ρ) fun ds => ret (.ow d :: ds.map .sh) := by
        show guardM (!(e :: es).any isStar) _ = _
        rw [hs, if_pos hf]
        rfl
      rw [z] at h
      obtain ⟨d, st1, h1, h2⟩ := next_ok h
      obtain ⟨ds', st2, h3, h4⟩ := next_ok h2
      cases h4
      simp [evEs_len n es hs2.2 h3]
    · have z : evPar n C (e :: es) ρ = bnd (evE n C e ρ) fun d => bnd (evPar n C es ρ) fun svs => ret (.sh d :: svs) := by
        show guardM (!(e :: es).any isStar) _ = _
        rw [hs, if_neg hf]
        rfl
      rw [z] at h
      obtain ⟨d, st1, h1, h2⟩ := next_ok h
      obtain ⟨ds', st2, h3, h4⟩ := next_ok h2
      cases h4
      simp [evPar_len es hs2.2 h3]
theorem rpPar_len {g : Gd} {w : Wd} {H : Hp} {vs : List V} {svs : List SV} (r : rpPar g w H vs svs) : vs.length = svs.length := by
  rcases r with ⟨ds, rfl, ra⟩ | ⟨ds1, ds2, d, a, o, vs1, vs2, st', rfl, rfl, q3, q4, q5, q6, q7⟩
  · simpa using RpAll.len ra
  · simp [RpAll.len q6, RpAll.len q7]
/-- a place of a name is one -/
theorem nm_uniq {i j : Nat} {x : Str} (nd : X.N.Nodup) (h1 : X.N[i]? = some x) (h2 : X.N[j]? = some x) : i = j := by
  obtain ⟨a1, b1⟩ := List.getElem?_eq_some_iff.mp h1
  obtain ⟨a2, b2⟩ := List.getElem?_eq_some_iff.mp h2
  exact (List.getElem_inj nd).mp (b1.trans b2.symm)
theorem st_par (ih : Snd T n) (G : GoodS T W X C k) (ts es : List Expr) (jt je : Nat) (pt pe pos : Pos) :
    PS X (.Assign [.Tuple ts jt pt] (.Tuple es je pe) pos) (tSD (gX X T) W fun ρ => guardM (parOk C ts es) (bnd (optM (parNames C ts)) fun is => bnd (evPar n C es ρ) fun svs => ret (.nx, setAll ρ is svs))) := by
  by_cases hp : parOk C ts es = true
  case neg => exact PS.void (tSD.stuck fun ρ st => by unfold guardM; rw [if_neg hp])
  by_cases hz : ∃ is, parNames C ts = some is
  case neg =>
    have hz : parNames C ts = none := by
      cases q : parNames C ts with
      | none => rfl
      | some is => exact absurd ⟨is, q⟩ hz
    exact PS.void (tSD.stuck fun ρ st => by unfold guardM; rw [if_pos hp, hz]; rfl)
  obtain ⟨is, hn⟩ := hz
  obtain ⟨xs, e1, e2, nd, at_⟩ := parNames_ok G hn
  have hp' := hp
  unfold parOk at hp'
  simp only [Bool.and_eq_true, Bool.or_eq_true, Bool.not_eq_true', decide_eq_true_eq] at hp'
  obtain ⟨p1, p2, p3, p4, p5, p6, p7⟩ := hp'
  have p5 := all_line p5
  have hpa := (evPar_ok ih G.G es p4).detA
  have fin : ∀ {D : Ends} {σ : L2.St} {H : Hp}, tSD (gX X T) W (fun ρ => guardM (parOk C ts es) (bnd (optM (parNames C ts)) fun is => bnd (evPar n C es ρ) fun svs => ret (.nx, setAll ρ is svs))) D σ H →
      tD (gX X T) W (rpPar (gX X T)) (evPar n C es) σ H fun vs H1 => DetH X.K H1 → vs.length = is.length ∧ D.nx (setV σ is vs) H1 := fun {D σ H} ⟨B, w, st, hσ, b, E, p⟩ => by
    subst hσ
    obtain ⟨_, p⟩ := PostS.grd p
    rw [hn] at p
    have p : PostS (gX X T) W B w H (R.next (evPar n C es w.ρ st) fun svs => ret (.nx, setAll w.ρ is svs)) D := p
    refine ⟨w.now H, st, rfl, E.now, ?_⟩
    show Post (gX X T) W (w.now H) (rpPar (gX X T) (w.now H)) H (evPar n C es w.ρ st) _
    cases hr : evPar n C es w.ρ st with
    | stuck => rw [hr] at p; exact p.elim
    | err x st' =>
      rw [hr] at p
      exact fun H2 e2 E2 => p H2 ((b.evo e2).left (E.unnow E2))
    | ok svs st1 =>
      rw [hr] at p
      intro vs H1 e1 E1 r1 det
      have hl : vs.length = is.length := by rw [rpPar_len r1, evPar_len es p4 hr, e2, p2]
      exact ⟨hl, par_end (w := w.now H) (PostS.now p H) hl rfl (b.now H) e1 E.now E1 r1 det⟩
  have imp : ∀ {σ : L2.St} {H : Hp} {Q Q' : List V → Hp → Prop}, tD (gX X T) W (rpPar (gX X T)) (evPar n C es) σ H Q → (∀ b H', Q b H' → Q' b H') → tD (gX X T) W (rpPar (gX X T)) (evPar n C es) σ H Q' := fun {σ H Q Q'} ⟨w, st, hσ, E, h⟩ k => by
    refine ⟨w, st, hσ, E, ?_⟩
    cases hr : evPar n C es w.ρ st with
    | stuck => rw [hr] at h; exact h.elim
    | err x st' => rw [hr] at h; exact h
    | ok svs st1 => rw [hr] at h; exact fun b H1 e1 E1 r1 => k _ _ (h b H1 e1 E1 r1)
  rcases p3 with p3 | p3
  · have hx : ∃ q1 q2, xs = [q1, q2] := by
      have z : xs.length = 2 := by rw [e1] at p3; simpa using p3
      match xs, z with
      | [q1, q2], _ => exact ⟨q1, q2, rfl⟩
    obtain ⟨⟨x, px⟩, ⟨y, py⟩, rfl⟩ := hx
    have he : ∃ a b, es = [a, b] := by
      have z : es.length = 2 := by rw [← p2, p3]
      match es, z with
      | [a, b], _ => exact ⟨a, b, rfl⟩
    obtain ⟨a, b, rfl⟩ := he
    subst e1
    obtain ⟨i, hi1, hi2, hi3⟩ := at_ 0 (x, px) rfl
    obtain ⟨j, hj1, hj2, hj3⟩ := at_ 1 (y, py) rfl
    have his : is = [i, j] := by
      have z : is.length = 2 := e2
      match is, z with
      | [i', j'], _ => simp at hi1 hj1; rw [hi1, hj1]
    subst his
    have hij : i ≠ j := by simpa using nd
    have hxy : x ≠ y := fun z => hij (nm_uniq G.G.nd hi2 (by rw [hj2]; exact congrArg some z.symm))
    refine (ps_par G.G.calm G.G.nd hi2 hj2 hij hi3 hj3 hpa (swap2 (by rw [G.G.sc]; exact p1) hi3 hj3 (by have := p5 (.Name y py) (by simp); simpa [Expr.pos] using this) hxy p4 p6 p7) rfl).monoS fun D σ H h => imp (fin h) fun vs H1 q det => ?_
    obtain ⟨hl, q⟩ := q det
    match vs, hl with
    | [v1, v2], _ => exact ⟨v1, v2, rfl, q⟩
  · have hx : ∃ q1 q2 q3, xs = [q1, q2, q3] := by
      have z : xs.length = 3 := by rw [e1] at p3; simpa using p3
      match xs, z with
      | [q1, q2, q3], _ => exact ⟨q1, q2, q3, rfl⟩
    obtain ⟨⟨x, px⟩, ⟨y, py⟩, ⟨z, pz⟩, rfl⟩ := hx
    have he : ∃ a b c, es = [a, b, c] := by
      have z : es.length = 3 := by rw [← p2, p3]
      match es, z with
      | [a, b, c], _ => exact ⟨a, b, c, rfl⟩
    obtain ⟨a, b, c, rfl⟩ := he
    subst e1
    obtain ⟨i, hi1, hi2, hi3⟩ := at_ 0 (x, px) rfl
    obtain ⟨j, hj1, hj2, hj3⟩ := at_ 1 (y, py) rfl
    obtain ⟨l, hl1, hl2, hl3⟩ := at_ 2 (z, pz) rfl
    have his : is = [i, j, l] := by
      have z : is.length = 3 := e2
      match is, z with
      | [i', j', l'], _ => simp at hi1 hj1 hl1; rw [hi1, hj1, hl1]
    subst his
    simp only [List.nodup_cons, List.mem_cons, List.not_mem_nil, or_false, not_or] at nd
    have hxy : x ≠ y := fun q => nd.1.1 (nm_uniq G.G.nd hi2 (by rw [hj2]; exact congrArg some q.symm))
    have hxz : x ≠ z := fun q => nd.1.2 (nm_uniq G.G.nd hi2 (by rw [hl2]; exact congrArg some q.symm))
    have hyz : y ≠ z := fun q => nd.2.1 (nm_uniq G.G.nd hj2 (by rw [hl2]; exact congrArg some q.symm))
    exact (ps_par3 G.G.calm G.G.nd hi2 hj2 hl2 nd.1.1 nd.1.2 nd.2.1 hi3 hj3 hl3 hpa (swap3 (by rw [G.G.sc]; exact p1) hi3 hj3 hl3 (by have := p5 (.Name y py) (by simp); simpa [Expr.pos] using this) (by have := p5 (.Name z pz) (by simp); simpa [Expr.pos] using this) hxy hxz hyz p4 p6 p7)).monoS fun D σ H h => imp (fin h) fun vs H1 q det => q det
end
end DI
end
section
set_option linter.all false
set_option autoImplicit false
set_option maxRecDepth 100000
/-! D18: loops; statements one behind another; the step. -/
namespace DI
open PySem PySem.Spec L2
open PyProof.Rows hiding St
section
variable {T : List (Addr × Str)} {W : EW} {X : Cx} {C : Ctx} {k n : Nat}
/-- a turn's end, then the rest -/
theorem PostS.turn {g : Gd} {B : Bs} {w : Wd} {H : Hp} {D : Ends} {r : R (Fl × DI.Env)} {rest : DI.Env → M (Fl × DI.Env)} {N : L2.St → Hp → Prop}
    (h : PostS g W B w H (r.next fun q => match q.1 with
      | .nx => rest q.2
      | .ct => rest q.2
      | .bk => ret (.nx, q.2)
      | .rt d => ret (.rt d, q.2)) D)
    (hN : ∀ w' H' st', BOk B w' H' → Stp w H w' H' → ERep g w' H' st' → PostS g W B w' H' (rest w'.ρ st') D → N w'.σ H') : PostS g W B w H r { D with nx := N, ct := N, bk := D.nx } := by
  match r, h with
  | .ok (.nx, ρ') st', h => exact fun w2 H2 e b s E => hN w2 H2 st' b s E (by subst e; exact PostS.later h s)
  | .ok (.ct, ρ') st', h => exact fun w2 H2 e b s E => hN w2 H2 st' b s E (by subst e; exact PostS.later h s)
  | .ok (.bk, ρ') st', h => exact h
  | .ok (.rt d, ρ') st', h => exact h
  | .err e st', h => exact h
theorem st_for (ih : Snd T n) (ihs : SndS T n) (G : GoodS T W X C k) (tg iter : Expr) (body : List Stmt) (pos : Pos) :
    PS X (.For tg iter body [] pos) (tSD (gX X T) W fun ρ => guardM (!isSetE iter) (bnd (evI n C false (isTup tg) iter ρ) fun xs => loopM (fun x ρ => bnd (optM (asg n C tg x ρ)) fun ρ' => evSs n C body ρ') xs ρ)) := by
  by_cases hset : isSetE iter = true
  · refine PS.void (tSD.stuck fun ρ st => ?_)
    rw [hset]
    rfl
  refine (ps_for G.own G.G.calm (ih.I G.G false tg iter) ((asg_ok (T := T) G.G.calm G.G.N.symm G.G.nd G.tg n).1 tg) (ihs.Ss G body) (folded_no (by simpa using hset))).monoS fun D σ H ⟨B, w, st, hσ, b, E, p⟩ => ?_
  subst hσ
  obtain ⟨_, p⟩ := PostS.grd p
  refine ⟨w, st, rfl, E, PostS.bind (rp := rpI _ _ w) p b E fun xs st1 J H1 e1 E1 b1 r1 p1 => ?_⟩
  refine ⟨fun i m σ H => m = xs.length - i ∧ i ≤ xs.length ∧ ∃ (w2 : Wd) (st2 : Stt), w2.σ = σ ∧ BOk B w2 H ∧ Stp w H1 w2 H ∧ ERep (gX X T) w2 H st2 ∧ PostS (gX X T) W B w2 H (loopM (fun x ρ => bnd (optM (asg n C tg x ρ)) fun ρ' => evSs n C body ρ') (xs.drop i) w2.ρ st2) D,
    ⟨xs.length, by simp, Nat.zero_le _, w, st1, rfl, b1, Stp.rfl', E1, by rw [List.drop_zero]; exact p1⟩, ?_⟩
  rintro i m σ2 H2 ⟨rfl, hi, w2, st2, rfl, b2, s2, E2, p2⟩
  have hw : ∀ a, hd false w a ↔ w.Hid a := fun a => by unfold hd; simp
  have kp0 : Kp (hide (hd false w) H1) H2 := fun c o h n => by
    obtain ⟨q1, q2⟩ := hide_in h
    exact (hide_in (s2.kp c o (in_hide q1 fun z => q2 ((hw c).mpr z)) n)).1
  obtain ⟨go, stop⟩ := r1 H2 kp0 i
  by_cases hlt : i < xs.length
  · obtain ⟨jg, jy⟩ := go hlt
    refine .inr ⟨jg, _, fun σ' H' p' => ⟨xs.length - (i + 1), by omega, rfl, hlt, p'⟩, fun x H3 y => ?_⟩
    obtain ⟨kx, d, hd, rx⟩ := jy x H3 y
    have e3 : Evo w2.p H2 H3 := Evo.of kx
    have E3 := E2.kp kx
    have b3 := b2.evo e3
    have s3 : Stp w2 H2 w2 H3 := Stp.of E2 e3
    have rd : rpD (gX X T) w2 H3 x d := rx w2.Hid E2.dom (s2.tr s3).kp
    have hdrop : xs.drop i = d :: xs.drop (i + 1) := by
      obtain ⟨hlt', e⟩ := List.getElem?_eq_some_iff.mp hd
      rw [List.drop_eq_getElem_cons hlt', e]
    rw [hdrop] at p2
    have p3 : PostS (gX X T) W B w2 H2 (R.next (R.next (optM (asg n C tg d w2.ρ) st2) fun ρ' => evSs n C body ρ') fun q => match q.1 with
      | .nx => loopM (fun x ρ => bnd (optM (asg n C tg x ρ)) fun ρ' => evSs n C body ρ') (xs.drop (i + 1)) q.2
      | .ct => loopM (fun x ρ => bnd (optM (asg n C tg x ρ)) fun ρ' => evSs n C body ρ') (xs.drop (i + 1)) q.2
      | .bk => ret (.nx, q.2)
      | .rt d => ret (.rt d, q.2)) D := p2
    cases ha : asg n C tg d w2.ρ with
    | none => rw [ha] at p3; exact p3.elim
    | some ρ' =>
      rw [ha] at p3
      refine ⟨w2, st2, d, ρ', rfl, E3, rd, ha, fun σ' E4 _ ow => ⟨B, { w2 with σ := σ', ρ := ρ' }, st2, rfl, b3.set ow, E4, ?_⟩⟩
      have s4 : Stp w2 H2 { w2 with σ := σ', ρ := ρ' } H3 := ⟨s3.kp, s3.dom⟩
      exact PostS.turn (PostS.later p3 s4) fun w5 H5 st5 b5 s5 E5 p5 => ⟨w5, st5, rfl, b5, s2.tr (s4.tr s5), E5, p5⟩
  · have e : i = xs.length := by omega
    subst e
    refine .inl ⟨stop rfl, ?_⟩
    rw [List.drop_length] at p2
    exact p2 w2 H2 rfl b2 Stp.rfl' E2
theorem st_while (ih : Snd T n) (ihs : SndS T n) (G : GoodS T W X C k) (t : Expr) (body : List Stmt) (pos : Pos) (N : Nat) (xs : List Str) :
    PS X (.While t body [] pos) (tSD (gX X T) W fun ρ => whileM (fun ρ => bnd (evT n C t (share C xs ρ)) fun c => ret (c, share C xs ρ)) (fun ρ => evSs n C body ρ) N ρ) := by
  refine (ps_while G.own (ih.Te G.G t) (ihs.Ss G body)).monoS fun D σ H ⟨B, w, st, hσ, b, E, p⟩ => ?_
  refine ⟨fun m σ H => ∃ (w2 : Wd) (st2 : Stt), w2.σ = σ ∧ BOk B w2 H ∧ ERep (gX X T) w2 H st2 ∧ PostS (gX X T) W B w2 H (whileM (fun ρ => bnd (evT n C t (share C xs ρ)) fun c => ret (c, share C xs ρ)) (fun ρ => evSs n C body ρ) m w2.ρ st2) D, ⟨N, w, st, hσ, b, E, p⟩, ?_⟩
  rintro m σ2 H2 ⟨w2, st2, rfl, b2, E2, p2⟩
  cases m with
  | zero => exact p2.elim
  | succ m =>
    obtain ⟨w3, a1, a2, E3, b3, s3⟩ := share_ok C xs E2 b2
    have p3 : PostS (gX X T) W B w3 H2 (R.next (R.next (evT n C t (share C xs w2.ρ) st2) fun c => ret (c, share C xs w2.ρ)) fun c => if c.1 = true then bnd (evSs n C body c.2) fun q => (match q.1 with
      | .nx => whileM (fun ρ => bnd (evT n C t (share C xs ρ)) fun c => ret (c, share C xs ρ)) (fun ρ => evSs n C body ρ) m q.2
      | .ct => whileM (fun ρ => bnd (evT n C t (share C xs ρ)) fun c => ret (c, share C xs ρ)) (fun ρ => evSs n C body ρ) m q.2
      | .bk => ret (.nx, q.2)
      | .rt d => ret (.rt d, q.2)) else ret (.nx, c.2)) D := PostS.later p2 s3
    rw [next_next, ← a2] at p3
    refine ⟨w3, st2, a1, E3, PostS.bind (rp := rpT w3) p3 b3 E3 fun c st4 c' H4 e4 E4 b4 r4 p4 => ?_⟩
    have e : c' = c := r4
    subst e
    cases c' with
    | false =>
      rw [← a1]
      exact p4 w3 H4 rfl b4 Stp.rfl' E4
    | true =>
      rw [if_pos rfl]
      refine ⟨_, fun σ' H' h => ⟨m, Nat.lt_succ_self m, h⟩, B, w3, st4, a1, b4, E4, ?_⟩
      exact PostS.turn p4 fun w5 H5 st5 b5 s5 E5 p5 => ⟨w5, st5, rfl, b5, E5, p5⟩
/-! ### one behind another -/
theorem st_nil : PSs X [] (tSD (gX X T) W fun ρ => ret (.nx, ρ)) := by
  refine pss_nil.monoS fun D σ H ⟨B, w, st, hσ, b, E, p⟩ => ?_
  subst hσ
  exact p w H rfl b Stp.rfl' E
theorem st_cons (ihs : SndS T n) (G : GoodS T W X C k) (s : Stmt) (r : List Stmt) : PSs X (s :: r) (tSD (gX X T) W fun ρ => bnd (evS n C s ρ) fun q => (match q.1 with
    | .nx => evSs n C r q.2
    | f => ret (f, q.2))) := by
  refine (pss_cons (ihs.S G s) (ihs.Ss G r)).monoS fun D σ H ⟨B, w, st, hσ, b, E, p⟩ => ?_
  subst hσ
  refine ⟨B, w, st, rfl, b, E, ?_⟩
  have p : PostS (gX X T) W B w H (R.next (evS n C s w.ρ st) fun q => (match q.1 with
    | .nx => evSs n C r q.2
    | f => ret (f, q.2))) D := p
  match hr : evS n C s w.ρ st with
  | .ok (.nx, ρ') st' =>
    rw [hr] at p
    exact fun w2 H2 e b2 s2 E2 => ⟨B, w2, st', rfl, b2, E2, by rw [e]; exact PostS.later p s2⟩
  | .ok (.bk, ρ') st' => rw [hr] at p; exact p
  | .ok (.ct, ρ') st' => rw [hr] at p; exact p
  | .ok (.rt d, ρ') st' => rw [hr] at p; exact p
  | .err e st' => rw [hr] at p; exact p
  | .stuck => rw [hr] at p; exact p
/-! ### the step -/
theorem s_S (ihe : ∀ m, m ≤ n → Snd T m) (ihs : SndS T n) (G : GoodS T W X C k) (s : Stmt) : PS X s (tSD (gX X T) W (evS (n + 1) C s)) := by
  have ih := ihe n (Nat.le_refl n)
  cases s with
  | Pass pos => exact st_nx ps_pass
  | Break pos => exact st_bk pos
  | Continue pos => exact st_ct pos
  | Return v pos =>
    cases v with
    | none => exact st_retN pos
    | some e => exact ps_share (C := C) (xs := esc (lnd C) n e) (st_ret ih G e pos)
  | If t a b pos => exact ps_share (C := C) (xs := escB (lnd C) n t) (st_if ih ihs G t a b pos)
  | For tg iter body orelse pos =>
    cases orelse with
    | nil => exact ps_share (C := C) (xs := esc (lnd C) n iter ++ escsAll C iter) (st_for ih ihs G tg iter body pos)
    | cons _ _ => exact PS.void (tSD.stuck fun _ _ => rfl)
  | While t body orelse pos =>
    cases orelse with
    | nil => exact st_while ih ihs G t body pos C.turns (escB (lnd C) n t)
    | cons _ _ => exact PS.void (tSD.stuck fun _ _ => rfl)
  | Raise exc cause pos =>
    cases exc with
    | none => exact PS.void (tSD.stuck fun _ _ => rfl)
    | some e =>
      cases cause with
      | some c =>
        refine PS.void (tSD.stuck fun ρ st => ?_)
        cases e with
        | Call f args kws p2 =>
          cases f with
          | Name c p =>
            cases args with
            | nil => rfl
            | cons a r =>
              cases r with
              | cons _ _ => cases a with
                | Constant c2 j p3 => cases c2 <;> rfl
                | _ => rfl
              | nil =>
                cases a with
                | Constant c2 j p3 =>
                  cases c2 with
                  | str m => cases kws <;> rfl
                  | _ => rfl
                | _ => rfl
          | _ => rfl
        | _ => rfl
      | none =>
        by_cases he : ∃ c p m j p2 pos', e = .Call (.Name c p) [.Constant (.str m) j p2] [] pos'
        · obtain ⟨c, p, m, j, p2, pos', rfl⟩ := he
          exact st_raise G c m j p p2 pos' pos
        · refine PS.void (tSD.stuck fun ρ st => ?_)
          cases e with
          | Call f args kws p2 =>
            cases f with
            | Name c p =>
              cases args with
              | nil => rfl
              | cons a r =>
                cases r with
                | cons _ _ => cases a with
                  | Constant c2 j p3 => cases c2 <;> rfl
                  | _ => rfl
                | nil =>
                  cases a with
                  | Constant c2 j p3 =>
                    cases c2 with
                    | str m =>
                      cases kws with
                      | nil => exact absurd ⟨_, _, _, _, _, _, rfl⟩ he
                      | cons _ _ => rfl
                    | _ => rfl
                  | _ => rfl
            | _ => rfl
          | _ => rfl
  | Expr e pos =>
    by_cases h1 : ∃ m j p, e = .Constant (.str m) j p
    · obtain ⟨m, j, p, rfl⟩ := h1
      exact st_nx ps_doc
    by_cases h2 : ∃ x px m ap a cp, e = .Call (.Attribute (.Name x px) m ap) [a] [] cp
    · obtain ⟨x, px, m, ap, a, cp, rfl⟩ := h2
      exact ps_share (C := C) (xs := esc (lnd C) n a) (st_app ih G x m px ap cp pos a)
    refine (ps_share (C := C) (xs := esc (lnd C) n e) (st_expr ih G e pos)).monoS fun D σ H h => ?_
    have z : evS (n + 1) C (.Expr e pos) = fun ρ => guardM (!isComp e) (bnd (evE n C e (share C (esc (lnd C) n e) ρ)) fun _ => ret (Fl.nx, share C (esc (lnd C) n e) ρ)) := by
      funext ρ
      cases e with
      | Constant c j p => cases c <;> first | rfl | exact absurd ⟨_, _, _, rfl⟩ h1
      | Call f args kws p2 =>
        cases f with
        | Attribute o m ap =>
          cases o with
          | Name x px =>
            cases args with
            | nil => rfl
            | cons a r =>
              cases r with
              | cons _ _ => rfl
              | nil =>
                cases kws with
                | nil => exact absurd ⟨_, _, _, _, _, _, rfl⟩ h2
                | cons _ _ => rfl
          | _ => rfl
        | _ => rfl
      | _ => rfl
    rw [z] at h
    exact h
  | Assign tgs e pos =>
    cases tgs with
    | nil => exact PS.void (tSD.stuck fun _ _ => rfl)
    | cons tg r =>
      cases r with
      | cons _ _ => exact PS.void (tSD.stuck fun _ _ => by
          cases tg with
          | Subscript a i p => cases a <;> rfl
          | _ => rfl)
      | nil =>
        by_cases h1 : ∃ x px, tg = .Name x px
        · obtain ⟨x, px, rfl⟩ := h1
          by_cases hm : C.mkst = some x
          · by_cases hl : ∃ es p2, e = .List es p2
            · obtain ⟨es, p2, rfl⟩ := hl
              refine (ps_share (C := C) (xs := esc (lnd C) n (.List es p2)) (st_mk ih G x px es p2 pos)).monoS fun D σ H h => ?_
              have z : evS (n + 1) C (.Assign [.Name x px] (.List es p2) pos) = fun ρ0 => (fun ρ => guardM (nmOk C x) (fun st => (match st with
            | [] => (bnd (evEs n C es ρ) fun ds => guardM (fits ds.length && !ds.isEmpty) fun _ => (match asgName C x .stt ρ with
              | some ρ' => R.ok (Fl.nx, ρ') ds
              | none => R.stuck)) []
            | _ => R.stuck))) (share C (esc (lnd C) n (.List es p2)) ρ0) := by
                funext ρ
                show guardM (nmOk C x) (if C.mkst = some x then _ else _) = _
                rw [if_pos hm]
                all_goals rfl
              rw [z] at h
              exact h
            · refine PS.void (tSD.stuck fun ρ st => ?_)
              show guardM (nmOk C x) (if C.mkst = some x then _ else _) st = _
              rw [if_pos hm]
              unfold guardM
              split
              · cases e <;> first | rfl | exact absurd ⟨_, _, rfl⟩ hl
              · rfl
          · refine (ps_share (C := C) (xs := esc (lnd C) n e) (st_name ihe G x px e pos hm)).monoS fun D σ H h => ?_
            have z : evS (n + 1) C (.Assign [.Name x px] e pos) = fun ρ0 => (fun ρ => guardM (nmOk C x) (bnd (evV n C e ρ) fun sv => bnd (optM (asgName C x sv ρ)) fun ρ' => ret (Fl.nx, ρ'))) (share C (esc (lnd C) n e) ρ0) := by
              funext ρ
              show guardM (nmOk C x) (if C.mkst = some x then _ else _) = _
              rw [if_neg hm]
            rw [z] at h
            exact h
        by_cases h2 : ∃ x px i psb, tg = .Subscript (.Name x px) i psb
        · obtain ⟨x, px, i, psb, rfl⟩ := h2
          exact ps_share (C := C) (xs := esc (lnd C) n e ++ esc (lnd C) n i) (st_sub ih G x px i psb e pos)
        by_cases h3 : ∃ es j pt, tg = .Tuple es j pt
        · obtain ⟨es, j, pt, rfl⟩ := h3
          by_cases h4 : ∃ vs j2 p2, e = .Tuple vs j2 p2
          · obtain ⟨vs, j2, p2, rfl⟩ := h4
            by_cases hf : (decide (es.length ≠ 1) && vs.all (foldedForSure 8)) = true
            · refine (st_tup ih G es j pt (.Tuple vs j2 p2) pos (swap_none (Bool.and_eq_true_iff.mp hf).2)).monoS fun D σ H h => ?_
              have z : evS (n + 1) C (.Assign [.Tuple es j pt] (.Tuple vs j2 p2) pos) = fun ρ => bnd (evE n C (.Tuple vs j2 p2) ρ) fun d => bnd (optM (asg n C (.Tuple es j pt) d ρ)) fun ρ' => ret (Fl.nx, ρ') := by
                funext ρ
                show (if _ then _ else _) = _
                rw [if_pos hf]
              rw [z] at h
              exact h
            · refine (ps_share (C := C) (xs := escs (lnd C) n vs) (st_par ih G es vs j j2 pt p2 pos)).monoS fun D σ H h => ?_
              have z : evS (n + 1) C (.Assign [.Tuple es j pt] (.Tuple vs j2 p2) pos) = fun ρ0 => (fun ρ => guardM (parOk C es vs) (bnd (optM (parNames C es)) fun is => bnd (evPar n C vs ρ) fun svs => ret (Fl.nx, setAll ρ is svs))) (share C (escs (lnd C) n vs) ρ0) := by
                funext ρ
                show (if _ then _ else _) = _
                rw [if_neg hf]
              rw [z] at h
              exact h
          · have h4' : ∀ vs j p, e ≠ .Tuple vs j p := fun vs j p z => h4 ⟨_, _, _, z⟩
            have hw : swappedStores [.Tuple es j pt] e X.env = pure none := by cases e <;> first | rfl | exact absurd rfl (h4' _ _ _)
            refine (ps_share (C := C) (xs := esc (lnd C) n e) (st_tup ih G es j pt e pos hw)).monoS fun D σ H h => ?_
            have z : evS (n + 1) C (.Assign [.Tuple es j pt] e pos) = fun ρ => bnd (evE n C e (share C (esc (lnd C) n e) ρ)) fun d => bnd (optM (asg n C (.Tuple es j pt) d (share C (esc (lnd C) n e) ρ))) fun ρ' => ret (Fl.nx, ρ') := by
              funext ρ
              cases e <;> first | rfl | exact absurd rfl (h4' _ _ _)
            rw [z] at h
            exact h
        refine PS.void (tSD.stuck fun ρ st => ?_)
        cases tg with
        | Name x px => exact absurd ⟨_, _, rfl⟩ h1
        | Tuple es j pt => exact absurd ⟨_, _, _, rfl⟩ h3
        | Subscript a i psb => cases a <;> first | rfl | exact absurd ⟨_, _, _, _, rfl⟩ h2
        | _ => rfl
  | _ => exact PS.void (tSD.stuck fun _ _ => rfl)
theorem s_Ss (ihs : SndS T n) (G : GoodS T W X C k) (s : List Stmt) : PSs X s (tSD (gX X T) W (evSs (n + 1) C s)) := by
  cases s with
  | nil => exact st_nil
  | cons s r => exact st_cons ihs G s r
theorem PSs.void {st : List Stmt} {t : TS} (h : ∀ D σ H, ¬ t D σ H) : PSs X st t := ⟨fun _ _ σ H D _ q => (h D σ H q).elim⟩
end
theorem sndS_all {T : List (Addr × Str)} : ∀ n, (∀ m, m < n → Snd T m) → SndS T n
  | 0, _ => ⟨fun G s => PS.void (tSD.stuck fun _ _ => rfl), fun G s => PSs.void (tSD.stuck fun _ _ => rfl)⟩
  | n + 1, h => ⟨fun G s => s_S (fun m hm => h m (by omega)) (sndS_all n fun m hm => h m (by omega)) G s, fun G s => s_Ss (sndS_all n fun m hm => h m (by omega)) G s⟩
end DI
end
section
set_option linter.all false
set_option autoImplicit false
set_option maxRecDepth 100000
set_option maxHeartbeats 2000000
/-! D24: everything is sound at every fuel; defs by their bodies. -/
namespace DI
open PySem PySem.Spec L2
open PyProof.Rows hiding St
theorem snd_all {T : List (Addr × Str)} : ∀ n, Snd T n
  | 0 => snd_zero
  | n + 1 => snd_step (snd_all n) (told_ok (snd_all n))
theorem sndS {T : List (Addr × Str)} (n : Nat) : SndS T n := sndS_all n fun m _ => snd_all m
/-- the parameters' slots -/
def svs : List Bool → List D → List (Option SV)
  | _, [] => []
  | true :: fs, d :: ds => some (.ln d) :: svs fs ds
  | false :: fs, d :: ds => some (.sh d) :: svs fs ds
  | [], d :: ds => some (.sh d) :: svs [] ds
theorem svs_len : ∀ (fs : List Bool) (ds : List D), (svs fs ds).length = ds.length
  | [], [] => rfl
  | true :: _, [] => rfl
  | false :: _, [] => rfl
  | true :: fs, d :: ds => by simp [svs, svs_len fs ds]
  | false :: fs, d :: ds => by simp [svs, svs_len fs ds]
  | [], d :: ds => by simp [svs, svs_len [] ds]
/-- the slots at the start -/
def startE (N : List Str) (st : Bool) (le : List Bool) (ds : List D) : DI.Env := ((if st = true then [some SV.stt] else []) ++ svs le ds) ++ List.replicate (N.length - ((if st = true then 1 else 0) + ds.length)) none
def outM (r : R (Fl × DI.Env)) : R D := match r with
  | .ok (.rt d, _) s => .ok d s
  | .ok (.nx, _) s => .ok .none s
  | .err e s => .err e s
  | _ => .stuck
/-- what a def does -/
def runB (n : Nat) (C : Ctx) (body : List Stmt) (st : Bool) (le : List Bool) (ds : List D) : M D := fun s => outM (evSs n C body (startE C.N st le ds) s)
def SV.arg : SV → Bool
  | .sh _ => true
  | .ln _ => true
  | _ => false
theorem rp_slots {K : PySem.W.Frag} {Hid : Addr → Prop} {p : Option Addr} {H : Hp} : ∀ {le : List Bool} {ds : List D} {vs : List V} (pre : Nat), LAll K Hid p H le vs ds → ∀ (i : Nat) (sv : SV), (svs le ds ++ List.replicate pre none)[i]? = some (some sv) → ∃ v, sv.arg = true ∧ ((vs.map some) ++ List.replicate pre none)[i]? = some (some v) ∧ SRep K Hid p H v sv
  | le, [], vs, pre, h, i, sv, e => by
    have z : svs le [] = [] := by cases le with | nil => rfl | cons b _ => cases b <;> rfl
    rw [z, List.nil_append, List.getElem?_replicate] at e
    split at e <;> cases e
  | true :: fs, d :: ds, [], pre, h, i, sv, e => h.elim
  | false :: fs, d :: ds, [], pre, h, i, sv, e => h.elim
  | [], d :: ds, [], pre, h, i, sv, e => h.elim
  | true :: fs, d :: ds, v :: vs, pre, h, i, sv, e => by
    cases i with
    | zero => cases e; exact ⟨v, rfl, rfl, h.1⟩
    | succ i => exact rp_slots pre h.2 i sv e
  | false :: fs, d :: ds, v :: vs, pre, h, i, sv, e => by
    cases i with
    | zero => cases e; exact ⟨v, rfl, rfl, h.1⟩
    | succ i => exact rp_slots pre h.2 i sv e
  | [], d :: ds, v :: vs, pre, h, i, sv, e => by
    cases i with
    | zero => cases e; exact ⟨v, rfl, rfl, h.1⟩
    | succ i => exact rp_slots (le := []) pre h.2 i sv e
section
variable {T : List (Addr × Str)} {P : Program} {w : World} {K : PySem.W.Frag} {mg : Str → Option Value} {base : Heap}
/-- the errors that a call wishes -/
def wOf (K : PySem.W.Frag) (E : XK) : EW := fun e H => E (.ref (He.ga K e.cls)) none H
theorem post_out {g : Gd} {E : XK} {B : Bs} {wd : Wd} {H : Hp} {r : R (Fl × DI.Env)} {Q : VK} (hg : g.K = K)
    (h : match outM r with
      | .ok d st' => ∀ v H', Left g B H' st' → Rp K (hide B.Hid H') v d → Q v H'
      | .err e st' => ∀ H', Left g B H' st' → E (.ref (He.ga K e.cls)) none H'
      | .stuck => False) : PostS g (wOf K E) B wd H r { nx := fun _ H' => Q .non H', rt := Q } := by
  subst hg
  match r, h with
  | .ok (.nx, ρ) st', h => exact fun w2 H2 e b s E2 => h .non H2 (b.left E2) Rp.non
  | .ok (.rt d, ρ) st', h => exact h
  | .err e st', h => exact h
theorem fn_sound {x : Str} {params : Arguments} {body : List Stmt} {sc : Scope} {f : Addr} {fd : FuncData} {N ps : List Str} {k kc n : Nat} {C : Ctx} {st : Bool} {le : List Bool} {ar : Nat} (F : FunD K x x params body sc [] [] f fd) (S : FnScope N ps sc) (hN : C.N = N) (hl : ps.length = (if st = true then ar + 1 else ar))
    (G : ∀ (cdv : Value) (A : Around) (outer : List PySem.Env) (s : Shared) (H : Hp) (E : XK), PySem.W.codeIn K cdv x = true → fd.code = cdv → (A.deeper (envOfC x sc s.heap.objs.size f cdv)).guards = some [] → Room k (A.deeper (envOfC x sc s.heap.objs.size f cdv)) →
      GoodS T (wOf K E) (cxOf (L2N.CX P w) P w K mg base N x sc f cdv A outer s H E) C kc) :
    FnOkG P w K mg base (L2N.CX P w) (k + 1) f fd ps (spF K T ⟨ar, st, le, runB n C body st le⟩) := by
  have hpl : ps.length ≤ N.length := by have := congrArg List.length S.pre; rw [List.length_take] at this; omega
  cases st with
  | false =>
    have hl : ps.length = ar := hl
    show FnOkG P w K mg base (L2N.CX P w) (k + 1) f fd ps (spP K T ar le (runB n C body false le))
    refine fn_ofG F S (fun vs H Q E h => by rw [h.1, hl]) fun cdv A outer s H vs Q E hcd hco hgd hr h => ?_
    obtain ⟨hv, Hid, ds, hdom, hT, hrp, hsem⟩ := h
    refine ⟨_, (sndS (T := T) n).Ss (G cdv A outer s H E hcd hco hgd hr) body, ⟨Hid, none, H⟩, ⟨Hid, none, L2.start N vs, startE C.N false le ds, H⟩, [], rfl, ⟨fun _ h => h, hdom, .inl rfl, Evo.rfl', fun i ds' a h1 h2 => ?_, fun a z => (by cases z), fun _ _ _ _ _ _ h => h⟩, ⟨?_, fun i sv h => ?_, fun i j ds1 ds2 a h1 h2 h3 h4 => ?_, rfl, hT, hdom, fun _ h => h⟩, ?_⟩
    · have h1 : (startE C.N false le ds)[i]? = _ := h1
      unfold startE at h1
      obtain ⟨v, e, _⟩ := rp_slots _ hrp i _ (by simpa using h1)
      cases e
    · show (startE C.N false le ds).length = (L2.start N vs).length
      have := LAll.len hrp
      unfold startE L2.start
      simp [svs_len]
      rw [hN]
      omega
    · have h : (startE C.N false le ds)[i]? = _ := h
      unfold startE at h
      obtain ⟨v, e, h2, h3⟩ := rp_slots _ hrp i sv (by simpa using h)
      refine ⟨v, ?_, h3⟩
      show (L2.start N vs)[i]? = _
      unfold L2.start
      rw [LAll.len hrp, ← hN]
      exact h2
    · have h1 : (startE C.N false le ds)[i]? = _ := h1
      unfold startE at h1
      obtain ⟨v, e, _⟩ := rp_slots _ hrp i _ (by simpa using h1)
      cases e
    · refine post_out rfl ?_
      have hsem : match outM (evSs n C body (startE C.N false le ds) []) with
        | .ok d _ => ∀ v H', Evo none H H' → LamX.Tabs T H' → Rp K (hide Hid H') v d → Q v H'
        | .err e _ => ∀ H', Evo none H H' → LamX.Tabs T H' → E (.ref (He.ga K e.cls)) none H'
        | .stuck => False := hsem
      show match outM (evSs n C body (startE C.N false le ds) []) with
        | .ok d st' => _
        | .err e st' => _
        | .stuck => False
      split at hsem
      · rename_i d st' hr
        exact fun v H' l rv => hsem v H' l.1 l.2.1 rv
      · rename_i e st' hr
        exact fun H' l => hsem H' l.1 l.2.1
      · exact hsem.elim
  | true =>
    have hl : ps.length = ar + 1 := hl
    show FnOkG P w K mg base (L2N.CX P w) (k + 1) f fd ps (spS K T ar le (runB n C body true le))
    refine fn_ofG F S (fun vs H Q E h => by rw [h.1, hl]) fun cdv A outer s H vs Q E hcd hco hgd hr h => ?_
    obtain ⟨hv, Hid, a, us, ds, st, rfl, hdom, hT, hst, hrp, hsem⟩ := h
    have hHa : Hid a := hst.1
    have slot0 : ∀ (i : Nat) (sv : SV), (startE C.N true le ds)[i]? = some (some sv) → (i = 0 ∧ sv = .stt) ∨ ∃ j v, i = j + 1 ∧ sv.arg = true ∧ (L2.start N (.ref a :: us))[i]? = some (some v) ∧ SRep K Hid (some a) H v sv := fun i sv h => by
      unfold startE at h
      cases i with
      | zero => simp at h; exact .inl ⟨rfl, h.symm⟩
      | succ i =>
        obtain ⟨v, e, h2, h3⟩ := rp_slots (C.N.length - (1 + ds.length)) hrp i sv (by simpa using h)
        refine .inr ⟨i, v, rfl, e, ?_, h3⟩
        unfold L2.start
        have e2 : N.length - (V.ref a :: us).length = C.N.length - (1 + ds.length) := by
          rw [List.length_cons, LAll.len hrp, hN]
          omega
        rw [e2]
        simpa using h2
    refine ⟨_, (sndS (T := T) n).Ss (G cdv A outer s H E hcd hco hgd hr) body, ⟨Hid, some a, H⟩, ⟨Hid, some a, L2.start N (.ref a :: us), startE C.N true le ds, H⟩, st, rfl, ⟨fun _ h => h, hdom, .inl rfl, Evo.rfl', fun i ds' b h1 h2 => ?_, fun b z => Option.some.inj z ▸ hHa, fun _ _ _ _ _ _ h => h⟩, ⟨?_, fun i sv h => ?_, fun i j ds1 ds2 b h1 h2 h3 h4 => ?_, hst, hT, hdom, fun _ h => h⟩, ?_⟩
    · rcases slot0 i _ h1 with ⟨_, e⟩ | ⟨_, _, _, e, _⟩ <;> cases e
    · show (startE C.N true le ds).length = (L2.start N (.ref a :: us)).length
      have := LAll.len hrp
      unfold startE L2.start
      simp [svs_len]
      rw [hN]
      simp at hv
      omega
    · rcases slot0 i sv h with ⟨rfl, rfl⟩ | ⟨j, v, rfl, _, h2, h3⟩
      · exact ⟨.ref a, rfl, a, rfl, rfl⟩
      · exact ⟨v, h2, h3⟩
    · rcases slot0 i _ h1 with ⟨_, e⟩ | ⟨_, _, _, e, _⟩ <;> cases e
    · refine post_out rfl ?_
      have hsem : match outM (evSs n C body (startE C.N true le ds) st) with
        | .ok d st' => ∀ v H', Evo (some a) H H' → LamX.Tabs T H' → StRep K Hid (some a) H' st' → Rp K (hide Hid H') v d → Q v H'
        | .err e st' => ∀ H', Evo (some a) H H' → LamX.Tabs T H' → StRep K Hid (some a) H' st' → E (.ref (He.ga K e.cls)) none H'
        | .stuck => False := hsem
      show match outM (evSs n C body (startE C.N true le ds) st) with
        | .ok d st' => _
        | .err e st' => _
        | .stuck => False
      split at hsem
      · rename_i d st' hr
        exact fun v H' l rv => hsem v H' l.1 l.2.1 (l.2.2 a rfl) rv
      · rename_i e st' hr
        exact fun H' l => hsem H' l.1 l.2.1 (l.2.2 a rfl)
      · exact hsem.elim
end
end DI
end
section
set_option linter.all false
set_option autoImplicit false
set_option maxRecDepth 100000
set_option maxHeartbeats 2000000
/-! D25: a law's end: tables of code objects, no guard around. -/
namespace DI
open PySem PySem.Spec L2
open PyProof.Rows hiding St
open LamX
theorem law_callG {P : Program} {w : World} {K : PySem.W.Frag} {mg mb : Str → Option Value} {CX : CXT} {k : Nat} {fa a : Addr} {cs : List (Addr × Addr)} {fd : FuncData} {x : Str} {sp : Sp} {s₁ : Shared} {vs : List Value} {ns : List Int}
    (KX : K.In s₁.heap) (hns : s₁.heap.Ns mainGlobals mg) (hb : s₁.heap.Ns builtinsNs mb) (hbb : ∀ x : Str, x ≠ "__name__" → mb x = bootBuiltins x) (hlim : s₁.heap.NoLimit) (hg : s₁.gens = #[])
    (hT : ∀ p ∈ cs, s₁.heap.get? p.2 = some { cls := .none, data := .fields #[] }) (nT : ∀ p ∈ cs, K.lookup p.2 = none) (C : ∀ p ∈ cs, PySem.W.CodeHd s₁.heap p.1 p.2)
    (hbm : ∃ (bm : Addr) (ob : Obj), mg "__builtins__" = some (.ref bm) ∧ bm ≠ builtinsNs ∧ s₁.heap.get? bm = some ob ∧ ob.cls = .type "module" ∧ ob.dict = some builtinsNs ∧ ob.data = .plain)
    (ha : s₁.heap.get? a = some { cls := .type "list", data := .seq vs.toArray }) (hi : IntsAre vs ns) (hl : ns.length ≤ sizeLine) (hr : Room k callerA) (nK : K.lookup a = none)
    (F : ∀ base : Heap, K.In base → base.Ns mainGlobals mg → (∀ p ∈ cs, TabB base mg p.1 p.2) → FnOkG P w K mg base CX k fa fd [x] sp) (hbind : ∀ (s : Shared) (u : Value), BindsTo s fd ⟨[u], []⟩ [(x, u)])
    (hsp : ∀ H : Hp, (∀ p ∈ cs, H p.2 = some (.tbl #[])) → Rd H a (.lst (ns.map V.int)) → sp [.ref a] H (fun v _ => v = .bl true) fun _ _ _ => False)
    (hCX : ∀ H e s', CX [] H s₁ (fun _ _ _ => False) e s' → False) :
    codeAny (model P w) callerA (.call (.ref fa) ⟨[.ref a], []⟩) (fun r s' => r = .ok (.ret (.bool true)) ∧ OldK s₁.heap s'.heap ∧ s'.os = s₁.os ∧ AllBare s'.gens) s₁ := by
  have rv := vals_ints hi
  have isT : ∀ b : Addr, b ∈ cs.map (·.2) → s₁.heap.get? b = some { cls := .none, data := .fields #[] } := fun b hb => by
    obtain ⟨p, hp, e⟩ := List.mem_map.mp hb
    rw [← e]
    exact hT p hp
  have aT : a ∉ cs.map (·.2) := fun z => by
    have q := isT a z
    rw [ha] at q
    have z' : Data.seq vs.toArray _ = Data.fields #[] := congrArg Obj.data (Option.some.inj q)
    cases z'
  have memT : ∀ p ∈ cs, p.2 ∈ cs.map (·.2) := fun p hp => List.mem_map.mpr ⟨p, hp, rfl⟩
  -- what is tracked: the script (never changed), the tables
  obtain ⟨H, hHa, hHt, hHn⟩ : ∃ H : Hp, H a = some (.frz { cls := .type "list", data := .seq vs.toArray } (.lst (ns.map V.int))) ∧ (∀ b ∈ cs.map (·.2), H b = some (.tbl #[])) ∧ ∀ b, b ≠ a → b ∉ cs.map (·.2) → H b = none :=
    ⟨fun b => if b = a then some (.frz { cls := .type "list", data := .seq vs.toArray } (.lst (ns.map V.int))) else if b ∈ cs.map (·.2) then some (.tbl #[]) else none, if_pos rfl,
      fun b hb => (if_neg (fun z : b = a => aT (z ▸ hb))).trans (if_pos hb), fun b h1 h2 => (if_neg h1).trans (if_neg h2)⟩
  have only : ∀ b, H b ≠ none → b = a ∨ b ∈ cs.map (·.2) := fun b hb => by
    by_cases e1 : b = a
    · exact .inl e1
    · by_cases e2 : b ∈ cs.map (·.2)
      · exact .inr e2
      · exact absurd (hHn b e1 e2) hb
  have hok : HOk P w H s₁.heap := fun b u z => by
    rcases only b (by rw [z]; simp) with rfl | e
    · rw [hHa] at z
      cases z
      exact ⟨ha, by rw [List.length_map]; exact hl, vs, _, rv, ha⟩
    · rw [hHt b e] at z
      cases z
      exact isT b e
  have noD : ∀ {b : Addr} {o : Obj}, s₁.heap.get? b = some o → (∀ vs n, o.data ≠ .seq vs n) → o.data ≠ .fields #[] → H b = none := fun {b o} e h1 h2 => by
    refine Classical.byContradiction fun hn => ?_
    rcases only b hn with rfl | e'
    · rw [ha] at e
      cases e
      exact h1 _ _ rfl
    · rw [isT b e'] at e
      cases e
      exact h2 rfl
  have base_of : ∀ {b : Addr} {o : Obj}, s₁.heap.get? b = some o → H b = none → (hidT s₁.heap H).get? b = some o := fun e n => hidT_get e n
  have nsK : ∀ {b : Addr} {m : Str → Option Value}, s₁.heap.Ns b m → (hidT s₁.heap H).Ns b m := fun {b m} ⟨o, es, ep, e, d, r⟩ =>
    ⟨o, es, ep, base_of e (noD e (fun vs n z => by rw [d] at z; cases z) fun z => by rw [d] at z; cases z), d, r⟩
  have hKb : K.In (hidT s₁.heap H) := fun b o e => base_of (KX b o e) (Classical.byContradiction fun hn => by
    rcases only b hn with rfl | e'
    · rw [nK] at e
      cases e
    · obtain ⟨p, hp, ep⟩ := List.mem_map.mp e'
      rw [← ep, nT p hp] at e
      cases e)
  have hM : L2.Mod K mg (hidT s₁.heap H) := ⟨hKb, nsK hns, ⟨mb, nsK hb, hbb⟩, let ⟨mc, h1, h2⟩ := hlim; ⟨mc, nsK h1, h2⟩⟩
  have TB : ∀ p ∈ cs, TabB (hidT s₁.heap H) mg p.1 p.2 := fun p hp => by
    have hTp := hT p hp
    refine ⟨?_, ?_, fun z => ?_⟩
    · obtain ⟨o, us, file, tf, flags, tg, inF, text, tt, e1, r1, r2, r3, r4, r5, r6, r7, r8, hne⟩ := C p hp
      exact ⟨o, us, file, tf, flags, tg, inF, text, tt, base_of e1 (noD e1 (fun vs n z => by rw [r2] at z; cases z) fun z => by rw [r2] at z; cases z; simp at r3), r1, r2, r3, r4, r5, r6, r7, r8, hne⟩
    · obtain ⟨bm, ob, b1, b2, b3, b4, b5, b6⟩ := hbm
      have nG : bm ≠ mainGlobals := fun q => by
        obtain ⟨o, es, ep, e, hd, _⟩ := hns
        rw [q, e] at b3
        cases b3
        rw [hd] at b6
        cases b6
      have nP : bm ≠ p.2 := fun q => by
        rw [q, hTp] at b3
        cases b3
        cases b6
      exact ⟨bm, ob, b1, b2, nG, nP, base_of b3 (noD b3 (fun vs n z => by rw [b6] at z; cases z) fun z => by rw [b6] at z; cases z), b4, b5, b6⟩
    · obtain ⟨o, es, ep, e, hd, _⟩ := hns
      rw [z, hTp] at e
      cases e
      cases hd
  have e0 : Env0 P w K mg (hidT s₁.heap H) callerA [] s₁ H := ⟨rfl, hM, fun b o e => of_hidT e, Nat.le_of_eq (hidT_size _ _), trivial, fun b hb => absurd (show b ∈ ([] : List Addr) from hb) (by simp), hok, .of_eq hg⟩
  refine codeAny_mono ((F _ hKb (nsK hns) TB).run callerA [] s₁ H ⟨[.ref a], []⟩ [.ref a] [.ref a] _ _ rfl hr e0 (hbind s₁ (.ref a)) (.cons rfl .nil) (hsp H (fun p hp => hHt _ (memT p hp)) (.inr ⟨_, hHa⟩))) fun r s' h => ?_
  match r, h with
  | .error e, h => exact (hCX H e s' h).elim
  | .ok (.ret u), h =>
    obtain ⟨v, H', os, bare, un, hok', r', q⟩ := h
    have q' : v = .bl true := q
    subst q'
    obtain rfl : u = Value.bool true := r'
    have key : ∀ b o, b ∉ cs.map (·.2) → s₁.heap.get? b = some o → s'.heap.get? b = some o := fun b o nb e => by
      by_cases eb : b = a
      · subst eb
        obtain ⟨e1, _⟩ := hok b _ hHa
        obtain ⟨e2, _⟩ := hok' b _ (un.frzs b _ _ hHa)
        rw [e] at e1; cases e1
        exact e2
      · exact un.keep b o e (hHn b eb nb) (by intro z; exact absurd (show b ∈ ([] : List Addr) from z) (by simp)) (by simp)
    have grown : ∀ p ∈ cs, ∃ more : Array Value, s'.heap.get? p.2 = some { cls := .none, data := .fields more } := fun p hp => by
      obtain ⟨more, z⟩ := un.tbls p.2 #[] (hHt _ (memT p hp))
      exact ⟨_, hok' p.2 _ z⟩
    refine ⟨rfl, ⟨fun b o e => ?_, fun b o e => ?_⟩, os, bare⟩
    · by_cases hb : b ∈ cs.map (·.2)
      · obtain ⟨p, hp, ep⟩ := List.mem_map.mp hb
        obtain ⟨more, hm⟩ := grown p hp
        rw [← ep] at e ⊢
        rw [hT p hp] at e
        cases e
        exact .inr (.inl ⟨((C p hp).tab (hT p hp)).isCodeTable, rfl, #[], more, rfl, by rw [Array.empty_append]; exact hm⟩)
      · exact .inl (key b o hb e)
    · by_cases hb : b ∈ cs.map (·.2)
      · obtain ⟨p, hp, ep⟩ := List.mem_map.mp hb
        obtain ⟨more, hm⟩ := grown p hp
        rw [← ep]
        exact ⟨_, hm⟩
      · exact ⟨o, key b o hb e⟩
/-- the law's promise at the head's heap -/
def LawAtG (l : PySem.W.OpenLaw) (w : World) (K : PySem.W.Frag) (CX : CXT) (k n : Nat) (x : Str) (mg : Str → Option Value) (fa : Addr) (h : Heap) : Prop :=
  ∃ (fd : FuncData) (cs : List (Addr × Addr)) (sp : Sp), (∀ b o, K.lookup b = some o → o.cls ≠ .type "list") ∧ (∀ p ∈ cs, h.get? p.2 = some { cls := .none, data := .fields #[] }) ∧ (∀ p ∈ cs, K.lookup p.2 = none) ∧ (∀ p ∈ cs, PySem.W.CodeHd h p.1 p.2) ∧ (∀ (s : Shared) (u : Value), BindsTo s fd ⟨[u], []⟩ [(x, u)]) ∧
    (∀ (H : Hp) (a : Addr) (ns : List Int), ns.length ≤ n → (∀ z ∈ ns, Builtin.Int.intBits z ≤ 1048576) → (∀ p ∈ cs, H p.2 = some (.tbl #[])) → Rd H a (.lst (ns.map V.int)) → sp [.ref a] H (fun v _ => v = .bl true) fun _ _ _ => False) ∧
    ∀ base : Heap, K.In base → base.Ns mainGlobals mg → (∀ p ∈ cs, TabB base mg p.1 p.2) → FnOkG l.prog w K mg base CX k fa fd [x] sp
theorem walk_G {l : PySem.W.OpenLaw} {n k : Nat} {q : Program} {loose : List Str} {XP : (Str → Option Value) → Heap → Prop} {YP : World → Heap → Prop} {d : DefRec} {CX : World → CXT} {x : Str}
    (hn : l.most = some n) (hn2 : n ≤ sizeLine) (hdf : d.params.defaults = []) (hr : Room k callerA)
    (F : ∀ (w : World) (mg : Str → Option Value) (fa : Addr) (h : Heap), YP w h → h.Ns mainGlobals mg → mg d.name = some (.ref fa) → ∃ K : PySem.W.Frag, K.In h ∧ LawAtG l w K (CX w) k n x mg fa h)
    (hCX : ∀ (w : World) (H : Hp) (s : Shared) (e : Value) (s' : Shared), CX w [] H s (fun _ _ _ => False) e s' → False) :
    PySem.W.WalkO q loose XP YP l.row.toRowW d [] (fun f vs => PySem.call f vs) := by
  refine Att.attach_callB hn hdf fun w s₀ s₁ mg mb fa o pm cd doc a vs ns G Y ho hd hcd hmg hobj hints hlen hbits hg => ?_
  obtain ⟨K, KX, fd, cs, sp, hno, hT, nT, C, hb, hsp, hF⟩ := F w mg fa _ Y G.T.g hmg
  have nK : K.lookup a = none := by
    cases z : K.lookup a with
    | none => rfl
    | some o =>
      have e := KX a o z
      rw [hobj] at e
      cases e
      exact absurd rfl (hno a _ z)
  exact law_callG KX G.T.g G.T.b G.T.builtins G.T.nolimit hg hT nT C G.T.bmain hobj hints (Nat.le_trans hlen hn2) hr nK hF hb (fun H hH hS => hsp H a ns hlen hbits hH hS) fun H e s' => hCX w H s₁ e s'
end DI
end
section
set_option linter.all false
set_option autoImplicit false
set_option maxRecDepth 100000
set_option maxHeartbeats 2000000
/-! D26: all defs of a row, one above another; the law. -/
namespace DI
open PySem PySem.Spec L2
open PyProof.Rows hiding St
open LamX
/-- a def of the row -/
structure FdT where
  name : Str
  ps : List Str
  N : List Str
  st : Bool
  lend : List Bool
  lam : Bool
  mkst : Option Str
  turns : Nat
  params : Arguments
  body : List Stmt
  sc : Scope
  /-- what it does, as a plain function -/
  sem : List D → M D
def FdT.ar (d : FdT) : Nat := d.ps.length - (if d.st = true then 1 else 0)
/-- the row: constants, classes of errors, fuel -/
structure Wl where
  con : Str → Option D
  exc : List Str
  fuel : Nat
def ctxOf (W : Wl) (tab : List (Str × FnI)) (d : FdT) : Ctx := ⟨d.N, d.sc, W.con, fun x => tab.lookup x, d.lam, d.mkst, W.exc, d.turns⟩
def fnTab : List FdT → List (Str × FnI)
  | [] => []
  | d :: r => (d.name, ⟨d.ar, d.st, d.lend, d.sem⟩) :: fnTab r
/-- the plain function is what the text does, wherever it says anything -/
def RefD (W : Wl) (d : FdT) (r : List FdT) : Prop := ∀ (ds : List D) (s : Stt), d.sem ds s = .stuck ∨ runB W.fuel (ctxOf W (fnTab r) d) d.body d.st d.lend ds s = d.sem ds s
def RefAll (W : Wl) : List FdT → Prop
  | [] => True
  | d :: r => RefD W d r ∧ RefAll W r
def lv : List FdT → Nat
  | [] => 0
  | d :: r => (if d.lam = true then lv r + 2 else lv r) + 1
def AllD (p : FdT → Prop) : List FdT → Prop
  | [] => True
  | d :: r => p d ∧ AllD p r
section
variable {P : Program} {w : World} {K : PySem.W.Frag} {mg : Str → Option Value} {base : Heap} {T : List (Addr × Str)} {W : Wl}
def lamQ (x : Str) : Str := x ++ ".<locals>." ++ "<lambda>"
/-- a def as it stands -/
structure Fits (K : PySem.W.Frag) (mg : Str → Option Value) (base : Heap) (T : List (Addr × Str)) (d : FdT) : Prop where
  S : FnScope d.N d.ps d.sc
  hl : d.ps.length = (if d.st = true then d.ar + 1 else d.ar)
  fn : ∃ fd, FunD K d.name d.name d.params d.body d.sc [] [] (He.ga K d.name) fd ∧ L2.Binds K fd d.ps []
  glo : mg d.name = some (.ref (He.ga K d.name))
  home : d.lam = true → TabB base mg (He.cT K (d.name, none)).1 (He.cT K (d.name, none)).2 ∧ ((He.cT K (d.name, none)).2, lamQ d.name) ∈ T ∧ ∀ p ∈ T, p.1 = (He.cT K (d.name, none)).2 → p.2 = lamQ d.name
/-- what holds of the row as a whole -/
structure Whole (K : PySem.W.Frag) (mg : Str → Option Value) (W : Wl) : Prop where
  con : ∀ x d, W.con x = some d → ∃ v u, mg x = some u ∧ RelV v u ∧ ∀ H, Rp K H v d
  bi : ∀ x ∈ biNames, mg x = none
  exc : ∀ c ∈ W.exc, mg c = some (.ref (He.ga K c)) ∧ PySem.W.excIn K (He.ga K c) He.veBase "ValueError.__new__" = true ∧ PySem.W.keepIn K (.ref (He.ga K c)) = true ∧ PySem.W.subIn K (.ref (He.ga K c)) (.type "BaseException") = some true ∧ PySem.W.typeIn K (.ref (He.ga K c)) = some (.type "type")
  told : ToldFn K mg (He.ga K)
def FnG' (P : Program) (w : World) (K : PySem.W.Frag) (mg : Str → Option Value) (base : Heap) (T : List (Addr × Str)) (k : Nat) (f : Str) (fi : FnI) : Prop := ∃ (a : Addr) (fd : FuncData) (ps : List Str), FnOkG P w K mg base (L2N.CX P w) k a fd ps (spF K T fi) ∧ mg f = some (.ref a) ∧ PySem.W.keepIn K (.ref a) = true ∧ L2.Binds K fd ps []
theorem spF_ref {ar : Nat} {st : Bool} {le : List Bool} {sem sem0 : List D → M D} (h : ∀ ds s, sem ds s = .stuck ∨ sem0 ds s = sem ds s) : ∀ vs H Q E, spF K T ⟨ar, st, le, sem⟩ vs H Q E → spF K T ⟨ar, st, le, sem0⟩ vs H Q E := fun vs H Q E q => by
  cases st with
  | false =>
    have q : spP K T ar le sem vs H Q E := q
    show spP K T ar le sem0 vs H Q E
    obtain ⟨h1, Hid, ds, h2, h3, h4, h5⟩ := q
    refine ⟨h1, Hid, ds, h2, h3, h4, ?_⟩
    rcases h ds [] with z | z
    · rw [z] at h5; exact h5.elim
    · rw [z]; exact h5
  | true =>
    have q : spS K T ar le sem vs H Q E := q
    show spS K T ar le sem0 vs H Q E
    obtain ⟨h1, Hid, a, us, ds, s, h2, h3, h4, h5, h6, h7⟩ := q
    refine ⟨h1, Hid, a, us, ds, s, h2, h3, h4, h5, h6, ?_⟩
    rcases h ds s with z | z
    · rw [z] at h7; exact h7.elim
    · rw [z]; exact h7
theorem FnOkG.imp {P : Program} {w : World} {K : PySem.W.Frag} {mg : Str → Option Value} {base : Heap} {CX : CXT} {k : Nat} {f : Addr} {fd : FuncData} {ps : List Str} {sp sp' : Sp} (F : FnOkG P w K mg base CX k f fd ps sp) (h : ∀ vs H Q E, sp' vs H Q E → sp vs H Q E) : FnOkG P w K mg base CX k f fd ps sp' :=
  ⟨fun vs H Q E q => F.len vs H Q E (h _ _ _ _ q), fun A outer s H args us vs Q E hg hr he hb hv hs => F.run A outer s H args us vs Q E hg hr he hb hv (h _ _ _ _ hs)⟩
theorem head_ok (Wh : Whole K mg W) {d : FdT} {r : List FdT} (rf : RefD W d r) (Fd : Fits K mg base T d) (hr : ∀ f fi, (fnTab r).lookup f = some fi → FnG' P w K mg base T (lv r) f fi) :
    ∃ fd, FunD K d.name d.name d.params d.body d.sc [] [] (He.ga K d.name) fd ∧ FnOkG P w K mg base (L2N.CX P w) (lv (d :: r)) (He.ga K d.name) fd d.ps (spF K T ⟨d.ar, d.st, d.lend, d.sem⟩) ∧ L2.Binds K fd d.ps [] := by
  obtain ⟨fd, F, hb⟩ := Fd.fn
  refine ⟨fd, F, ?_, hb⟩
  show FnOkG P w K mg base (L2N.CX P w) ((if d.lam = true then lv r + 2 else lv r) + 1) _ _ _ _
  refine FnOkG.imp ?_ (spF_ref rf)
  refine fn_sound (kc := lv r) (C := ctxOf W (fnTab r) d) F Fd.S rfl Fd.hl fun cdv A outer s H E hcd hco hgd hroom => ?_
  have G : Good T (wOf K E) (cxOf (L2N.CX P w) P w K mg base d.N d.name d.sc (He.ga K d.name) cdv A outer s H E) (ctxOf W (fnTab r) d) (lv r) := by
    refine ⟨rfl, rfl, Fd.S.nd, rfl, ?_, hgd, hroom, fun hl => ?_, Wh.con, fun x _ _ hx => Wh.bi x hx, hr⟩
    · exact (L2N.takes_of (X := cxOf (L2N.CX P w) P w K mg base d.N d.name d.sc (He.ga K d.name) cdv A outer s H E) rfl rfl rfl rfl).imp fun c dd σ H ⟨e, h1, h2, h3⟩ => by
        subst h1 h2
        exact h3
    · obtain ⟨tb, hm, hu⟩ := Fd.home hl
      obtain ⟨c, rfl⟩ := He.codeIn_ref hcd
      obtain ⟨oc, od, dV, kV, doc, pm, an, cdv', ct, osl, _, lk, _, _, _⟩ := F.ex
      have hc : He.codeOf K (d.name, none) = c := He.codeOf_eq (p := (d.name, none)) lk hco
      have e1 : (He.cT K (d.name, none)).1 = c := hc
      exact ⟨⟨c, (He.cT K (d.name, none)).2, rfl, by rw [e1] at tb; exact tb, hm, hu⟩, Wh.told⟩
  refine ⟨G, fun x hx => ⟨locB_ok hx, .inl rfl⟩, passes_of (X := cxOf (L2N.CX P w) P w K mg base d.N d.name d.sc (He.ga K d.name) cdv A outer s H E) rfl, fun c hc m j p p2 pos hg hbad => ?_⟩
  obtain ⟨e1, e2, e3, e4, e5⟩ := Wh.exc c hc
  exact L2N.pmk_own PySem.F.excBase_ValueError e2 e1 e3 (raises_own e4 e5) hg (bad_no hbad).1
theorem tab_ok (Wh : Whole K mg W) : ∀ L : List FdT, RefAll W L → AllD (Fits K mg base T) L → ∀ f fi, (fnTab L).lookup f = some fi → FnG' P w K mg base T (lv L) f fi
  | [], _, _, f, fi, h => by cases h
  | d :: r, hR, hL, f, fi, h => by
    have ih := tab_ok Wh r hR.2 hL.2
    have up : lv r ≤ lv (d :: r) := by
      show lv r ≤ (if d.lam = true then lv r + 2 else lv r) + 1
      split <;> omega
    have h : (match f == d.name with | true => some _ | false => (fnTab r).lookup f) = some fi := h
    cases e : f == d.name with
    | false =>
      rw [e] at h
      obtain ⟨a, fd, ps, h1, h2, h3, h4⟩ := ih f fi h
      exact ⟨a, fd, ps, h1.mono up, h2, h3, h4⟩
    | true =>
      rw [e] at h
      cases h
      have e2 : f = d.name := by simpa using e
      subst e2
      obtain ⟨fd, F, h1, h2⟩ := head_ok (P := P) (w := w) Wh hR.1 hL.1 ih
      exact ⟨_, fd, d.ps, h1, hL.1.glo, F.kp, h2⟩
end
end DI
end
section
set_option linter.all false
set_option autoImplicit false
set_option maxRecDepth 100000
set_option maxHeartbeats 2000000
/-! D27: a row by its data. -/
namespace DI
open PySem PySem.Spec L2
open PyProof.Rows hiding St
open LamX
/-- classes without an __init__ of their own -/
def plainKinds : List Str := ["NotAllowed", "TooLarge", "Missing"]
structure RowD where
  law : FdT
  L : List FdT
  nums : List (Str × Int)
  fuel : Nat
  tp : Nat → Pos
  tparams : Arguments
  tsg : Scope
  tcsc : Scope
namespace RowD
variable (R : RowD)
def all : List FdT := R.law :: R.L
def W : Wl := ⟨fun x => (R.nums.lookup x).map PyData.int, plainKinds, R.fuel⟩
def toldD : He.DefD := ⟨("_law_told", none), "_law_told", "_law_told", R.tparams, toldBody R.tp R.tcsc, R.tsg, [], []⟩
def dOf (d : FdT) : He.DefD := ⟨(d.name, none), d.name, d.name, d.params, d.body, d.sc, [], []⟩
def fn : List He.DefD := R.toldD :: R.all.map dOf
def fa : List He.Fa := R.all.map (fun d => He.Fa.glo d.name) ++ (He.Fa.glo "HandError" :: He.Fa.glo "_law_told" :: toldKinds.map He.Fa.glo) ++ plainKinds.map He.Fa.exc ++ toldKinds.map (fun c => He.Fa.exm c "HandError" true) ++ biNames.map He.Fa.free ++ R.nums.map fun q => He.Fa.int q.1 q.2
def tf : List He.Defn := (R.all.filter fun d => d.lam).map fun d => (d.name, none)
def excB (K : PySem.W.Frag) (D : Addr) : Bool :=
  He.eqO (PySem.W.findIn K (.ref D) "__getattribute__") (some (some (.builtin "BaseException.__getattribute__"))) && (He.eqO (PySem.W.findIn K (.ref D) "__getattr__") (some none) && (decide (PySem.W.subIn K (.ref D) (.type "BaseException") = some true) && (PySem.W.hasDictIn K D && (He.eqO (PySem.W.findIn K (.ref D) "__class__") (some (some (.builtin "object.__class__"))) &&
    (He.eqO (PySem.W.specialIn K (.builtin "object.__class__") "__get__") (some (some (.builtin "getset_descriptor.__get__"))) && (decide (PySem.W.takesIn K (.builtin "object.__class__") = some true) && decide (PySem.W.mroIn K D (.type "object") = some true)))))))
def isListO (o : Obj) : Bool := match o.cls with
  | .type c => decide (c = "list")
  | _ => false
def ex (K : PySem.W.Frag) : Bool := (K.all fun q => !isListO q.2) && ((toldKinds.all fun c => excB K (He.ga K c)) && ((toldKinds.all fun c => toldKinds.all fun d => decide (PySem.W.kitOne K (.ref (He.ga K c)) (.ref (He.ga K d)) = some (decide (c = d)))) &&
  (R.tf.all fun p => R.tf.all fun p' => !decide ((He.cT K p).2 = (He.cT K p').2) || decide (p.1 = p'.1))))
abbrev hk (n : Nat) : PySem.W.Hook := He.hookX n R.fa R.fn [] R.tf R.ex
end RowD
theorem excB_ok {K : PySem.W.Frag} {D : Addr} (h : RowD.excB K D = true) : ExcC K D := by
  obtain ⟨h1, h⟩ := He.ba h
  obtain ⟨h2, h⟩ := He.ba h
  obtain ⟨h3, h⟩ := He.ba h
  obtain ⟨h4, h⟩ := He.ba h
  obtain ⟨h5, h⟩ := He.ba h
  obtain ⟨h6, h⟩ := He.ba h
  obtain ⟨h7, h8⟩ := He.ba h
  exact ⟨He.eqO_ok h1, He.eqO_ok h2, of_decide_eq_true h3, h4, He.eqO_ok h5, He.eqO_ok h6, of_decide_eq_true h7, of_decide_eq_true h8⟩
/-- what is plain to see of a def -/
structure Static (d : FdT) : Prop where
  S : FnScope d.N d.ps d.sc
  hl : d.ps.length = (if d.st = true then d.ar + 1 else d.ar)
  bind : ∀ (kV doc pm : Value) (an : Option Addr) (cdv ct : Value) (us : List Value), us.length = d.ps.length → bindArgs (PySem.W.fnOf d.name d.name d.params d.body d.sc .none kV doc pm an cdv ct) ⟨us, []⟩ = pure (d.ps.zip us)
theorem AllD.at_ {p : FdT → Prop} : ∀ {L : List FdT}, AllD p L → ∀ d ∈ L, p d
  | [], _, _, h => by cases h
  | _ :: _, h, _, hd => (List.mem_cons.mp hd).elim (fun e => e ▸ h.1) fun e => AllD.at_ h.2 _ e
theorem AllD.of {p : FdT → Prop} : ∀ {L : List FdT}, (∀ d ∈ L, p d) → AllD p L
  | [], _ => trivial
  | d :: r, h => ⟨h d List.mem_cons_self, AllD.of fun e he => h e (List.mem_cons_of_mem _ he)⟩
theorem rp_ints {K : PySem.W.Frag} {H : Hp} : ∀ ns : List Int, RpAll K H (ns.map V.int) (ns.map PyData.int)
  | [] => .nil
  | n :: ns => .cons (.int n) (rp_ints ns)
/-- the law as it is computed -/
def RowD.sem (Z : RowD) (ns : List Int) : R D := Z.law.sem [.list (ns.map PyData.int)] []
theorem row_law {l : PySem.W.OpenLaw} {w : World} {K : PySem.W.Frag} {h : Heap} {mg : Str → Option Value} {fa : Addr} {n : Nat} (R : RowD) (KX : K.In h) (G : h.Ns mainGlobals mg) (c : He.SaysX R.fa R.fn [] R.tf R.ex w h K) (hS : AllD Static R.all) (hR : RefAll R.W R.all) (hst : R.law.st = false) (hle : R.law.lend = []) (hps : R.law.ps = (["script"] : List Str))
    (TS : ToldSc R.tsg R.tcsc) (hline : (R.tp 29).line = (R.tp 45).line)
    (tbind : ∀ (kV doc pm : Value) (an : Option Addr) (cdv ct : Value) (us : List Value), us.length = (["call"] : List Str).length → bindArgs (PySem.W.fnOf "_law_told" "_law_told" R.tparams (toldBody R.tp R.tcsc) R.tsg .none kV doc pm an cdv ct) ⟨us, []⟩ = pure ((["call"] : List Str).zip us))
    (hfa : mg R.law.name = some (.ref fa)) (hpure : ∀ ns : List Int, ns.length ≤ n → (∀ z ∈ ns, Builtin.Int.intBits z ≤ 1048576) → ∃ st, R.sem ns = .ok (.bool true) st) :
    LawAtG l w K (L2N.CX l.prog w) (lv R.all) n "script" mg fa h := by
  have cd := c.t.d
  have glo : ∀ x, He.Fa.glo x ∈ R.fa → mg x = some (.ref (He.ga K x)) := fun x hx => He.glo_ok KX G (cd.facts hx)
  have mA : ∀ d ∈ R.all, He.Fa.glo d.name ∈ R.fa := fun d hd => by
    unfold RowD.fa
    simp only [List.mem_append, List.mem_map]
    exact .inl (.inl (.inl (.inl (.inl ⟨d, hd, rfl⟩))))
  have mC : ∀ x ∈ toldKinds, He.Fa.glo x ∈ R.fa := fun x hx => by
    unfold RowD.fa
    simp only [List.mem_append, List.mem_cons, List.mem_map]
    exact .inl (.inl (.inl (.inl (.inr (.inr (.inr ⟨x, hx, rfl⟩))))))
  have mE : He.Fa.glo "HandError" ∈ R.fa := by
    unfold RowD.fa
    simp only [List.mem_append, List.mem_cons]
    exact .inl (.inl (.inl (.inl (.inr (.inl True.intro)))))
  have mT : He.Fa.glo "_law_told" ∈ R.fa := by
    unfold RowD.fa
    simp only [List.mem_append, List.mem_cons]
    exact .inl (.inl (.inl (.inl (.inr (.inr (.inl True.intro))))))
  have mX : ∀ x ∈ plainKinds, He.Fa.exc x ∈ R.fa := fun x hx => by
    unfold RowD.fa
    simp only [List.mem_append, List.mem_map]
    exact .inl (.inl (.inl (.inr ⟨x, hx, rfl⟩)))
  have mM : ∀ x ∈ toldKinds, He.Fa.exm x "HandError" true ∈ R.fa := fun x hx => by
    unfold RowD.fa
    simp only [List.mem_append, List.mem_map]
    exact .inl (.inl (.inr ⟨x, hx, rfl⟩))
  have mF : ∀ x ∈ biNames, He.Fa.free x ∈ R.fa := fun x hx => by
    unfold RowD.fa
    simp only [List.mem_append, List.mem_map]
    exact .inl (.inr ⟨x, hx, rfl⟩)
  have mI : ∀ q ∈ R.nums, He.Fa.int q.1 q.2 ∈ R.fa := fun q hq => by
    unfold RowD.fa
    simp only [List.mem_append, List.mem_map]
    exact .inr ⟨q, hq, rfl⟩
  have bi : ∀ x ∈ biNames, mg x = none := fun x hx => He.free_ok KX G (cd.facts (mF x hx))
  obtain ⟨x1, x⟩ := He.ba c.more
  obtain ⟨x2, x⟩ := He.ba x
  obtain ⟨x3, x4⟩ := He.ba x
  have told : ToldFn K mg (He.ga K) := by
    refine ⟨⟨⟨_, glo _ mE, fun c' hc => He.exm_ok (cd.facts (mM c' hc))⟩, fun c' hc => glo _ (mC c' hc), fun c' hc => excB_ok (List.all_eq_true.mp x2 c' hc), fun c' hc d hd => of_decide_eq_true (List.all_eq_true.mp (List.all_eq_true.mp x3 c' hc) d hd)⟩, fun x hx => bi x (by
      simp only [List.mem_cons, List.not_mem_nil, or_false] at hx
      rcases hx with rfl | rfl | rfl | rfl <;> decide), ?_⟩
    obtain ⟨fd, F⟩ := cd.defs (d := R.toldD) List.mem_cons_self
    exact ⟨_, fd, R.tparams, R.tp, R.tsg, R.tcsc, TS, hline, glo _ mT, F.kp, F, FunD.bindsN F tbind⟩
  have Wh : Whole K mg R.W := by
    refine ⟨fun x d hx => ?_, bi, fun c' hc => ?_, told⟩
    · have hx : (R.nums.lookup x).map PyData.int = some d := hx
      simp only [Option.map_eq_some_iff] at hx
      obtain ⟨i, h1, rfl⟩ := hx
      obtain ⟨t, ht⟩ := He.int_ok KX G (cd.facts (mI (x, i) (PySem.mem_of_lookup h1)))
      exact ⟨.int i, .int i t, ht, ⟨t, rfl⟩, fun H => .int i⟩
    · obtain ⟨e1, e2, e3, e4⟩ := He.exc_ok (cd.facts (mX c' hc))
      have hc2 : c' ∈ plainKinds := hc
      exact ⟨glo _ (mC c' (by
        simp only [plainKinds, List.mem_cons, List.not_mem_nil, or_false] at hc2
        rcases hc2 with rfl | rfl | rfl <;> decide)), e1, e2, e3, e4⟩
  let T : List (Addr × Str) := R.tf.map fun p => ((He.cT K p).2, lamQ p.1)
  have fits : ∀ base : Heap, (∀ p ∈ R.tf.map (He.cT K), TabB base mg p.1 p.2) → ∀ d ∈ R.all, Fits K mg base T d := fun base hTB d hd => by
    have hs := AllD.at_ hS d hd
    obtain ⟨fd, F⟩ := cd.defs (d := RowD.dOf d) (List.mem_cons_of_mem _ (List.mem_map.mpr ⟨d, hd, rfl⟩))
    refine ⟨hs.S, hs.hl, ⟨fd, F, FunD.bindsN F hs.bind⟩, glo _ (mA d hd), fun hl => ?_⟩
    have hm : (d.name, none) ∈ R.tf := List.mem_map.mpr ⟨d, List.mem_filter.mpr ⟨hd, hl⟩, rfl⟩
    refine ⟨hTB _ (List.mem_map.mpr ⟨_, hm, rfl⟩), List.mem_map.mpr ⟨_, hm, rfl⟩, fun p hp e => ?_⟩
    obtain ⟨p', hp', rfl⟩ := List.mem_map.mp hp
    have z := List.all_eq_true.mp (List.all_eq_true.mp x4 p' hp') _ hm
    have e : (He.cT K p').2 = (He.cT K (d.name, none)).2 := e
    simp only [e, decide_true, Bool.not_true, Bool.false_or, decide_eq_true_eq] at z
    show lamQ p'.1 = lamQ d.name
    rw [z]
  have hfa' : fa = He.ga K R.law.name := by
    have z := hfa.symm.trans (glo _ (mA R.law List.mem_cons_self))
    cases z
    rfl
  subst hfa'
  have hlaw := AllD.at_ hS R.law List.mem_cons_self
  obtain ⟨fd0, F0⟩ := cd.defs (d := RowD.dOf R.law) (List.mem_cons_of_mem _ (List.mem_map.mpr ⟨R.law, List.mem_cons_self, rfl⟩))
  refine ⟨fd0, R.tf.map (He.cT K), spF K T ⟨R.law.ar, R.law.st, R.law.lend, R.law.sem⟩, fun b o hb => ?_, fun p hp => ?_, fun p hp => ?_, fun p hp => ?_, fun s u => ?_, fun H a ns h1 h2 h3 h4 => ?_, fun base hK _ hTB => ?_⟩
  · have z := List.all_eq_true.mp x1 (b, o) (He.lookup_mem hb)
    intro e
    have z : (!RowD.isListO o) = true := z
    unfold RowD.isListO at z
    rw [e] at z
    simp at z
  · obtain ⟨q, hq, rfl⟩ := List.mem_map.mp hp
    exact c.empty q hq
  · obtain ⟨q, hq, rfl⟩ := List.mem_map.mp hp
    exact c.out q hq
  · obtain ⟨q, hq, rfl⟩ := List.mem_map.mp hp
    exact PySem.W.codeHd_of_K KX (c.hd q hq)
  · have z := FunD.bindsA (ps := R.law.ps) F0 hlaw.bind s [u] (by rw [hps]; rfl)
    rw [hps] at z
    exact z
  · unfold spF
    rw [hst]
    rw [if_neg (by simp)]
    obtain ⟨st, hr⟩ := hpure ns h1 h2
    have har : R.law.ar = 1 := by
      have := hlaw.hl
      rw [hst, hps] at this
      simpa using this.symm
    refine ⟨by rw [har]; rfl, fun _ => False, [.list (ns.map PyData.int)], fun _ z => z.elim, fun p hp => ?_, (by rw [hle]; exact ⟨(show Rp K _ (.ref a) (.list (ns.map PyData.int)) from .lst (xs := ns.map V.int) (by
      rcases h4 with z | ⟨o, z⟩
      · exact .inl (in_hide z fun z => z)
      · exact .inr ⟨o, in_hide z fun z => z⟩) (rp_ints ns)), trivial⟩), ?_⟩
    · obtain ⟨q, hq, rfl⟩ := List.mem_map.mp hp
      exact TabS.nil (h3 _ (List.mem_map.mpr ⟨q, hq, rfl⟩))
    · have hr : R.law.sem [.list (ns.map PyData.int)] [] = .ok (.bool true) st := hr
      show (match R.law.sem [.list (ns.map PyData.int)] [] with
        | .ok d _ => _
        | .err e _ => _
        | .stuck => False)
      rw [hr]
      intro v H' _ _ rv
      cases rv
      rfl
  · have fs := fits base hTB
    obtain ⟨fd, F, h1, h2⟩ := head_ok (P := l.prog) (w := w) (r := R.L) Wh hR.1 (fs R.law List.mem_cons_self) (tab_ok (P := l.prog) (w := w) (base := base) (T := T) Wh R.L hR.2 (AllD.of fun d hd => fs d (List.mem_cons_of_mem _ hd)))
    have e : fd = fd0 := by
      obtain ⟨_, _, _, _, _, _, _, _, _, _, _, lk, _⟩ := F.ex
      obtain ⟨_, _, _, _, _, _, _, _, _, _, _, lk0, _⟩ := F0.ex
      have lk0 : K.lookup (He.ga K R.law.name) = _ := lk0
      rw [lk] at lk0
      injection lk0 with z
      injection z with _ _ z _
      injection z
    subst e
    rw [hps] at h1
    exact h1
end DI
end
section
set_option linter.all false
set_option autoImplicit false
set_option maxRecDepth 100000
/-! D28: statements with what comes behind them: the kernel then turns a def's body into plain operations. -/
namespace DI
open PySem L2
/-- what one statement leaves, told at once -/
def asgK {β : Type} (C : Ctx) (x : Str) (sv : SV) (ρ : Env) (k : Fl → Env → M β) : M β := match asgName C x sv ρ with
  | some ρ' => k .nx ρ'
  | none => stuckM
def asgT {β : Type} (n : Nat) (C : Ctx) (tg : Expr) (d : D) (ρ : Env) (k : Fl → Env → M β) : M β := match asg n C tg d ρ with
  | some ρ' => k .nx ρ'
  | none => stuckM
def endK {β : Type} (k : Fl → Env → M β) (q : Fl × Env) : M β := k q.1 q.2
def forTg : Stmt → Expr
  | .For tg _ _ _ _ => tg
  | _ => .Constant .none 0 ⟨0, 0, 0, 0⟩
def forIt : Stmt → Expr
  | .For _ it _ _ _ => it
  | _ => .Constant .none 0 ⟨0, 0, 0, 0⟩
def forBody : Stmt → List Stmt
  | .For _ _ b _ _ => b
  | _ => []
def ifA : Stmt → List Stmt
  | .If _ a _ _ => a
  | _ => []
def ifB : Stmt → List Stmt
  | .If _ _ b _ => b
  | _ => []
def retF (f : Fl) (ρ : Env) : M (Fl × Env) := ret (f, ρ)
/-- a turn of the loop -/
def turnF (n : Nat) (C : Ctx) (s : Stmt) : D → Env → M (Fl × Env) := fun x ρ => bnd (optM (asg n C (forTg s) x ρ)) fun ρ' => evSs n C (forBody s) ρ'
/-- several values, what comes behind them told at once -/
def parK {β : Type} (n : Nat) (C : Ctx) : List Expr → Env → (List SV → M β) → M β
  | [], _, k => k []
  | e :: es, ρ, k => guardM (!(e :: es).any isStar) (if (isFresh e && !es.any isFresh) = true then bnd (evF n C e ρ) fun d => bnd (evEs n C es ρ) fun ds => k (.ow d :: ds.map .sh)
      else bnd (evE n C e ρ) fun d => parK n C es ρ fun svs => k (.sh d :: svs))
mutual
def kS {β : Type} : Nat → Ctx → Stmt → Env → (Fl → Env → M β) → M β
  | 0, _, _, _, _ => stuckM
  | n + 1, C, s, ρ, k => match s with
    | .Return (some e) _ => let ρ := share C (esc (lnd C) n e) ρ
        bnd (evE n C e ρ) fun d => k (.rt d) ρ
    | .If t a b _ => let ρ := share C (escB (lnd C) n t) ρ
        bnd (evT n C t ρ) fun c => if c = true then kSs n C a ρ k else kSs n C b ρ k
    | .Assign [.Name x p] e q => if C.mkst = some x then (let ρ := share C (esc (lnd C) n e) ρ
          guardM (nmOk C x) (match e with
          | .List es _ => fun st => (match st with
            | [] => (bnd (evEs n C es ρ) fun ds => guardM (fits ds.length && !ds.isEmpty) fun _ => (match asgName C x .stt ρ with
              | some ρ' => k .nx ρ' ds
              | none => R.stuck)) []
            | _ => R.stuck)
          | _ => stuckM))
        else (let ρ := share C (esc (lnd C) n e) ρ
          guardM (nmOk C x) (if isFresh e = true then bnd (evF n C e ρ) fun ds => asgK C x (.ow ds) ρ k else bnd (evE n C e ρ) fun d => asgK C x (.sh d) ρ k))
    | .Assign [.Tuple ts jt pt] (.Tuple es je pe) _ => if (decide (ts.length ≠ 1) && es.all (foldedForSure 8)) = true then (bnd (evE n C (.Tuple es je pe) ρ) fun d => asgT n C (.Tuple ts jt pt) d ρ k) else (let ρ := share C (escs (lnd C) n es) ρ
        guardM (parOk C ts es) (bnd (optM (parNames C ts)) fun is => parK n C es ρ fun svs => k .nx (setAll ρ is svs)))
    | .Assign [.Tuple es j p] e _ => let ρ := share C (esc (lnd C) n e) ρ
        bnd (evE n C e ρ) fun d => asgT n C (.Tuple es j p) d ρ k
    | .Assign [.Subscript (.Name x _) i _] e _ => let ρ := share C (esc (lnd C) n e ++ esc (lnd C) n i) ρ
        guardM (!isSl i) <| bnd (evE n C e ρ) fun d => (match slotOf C ρ x, ixOf C.N x with
        | some (.ow o), some m => bnd (evE n C i ρ) fun j => bnd (optM (setO o j d)) fun o' => k .nx (ρ.set m (some (.ow o')))
        | some .stt, _ => bnd (evE n C i ρ) fun j => fun st => (match setD st j d with
          | some st' => k .nx ρ st'
          | none => R.stuck)
        | _, _ => stuckM)
    | .Expr (.Call (.Attribute (.Name x _) m ap) [a] [] cp) _ => let ρ := share C (esc (lnd C) n a) ρ
        (match slotOf C ρ x, ixOf C.N x with
        | some (.ow (.list ds)), some i => guardM (decide (m = "append") && !isStar a && visB C.sc x && (ap.endLine == cp.line)) (bnd (evE n C a ρ) fun d => guardM (fits (ds.length + 1)) (k .nx (ρ.set i (some (.ow (.list (ds ++ [d])))))))
        | _, _ => stuckM)
    | .For tg it body [] p => let ρ := share C (esc (lnd C) n it ++ escsAll C it) ρ
        guardM (!isSetE it) <| bnd (evI n C false (isTup tg) it ρ) fun xs => bnd (loopM (turnF n C (.For tg it body [] p)) xs ρ) (endK k)
    | .Expr (.Call (.Name f q) args kws p) _ => let ρ := share C (esc (lnd C) n (.Call (.Name f q) args kws p)) ρ
        bnd (evE n C (.Call (.Name f q) args kws p) ρ) fun _ => k .nx ρ
    | s => bnd (evS (n + 1) C s ρ) (endK k)
def kSs {β : Type} : Nat → Ctx → List Stmt → Env → (Fl → Env → M β) → M β
  | 0, _, _, _, _ => stuckM
  | _ + 1, _, [], ρ, k => k .nx ρ
  | n + 1, C, s :: r, ρ, k => kS n C s ρ fun f ρ' => (match f with
    | .nx => kSs n C r ρ' k
    | f => k f ρ')
end
def seqK {β : Type} (n : Nat) (C : Ctx) (r : List Stmt) (k : Fl → Env → M β) : Fl → Env → M β := fun f ρ' => (match f with
    | .nx => kSs n C r ρ' k
    | f => k f ρ')
theorem grd_next {α β : Type} {b : Bool} {m : M α} {f : α → M β} {st : Stt} : (guardM b m st).next f = guardM b (bnd m f) st := by
  unfold guardM
  split <;> rfl
theorem asgK_eq {β : Type} (C : Ctx) (x : Str) (sv : SV) (ρ : Env) (k : Fl → Env → M β) : asgK C x sv ρ k = bnd (bnd (optM (asgName C x sv ρ)) fun ρ' => ret (Fl.nx, ρ')) (endK k) := by
  unfold asgK
  cases asgName C x sv ρ <;> rfl
theorem bnd_bnd {α β γ : Type} (m : M α) (f : α → M β) (g : β → M γ) : bnd (bnd m f) g = bnd m fun x => bnd (f x) g := by
  funext st
  exact next_next _ _ _
theorem bnd_grd {α β : Type} (b : Bool) (m : M α) (f : α → M β) : bnd (guardM b m) f = guardM b (bnd m f) := by
  funext st
  exact grd_next
theorem ite_bnd {α β : Type} (b : Bool) (m m' : M α) (f : α → M β) : bnd (if b = true then m else m') f = if b = true then bnd m f else bnd m' f := by
  split <;> rfl
theorem parK_eq {β : Type} (n : Nat) (C : Ctx) : ∀ (es : List Expr) (ρ : Env) (k : List SV → M β), parK n C es ρ k = bnd (evPar n C es ρ) k
  | [], ρ, k => rfl
  | e :: es, ρ, k => by
    show guardM _ (if _ then _ else _) = bnd (guardM _ (if _ then _ else _)) k
    rw [bnd_grd, ite_bnd, bnd_bnd, bnd_bnd]
    have e1 : (fun d => parK n C es ρ fun svs => k (.sh d :: svs)) = fun x => bnd (bnd (evPar n C es ρ) fun svs => ret (SV.sh x :: svs)) k := by
      funext d
      rw [parK_eq n C es, bnd_bnd]
      rfl
    have e2 : (fun d => bnd (evEs n C es ρ) fun ds => k (SV.ow d :: List.map SV.sh ds)) = fun x => bnd (bnd (evEs n C es ρ) fun ds => ret (SV.ow x :: List.map SV.sh ds)) k := by
      funext d
      rw [bnd_bnd]
      rfl
    rw [e1, e2]
mutual
theorem kS_eq {β : Type} : ∀ (n : Nat) (C : Ctx) (s : Stmt) (ρ : Env) (k : Fl → Env → M β), kS n C s ρ k = bnd (evS n C s ρ) (endK k)
  | 0, _, _, _, _ => rfl
  | n + 1, C, s, ρ, k => by
    by_cases h1 : ∃ e p, s = .Return (some e) p
    · obtain ⟨e, p, rfl⟩ := h1
      show (bnd (evE n C e _) fun d => k (.rt d) _) = bnd (bnd (evE n C e _) fun d => ret (Fl.rt d, _)) (endK k)
      rw [bnd_bnd]
      rfl
    by_cases h2 : ∃ t a b p, s = .If t a b p
    · obtain ⟨t, a, b, p, rfl⟩ := h2
      show (bnd (evT n C t _) fun c => if c = true then kSs n C a _ k else kSs n C b _ k) = bnd (bnd (evT n C t _) fun c => if c = true then evSs n C a _ else evSs n C b _) (endK k)
      rw [bnd_bnd]
      congr 1
      funext c
      rw [ite_bnd, kSs_eq n C a, kSs_eq n C b]
    by_cases h3 : ∃ x p e q, s = .Assign [.Name x p] e q
    · obtain ⟨x, p, e, q, rfl⟩ := h3
      by_cases hm : C.mkst = some x
      · show (if C.mkst = some x then _ else _) = bnd (guardM (nmOk C x) (if C.mkst = some x then _ else _)) (endK k)
        rw [if_pos hm, if_pos hm, bnd_grd]
        congr 1
        cases e with
        | List es q2 =>
          funext st
          cases st with
          | cons _ _ => rfl
          | nil =>
            show R.next (evEs n C es _ []) _ = R.next (R.next (evEs n C es _ []) _) _
            rw [next_next]
            congr 1
            funext ds st1
            show guardM _ _ _ = R.next (guardM _ _ _) _
            unfold guardM
            by_cases hb : (fits ds.length && !ds.isEmpty) = true
            · rw [if_pos hb, if_pos hb]
              cases asgName C x .stt (share C (esc (lnd C) n (Expr.List es q2)) ρ) <;> rfl
            · rw [if_neg hb, if_neg hb]
              rfl
        | _ => rfl
      · show (if C.mkst = some x then _ else _) = bnd (guardM (nmOk C x) (if C.mkst = some x then _ else _)) (endK k)
        rw [if_neg hm, if_neg hm, bnd_grd, bnd_bnd]
        by_cases hf : isFresh e = true
        · have h4 : ∀ (ρ : Env) (f : SV → M β), bnd (evV n C e ρ) f = bnd (evF n C e ρ) fun ds => f (.ow ds) := fun ρ f => by
            unfold evV
            rw [if_pos hf, bnd_bnd]
            rfl
          rw [h4]
          show guardM _ (if isFresh e = true then _ else _) = _
          rw [if_pos hf]
          congr 2
          funext ds
          exact asgK_eq _ _ _ _ _
        · have h4 : ∀ (ρ : Env) (f : SV → M β), bnd (evV n C e ρ) f = bnd (evE n C e ρ) fun d => f (.sh d) := fun ρ f => by
            unfold evV
            rw [if_neg hf, bnd_bnd]
            rfl
          rw [h4]
          show guardM _ (if isFresh e = true then _ else _) = _
          rw [if_neg hf]
          congr 2
          funext ds
          exact asgK_eq _ _ _ _ _
    by_cases h4 : ∃ es j p e q, s = .Assign [.Tuple es j p] e q
    · obtain ⟨es, j, p, e, q, rfl⟩ := h4
      by_cases h4' : ∃ vs je pe, e = .Tuple vs je pe
      · obtain ⟨vs, je, pe, rfl⟩ := h4'
        by_cases hf : (decide (es.length ≠ 1) && vs.all (foldedForSure 8)) = true
        · show (if _ then _ else _) = bnd (if _ then _ else _) _
          rw [if_pos hf, if_pos hf, bnd_bnd]
          congr 1
          funext d
          show (match asg n C _ d _ with | some ρ' => _ | none => _) = bnd (bnd (optM (asg n C _ d _)) _) _
          cases asg n C (Expr.Tuple es j p) d ρ <;> rfl
        · show (if _ then _ else _) = bnd (if _ then _ else _) _
          rw [if_neg hf, if_neg hf, bnd_grd, bnd_bnd]
          congr 2
          funext is
          rw [bnd_bnd, parK_eq]
          rfl
      have z1 : kS (n + 1) C (.Assign [.Tuple es j p] e q) ρ k = bnd (evE n C e (share C (esc (lnd C) n e) ρ)) fun d => asgT n C (.Tuple es j p) d (share C (esc (lnd C) n e) ρ) k := by
        cases e <;> first | rfl | exact absurd ⟨_, _, _, rfl⟩ h4'
      have z2 : evS (n + 1) C (.Assign [.Tuple es j p] e q) ρ = bnd (evE n C e (share C (esc (lnd C) n e) ρ)) fun d => bnd (optM (asg n C (.Tuple es j p) d (share C (esc (lnd C) n e) ρ))) fun ρ' => ret (Fl.nx, ρ') := by
        cases e <;> first | rfl | exact absurd ⟨_, _, _, rfl⟩ h4'
      rw [z1, z2, bnd_bnd]
      congr 1
      funext d
      show (match asg n C _ d _ with | some ρ' => _ | none => _) = bnd (bnd (optM (asg n C _ d _)) _) _
      cases asg n C (Expr.Tuple es j p) d (share C (esc (lnd C) n e) ρ) <;> rfl
    by_cases h5 : ∃ x q i p e r, s = .Assign [.Subscript (.Name x q) i p] e r
    · obtain ⟨x, q, i, p, e, r, rfl⟩ := h5
      show guardM _ _ = bnd (guardM _ (bnd _ _)) (endK k)
      rw [bnd_grd, bnd_bnd]
      congr 2
      funext d
      cases slotOf C (share C (esc (lnd C) n e ++ esc (lnd C) n i) ρ) x with
      | none => rfl
      | some sv =>
        cases sv with
        | sh d => rfl
        | ln d => rfl
        | ow ds =>
          cases ixOf C.N x with
          | none => rfl
          | some m =>
            show (bnd _ _) = bnd (bnd _ _) _
            rw [bnd_bnd]
            congr 1
            funext j
            rw [bnd_bnd]
            rfl
        | stt =>
          funext s0
          show R.next (evE n C i (share C (esc (lnd C) n e ++ esc (lnd C) n i) ρ) s0) _ = R.next (R.next (evE n C i (share C (esc (lnd C) n e ++ esc (lnd C) n i) ρ) s0) _) _
          generalize (evE n C i (share C (esc (lnd C) n e ++ esc (lnd C) n i) ρ) s0 : R D) = r0
          cases r0 with
          | ok j st =>
            show (match setD st j d with | some st' => _ | none => _) = R.next (match setD st j d with | some st' => _ | none => _) _
            cases setD st j d <;> rfl
          | err _ _ => rfl
          | stuck => rfl
    by_cases h6 : ∃ x q m ap a cp r, s = .Expr (.Call (.Attribute (.Name x q) m ap) [a] [] cp) r
    · obtain ⟨x, q, m, ap, a, cp, r, rfl⟩ := h6
      show (match slotOf C _ x, ixOf C.N x with | some (.ow (.list ds)), some i => _ | _, _ => _) = bnd (match slotOf C _ x, ixOf C.N x with | some (.ow (.list ds)), some i => _ | _, _ => _) _
      cases slotOf C (share C (esc (lnd C) n a) ρ) x with
      | none => rfl
      | some sv =>
        cases sv with
        | ow ds =>
          cases ixOf C.N x with
          | none => cases ds <;> rfl
          | some i =>
            cases ds with
            | list ds =>
              show guardM _ _ = bnd (guardM _ _) _
              rw [bnd_grd, bnd_bnd]
              congr 2
              funext d
              rw [bnd_grd]
              rfl
            | _ => rfl
        | _ => rfl
    by_cases h8 : ∃ tg it body p, s = .For tg it body [] p
    · obtain ⟨tg, it, body, p, rfl⟩ := h8
      show guardM _ _ = bnd (guardM _ (bnd _ _)) _
      rw [bnd_grd, bnd_bnd]
      rfl
    by_cases h7 : ∃ f q args kws p r, s = .Expr (.Call (.Name f q) args kws p) r
    · obtain ⟨f, q, args, kws, p, r, rfl⟩ := h7
      show (bnd _ _) = bnd (guardM (!isComp _) (bnd _ _)) _
      rw [bnd_grd, bnd_bnd]
      rfl
    cases s with
    | Expr e r =>
      cases e with
      | Call f args kws p =>
        cases f with
        | Name f q => exact absurd ⟨_, _, _, _, _, _, rfl⟩ h7
        | Attribute o m ap =>
          cases o with
          | Name x q =>
            cases args with
            | nil => rfl
            | cons a as =>
              cases as with
              | cons _ _ => rfl
              | nil =>
                cases kws with
                | nil => exact absurd ⟨_, _, _, _, _, _, _, rfl⟩ h6
                | cons _ _ => rfl
          | _ => rfl
        | _ => rfl
      | _ => rfl
    | For tg it body els p =>
      cases els with
      | nil => exact absurd ⟨_, _, _, _, rfl⟩ h8
      | cons _ _ => rfl
    | Return v p =>
      cases v with
      | none => rfl
      | some e => exact absurd ⟨_, _, rfl⟩ h1
    | If t a b p => exact absurd ⟨_, _, _, _, rfl⟩ h2
    | Assign tgs e q =>
      cases tgs with
      | nil => rfl
      | cons t r =>
        cases r with
        | cons _ _ =>
          cases t with
          | Subscript a i p => cases a <;> rfl
          | _ => rfl
        | nil =>
          cases t with
          | Name x p => exact absurd ⟨_, _, _, _, rfl⟩ h3
          | Tuple es j p => exact absurd ⟨_, _, _, _, _, rfl⟩ h4
          | Subscript a i p => cases a <;> first | rfl | exact absurd ⟨_, _, _, _, _, _, rfl⟩ h5
          | _ => rfl
    | _ => rfl
theorem kSs_eq {β : Type} : ∀ (n : Nat) (C : Ctx) (s : List Stmt) (ρ : Env) (k : Fl → Env → M β), kSs n C s ρ k = bnd (evSs n C s ρ) (endK k)
  | 0, _, _, _, _ => rfl
  | _ + 1, _, [], _, _ => rfl
  | n + 1, C, s :: r, ρ, k => by
    show kS n C s ρ _ = bnd (bnd (evS n C s ρ) _) (endK k)
    rw [kS_eq n C s, bnd_bnd]
    congr 1
    funext q
    obtain ⟨f, ρ'⟩ := q
    cases f with
    | nx => exact kSs_eq n C r ρ' k
    | bk => rfl
    | ct => rfl
    | rt d => rfl
end
/-- a def's end -/
def outK (f : Fl) (_ : Env) : M D := match f with
  | .rt d => ret d
  | .nx => ret .none
  | _ => stuckM
theorem runB_eq (n : Nat) (C : Ctx) (body : List Stmt) (st : Bool) (le : List Bool) (ds : List D) : runB n C body st le ds = kSs n C body (startE C.N st le ds) outK := by
  rw [kSs_eq]
  funext s
  show outM (evSs n C body _ s) = R.next (evSs n C body _ s) _
  cases evSs n C body (startE C.N st le ds) s with
  | ok q s' =>
    obtain ⟨f, ρ⟩ := q
    cases f <;> rfl
  | err e s' => rfl
  | stuck => rfl
/-- a turn by what comes behind each statement -/
theorem turnF_eq (n : Nat) (C : Ctx) (s : Stmt) (x : D) (ρ : Env) : turnF n C s x ρ = bnd (optM (asg n C (forTg s) x ρ)) fun ρ' => kSs n C (forBody s) ρ' retF := by
  unfold turnF
  congr 1
  funext ρ'
  rw [kSs_eq]
  funext st
  show _ = R.next (evSs n C (forBody s) ρ' st) _
  cases evSs n C (forBody s) ρ' st with
  | ok q st' => rfl
  | err _ _ => rfl
  | stuck => rfl
end DI
end
section
set_option linter.all false
set_option autoImplicit false
set_option maxRecDepth 100000
/-! PRE: what the defs do that every law brings along. -/
namespace DI
open PySem L2
def m_law_same : List D → M D
  | [a, b] => bnd (biM .repr [.list [a]]) fun x => bnd (biM .repr [.list [b]]) fun y => bnd (cmpM .Eq x y) fun c => ret (.bool c)
  | _ => stuckM
/-- one more number of the stream: state = [numbers, k] -/
def nextF (ds : List D) (st : Stt) : R D := match ds, st with
  | [.int m], [.list ns, .int k] => (match intsOf ns with
      | some is => if decide (0 < is.length ∧ is.length < 1073741824 ∧ 0 ≤ k ∧ k < 1000000 ∧ 0 < m) = true then
          R.ok (.int ((((is.getD ((k + 1) % is.length).toNat 0) + (k + 1) / is.length * 389) + (k + 1) * ((k + 1) / is.length) * 17) % m)) [.list ns, .int (k + 1)]
        else .stuck
      | none => .stuck)
  | _, _ => .stuck
def m_law_next (ds : List D) : M D := fun st => nextF ds st
end DI
namespace DI
open PySem L2
theorem ints_map : ∀ {ds : List D} {is : List Int}, intsOf ds = some is → ds = is.map PyData.int
  | [], _, h => by cases h; rfl
  | d :: ds, is, h => by
    cases d with
    | int i =>
      simp only [intsOf, Option.map_eq_some_iff] at h
      obtain ⟨js, h1, rfl⟩ := h
      rw [ints_map h1]
      rfl
    | _ => cases h
theorem ints_of : ∀ is : List Int, intsOf (is.map PyData.int) = some is
  | [] => rfl
  | i :: is => by simp [intsOf, ints_of is]
theorem atI_int {is : List Int} {i : Int} (h0 : 0 ≤ i) (h1 : i < is.length) : atI (is.map PyData.int) i = some (.int (is.getD i.toNat 0)) := by
  unfold atI ixN
  rw [List.length_map, if_pos h0, if_pos h1]
  have hj : i.toNat < is.length := by omega
  show (is.map PyData.int)[i.toNat]? = _
  rw [List.getElem?_map, List.getElem?_eq_getElem hj]
  simp [List.getD, hj]
theorem mulOk_r {i j : Int} (h : -(2 ^ 64) < j ∧ j < 2 ^ 64) : mulOk i j = true := decide_eq_true (.inr h)
theorem mulOk_l {i j : Int} (h : -(2 ^ 64) < i ∧ i < 2 ^ 64) : mulOk i j = true := decide_eq_true (.inl h)
theorem mul_at {i j : Int} (h : mulOk i j = true) : binM .Mult (.int i) (.int j) = ret (.int (i * j)) := by
  show guardM (mulOk i j) _ = _
  rw [h]
  rfl
theorem mod_at {i j : Int} (h : 0 < j) : binM .Mod (.int i) (.int j) = ret (.int (i % j)) := by
  show guardM (decide (0 < j)) _ = _
  rw [decide_eq_true h]
  rfl
theorem fdiv_at {i j : Int} (h : 0 < j ∧ j < 1073741824) : binM .FloorDiv (.int i) (.int j) = ret (.int (i / j)) := by
  show guardM (decide (0 < j ∧ j < 1073741824)) _ = _
  rw [decide_eq_true h]
  rfl
theorem bnd_ret_l {α β : Type} (a : α) (f : α → M β) : bnd (ret a) f = f a := rfl
def rdS (i : Int) : M D := fun st => ixM (.list st) (.int i) st
def lenS : M D := bnd (bnd (rdS 0) fun d => ret [d]) fun ds => biM .len ds
def nextE (m t : D) : M D := bnd (bnd (bnd (bnd (bnd (bnd (rdS 0) fun l => bnd (bnd (rdS 1) fun x => bnd lenS fun y => binM .Mod x y) fun y => ixM l y) fun x => bnd (binM .Mult t (.int 389)) fun y => binM .Add x y) fun z => bnd (bnd (bnd (rdS 1) fun x => binM .Mult x t) fun u => binM .Mult u (.int 17)) fun v => binM .Add z v) fun d => ret [d]) fun ds => biM .int ds) fun x => binM .Mod x m
/-- _law_next as its text says it -/
def nextR (m : D) : M D := bnd (bnd (rdS 1) fun x => binM .Add x (.int 1)) fun d st => (match setD st (.int 1) d with
      | some st' => bnd (bnd (rdS 1) fun x => bnd lenS fun y => binM .FloorDiv x y) (fun t => bnd (nextE m t) fun d => ret d) st'
      | none => .stuck)
theorem next_ok' {m k : Int} {is : List Int} (hL : 0 < is.length ∧ is.length < 1073741824) (hk : 0 ≤ k ∧ k < 1000000) (hm : 0 < m) :
    nextR (.int m) [.list (is.map PyData.int), .int k] = R.ok (.int ((((is.getD ((k + 1) % is.length).toNat 0) + (k + 1) / is.length * 389) + (k + 1) * ((k + 1) / is.length) * 17) % m)) [.list (is.map PyData.int), .int (k + 1)] := by
  have hL' : (0 : Int) < ((is.map PyData.int).length : Int) ∧ ((is.map PyData.int).length : Int) < 1073741824 := by rw [List.length_map]; omega
  have e0 : ∀ k : Int, rdS 0 [.list (is.map PyData.int), .int k] = R.ok (.list (is.map PyData.int)) [.list (is.map PyData.int), .int k] := fun _ => rfl
  have e1 : ∀ k : Int, rdS 1 [.list (is.map PyData.int), .int k] = R.ok (.int k) [.list (is.map PyData.int), .int k] := fun _ => rfl
  have e2 : ∀ k : Int, lenS [.list (is.map PyData.int), .int k] = R.ok (.int (is.map PyData.int).length) [.list (is.map PyData.int), .int k] := fun _ => rfl
  have s2 : nextR (.int m) [.list (is.map PyData.int), .int k] = (bnd (bnd (rdS 1) fun x => bnd lenS fun y => binM .FloorDiv x y) fun t => bnd (nextE (.int m) t) fun d => ret d) [.list (is.map PyData.int), .int (k + 1)] := rfl
  rw [s2]
  clear s2
  have n_ok : ∀ {α β : Type} (a : α) (st : Stt) (f : α → M β), R.next (.ok a st) f = f a st := fun _ _ _ => rfl
  have r_at : ∀ {α : Type} (a : α) (st : Stt), (ret a : M α) st = .ok a st := fun _ _ => rfl
  have b_at : ∀ {α β : Type} (m : M α) (f : α → M β) (st : Stt), bnd m f st = (m st).next f := fun _ _ _ => rfl
  have hx : 0 ≤ (k + 1) % (is.length : Int) := Int.emod_nonneg _ (by omega)
  have hx2 : (k + 1) % (is.length : Int) < is.length := Int.emod_lt_of_pos _ (by omega)
  have hix : ∀ st, ixM (.list (is.map PyData.int)) (.int ((k + 1) % (is.length : Int))) st = R.ok (.int (is.getD ((k + 1) % is.length).toNat 0)) st := fun st => by
    show optM (atI (is.map PyData.int) ((k + 1) % (is.length : Int))) st = _
    rw [atI_int hx hx2]
    rfl
  have hadd : ∀ i j : Int, binM .Add (.int i) (.int j) = ret (.int (i + j)) := fun _ _ => rfl
  have hint : ∀ i : Int, biM .int [.int i] = ret (.int i) := fun _ => rfl
  simp only [b_at, e1, n_ok, e2, fdiv_at hL', r_at]
  generalize hq : (k + 1) / (((is.map PyData.int).length : Nat) : Int) = q
  simp only [nextE, b_at, e0, e1, e2, n_ok, r_at, mod_at hL'.1]
  rw [List.length_map, hix]
  simp only [n_ok, b_at, e1, r_at, hadd, hint, mul_at (mulOk_r (i := q) (j := 389) (by omega)), mul_at (mulOk_l (i := k + 1) (j := q) (by omega)), mul_at (mulOk_r (i := (k + 1) * q) (j := 17) (by omega)), mod_at hm]
  rw [← hq, List.length_map]
theorem next_ref (ds : List D) (s : Stt) (f : D → M D) (hf : ∀ m, f m = nextR m) (g : List D → M D) (hg : ∀ m, g [m] = f m) : m_law_next ds s = .stuck ∨ g ds s = m_law_next ds s := by
  by_cases h : m_law_next ds s = .stuck
  · exact .inl h
  refine .inr ?_
  have h' : nextF ds s ≠ .stuck := h
  unfold nextF at h'
  split at h'
  · rename_i m ns k
    split at h'
    · rename_i is hi
      split at h'
      · rename_i hc
        have hc' := of_decide_eq_true hc
        obtain ⟨h1, h2, h3, h4, h5⟩ := hc'
        rw [hg, hf, ints_map hi, next_ok' ⟨h1, h2⟩ ⟨h3, h4⟩ h5]
        show _ = (match intsOf (is.map PyData.int) with
            | some is' => _
            | none => _)
        rw [ints_of]
        exact (if_pos hc).symm
      · exact absurd rfl h'
    · exact absurd rfl h'
  · exact absurd rfl h'
end DI
end
section
set_option linter.all false
set_option autoImplicit false
set_option maxRecDepth 100000
/-! STR: the stream of numbers that each law makes of its script (_law_stream). -/
namespace DI
open PySem L2
def absI (v : Int) : Int := if v < 0 then -v else v
def digs : Nat → Int → List Int
  | 0, _ => []
  | n + 1, r => (r % 1009) :: (if (r / 1009 == 0) = true then [] else digs n (r / 1009))
def stir (k s : Int) : Int := (s * 48271 + 7 * k + 11) % 2147483647
def stirs : Nat → Int → Int → List Int
  | 0, _, _ => []
  | n + 1, k, s => ((stir k s * 69621 + k) % 2147483629 % 1009) :: stirs n (k + 1) (stir k s)
def cellN (v : Int) : List Int := if decide (10 ^ 18 ≤ absI v) = true then digs 60 (absI v) else stirs 10 0 (absI v % 2147483647)
def strm (ns : List Int) : List Int := if (ns.take 63).flatMap cellN = [] then [0] else (ns.take 63).flatMap cellN
def m_law_stream : List D → M D
  | [.list xs] => (match intsOf xs with
    | some ns => ret (.list ((strm ns).map PyData.int))
    | none => stuckM)
  | _ => stuckM
theorem digs_len : ∀ n r, (digs n r).length ≤ n
  | 0, _ => Nat.le_refl _
  | n + 1, r => by
    unfold digs
    split
    · simp
    · have := digs_len n (r / 1009); simp; omega
theorem stirs_len : ∀ n k s, (stirs n k s).length = n
  | 0, _, _ => rfl
  | n + 1, k, s => by simp [stirs, stirs_len n]
theorem cell_len (v : Int) : (cellN v).length ≤ 60 := by
  unfold cellN
  split
  · exact digs_len _ _
  · rw [stirs_len]; omega
theorem cells_len : ∀ ns : List Int, (ns.flatMap cellN).length ≤ 60 * ns.length
  | [] => by simp
  | n :: ns => by
    have h1 := cell_len n
    have h2 := cells_len ns
    simp only [List.flatMap_cons, List.length_append, List.length_cons]
    omega
theorem strm_len (ns : List Int) : 0 < (strm ns).length ∧ (strm ns).length ≤ 3781 := by
  unfold strm
  split
  · simp
  · rename_i h
    have h1 := cells_len (ns.take 63)
    have h2 : (ns.take 63).length ≤ 63 := by rw [List.length_take]; omega
    exact ⟨List.length_pos_iff.mpr h, by omega⟩
/-- its slots: script, numbers, cell, rest, k, stirred -/
def ev (s : D) (ns : List D) (c r k t : Option SV) : Env := [some (.sh s), some (.ow (.list ns)), c, r, k, t]
def mulR (a b : D) : M D := binM .Mult a b
def stirR (t y : Int) : M D := bnd (bnd (bnd (bnd (bnd (binM .Mult (.int t) (.int 48271)) fun u => bnd (binM .Mult (.int 7) (.int y)) fun v => binM .Add u v) fun z => binM .Add z (.int 11)) fun d => ret [d]) fun ds => biM .int ds) fun w => binM .Mod w (.int 2147483647)
def itemR (d : D) (y : Int) : M D := bnd (bnd (bnd (bnd (bnd (binM .Mult d (.int 69621)) fun u => binM .Add u (.int y)) fun d => ret [d]) fun ds => biM .int ds) fun w => binM .Mod w (.int 2147483629)) fun w => binM .Mod w (.int 1009)
theorem stirR_eq (t y : Int) (h : -(2 ^ 64) < y ∧ y < 2 ^ 64) : stirR t y = ret (.int (stir y t)) := by
  unfold stirR
  rw [mul_at (mulOk_r (by omega)), mul_at (mulOk_l (by omega))]
  rfl
theorem itemR_eq (t y : Int) : itemR (.int t) y = ret (.int ((t * 69621 + y) % 2147483629 % 1009)) := by
  unfold itemR
  rw [mul_at (mulOk_r (by omega))]
  rfl
section
variable {F F1 F2 : D → Env → M (Fl × Env)} {K1 K2 K0 : Fl × Env → M (Fl × Env)}
theorem fits_small {n : Nat} (h : n ≤ 10000) : fits n = true := decide_eq_true (Nat.le_trans h (by decide +kernel))
theorem rangeD_cons (i j : Int) (h : i < j) : rangeD i j = .int i :: rangeD (i + 1) j := by
  unfold rangeD
  have e : (j - i).toNat = (j - (i + 1)).toNat + 1 := by omega
  rw [e, List.range_succ_eq_map, List.map_cons, List.map_map]
  congr 1
  · simp
  · refine List.map_congr_left fun k _ => ?_
    simp
    omega
theorem rangeD_nil (i j : Int) (h : j ≤ i) : rangeD i j = [] := by
  unfold rangeD
  have e : (j - i).toNat = 0 := by omega
  rw [e]
  rfl
theorem loop_cons (f : D → Env → M (Fl × Env)) (x : D) (xs : List D) (ρ : Env) : loopM f (x :: xs) ρ = bnd (f x ρ) fun q => match q.1 with
    | .nx => loopM f xs q.2
    | .ct => loopM f xs q.2
    | .bk => ret (.nx, q.2)
    | .rt d => ret (.rt d, q.2) := rfl
theorem loop1 (h1 : ∀ s ns c r k t (y : Int), F1 (.int y) (ev s ns c (some (.sh (.int r))) k t) = guardM (fits (ns.length + 1)) (if (r / 1009 == 0) = true then ret (.bk, ev s (ns ++ [.int (r % 1009)]) c (some (.sh (.int (r / 1009)))) (some (.sh (.int y))) t) else ret (.nx, ev s (ns ++ [.int (r % 1009)]) c (some (.sh (.int (r / 1009)))) (some (.sh (.int y))) t))) :
    ∀ (n : Nat) (i : Int) s ns c r k t, ns.length + n ≤ 10000 → ∃ r' k', loopM F1 (rangeD i (i + n)) (ev s ns c (some (.sh (.int r))) k t) = ret (.nx, ev s (ns ++ (digs n r).map PyData.int) c r' k' t)
  | 0, i, s, ns, c, r, k, t, _ => by
    rw [rangeD_nil _ _ (by omega)]
    exact ⟨_, _, by simp [digs]; rfl⟩
  | n + 1, i, s, ns, c, r, k, t, hn => by
    rw [rangeD_cons i _ (by omega), loop_cons, h1, fits_small (by omega)]
    by_cases h : (r / 1009 == 0) = true
    · refine ⟨some (.sh (.int (r / 1009))), some (.sh (.int i)), ?_⟩
      unfold digs
      rw [if_pos h, if_pos h]
      rfl
    · obtain ⟨r', k', e⟩ := loop1 h1 n (i + 1) s (ns ++ [.int (r % 1009)]) c (r / 1009) (some (.sh (.int i))) t (by simp; omega)
      refine ⟨r', k', ?_⟩
      unfold digs
      rw [if_neg h, if_neg h]
      have e2 : i + ((n + 1 : Nat) : Int) = i + 1 + (n : Int) := by omega
      rw [e2]
      show loopM F1 _ _ = _
      rw [e]
      simp
theorem loop2 (h2 : ∀ s ns c r k (t y : Int), F2 (.int y) (ev s ns c r k (some (.sh (.int t)))) = bnd (stirR t y) fun d => bnd (itemR d y) fun e => guardM (fits (ns.length + 1)) (ret (.nx, ev s (ns ++ [e]) c r (some (.sh (.int y))) (some (.sh d))))) :
    ∀ (n : Nat) (i : Int) s ns c r k (t : Int), 0 ≤ i → i + n ≤ 100 → ns.length + n ≤ 10000 → ∃ k' t', loopM F2 (rangeD i (i + n)) (ev s ns c r k (some (.sh (.int t)))) = ret (.nx, ev s (ns ++ (stirs n i t).map PyData.int) c r k' t')
  | 0, i, s, ns, c, r, k, t, _, _, _ => by
    rw [rangeD_nil _ _ (by omega)]
    exact ⟨_, _, by simp [stirs]; rfl⟩
  | n + 1, i, s, ns, c, r, k, t, hi, hi2, hn => by
    obtain ⟨k', t', e⟩ := loop2 h2 n (i + 1) s (ns ++ [.int ((stir i t * 69621 + i) % 2147483629 % 1009)]) c r (some (.sh (.int i))) (stir i t) (by omega) (by omega) (by simp; omega)
    refine ⟨k', t', ?_⟩
    rw [rangeD_cons i _ (by omega), loop_cons, h2, stirR_eq t i (by omega)]
    have e2 : i + ((n + 1 : Nat) : Int) = i + 1 + (n : Int) := by omega
    rw [e2]
    show bnd (bnd (itemR (.int (stir i t)) i) _) _ = _
    rw [itemR_eq]
    show bnd (guardM (fits (ns.length + 1)) _) _ = _
    rw [fits_small (by omega)]
    show loopM F2 _ _ = _
    rw [e]
    simp [stirs]
theorem loop0 (h0 : ∀ s ns c r k t (v : Int), F (.int v) (ev s ns c r k t) = if decide (10 ^ 18 ≤ absI v) = true then bnd (loopM F1 (rangeD 0 60) (ev s ns (some (.sh (.int v))) (some (.sh (.int (absI v)))) k t)) K1
      else bnd (loopM F2 (rangeD 0 10) (ev s ns (some (.sh (.int v))) (some (.sh (.int (absI v)))) k (some (.sh (.int (absI v % 2147483647)))))) K2)
    (hK1 : ∀ ρ, K1 (.nx, ρ) = ret (.nx, ρ)) (hK2 : ∀ ρ, K2 (.nx, ρ) = ret (.nx, ρ))
    (h1 : ∀ s ns c r k t (y : Int), F1 (.int y) (ev s ns c (some (.sh (.int r))) k t) = guardM (fits (ns.length + 1)) (if (r / 1009 == 0) = true then ret (.bk, ev s (ns ++ [.int (r % 1009)]) c (some (.sh (.int (r / 1009)))) (some (.sh (.int y))) t) else ret (.nx, ev s (ns ++ [.int (r % 1009)]) c (some (.sh (.int (r / 1009)))) (some (.sh (.int y))) t)))
    (h2 : ∀ s ns c r k (t y : Int), F2 (.int y) (ev s ns c r k (some (.sh (.int t)))) = bnd (stirR t y) fun d => bnd (itemR d y) fun e => guardM (fits (ns.length + 1)) (ret (.nx, ev s (ns ++ [e]) c r (some (.sh (.int y))) (some (.sh d))))) :
    ∀ (vs : List Int) s ns c r k t, ns.length + 60 * vs.length ≤ 9000 → ∃ c' r' k' t', loopM F (vs.map PyData.int) (ev s ns c r k t) = ret (.nx, ev s (ns ++ (vs.flatMap cellN).map PyData.int) c' r' k' t')
  | [], s, ns, c, r, k, t, _ => ⟨_, _, _, _, by simp; rfl⟩
  | v :: vs, s, ns, c, r, k, t, hn => by
    have hn : ns.length + 60 * (vs.length + 1) ≤ 9000 := by simpa using hn
    have hc := cell_len v
    have step : ∃ c1 r1 k1 t1, F (.int v) (ev s ns c r k t) = ret (.nx, ev s (ns ++ (cellN v).map PyData.int) c1 r1 k1 t1) := by
      rw [h0]
      by_cases h : decide (10 ^ 18 ≤ absI v) = true
      · obtain ⟨r', k', e⟩ := loop1 h1 60 0 s ns (some (.sh (.int v))) (absI v) k t (by omega)
        refine ⟨some (.sh (.int v)), r', k', t, ?_⟩
        unfold cellN
        rw [if_pos h, if_pos h]
        have e0 : (0 : Int) + ((60 : Nat) : Int) = 60 := rfl
        rw [e0] at e
        rw [e]
        exact hK1 _
      · obtain ⟨k', t', e⟩ := loop2 h2 10 0 s ns (some (.sh (.int v))) (some (.sh (.int (absI v)))) k (absI v % 2147483647) (by omega) (by omega) (by omega)
        refine ⟨some (.sh (.int v)), some (.sh (.int (absI v))), k', t', ?_⟩
        unfold cellN
        rw [if_neg h, if_neg h]
        have e0 : (0 : Int) + ((10 : Nat) : Int) = 10 := rfl
        rw [e0] at e
        rw [e]
        exact hK2 _
    obtain ⟨c1, r1, k1, t1, e1⟩ := step
    obtain ⟨c2, r2, k2, t2, e2⟩ := loop0 h0 hK1 hK2 h1 h2 vs s (ns ++ (cellN v).map PyData.int) c1 r1 k1 t1 (by simp; omega)
    refine ⟨c2, r2, k2, t2, ?_⟩
    rw [List.map_cons, loop_cons, e1]
    show loopM F _ _ = _
    rw [e2]
    simp
end
/-- _law_stream, from what its text does -/
theorem stream_ref {g : List D → M D} {F F1 F2 : D → Env → M (Fl × Env)} {K1 K2 : Fl × Env → M (Fl × Env)} {K0 : Fl × Env → M D}
    (hg : ∀ xs : List D, g [.list xs] = bnd (loopM F (cutD xs none (some 63)) (ev (.list xs) [] none none none none)) K0)
    (hK0 : ∀ s ns c r k t, K0 (.nx, ev s ns c r k t) = if ((ns.length : Int) == 0) = true then guardM (fits (ns.length + 1)) (ret (.list (ns ++ [.int 0]))) else ret (.list ns))
    (h0 : ∀ s ns c r k t (v : Int), F (.int v) (ev s ns c r k t) = if decide (10 ^ 18 ≤ absI v) = true then bnd (loopM F1 (rangeD 0 60) (ev s ns (some (.sh (.int v))) (some (.sh (.int (absI v)))) k t)) K1
      else bnd (loopM F2 (rangeD 0 10) (ev s ns (some (.sh (.int v))) (some (.sh (.int (absI v)))) k (some (.sh (.int (absI v % 2147483647)))))) K2)
    (hK1 : ∀ ρ, K1 (.nx, ρ) = ret (.nx, ρ)) (hK2 : ∀ ρ, K2 (.nx, ρ) = ret (.nx, ρ))
    (h1 : ∀ s ns c r k t (y : Int), F1 (.int y) (ev s ns c (some (.sh (.int r))) k t) = guardM (fits (ns.length + 1)) (if (r / 1009 == 0) = true then ret (.bk, ev s (ns ++ [.int (r % 1009)]) c (some (.sh (.int (r / 1009)))) (some (.sh (.int y))) t) else ret (.nx, ev s (ns ++ [.int (r % 1009)]) c (some (.sh (.int (r / 1009)))) (some (.sh (.int y))) t)))
    (h2 : ∀ s ns c r k (t y : Int), F2 (.int y) (ev s ns c r k (some (.sh (.int t)))) = bnd (stirR t y) fun d => bnd (itemR d y) fun e => guardM (fits (ns.length + 1)) (ret (.nx, ev s (ns ++ [e]) c r (some (.sh (.int y))) (some (.sh d)))))
    (ds : List D) (st : Stt) : m_law_stream ds st = .stuck ∨ g ds st = m_law_stream ds st := by
  unfold m_law_stream
  split
  · rename_i xs
    cases hi : intsOf xs with
    | none => exact .inl rfl
    | some ns =>
      right
      have hx := ints_map hi
      subst hx
      have hcut : cutD (ns.map PyData.int) none (some 63) = (ns.take 63).map PyData.int := by
        unfold cutD
        have e1 : HT.sIx (ns.map PyData.int).length 0 none = 0 := rfl
        have e2 : HT.sIx (ns.map PyData.int).length (ns.map PyData.int).length (some 63) = min 63 (ns.map PyData.int).length := HT.sIx_nat _ _ 63
        rw [e1, e2, List.drop_zero, Nat.sub_zero, List.map_take]
        rw [List.take_eq_take_iff]
        simp
      obtain ⟨c, r, k, t, e⟩ := loop0 (F := F) h0 hK1 hK2 h1 h2 (ns.take 63) (.list (ns.map PyData.int)) [] none none none none (by rw [List.length_take]; simp; omega)
      rw [hg, hcut, e]
      show K0 (.nx, _) st = _
      rw [hK0]
      simp only [List.nil_append, List.length_map]
      have hl := cells_len (ns.take 63)
      have hl2 : (ns.take 63).length ≤ 63 := by rw [List.length_take]; omega
      unfold strm
      by_cases h : (ns.take 63).flatMap cellN = []
      · rw [if_pos h, h]
        show guardM (fits 1) _ st = _
        rw [fits_small (by omega)]
        rfl
      · rw [if_neg h, if_neg (by
          have := List.length_pos_iff.mpr h
          simp only [beq_iff_eq]
          omega)]
  · exact .inl rfl
end DI
end
section
set_option linter.all false
set_option autoImplicit false
set_option maxRecDepth 100000
/-! SHOW: data whose repr is short; _law_same of the same data. -/
namespace DI
open PySem L2
mutual
def smallD : D → Bool
  | .none | .bool _ => true
  | .int i => decide (i.natAbs < 10 ^ 12)
  | .str x => (x.cps.toList.all fun c => decide (c < 16 ^ 8)) && (reprText x).cps.toList.all fun c => decide (c < 0x110000)
  | .list xs | .tuple xs => smallAll xs
  | .dict _ => false
def smallAll : List D → Bool
  | [] => true
  | x :: xs => smallD x && smallAll xs
end
mutual
def wtD : D → Nat
  | .str x => x.cps.size
  | .list xs | .tuple xs => wtAll xs
  | .int _ => 41
  | _ => 0
def wtAll : List D → Nat
  | [] => 0
  | x :: xs => wtD x + 1 + wtAll xs
end
theorem log_le {i : Int} (h : i.natAbs < 10 ^ 12) : i.natAbs.log2 + 1 ≤ 41 := by
  by_cases h0 : i.natAbs = 0
  · rw [h0]; decide
  · have : i.natAbs.log2 < 40 := (Nat.log2_lt h0).mpr (Nat.lt_trans h (by decide))
    omega
mutual
theorem small_ok : ∀ d : D, smallD d = true → d.leavesShort 13 = true ∧ d.showable = true ∧ d.hasDict = false ∧ d.weight ≤ wtD d
  | .none, _ => ⟨rfl, rfl, rfl, Nat.le_refl _⟩
  | .bool _, _ => ⟨rfl, rfl, rfl, Nat.le_refl _⟩
  | .int i, h => by
    have h : i.natAbs < 10 ^ 12 := of_decide_eq_true h
    have hl := log_le h
    refine ⟨?_, ?_, rfl, ?_⟩
    · simp only [PyData.leavesShort, decide_eq_true_eq]
      exact PyData.shown_int_le h
    · simp only [PyData.showable, decide_eq_true_eq]
      omega
    · simp only [PyData.weight, wtD]
      split <;> omega
  | .str x, h => ⟨by
      simp only [smallD, Bool.and_eq_true] at h
      simpa only [PyData.leavesShort] using h.1, rfl, rfl, by simp only [PyData.weight, wtD]; omega⟩
  | .list xs, h => by
    obtain ⟨h1, h2, h3, h4⟩ := smallAll_ok xs (by simpa only [smallD] using h)
    exact ⟨by simpa only [PyData.leavesShort] using h1, by simpa only [PyData.showable] using h2, by simpa only [PyData.hasDict] using h3, by simpa only [PyData.weight, wtD] using h4⟩
  | .tuple xs, h => by
    obtain ⟨h1, h2, h3, h4⟩ := smallAll_ok xs (by simpa only [smallD] using h)
    exact ⟨by simpa only [PyData.leavesShort] using h1, by simpa only [PyData.showable] using h2, by simpa only [PyData.hasDict] using h3, by simpa only [PyData.weight, wtD] using h4⟩
  | .dict _, h => by simp only [smallD] at h; exact nomatch h
theorem smallAll_ok : ∀ xs : List D, smallAll xs = true → PyData.leavesShortAll 13 xs = true ∧ PyData.showableAll xs = true ∧ PyData.hasDictAll xs = false ∧ PyData.weightAll xs ≤ wtAll xs
  | [], _ => ⟨rfl, rfl, rfl, Nat.le_refl _⟩
  | x :: xs, h => by
    have h' : smallD x = true ∧ smallAll xs = true := by simpa only [smallAll, Bool.and_eq_true] using h
    obtain ⟨a1, a2, a3, a4⟩ := small_ok x h'.1
    obtain ⟨b1, b2, b3, b4⟩ := smallAll_ok xs h'.2
    refine ⟨by simp only [PyData.leavesShortAll, a1, b1, Bool.and_self], by simp only [PyData.showableAll, a2, b2, Bool.and_self], by simp only [PyData.hasDictAll, a3, b3, Bool.or_self], ?_⟩
    simp only [PyData.weightAll, wtAll]
    omega
end
def okS (x : Str) : Prop := ∀ c ∈ x.cps.toList, c < 0x110000
theorem okS_app {a b : Str} (ha : okS a) (hb : okS b) : okS (a ++ b) := fun c hc => by
  have e : (a ++ b).cps.toList = a.cps.toList ++ b.cps.toList := by
    show (a.cps ++ b.cps).toList = _
    simp
  rw [e, List.mem_append] at hc
  exact hc.elim (ha c) (hb c)
theorem okS_lit {x : Str} (h : (x.cps.toList.all fun c => decide (c < 0x110000)) = true) : okS x := fun c hc => of_decide_eq_true (List.all_eq_true.mp h c hc)
theorem okS_strOk {x : Str} (h : okS x) : PyData.strOk x = true := by
  unfold PyData.strOk
  rw [Array.all_eq_true_iff_forall_mem]
  intro c hc
  exact decide_eq_true (h c (Array.mem_toList_iff.mpr hc))
theorem okS_sep : okS (", " : String) := okS_lit (by decide)
theorem okS_from : ∀ (ts : List Str) (k : Nat) (acc : Str), okS acc → (∀ t ∈ ts, okS t) → okS (textFrom k acc ts)
  | [], _, _, h, _ => h
  | t :: ts, k, acc, h, ht => by
    show okS (textFrom (k + 1) (acc ++ (if k > 0 then ", " else "" : String) ++ t) ts)
    refine okS_from ts _ _ (okS_app (okS_app h ?_) (ht t List.mem_cons_self)) fun x hx => ht x (List.mem_cons_of_mem _ hx)
    split
    · exact okS_sep
    · exact okS_lit (by decide)
theorem okS_join : ∀ ts : List Str, (∀ t ∈ ts, okS t) → okS (Str.join ", " ts)
  | [], _ => fun c hc => by
    have : (Str.empty).cps.toList = [] := rfl
    have hc : c ∈ (Str.empty).cps.toList := hc
    rw [this] at hc
    cases hc
  | [x], h => h x List.mem_cons_self
  | x :: y :: r, h => by
    show okS (x ++ ", " ++ Str.join ", " (y :: r))
    exact okS_app (okS_app (h x List.mem_cons_self) okS_sep) (okS_join (y :: r) fun t ht => h t (List.mem_cons_of_mem _ ht))
mutual
theorem okS_shown : ∀ d : D, smallD d = true → okS d.shown
  | .none, _ => okS_lit (by decide)
  | .bool b, _ => by cases b <;> exact okS_lit (by decide)
  | .int i, _ => by
    show okS (Str.ofString (toString i))
    rw [Str.ofString_eq_toList]
    intro c hc
    have hc : c ∈ (toString i).toList.map Char.toNat := by simpa using hc
    obtain ⟨ch, h1, rfl⟩ := List.mem_map.mp hc
    exact Nat.lt_trans (int_ascii i ch h1) (by decide)
  | .str x, h => by
    simp only [smallD, Bool.and_eq_true] at h
    exact okS_lit h.2
  | .list xs, h => by
    have hs := okS_shownAll xs (by simpa only [smallD] using h)
    simp only [PyData.shown]
    exact okS_app (okS_from _ _ _ (okS_lit (by decide)) hs) (okS_lit (by decide))
  | .tuple xs, h => by
    have hs := okS_shownAll xs (by simpa only [smallD] using h)
    simp only [PyData.shown]
    refine okS_app (okS_app (okS_lit (by decide)) (okS_join _ hs)) ?_
    split <;> exact okS_lit (by decide)
  | .dict _, h => by simp only [smallD] at h; exact nomatch h
theorem okS_shownAll : ∀ xs : List D, smallAll xs = true → ∀ t ∈ PyData.shownAll xs, okS t
  | [], _, t, ht => by simp only [PyData.shownAll] at ht; cases ht
  | x :: xs, h, t, ht => by
    have h' : smallD x = true ∧ smallAll xs = true := by simpa only [smallAll, Bool.and_eq_true] using h
    simp only [PyData.shownAll, List.mem_cons] at ht
    rcases ht with rfl | ht
    · exact okS_shown x h'.1
    · exact okS_shownAll xs h'.2 t ht
end
def okD (d : D) : Bool := smallD d && (decide (wtD d ≤ 524288) && decide (d.depth ≤ 98))
theorem repr_at {d : D} (h : okD d = true) : biM .repr [.list [d]] = ret (.str (PyData.list [d]).shown) := by
  unfold okD at h
  simp only [Bool.and_eq_true, decide_eq_true_eq] at h
  obtain ⟨h1, h2, h3⟩ := h
  obtain ⟨a1, a2, a3, a4⟩ := small_ok (.list [d]) (by simp only [smallD, smallAll, h1, Bool.and_self])
  have hw : (PyData.list [d]).weight ≤ 2 ^ 20 := by
    have e : wtD (.list [d]) = wtD d + 1 := by simp only [wtD, wtAll]
    have : (2 : Nat) ^ 20 = 1048576 := by decide
    omega
  have hs := PyData.shown_fits (by decide) (by decide) a1 hw
  have hd : (PyData.list [d]).depth ≤ 100 := by
    simp only [PyData.depth, PyData.depthAll]
    omega
  show guardM ((PyData.list [d]).showable && !(PyData.list [d]).hasDict && decide ((PyData.list [d]).depth ≤ 100) && fits (PyData.list [d]).shown.length) _ = _
  have hf : fits (PyData.list [d]).shown.length = true := decide_eq_true hs
  rw [a2, a3, decide_eq_true hd, hf]
  rfl
theorem same_true {d : D} (h : okD d = true) : m_law_same [d, d] = ret (PyData.bool true) := by
  show bnd (biM .repr [.list [d]]) (fun x => bnd (biM .repr [.list [d]]) fun y => bnd (cmpM .Eq x y) fun c => ret (PyData.bool c)) = _
  rw [repr_at h]
  have hk : okS (PyData.list [d]).shown := okS_shown (.list [d]) (by
    unfold okD at h
    simp only [Bool.and_eq_true] at h
    simp only [smallD, smallAll, h.1, Bool.and_self])
  generalize (PyData.list [d]).shown = x at hk
  have e : cmpM .Eq (PyData.str x) (PyData.str x) = ret true := by
    show guardM (SeqAt.shaped (PyData.str x) && SeqAt.shaped (PyData.str x)) (ret (PyData.eqv (PyData.str x) (PyData.str x))) = _
    have h1 : SeqAt.shaped (PyData.str x) = true := by
      unfold SeqAt.shaped
      have h0 : (PyData.str x).canLay0 = true := by simpa only [PyData.canLay0] using okS_strOk hk
      rw [h0]
      rfl
    have h2 : PyData.eqv (PyData.str x) (PyData.str x) = true := by simp only [PyData.eqv]; exact decide_eq_true rfl
    rw [h1, h2]
    rfl
  show bnd (cmpM .Eq (PyData.str x) (PyData.str x)) _ = _
  rw [e]
  rfl
end DI
end
section
set_option linter.all false
set_option autoImplicit false
set_option maxRecDepth 100000
/-! ACC: parts of a text by their place; comprehensions over ints. -/
namespace DI
open PySem L2
def asgVal : Stmt → Expr
  | .Assign _ e _ => e
  | .Return (some e) _ => e
  | .Expr e _ => e
  | .If t _ _ _ => t
  | _ => .Constant .none 0 ⟨0, 0, 0, 0⟩
def arg (i : Nat) : Expr → Expr
  | .Call _ as _ _ => as.getD i (.Constant .none 0 ⟨0, 0, 0, 0⟩)
  | .List es _ => es.getD i (.Constant .none 0 ⟨0, 0, 0, 0⟩)
  | .Tuple es _ _ => es.getD i (.Constant .none 0 ⟨0, 0, 0, 0⟩)
  | .BoolOp _ es _ => es.getD i (.Constant .none 0 ⟨0, 0, 0, 0⟩)
  | .UnaryOp _ e _ => e
  | .BinOp a _ b _ => if i = 0 then a else b
  | .Subscript a b _ => if i = 0 then a else b
  | .Compare a _ bs _ => if i = 0 then a else bs.getD (i - 1) (.Constant .none 0 ⟨0, 0, 0, 0⟩)
  | .Lambda _ b _ _ => b
  | .ListComp e gs _ _ => if i = 0 then e else (match gs with
    | [⟨tg, it, ifs, _⟩] => if i = 1 then tg else if i = 2 then it else ifs.getD (i - 3) (.Constant .none 0 ⟨0, 0, 0, 0⟩)
    | _ => .Constant .none 0 ⟨0, 0, 0, 0⟩)
  | _ => .Constant .none 0 ⟨0, 0, 0, 0⟩
/-- the turn of a comprehension -/
def cF (n : Nat) (C : DI.Ctx) (e : Expr) (ρ : DI.Env) : D → M (Option D) := match e with
  | .ListComp elt [⟨tg, _, ifs, _⟩] sc _ => compF n C tg elt ifs sc ρ
  | _ => fun _ => stuckM
theorem comp_map {f : D → M (Option D)} {g : Int → D} (h : ∀ n : Int, f (.int n) = ret (some (g n))) : ∀ ns : List Int, compM f (ns.map PyData.int) = ret (ns.map g)
  | [] => rfl
  | n :: ns => by
    show bnd (f (.int n)) (fun o => bnd (compM f (ns.map PyData.int)) _) = _
    rw [h, comp_map h ns]
    rfl
theorem comp_filter {f : D → M (Option D)} {p : Int → Bool} (h : ∀ n : Int, f (.int n) = ret (if p n = true then some (.int n) else none)) : ∀ ns : List Int, compM f (ns.map PyData.int) = ret ((ns.filter p).map PyData.int)
  | [] => rfl
  | n :: ns => by
    show bnd (f (.int n)) (fun o => bnd (compM f (ns.map PyData.int)) _) = _
    rw [h, comp_filter h ns]
    by_cases c : p n = true
    · rw [if_pos c, List.filter_cons_of_pos c]
      rfl
    · rw [if_neg c, List.filter_cons_of_neg c]
      rfl
theorem bools_of : ∀ bs : List Bool, boolsOf (bs.map PyData.bool) = some bs
  | [] => rfl
  | b :: bs => by simp [boolsOf, bools_of bs]
theorem all_at (bs : List Bool) : biM .all [.list (bs.map PyData.bool)] = ret (.bool (bs.all id)) := by
  show bnd (optM (boolsOf (bs.map PyData.bool))) _ = _
  rw [bools_of]
  rfl
def noErrM {α : Type} (m : M α) : M α := fun st => (m st).noErr
theorem noErr_ret {α : Type} (a : α) : noErrM (ret a) = ret a := rfl
theorem bnd_ret_r {α : Type} (m : M α) : bnd m (fun d => ret d) = m := by
  funext st
  show R.next (m st) _ = _
  cases m st <;> rfl
end DI
end
section
set_option linter.all false
set_option autoImplicit false
set_option maxRecDepth 100000
/-! ACC2: parts of expressions by place; turns of comprehensions by place; what plain operations say. -/
namespace DI
open PySem L2
def noE : Expr := .Constant .none 0 ⟨0, 0, 0, 0⟩
def sb (i : Nat) : Expr → Expr
  | .Call _ as _ _ => as.getD i noE
  | .List es _ => es.getD i noE
  | .Tuple es _ _ => es.getD i noE
  | .BoolOp _ es _ => es.getD i noE
  | .UnaryOp _ e _ => e
  | .BinOp a _ b _ => if i = 0 then a else b
  | .Subscript a b _ => if i = 0 then a else b
  | .Slice a b _ _ => if i = 0 then a.getD noE else b.getD noE
  | .Compare a _ bs _ => if i = 0 then a else bs.getD (i - 1) noE
  | .IfExp t a b _ => if i = 0 then t else if i = 1 then a else b
  | .Starred a _ => a
  | .Lambda _ b _ _ => b
  | .ListComp e gs _ _ => if i = 0 then e else (match gs with
    | [⟨_, it, ifs, _⟩] => if i = 2 then it else ifs.getD 0 noE
    | [⟨_, it, ifs, _⟩, ⟨_, it1, ifs1, _⟩] => if i = 2 then it else if i = 3 then ifs.getD 0 noE else if i = 5 then it1 else ifs1.getD 0 noE
    | _ => noE)
  | _ => noE
/-- within a comprehension, within a lambda -/
def inC (C : DI.Ctx) : Expr → DI.Ctx
  | .ListComp _ _ sc _ => C.into (relSc sc C.sc)
  | _ => C
def laC (C : DI.Ctx) : Expr → DI.Ctx
  | .Lambda _ _ sc _ => C.lamIn sc
  | _ => C
/-- the turns of a comprehension of two clauses -/
def cG (n : Nat) (C : DI.Ctx) (e : Expr) (ρ : DI.Env) : D → M (List D) := match e with
  | .ListComp elt [⟨tg, _, ifs, _⟩, ⟨tg1, iter1, ifs1, _⟩] sc _ => compG n C tg tg1 iter1 elt ifs ifs1 sc ρ
  | _ => fun _ => stuckM
def cGi (n : Nat) (C : DI.Ctx) (e : Expr) (ρ : DI.Env) : D → M (Option D) := match e with
  | .ListComp elt [_, ⟨tg1, _, ifs1, _⟩] sc _ => compFv n C (tgIx n (C.into sc) tg1) tg1 elt ifs1 sc ρ
  | _ => fun _ => stuckM
def onlyList : D → M D
  | .list ds => ret (.list ds)
  | _ => stuckM
def valS : Stmt → Expr := asgVal
def iterS : Stmt → Expr := forIt
def exprS : Stmt → Expr
  | .Expr (.Call (.Attribute _ _ _) [a] _ _) _ => a
  | .Expr e _ => e
  | _ => noE
end DI
end
section
set_option Elab.async false
set_option linter.all false
set_option maxRecDepth 100000
set_option maxHeartbeats 0
/-! K32: the row by its data: written by gen2.py -/
namespace K32
open PySem PySem.Spec PyProof.Rows L2 DI
def top (i : Nat) : Stmt := PySem.Challenge.pw_handeddown_k32_whole_keys_turned_over.main.body.getD i (.Pass ⟨0, 0, 0, 0⟩)
def fW : Wl := ⟨fun x => (([("MAX_KEEP", 86400), ("MAX_KEY", 999), ("MAX_TIME", 1000000), ("MAX_STEPS", 12), ("MAX_WAIT", 5000)] : List (Str × Int)).lookup x).map PyData.int, plainKinds, 100⟩
abbrev T30 : List FdT := []
def d0_is_whole : FdT := ⟨"is_whole", ["value", "low", "high"], ["value", "low", "high"], false, [], false, none, 0, defArgs (top 11), defBody (top 11), defScope (top 11), fun _ => stuckM⟩
def C_is_whole : DI.Ctx := ctxOf fW (fnTab T30) d0_is_whole
def m_is_whole (ds : List D) : M D := runB 100 C_is_whole d0_is_whole.body false [] ds
def d_is_whole : FdT := ⟨"is_whole", ["value", "low", "high"], ["value", "low", "high"], false, [], false, none, 0, defArgs (top 11), defBody (top 11), defScope (top 11), m_is_whole⟩
abbrev T29 : List FdT := d_is_whole :: T30
def d0_is_keys : FdT := ⟨"is_keys", ["keys"], ["keys", "key"], false, [], false, none, 0, defArgs (top 15), defBody (top 15), defScope (top 15), fun _ => stuckM⟩
def C_is_keys : DI.Ctx := ctxOf fW (fnTab T29) d0_is_keys
def m_is_keys (ds : List D) : M D := runB 100 C_is_keys d0_is_keys.body false [] ds
def d_is_keys : FdT := ⟨"is_keys", ["keys"], ["keys", "key"], false, [], false, none, 0, defArgs (top 15), defBody (top 15), defScope (top 15), m_is_keys⟩
abbrev T28 : List FdT := d_is_keys :: T29
def d0_ahead_plan : FdT := ⟨"ahead_plan", ["old", "new"], ["old", "new", "both", "first", "told", "seals", "handed"], false, [], false, none, 0, defArgs (top 31), defBody (top 31), defScope (top 31), fun _ => stuckM⟩
def C_ahead_plan : DI.Ctx := ctxOf fW (fnTab T28) d0_ahead_plan
def m_ahead_plan (ds : List D) : M D := runB 100 C_ahead_plan d0_ahead_plan.body false [] ds
def d_ahead_plan : FdT := ⟨"ahead_plan", ["old", "new"], ["old", "new", "both", "first", "told", "seals", "handed"], false, [], false, none, 0, defArgs (top 31), defBody (top 31), defScope (top 31), m_ahead_plan⟩
abbrev T27 : List FdT := d_ahead_plan :: T28
def d0_waits_for : FdT := ⟨"waits_for", ["keeps", "waits"], ["keeps", "waits", "ends", "at", "past", "keep"], false, [false, true], false, none, 0, defArgs (top 30), defBody (top 30), defScope (top 30), fun _ => stuckM⟩
def C_waits_for : DI.Ctx := ctxOf fW (fnTab T27) d0_waits_for
def m_waits_for (ds : List D) : M D := runB 100 C_waits_for d0_waits_for.body false [false, true] ds
def d_waits_for : FdT := ⟨"waits_for", ["keeps", "waits"], ["keeps", "waits", "ends", "at", "past", "keep"], false, [false, true], false, none, 0, defArgs (top 30), defBody (top 30), defScope (top 30), m_waits_for⟩
abbrev T26 : List FdT := d_waits_for :: T27
def d0_is_state : FdT := ⟨"is_state", ["state"], ["state", "keys", "key"], false, [], false, none, 0, defArgs (top 16), defBody (top 16), defScope (top 16), fun _ => stuckM⟩
def C_is_state : DI.Ctx := ctxOf fW (fnTab T26) d0_is_state
def m_is_state (ds : List D) : M D := runB 100 C_is_state d0_is_state.body false [] ds
def d_is_state : FdT := ⟨"is_state", ["state"], ["state", "keys", "key"], false, [], false, none, 0, defArgs (top 16), defBody (top 16), defScope (top 16), m_is_state⟩
abbrev T25 : List FdT := d_is_state :: T26
def d0_check_states : FdT := ⟨"check_states", ["states"], ["states", "one"], false, [], false, none, 0, defArgs (top 28), defBody (top 28), defScope (top 28), fun _ => stuckM⟩
def C_check_states : DI.Ctx := ctxOf fW (fnTab T25) d0_check_states
def m_check_states (ds : List D) : M D := runB 100 C_check_states d0_check_states.body false [] ds
def d_check_states : FdT := ⟨"check_states", ["states"], ["states", "one"], false, [], false, none, 0, defArgs (top 28), defBody (top 28), defScope (top 28), m_check_states⟩
abbrev T24 : List FdT := d_check_states :: T25
def d0_with_waits : FdT := ⟨"with_waits", ["states", "waits"], ["states", "waits", "time", "found", "state", "wait"], false, [], false, none, 0, defArgs (top 27), defBody (top 27), defScope (top 27), fun _ => stuckM⟩
def C_with_waits : DI.Ctx := ctxOf fW (fnTab T24) d0_with_waits
def m_with_waits (ds : List D) : M D := runB 100 C_with_waits d0_with_waits.body false [] ds
def d_with_waits : FdT := ⟨"with_waits", ["states", "waits"], ["states", "waits", "time", "found", "state", "wait"], false, [], false, none, 0, defArgs (top 27), defBody (top 27), defScope (top 27), m_with_waits⟩
abbrev T23 : List FdT := d_with_waits :: T24
def d0_held_at : FdT := ⟨"held_at", ["plan", "keep", "time"], ["plan", "keep", "time", "found", "place", "begun", "state", "till"], false, [], false, none, 0, defArgs (top 21), defBody (top 21), defScope (top 21), fun _ => stuckM⟩
def C_held_at : DI.Ctx := ctxOf fW (fnTab T23) d0_held_at
def m_held_at (ds : List D) : M D := runB 100 C_held_at d0_held_at.body false [] ds
def d_held_at : FdT := ⟨"held_at", ["plan", "keep", "time"], ["plan", "keep", "time", "found", "place", "begun", "state", "till"], false, [], false, none, 0, defArgs (top 21), defBody (top 21), defScope (top 21), m_held_at⟩
abbrev T22 : List FdT := d_held_at :: T23
def d0_goes : FdT := ⟨"goes", ["handed", "told", "sealed"], ["handed", "told", "sealed", "first", "key"], false, [], false, none, 0, defArgs (top 20), defBody (top 20), defScope (top 20), fun _ => stuckM⟩
def C_goes : DI.Ctx := ctxOf fW (fnTab T22) d0_goes
def m_goes (ds : List D) : M D := runB 100 C_goes d0_goes.body false [] ds
def d_goes : FdT := ⟨"goes", ["handed", "told", "sealed"], ["handed", "told", "sealed", "first", "key"], false, [], false, none, 0, defArgs (top 20), defBody (top 20), defScope (top 20), m_goes⟩
abbrev T21 : List FdT := d_goes :: T22
def d0_known_state : FdT := ⟨"known_state", ["plan", "time"], ["plan", "time", "begun", "state"], false, [], false, none, 0, defArgs (top 19), defBody (top 19), defScope (top 19), fun _ => stuckM⟩
def C_known_state : DI.Ctx := ctxOf fW (fnTab T21) d0_known_state
def m_known_state (ds : List D) : M D := runB 100 C_known_state d0_known_state.body false [] ds
def d_known_state : FdT := ⟨"known_state", ["plan", "time"], ["plan", "time", "begun", "state"], false, [], false, none, 0, defArgs (top 19), defBody (top 19), defScope (top 19), m_known_state⟩
abbrev T20 : List FdT := d_known_state :: T21
def d0_broken_at : FdT := ⟨"broken_at", ["plan", "keeps", "time"], ["plan", "keeps", "time", "rows", "one", "two", "keep", "three"], false, [], false, none, 0, defArgs (top 23), defBody (top 23), defScope (top 23), fun _ => stuckM⟩
def C_broken_at : DI.Ctx := ctxOf fW (fnTab T20) d0_broken_at
def m_broken_at (ds : List D) : M D := runB 100 C_broken_at d0_broken_at.body false [] ds
def d_broken_at : FdT := ⟨"broken_at", ["plan", "keeps", "time"], ["plan", "keeps", "time", "rows", "one", "two", "keep", "three"], false, [], false, none, 0, defArgs (top 23), defBody (top 23), defScope (top 23), m_broken_at⟩
abbrev T19 : List FdT := d_broken_at :: T20
def d0_moments : FdT := ⟨"moments", ["plan", "keeps"], ["plan", "keeps", "found", "begun", "state", "keep"], false, [], false, none, 0, defArgs (top 22), defBody (top 22), defScope (top 22), fun _ => stuckM⟩
def C_moments : DI.Ctx := ctxOf fW (fnTab T19) d0_moments
def m_moments (ds : List D) : M D := runB 100 C_moments d0_moments.body false [] ds
def d_moments : FdT := ⟨"moments", ["plan", "keeps"], ["plan", "keeps", "found", "begun", "state", "keep"], false, [], false, none, 0, defArgs (top 22), defBody (top 22), defScope (top 22), m_moments⟩
abbrev T18 : List FdT := d_moments :: T19
def d0_check_keeps : FdT := ⟨"check_keeps", ["keeps"], ["keeps", "one"], false, [], false, none, 0, defArgs (top 18), defBody (top 18), defScope (top 18), fun _ => stuckM⟩
def C_check_keeps : DI.Ctx := ctxOf fW (fnTab T18) d0_check_keeps
def m_check_keeps (ds : List D) : M D := runB 100 C_check_keeps d0_check_keeps.body false [] ds
def d_check_keeps : FdT := ⟨"check_keeps", ["keeps"], ["keeps", "one"], false, [], false, none, 0, defArgs (top 18), defBody (top 18), defScope (top 18), m_check_keeps⟩
abbrev T17 : List FdT := d_check_keeps :: T18
def d0_check_plan : FdT := ⟨"check_plan", ["plan"], ["plan", "times", "time", "state", "row"], false, [], false, none, 0, defArgs (top 17), defBody (top 17), defScope (top 17), fun _ => stuckM⟩
def C_check_plan : DI.Ctx := ctxOf fW (fnTab T17) d0_check_plan
def m_check_plan (ds : List D) : M D := runB 100 C_check_plan d0_check_plan.body false [] ds
def d_check_plan : FdT := ⟨"check_plan", ["plan"], ["plan", "times", "time", "state", "row"], false, [], false, none, 0, defArgs (top 17), defBody (top 17), defScope (top 17), m_check_plan⟩
abbrev T16 : List FdT := d_check_plan :: T17
def d0_is_safe : FdT := ⟨"is_safe", ["plan", "keeps"], ["plan", "keeps", "time"], false, [], false, none, 0, defArgs (top 25), defBody (top 25), defScope (top 25), fun _ => stuckM⟩
def C_is_safe : DI.Ctx := ctxOf fW (fnTab T16) d0_is_safe
def m_is_safe (ds : List D) : M D := runB 100 C_is_safe d0_is_safe.body false [] ds
def d_is_safe : FdT := ⟨"is_safe", ["plan", "keeps"], ["plan", "keeps", "time"], false, [], false, none, 0, defArgs (top 25), defBody (top 25), defScope (top 25), m_is_safe⟩
abbrev T15 : List FdT := d_is_safe :: T16
def d0_least_waits : FdT := ⟨"least_waits", ["states", "keeps"], ["states", "keeps", "found", "place", "good", "wait"], false, [], false, none, 0, defArgs (top 29), defBody (top 29), defScope (top 29), fun _ => stuckM⟩
def C_least_waits : DI.Ctx := ctxOf fW (fnTab T15) d0_least_waits
def m_least_waits (ds : List D) : M D := runB 100 C_least_waits d0_least_waits.body false [] ds
def d_least_waits : FdT := ⟨"least_waits", ["states", "keeps"], ["states", "keeps", "found", "place", "good", "wait"], false, [], false, none, 0, defArgs (top 29), defBody (top 29), defScope (top 29), m_least_waits⟩
abbrev T14 : List FdT := d_least_waits :: T15
def d0_may_hold : FdT := ⟨"may_hold", ["plan", "keeps", "time"], ["plan", "keeps", "time", "keep"], false, [], false, none, 0, defArgs (top 26), defBody (top 26), defScope (top 26), fun _ => stuckM⟩
def C_may_hold : DI.Ctx := ctxOf fW (fnTab T14) d0_may_hold
def m_may_hold (ds : List D) : M D := runB 100 C_may_hold d0_may_hold.body false [] ds
def d_may_hold : FdT := ⟨"may_hold", ["plan", "keeps", "time"], ["plan", "keeps", "time", "keep"], false, [], false, none, 0, defArgs (top 26), defBody (top 26), defScope (top 26), m_may_hold⟩
abbrev T13 : List FdT := d_may_hold :: T14
def d0_first_break : FdT := ⟨"first_break", ["plan", "keeps"], ["plan", "keeps", "time", "found"], false, [], false, none, 0, defArgs (top 24), defBody (top 24), defScope (top 24), fun _ => stuckM⟩
def C_first_break : DI.Ctx := ctxOf fW (fnTab T13) d0_first_break
def m_first_break (ds : List D) : M D := runB 100 C_first_break d0_first_break.body false [] ds
def d_first_break : FdT := ⟨"first_break", ["plan", "keeps"], ["plan", "keeps", "time", "found"], false, [], false, none, 0, defArgs (top 24), defBody (top 24), defScope (top 24), m_first_break⟩
abbrev T12 : List FdT := d_first_break :: T13
def d0_law_refuses : FdT := ⟨"_law_refuses", [], ["good", "odd", "plan", "keeps", "a", "b", "c", "d"], false, [], true, none, 0, defArgs (top 44), defBody (top 44), defScope (top 44), fun _ => stuckM⟩
def C_law_refuses : DI.Ctx := ctxOf fW (fnTab T12) d0_law_refuses
def m_law_refuses (ds : List D) : M D := runB 100 C_law_refuses d0_law_refuses.body false [] ds
def d_law_refuses : FdT := ⟨"_law_refuses", [], ["good", "odd", "plan", "keeps", "a", "b", "c", "d"], false, [], true, none, 0, defArgs (top 44), defBody (top 44), defScope (top 44), m_law_refuses⟩
abbrev T11 : List FdT := d_law_refuses :: T12
def d0_law_plan : FdT := ⟨"_law_plan", ["states", "waits"], ["states", "waits", "now", "found", "k"], false, [], false, none, 0, defArgs (top 42), defBody (top 42), defScope (top 42), fun _ => stuckM⟩
def C_law_plan : DI.Ctx := ctxOf fW (fnTab T11) d0_law_plan
def m_law_plan (ds : List D) : M D := runB 100 C_law_plan d0_law_plan.body false [] ds
def d_law_plan : FdT := ⟨"_law_plan", ["states", "waits"], ["states", "waits", "now", "found", "k"], false, [], false, none, 0, defArgs (top 42), defBody (top 42), defScope (top 42), m_law_plan⟩
abbrev T10 : List FdT := d_law_plan :: T11
def d0_law_goes : FdT := ⟨"_law_goes", ["one", "two", "three"], ["one", "two", "three", "key"], false, [], false, none, 0, defArgs (top 40), defBody (top 40), defScope (top 40), fun _ => stuckM⟩
def C_law_goes : DI.Ctx := ctxOf fW (fnTab T10) d0_law_goes
def m_law_goes (ds : List D) : M D := runB 100 C_law_goes d0_law_goes.body false [] ds
def d_law_goes : FdT := ⟨"_law_goes", ["one", "two", "three"], ["one", "two", "three", "key"], false, [], false, none, 0, defArgs (top 40), defBody (top 40), defScope (top 40), m_law_goes⟩
abbrev T9 : List FdT := d_law_goes :: T10
def d0_law_held : FdT := ⟨"_law_held", ["plan", "keep", "time"], ["plan", "keep", "time", "found", "k", "begun", "till", "j"], false, [], false, none, 0, defArgs (top 39), defBody (top 39), defScope (top 39), fun _ => stuckM⟩
def C_law_held : DI.Ctx := ctxOf fW (fnTab T9) d0_law_held
def m_law_held (ds : List D) : M D := runB 100 C_law_held d0_law_held.body false [] ds
def d_law_held : FdT := ⟨"_law_held", ["plan", "keep", "time"], ["plan", "keep", "time", "found", "k", "begun", "till", "j"], false, [], false, none, 0, defArgs (top 39), defBody (top 39), defScope (top 39), m_law_held⟩
abbrev T8 : List FdT := d_law_held :: T9
def d0_law_break : FdT := ⟨"_law_break", ["plan", "keeps", "until"], ["plan", "keeps", "until", "time", "rows", "one", "two", "keep", "three"], false, [], false, none, 0, defArgs (top 41), defBody (top 41), defScope (top 41), fun _ => stuckM⟩
def C_law_break : DI.Ctx := ctxOf fW (fnTab T8) d0_law_break
def m_law_break (ds : List D) : M D := runB 100 C_law_break d0_law_break.body false [] ds
def d_law_break : FdT := ⟨"_law_break", ["plan", "keeps", "until"], ["plan", "keeps", "until", "time", "rows", "one", "two", "keep", "three"], false, [], false, none, 0, defArgs (top 41), defBody (top 41), defScope (top 41), m_law_break⟩
abbrev T7 : List FdT := d_law_break :: T8
def d0_law_waits : FdT := ⟨"_law_waits", ["states", "keeps"], ["states", "keeps", "waits", "k", "good", "wait", "plan"], false, [], false, none, 0, defArgs (top 43), defBody (top 43), defScope (top 43), fun _ => stuckM⟩
def C_law_waits : DI.Ctx := ctxOf fW (fnTab T7) d0_law_waits
def m_law_waits (ds : List D) : M D := runB 100 C_law_waits d0_law_waits.body false [] ds
def d_law_waits : FdT := ⟨"_law_waits", ["states", "keeps"], ["states", "keeps", "waits", "k", "good", "wait", "plan"], false, [], false, none, 0, defArgs (top 43), defBody (top 43), defScope (top 43), m_law_waits⟩
abbrev T6 : List FdT := d_law_waits :: T7
def d_law_next : FdT := ⟨"_law_next", ["state", "many"], ["state", "many", "turn"], true, [], false, none, 0, defArgs (top 35), defBody (top 35), defScope (top 35), DI.m_law_next⟩
abbrev T5 : List FdT := d_law_next :: T6
def d0_law_keys : FdT := ⟨"_law_keys", ["state", "some"], ["state", "some", "pool", "found", "key"], true, [], false, none, 0, defArgs (top 37), defBody (top 37), defScope (top 37), fun _ => stuckM⟩
def C_law_keys : DI.Ctx := ctxOf fW (fnTab T5) d0_law_keys
def m_law_keys (ds : List D) : M D := runB 100 C_law_keys d0_law_keys.body true [] ds
def d_law_keys : FdT := ⟨"_law_keys", ["state", "some"], ["state", "some", "pool", "found", "key"], true, [], false, none, 0, defArgs (top 37), defBody (top 37), defScope (top 37), m_law_keys⟩
abbrev T4 : List FdT := d_law_keys :: T5
def d0_law_state : FdT := ⟨"_law_state", ["state"], ["state", "told"], true, [], false, none, 0, defArgs (top 38), defBody (top 38), defScope (top 38), fun _ => stuckM⟩
def C_law_state : DI.Ctx := ctxOf fW (fnTab T4) d0_law_state
def m_law_state (ds : List D) : M D := runB 100 C_law_state d0_law_state.body true [] ds
def d_law_state : FdT := ⟨"_law_state", ["state"], ["state", "told"], true, [], false, none, 0, defArgs (top 38), defBody (top 38), defScope (top 38), m_law_state⟩
abbrev T3 : List FdT := d_law_state :: T4
def d_law_stream : FdT := ⟨"_law_stream", ["script"], ["script", "numbers", "cell", "rest", "k", "stirred"], false, [], false, none, 0, defArgs (top 34), defBody (top 34), defScope (top 34), DI.m_law_stream⟩
abbrev T2 : List FdT := d_law_stream :: T3
def d_law_same : FdT := ⟨"_law_same", ["told", "due"], ["told", "due"], false, [], false, none, 0, defArgs (top 33), defBody (top 33), defScope (top 33), DI.m_law_same⟩
abbrev T1 : List FdT := d_law_same :: T2
def d0_law : FdT := ⟨"law", ["script"], ["script", "state", "turn", "keeps", "states", "waits", "own", "plan", "until", "broken", "first", "time", "held", "told", "old", "new", "due", "k", "wait", "keep", "a", "b", "c"], false, [], true, some "state", 0, defArgs (top 45), defBody (top 45), defScope (top 45), fun _ => stuckM⟩
def C_law : DI.Ctx := ctxOf fW (fnTab T1) d0_law
def m_law (ds : List D) : M D := runB 100 C_law d0_law.body false [] ds
def d_law : FdT := ⟨"law", ["script"], ["script", "state", "turn", "keeps", "states", "waits", "own", "plan", "until", "broken", "first", "time", "held", "told", "old", "new", "due", "k", "wait", "keep", "a", "b", "c"], false, [], true, some "state", 0, defArgs (top 45), defBody (top 45), defScope (top 45), m_law⟩
abbrev T0 : List FdT := d_law :: T1
def tps : List Pos := [⟨160, 16, 160, 22⟩, ⟨160, 24, 160, 28⟩, ⟨160, 24, 160, 30⟩, ⟨160, 15, 160, 31⟩, ⟨160, 8, 160, 31⟩, ⟨161, 11, 161, 20⟩, ⟨162, 8, 162, 13⟩, ⟨162, 17, 162, 27⟩, ⟨162, 28, 162, 29⟩, ⟨162, 31, 162, 41⟩, ⟨162, 17, 162, 42⟩, ⟨162, 44, 162, 54⟩, ⟨162, 55, 162, 56⟩, ⟨162, 58, 162, 66⟩, ⟨162, 44, 162, 67⟩, ⟨162, 69, 162, 79⟩, ⟨162, 80, 162, 81⟩, ⟨162, 83, 162, 90⟩, ⟨162, 69, 162, 91⟩, ⟨162, 93, 162, 103⟩, ⟨162, 104, 162, 105⟩, ⟨162, 107, 162, 114⟩, ⟨162, 93, 162, 115⟩, ⟨162, 117, 162, 127⟩, ⟨162, 128, 162, 129⟩, ⟨162, 131, 162, 137⟩, ⟨162, 117, 162, 138⟩, ⟨162, 16, 162, 139⟩, ⟨162, 8, 162, 139⟩, ⟨163, 8, 163, 13⟩, ⟨163, 18, 163, 27⟩, ⟨163, 29, 163, 36⟩, ⟨163, 38, 163, 47⟩, ⟨163, 49, 163, 55⟩, ⟨163, 57, 163, 65⟩, ⟨163, 17, 163, 66⟩, ⟨163, 67, 163, 68⟩, ⟨163, 17, 163, 69⟩, ⟨163, 74, 163, 75⟩, ⟨163, 79, 163, 84⟩, ⟨163, 85, 163, 86⟩, ⟨163, 79, 163, 87⟩, ⟨163, 91, 163, 96⟩, ⟨163, 97, 163, 98⟩, ⟨163, 91, 163, 99⟩, ⟨163, 16, 163, 100⟩, ⟨163, 8, 163, 100⟩, ⟨164, 17, 164, 22⟩, ⟨164, 25, 164, 30⟩, ⟨164, 34, 164, 36⟩, ⟨164, 33, 164, 37⟩, ⟨164, 25, 164, 37⟩, ⟨164, 39, 164, 40⟩, ⟨164, 24, 164, 41⟩, ⟨164, 16, 164, 42⟩, ⟨164, 43, 164, 46⟩, ⟨164, 47, 164, 50⟩, ⟨164, 51, 164, 56⟩, ⟨164, 47, 164, 57⟩, ⟨164, 61, 164, 62⟩, ⟨164, 47, 164, 62⟩, ⟨164, 43, 164, 63⟩, ⟨164, 16, 164, 64⟩, ⟨164, 15, 164, 66⟩, ⟨164, 8, 164, 66⟩, ⟨161, 4, 164, 66⟩, ⟨159, 4, 164, 66⟩]
def told : Stmt := top 36
def csc : Scope := match defBody told with
  | [.Try _ [.ExceptHandler _ _ [_, .Assign _ (.ListComp _ _ sc _) _, _] _] _ _ _] => sc
  | _ => defScope told
def Z : RowD := ⟨d_law, T1, [("MAX_KEEP", 86400), ("MAX_KEY", 999), ("MAX_TIME", 1000000), ("MAX_STEPS", 12), ("MAX_WAIT", 5000)], 100, fun i => tps.getD i ⟨0, 0, 0, 0⟩, defArgs told, defScope told, csc⟩
def names : List Str := (["HandError", "NotAllowed", "TooLarge", "Missing", "BadForm", "Broken", "MAX_KEEP", "MAX_KEY", "MAX_TIME", "is_whole", "MAX_STEPS", "MAX_WAIT", "is_keys", "is_state", "check_plan", "check_keeps", "known_state", "goes", "held_at", "moments", "broken_at", "first_break", "is_safe", "may_hold", "with_waits", "check_states", "least_waits", "waits_for", "ahead_plan", "_law_same"] : List Str) ++ (["_law_stream", "_law_next", "_law_told", "_law_keys", "_law_state", "_law_held", "_law_goes", "_law_break", "_law_plan", "_law_waits", "_law_refuses"] : List Str)
abbrev R : PySem.W.OpenRow := PySem.W.OpenLaw.row PySem.Challenge.rw_handeddown_k32_whole_keys_turned_over
def ob (s : PySem.W.SharedT) : He.AlX := He.obsX 4 Z.fa Z.fn [] Z.tf Z.ex (HandSHeadRun.getT s)
theorem ob_eq (s : PySem.W.SharedT) : ob s = (Z.hk 4).obs s.abs := He.obsX_eq (HandSHeadRun.getT_eq s)
theorem told_ok : defBody told = toldBody Z.tp csc := by kernel_rfl
theorem run (w : World) : HandSHeadRun.RunEq R (PySem.W.view R.prog [45]) (Z.hk 4) ob 4000 names w := by
  intro os
  kernel_rfl
theorem s_law : Static d_law := ⟨⟨rfl, rfl, rfl, by decide +kernel, rfl, by decide +kernel, by decide +kernel⟩, rfl, fun _ _ _ _ _ _ us hl => match us, hl with | [_], _ => rfl⟩
theorem s_law_same : Static d_law_same := ⟨⟨rfl, rfl, rfl, by decide +kernel, rfl, by decide +kernel, by decide +kernel⟩, rfl, fun _ _ _ _ _ _ us hl => match us, hl with | [_, _], _ => rfl⟩
theorem s_law_stream : Static d_law_stream := ⟨⟨rfl, rfl, rfl, by decide +kernel, rfl, by decide +kernel, by decide +kernel⟩, rfl, fun _ _ _ _ _ _ us hl => match us, hl with | [_], _ => rfl⟩
theorem s_law_state : Static d_law_state := ⟨⟨rfl, rfl, rfl, by decide +kernel, rfl, by decide +kernel, by decide +kernel⟩, rfl, fun _ _ _ _ _ _ us hl => match us, hl with | [_], _ => rfl⟩
theorem s_law_keys : Static d_law_keys := ⟨⟨rfl, rfl, rfl, by decide +kernel, rfl, by decide +kernel, by decide +kernel⟩, rfl, fun _ _ _ _ _ _ us hl => match us, hl with | [_, _], _ => rfl⟩
theorem s_law_next : Static d_law_next := ⟨⟨rfl, rfl, rfl, by decide +kernel, rfl, by decide +kernel, by decide +kernel⟩, rfl, fun _ _ _ _ _ _ us hl => match us, hl with | [_, _], _ => rfl⟩
theorem s_law_waits : Static d_law_waits := ⟨⟨rfl, rfl, rfl, by decide +kernel, rfl, by decide +kernel, by decide +kernel⟩, rfl, fun _ _ _ _ _ _ us hl => match us, hl with | [_, _], _ => rfl⟩
theorem s_law_break : Static d_law_break := ⟨⟨rfl, rfl, rfl, by decide +kernel, rfl, by decide +kernel, by decide +kernel⟩, rfl, fun _ _ _ _ _ _ us hl => match us, hl with | [_, _, _], _ => rfl⟩
theorem s_law_held : Static d_law_held := ⟨⟨rfl, rfl, rfl, by decide +kernel, rfl, by decide +kernel, by decide +kernel⟩, rfl, fun _ _ _ _ _ _ us hl => match us, hl with | [_, _, _], _ => rfl⟩
theorem s_law_goes : Static d_law_goes := ⟨⟨rfl, rfl, rfl, by decide +kernel, rfl, by decide +kernel, by decide +kernel⟩, rfl, fun _ _ _ _ _ _ us hl => match us, hl with | [_, _, _], _ => rfl⟩
theorem s_law_plan : Static d_law_plan := ⟨⟨rfl, rfl, rfl, by decide +kernel, rfl, by decide +kernel, by decide +kernel⟩, rfl, fun _ _ _ _ _ _ us hl => match us, hl with | [_, _], _ => rfl⟩
theorem s_law_refuses : Static d_law_refuses := ⟨⟨rfl, rfl, rfl, by decide +kernel, rfl, by decide +kernel, by decide +kernel⟩, rfl, fun _ _ _ _ _ _ us hl => match us, hl with | [], _ => rfl⟩
theorem s_first_break : Static d_first_break := ⟨⟨rfl, rfl, rfl, by decide +kernel, rfl, by decide +kernel, by decide +kernel⟩, rfl, fun _ _ _ _ _ _ us hl => match us, hl with | [_, _], _ => rfl⟩
theorem s_may_hold : Static d_may_hold := ⟨⟨rfl, rfl, rfl, by decide +kernel, rfl, by decide +kernel, by decide +kernel⟩, rfl, fun _ _ _ _ _ _ us hl => match us, hl with | [_, _, _], _ => rfl⟩
theorem s_least_waits : Static d_least_waits := ⟨⟨rfl, rfl, rfl, by decide +kernel, rfl, by decide +kernel, by decide +kernel⟩, rfl, fun _ _ _ _ _ _ us hl => match us, hl with | [_, _], _ => rfl⟩
theorem s_is_safe : Static d_is_safe := ⟨⟨rfl, rfl, rfl, by decide +kernel, rfl, by decide +kernel, by decide +kernel⟩, rfl, fun _ _ _ _ _ _ us hl => match us, hl with | [_, _], _ => rfl⟩
theorem s_check_plan : Static d_check_plan := ⟨⟨rfl, rfl, rfl, by decide +kernel, rfl, by decide +kernel, by decide +kernel⟩, rfl, fun _ _ _ _ _ _ us hl => match us, hl with | [_], _ => rfl⟩
theorem s_check_keeps : Static d_check_keeps := ⟨⟨rfl, rfl, rfl, by decide +kernel, rfl, by decide +kernel, by decide +kernel⟩, rfl, fun _ _ _ _ _ _ us hl => match us, hl with | [_], _ => rfl⟩
theorem s_moments : Static d_moments := ⟨⟨rfl, rfl, rfl, by decide +kernel, rfl, by decide +kernel, by decide +kernel⟩, rfl, fun _ _ _ _ _ _ us hl => match us, hl with | [_, _], _ => rfl⟩
theorem s_broken_at : Static d_broken_at := ⟨⟨rfl, rfl, rfl, by decide +kernel, rfl, by decide +kernel, by decide +kernel⟩, rfl, fun _ _ _ _ _ _ us hl => match us, hl with | [_, _, _], _ => rfl⟩
theorem s_known_state : Static d_known_state := ⟨⟨rfl, rfl, rfl, by decide +kernel, rfl, by decide +kernel, by decide +kernel⟩, rfl, fun _ _ _ _ _ _ us hl => match us, hl with | [_, _], _ => rfl⟩
theorem s_goes : Static d_goes := ⟨⟨rfl, rfl, rfl, by decide +kernel, rfl, by decide +kernel, by decide +kernel⟩, rfl, fun _ _ _ _ _ _ us hl => match us, hl with | [_, _, _], _ => rfl⟩
theorem s_held_at : Static d_held_at := ⟨⟨rfl, rfl, rfl, by decide +kernel, rfl, by decide +kernel, by decide +kernel⟩, rfl, fun _ _ _ _ _ _ us hl => match us, hl with | [_, _, _], _ => rfl⟩
theorem s_with_waits : Static d_with_waits := ⟨⟨rfl, rfl, rfl, by decide +kernel, rfl, by decide +kernel, by decide +kernel⟩, rfl, fun _ _ _ _ _ _ us hl => match us, hl with | [_, _], _ => rfl⟩
theorem s_check_states : Static d_check_states := ⟨⟨rfl, rfl, rfl, by decide +kernel, rfl, by decide +kernel, by decide +kernel⟩, rfl, fun _ _ _ _ _ _ us hl => match us, hl with | [_], _ => rfl⟩
theorem s_is_state : Static d_is_state := ⟨⟨rfl, rfl, rfl, by decide +kernel, rfl, by decide +kernel, by decide +kernel⟩, rfl, fun _ _ _ _ _ _ us hl => match us, hl with | [_], _ => rfl⟩
theorem s_waits_for : Static d_waits_for := ⟨⟨rfl, rfl, rfl, by decide +kernel, rfl, by decide +kernel, by decide +kernel⟩, rfl, fun _ _ _ _ _ _ us hl => match us, hl with | [_, _], _ => rfl⟩
theorem s_ahead_plan : Static d_ahead_plan := ⟨⟨rfl, rfl, rfl, by decide +kernel, rfl, by decide +kernel, by decide +kernel⟩, rfl, fun _ _ _ _ _ _ us hl => match us, hl with | [_, _], _ => rfl⟩
theorem s_is_keys : Static d_is_keys := ⟨⟨rfl, rfl, rfl, by decide +kernel, rfl, by decide +kernel, by decide +kernel⟩, rfl, fun _ _ _ _ _ _ us hl => match us, hl with | [_], _ => rfl⟩
theorem s_is_whole : Static d_is_whole := ⟨⟨rfl, rfl, rfl, by decide +kernel, rfl, by decide +kernel, by decide +kernel⟩, rfl, fun _ _ _ _ _ _ us hl => match us, hl with | [_, _, _], _ => rfl⟩
theorem statics : AllD Static Z.all := ⟨s_law, s_law_same, s_law_stream, s_law_state, s_law_keys, s_law_next, s_law_waits, s_law_break, s_law_held, s_law_goes, s_law_plan, s_law_refuses, s_first_break, s_may_hold, s_least_waits, s_is_safe, s_check_plan, s_check_keeps, s_moments, s_broken_at, s_known_state, s_goes, s_held_at, s_with_waits, s_check_states, s_is_state, s_waits_for, s_ahead_plan, s_is_keys, s_is_whole, trivial⟩
theorem bnd_ret {α : Type} (m : M α) : (bnd m fun d => DI.ret d) = m := by
  funext s
  show R.next (m s) _ = _
  cases m s <;> rfl
abbrev rn (d : FdT) (r : List FdT) (ds : List D) : M D := kSs 100 (ctxOf fW (fnTab r) d) d.body (startE d.N d.st d.lend ds) outK
theorem rd {d : FdT} {r : List FdT} (h : ∀ ds s, d.sem ds s = .stuck ∨ rn d r ds s = d.sem ds s) : RefD Z.W d r := fun ds s => by
  show _ ∨ runB 100 _ _ _ _ _ _ = _
  rw [runB_eq]
  exact h ds s
theorem r_law : RefD Z.W d_law T1 := fun _ _ => .inr rfl
theorem r_law_same : RefD Z.W d_law_same T2 := rd fun ds s => by
  show m_law_same ds s = _ ∨ _ = m_law_same ds s
  unfold m_law_same
  split
  · rename_i a b
    right
    have h : rn d_law_same T2 [a, b] = bnd (m_law_same [a, b]) fun d => DI.ret d := by kernel_rfl
    rw [h, bnd_ret]
    rfl
  · left; rfl
def C2 : DI.Ctx := ctxOf fW (fnTab T3) d_law_stream
def sF : Stmt := d_law_stream.body.getD 1 (.Pass ⟨0, 0, 0, 0⟩)
def sI : Stmt := (forBody sF).getD 1 (.Pass ⟨0, 0, 0, 0⟩)
def sF1 : Stmt := (ifA sI).getD 0 (.Pass ⟨0, 0, 0, 0⟩)
def sF2 : Stmt := (ifB sI).getD 1 (.Pass ⟨0, 0, 0, 0⟩)
def FF := turnF 97 C2 sF
def FF1 := turnF 92 C2 sF1
def FF2 := turnF 91 C2 sF2
theorem h1 : ∀ s ns c r k t (y : Int), FF1 (.int y) (ev s ns c (some (.sh (.int r))) k t) = guardM (fits (ns.length + 1)) (if (r / 1009 == 0) = true then DI.ret (Fl.bk, ev s (ns ++ [.int (r % 1009)]) c (some (.sh (.int (r / 1009)))) (some (.sh (.int y))) t) else DI.ret (Fl.nx, ev s (ns ++ [.int (r % 1009)]) c (some (.sh (.int (r / 1009)))) (some (.sh (.int y))) t)) := fun s ns c r k t y => by
  unfold FF1
  rw [turnF_eq]
  kernel_rfl
theorem h2 : ∀ s ns c r k (t y : Int), FF2 (.int y) (ev s ns c r k (some (.sh (.int t)))) = bnd (stirR t y) fun d => bnd (itemR d y) fun e => guardM (fits (ns.length + 1)) (DI.ret (Fl.nx, ev s (ns ++ [e]) c r (some (.sh (.int y))) (some (.sh d)))) := fun s ns c r k t y => by
  unfold FF2
  rw [turnF_eq]
  kernel_rfl
theorem h0 : ∀ s ns c r k t (v : Int), FF (.int v) (ev s ns c r k t) = if decide (10 ^ 18 ≤ absI v) = true then bnd (loopM FF1 (rangeD 0 60) (ev s ns (some (.sh (.int v))) (some (.sh (.int (absI v)))) k t)) (endK (seqK 93 C2 [] (seqK 95 C2 [] retF)))
      else bnd (loopM FF2 (rangeD 0 10) (ev s ns (some (.sh (.int v))) (some (.sh (.int (absI v)))) k (some (.sh (.int (absI v % 2147483647)))))) (endK (seqK 92 C2 [] (seqK 95 C2 [] retF))) := fun s ns c r k t v => by
  unfold FF
  rw [turnF_eq]
  kernel_rfl
theorem hg : ∀ xs : List D, rn d_law_stream T3 [.list xs] = bnd (loopM FF (cutD xs none (some 63)) (ev (.list xs) [] none none none none)) (endK (seqK 98 C2 (d_law_stream.body.drop 2) outK)) := fun xs => by kernel_rfl
theorem hK0 : ∀ s ns c r k t, endK (seqK 98 C2 (d_law_stream.body.drop 2) outK) (.nx, ev s ns c r k t) = if ((ns.length : Int) == 0) = true then guardM (fits (ns.length + 1)) (DI.ret (.list (ns ++ [.int 0]))) else DI.ret (.list ns) := fun s ns c r k t => by kernel_rfl
theorem r_law_stream : RefD Z.W d_law_stream T3 := rd (stream_ref (K1 := endK (seqK 93 C2 [] (seqK 95 C2 [] retF))) (K2 := endK (seqK 92 C2 [] (seqK 95 C2 [] retF))) hg hK0 h0 (fun _ => rfl) (fun _ => rfl) h1 h2)
theorem r_law_state : RefD Z.W d_law_state T4 := fun _ _ => .inr rfl
theorem r_law_keys : RefD Z.W d_law_keys T5 := fun _ _ => .inr rfl
theorem r_law_next : RefD Z.W d_law_next T6 := rd fun ds s => next_ref ds s nextR (fun _ => rfl) (rn d_law_next T6) (fun m => by kernel_rfl)
theorem r_law_waits : RefD Z.W d_law_waits T7 := fun _ _ => .inr rfl
theorem r_law_break : RefD Z.W d_law_break T8 := fun _ _ => .inr rfl
theorem r_law_held : RefD Z.W d_law_held T9 := fun _ _ => .inr rfl
theorem r_law_goes : RefD Z.W d_law_goes T10 := fun _ _ => .inr rfl
theorem r_law_plan : RefD Z.W d_law_plan T11 := fun _ _ => .inr rfl
theorem r_law_refuses : RefD Z.W d_law_refuses T12 := fun _ _ => .inr rfl
theorem r_first_break : RefD Z.W d_first_break T13 := fun _ _ => .inr rfl
theorem r_may_hold : RefD Z.W d_may_hold T14 := fun _ _ => .inr rfl
theorem r_least_waits : RefD Z.W d_least_waits T15 := fun _ _ => .inr rfl
theorem r_is_safe : RefD Z.W d_is_safe T16 := fun _ _ => .inr rfl
theorem r_check_plan : RefD Z.W d_check_plan T17 := fun _ _ => .inr rfl
theorem r_check_keeps : RefD Z.W d_check_keeps T18 := fun _ _ => .inr rfl
theorem r_moments : RefD Z.W d_moments T19 := fun _ _ => .inr rfl
theorem r_broken_at : RefD Z.W d_broken_at T20 := fun _ _ => .inr rfl
theorem r_known_state : RefD Z.W d_known_state T21 := fun _ _ => .inr rfl
theorem r_goes : RefD Z.W d_goes T22 := fun _ _ => .inr rfl
theorem r_held_at : RefD Z.W d_held_at T23 := fun _ _ => .inr rfl
theorem r_with_waits : RefD Z.W d_with_waits T24 := fun _ _ => .inr rfl
theorem r_check_states : RefD Z.W d_check_states T25 := fun _ _ => .inr rfl
theorem r_is_state : RefD Z.W d_is_state T26 := fun _ _ => .inr rfl
theorem r_waits_for : RefD Z.W d_waits_for T27 := fun _ _ => .inr rfl
theorem r_ahead_plan : RefD Z.W d_ahead_plan T28 := fun _ _ => .inr rfl
theorem r_is_keys : RefD Z.W d_is_keys T29 := fun _ _ => .inr rfl
theorem r_is_whole : RefD Z.W d_is_whole T30 := fun _ _ => .inr rfl
theorem refs : RefAll Z.W Z.all := ⟨r_law, r_law_same, r_law_stream, r_law_state, r_law_keys, r_law_next, r_law_waits, r_law_break, r_law_held, r_law_goes, r_law_plan, r_law_refuses, r_first_break, r_may_hold, r_least_waits, r_is_safe, r_check_plan, r_check_keeps, r_moments, r_broken_at, r_known_state, r_goes, r_held_at, r_with_waits, r_check_states, r_is_state, r_waits_for, r_ahead_plan, r_is_keys, r_is_whole, trivial⟩
end K32
end
section
set_option Elab.async false
set_option linter.all false
set_option autoImplicit false
set_option maxRecDepth 100000
set_option maxHeartbeats 0
/-! K32s: each def as plain operations: written by gen3.py -/
namespace K32
open PySem DI
theorem m_is_whole_eq (v_value : D) (v_low : D) (v_high : D) : m_is_whole [v_value, v_low, v_high] = bnd (bnd (bnd (optM (isT "int" v_value)) fun b1 => DI.ret (.bool b1)) fun x2 => bnd (truthM x2) fun b3 => if b3 = true then bnd (cmpM .LtE v_low v_value) fun c4 => if c4 = true then bnd (cmpM .LtE v_value v_high) fun c5 => DI.ret (.bool c5) else DI.ret (.bool false) else DI.ret x2) fun d6 => DI.ret d6 := by
  unfold m_is_whole
  rw [runB_eq]
  kernel_rfl
def c_is_keys_1 : DI.Env → D → M (Option D) := cF 84 C_is_keys (sb 0 (sb 0 (sb 2 (asgVal (d0_is_keys.body.getD 0 (.Pass ⟨0, 0, 0, 0⟩))))))
theorem c_is_keys_1_eq (v_keys : D) (key25 : D) : c_is_keys_1 [some (.sh v_keys), none] key25 = noErrM (bnd (purely (m_is_whole [key25, .int 1, .int 999])) fun y26 => DI.ret (some y26)) := by kernel_rfl
theorem m_is_keys_eq (v_keys : D) : m_is_keys [v_keys] = bnd (bnd (bnd (bnd (bnd (optM (isT "tuple" v_keys)) fun b7 => DI.ret (.bool b7)) fun x8 => truthM x8) fun b9 => DI.ret (!b9)) fun b10 => if b10 = true then DI.ret true else bnd (bnd (biM .len [v_keys]) fun x11 => cmpM .Eq x11 (.int 0)) fun b12 => if b12 = true then DI.ret true else bnd (bnd (bnd (bnd (bnd (optM (seqOf v_keys)) fun xs13 => guardM (fits xs13.length) (bnd (compM (c_is_keys_1 [some (.sh v_keys), none]) xs13) fun ds => DI.ret (.list ds))) fun x14 => DI.ret [x14]) fun x15 => biM .all x15) fun x16 => truthM x16) fun b17 => DI.ret (!b17)) fun c18 => if c18 = true then DI.ret (.bool false) else bnd (bnd (biM .list [v_keys]) fun x19 => bnd (bnd (optM (seqOf v_keys)) fun xs20 => bnd (optM (intsOf xs20)) fun ns21 => guardM (decide (ns21.length < 63)) (DI.ret (.list (List.map PyData.int (setI ns21))))) fun x22 => bnd (cmpM .Eq x19 x22) fun c23 => DI.ret (.bool c23)) fun d24 => DI.ret d24 := by
  unfold m_is_keys
  rw [runB_eq]
  kernel_rfl
def c_is_state_1 : DI.Env → D → M (Option D) := cF 84 C_is_state (sb 0 (sb 0 (sb 2 (asgVal (d0_is_state.body.getD 0 (.Pass ⟨0, 0, 0, 0⟩))))))
def c_is_state_2 : DI.Env → D → M (List D) := cG 90 C_is_state (sb 0 (asgVal (d0_is_state.body.getD 1 (.Pass ⟨0, 0, 0, 0⟩))))
def c_is_state_2i : DI.Env → D → M (Option D) := cGi 90 C_is_state (sb 0 (asgVal (d0_is_state.body.getD 1 (.Pass ⟨0, 0, 0, 0⟩))))
theorem c_is_state_1_eq (v_state : D) (keys44 : D) : c_is_state_1 [some (.sh v_state), none, none] keys44 = noErrM (bnd (purely (m_is_keys [keys44])) fun y45 => DI.ret (some y45)) := by kernel_rfl
theorem c_is_state_2_eq (v_state : D) (keys46 : D) : c_is_state_2 [some (.sh v_state), none, none] keys46 = noErrM (bnd (optM (seqOf keys46)) fun ys47 => compM (c_is_state_2i [some (.sh v_state), some (.sh keys46), none]) ys47) := by kernel_rfl
theorem c_is_state_2i_eq (v_state : D) (v_keys : D) (key48 : D) : c_is_state_2i [some (.sh v_state), some (.sh v_keys), none] key48 = noErrM (bnd (bnd (ixM v_state (.int 1)) fun x49 => bnd (cmpM .In key48 x49) fun c50 => DI.ret (.bool c50)) fun y51 => DI.ret (some y51)) := by kernel_rfl
theorem m_is_state_eq (v_state : D) : m_is_state [v_state] = bnd (bnd (bnd (bnd (bnd (optM (isT "tuple" v_state)) fun b27 => DI.ret (.bool b27)) fun x28 => truthM x28) fun b29 => DI.ret (!b29)) fun b30 => if b30 = true then DI.ret true else bnd (bnd (biM .len [v_state]) fun x31 => cmpM .NotEq x31 (.int 4)) fun b32 => if b32 = true then DI.ret true else bnd (bnd (bnd (bnd (bnd (optM (seqOf v_state)) fun xs33 => guardM (fits xs33.length) (bnd (compM (c_is_state_1 [some (.sh v_state), none, none]) xs33) fun ds => DI.ret (.list ds))) fun x34 => DI.ret [x34]) fun x35 => biM .all x35) fun x36 => truthM x36) fun b37 => DI.ret (!b37)) fun c38 => if c38 = true then DI.ret (.bool false) else bnd (bnd (bnd (bnd (bnd (sliceM v_state (some 2) none) fun x39 => optM (seqOf x39)) fun xs40 => bnd (compLM (c_is_state_2 [some (.sh v_state), none, none]) xs40) fun ds => guardM (fits ds.length) (DI.ret (.list ds))) fun x41 => DI.ret [x41]) fun x42 => biM .all x42) fun d43 => DI.ret d43 := by
  unfold m_is_state
  rw [runB_eq]
  kernel_rfl
def c_check_plan_1 : DI.Env → D → M (Option D) := cF 87 C_check_plan (sb 0 (sb 0 (asgVal (d0_check_plan.body.getD 1 (.Pass ⟨0, 0, 0, 0⟩)))))
def c_check_plan_2 : DI.Env → D → M (Option D) := cF 95 C_check_plan (asgVal (d0_check_plan.body.getD 2 (.Pass ⟨0, 0, 0, 0⟩)))
def c_check_plan_3 : DI.Env → D → M (Option D) := cF 81 C_check_plan (sb 0 (sb 0 (sb 2 (asgVal (d0_check_plan.body.getD 3 (.Pass ⟨0, 0, 0, 0⟩))))))
theorem c_check_plan_1_eq (v_plan : D) (row80 : D) : c_check_plan_1 [some (.sh v_plan), none, none, none, none] row80 = noErrM (bnd (bnd (bnd (optM (isT "tuple" row80)) fun b81 => DI.ret (.bool b81)) fun x82 => bnd (truthM x82) fun b83 => if b83 = true then bnd (bnd (biM .len [row80]) fun x84 => bnd (cmpM .Eq x84 (.int 2)) fun c85 => DI.ret (.bool c85)) fun x86 => bnd (truthM x86) fun b87 => if b87 = true then bnd (bnd (ixM row80 (.int 1)) fun x88 => DI.ret [x88]) fun x89 => guardM (decide (x89.length = 1)) (purely (m_is_state x89)) else DI.ret x86 else DI.ret x82) fun y90 => DI.ret (some y90)) := by kernel_rfl
theorem c_check_plan_2_eq (v_plan : D) (time91 : D) (state92 : D) : c_check_plan_2 [some (.sh v_plan), none, none, none, none] (.tuple [time91, state92]) = noErrM (DI.ret (some time91)) := by kernel_rfl
theorem c_check_plan_3_eq (v_plan : D) (v_times : D) (time93 : D) : c_check_plan_3 [some (.sh v_plan), some (.ow v_times), none, none, none] time93 = noErrM (bnd (purely (m_is_whole [time93, .int 0, .int 1000000])) fun y94 => DI.ret (some y94)) := by kernel_rfl
theorem m_check_plan_eq (v_plan : D) : m_check_plan [v_plan] = bnd (bnd (bnd (bnd (bnd (optM (isT "tuple" v_plan)) fun b52 => DI.ret (.bool b52)) fun x53 => truthM x53) fun b54 => DI.ret (!b54)) fun b55 => if b55 = true then DI.ret true else bnd (bnd (biM .len [v_plan]) fun x56 => bnd (cmpM .LtE (.int 1) x56) fun c57 => if c57 = true then cmpM .LtE x56 (.int 12) else DI.ret false) fun b58 => DI.ret (!b58)) fun c59 => if c59 = true then throwM ⟨"NotAllowed"⟩ else bnd (bnd (bnd (bnd (bnd (bnd (optM (seqOf v_plan)) fun xs60 => guardM (fits xs60.length) (bnd (compM (c_check_plan_1 [some (.sh v_plan), none, none, none, none]) xs60) fun ds => DI.ret (.list ds))) fun x61 => DI.ret [x61]) fun x62 => biM .all x62) fun x63 => truthM x63) fun b64 => DI.ret (!b64)) fun c65 => if c65 = true then throwM ⟨"NotAllowed"⟩ else bnd (bnd (optM (seqOf v_plan)) fun xs66 => guardM (fits xs66.length) (bnd (compM (c_check_plan_2 [some (.sh v_plan), none, none, none, none]) xs66) fun ds => DI.ret (.list ds))) fun times_67 => bnd (bnd (bnd (ixM times_67 (.int 0)) fun x68 => cmpM .NotEq x68 (.int 0)) fun b69 => if b69 = true then DI.ret true else bnd (bnd (bnd (optM (seqOf times_67)) fun xs70 => bnd (optM (intsOf xs70)) fun ns71 => guardM (decide (ns71.length < 63)) (DI.ret (.list (List.map PyData.int (setI ns71))))) fun x72 => cmpM .NotEq times_67 x72) fun b73 => if b73 = true then DI.ret true else bnd (bnd (bnd (bnd (bnd (optM (seqOf times_67)) fun xs74 => guardM (fits xs74.length) (bnd (compM (c_check_plan_3 [some (.sh v_plan), some (.ow times_67), none, none, none]) xs74) fun ds => DI.ret (.list ds))) fun x75 => DI.ret [x75]) fun x76 => biM .all x76) fun x77 => truthM x77) fun b78 => DI.ret (!b78)) fun c79 => if c79 = true then throwM ⟨"NotAllowed"⟩ else DI.ret .none := by
  unfold m_check_plan
  rw [runB_eq]
  kernel_rfl
def c_check_keeps_1 : DI.Env → D → M (Option D) := cF 84 C_check_keeps (sb 0 (sb 0 (sb 2 (asgVal (d0_check_keeps.body.getD 0 (.Pass ⟨0, 0, 0, 0⟩))))))
theorem c_check_keeps_1_eq (v_keeps : D) (one107 : D) : c_check_keeps_1 [some (.sh v_keeps), none] one107 = noErrM (bnd (purely (m_is_whole [one107, .int 0, .int 86400])) fun y108 => DI.ret (some y108)) := by kernel_rfl
theorem m_check_keeps_eq (v_keeps : D) : m_check_keeps [v_keeps] = bnd (bnd (bnd (bnd (bnd (optM (isT "tuple" v_keeps)) fun b95 => DI.ret (.bool b95)) fun x96 => truthM x96) fun b97 => DI.ret (!b97)) fun b98 => if b98 = true then DI.ret true else bnd (bnd (biM .len [v_keeps]) fun x99 => cmpM .NotEq x99 (.int 3)) fun b100 => if b100 = true then DI.ret true else bnd (bnd (bnd (bnd (bnd (optM (seqOf v_keeps)) fun xs101 => guardM (fits xs101.length) (bnd (compM (c_check_keeps_1 [some (.sh v_keeps), none]) xs101) fun ds => DI.ret (.list ds))) fun x102 => DI.ret [x102]) fun x103 => biM .all x103) fun x104 => truthM x104) fun b105 => DI.ret (!b105)) fun c106 => if c106 = true then throwM ⟨"NotAllowed"⟩ else DI.ret .none := by
  unfold m_check_keeps
  rw [runB_eq]
  kernel_rfl
def c_known_state_1 : DI.Env → D → M (Option D) := cF 94 C_known_state (sb 0 (asgVal (d0_known_state.body.getD 0 (.Pass ⟨0, 0, 0, 0⟩))))
theorem c_known_state_1_eq (v_plan : D) (v_time : D) (begun113 : D) (state114 : D) : c_known_state_1 [some (.sh v_plan), some (.sh v_time), none, none] (.tuple [begun113, state114]) = noErrM (bnd (cmpM .LtE begun113 v_time) fun c115 => if c115 = true then DI.ret (some state114) else DI.ret none) := by kernel_rfl
theorem m_known_state_eq (v_plan : D) (v_time : D) : m_known_state [v_plan, v_time] = bnd (bnd (bnd (optM (seqOf v_plan)) fun xs109 => guardM (fits xs109.length) (bnd (compM (c_known_state_1 [some (.sh v_plan), some (.sh v_time), none, none]) xs109) fun ds => DI.ret (.list ds))) fun x110 => bnd (unM .USub (.int 1)) fun x111 => ixM x110 x111) fun d112 => DI.ret d112 := by
  unfold m_known_state
  rw [runB_eq]
  kernel_rfl
def c_goes_1 : DI.Env → D → M (Option D) := cF 97 C_goes (asgVal (d0_goes.body.getD 0 (.Pass ⟨0, 0, 0, 0⟩)))
def c_goes_2 : DI.Env → D → M (Option D) := cF 87 C_goes (sb 0 (sb 1 (asgVal (d0_goes.body.getD 1 (.Pass ⟨0, 0, 0, 0⟩)))))
theorem c_goes_1_eq (v_handed : D) (v_told : D) (v_sealed : D) (key128 : D) : c_goes_1 [some (.sh v_handed), some (.sh v_told), some (.sh v_sealed), none, none] key128 = noErrM (bnd (bnd (ixM v_handed (.int 0)) fun x129 => cmpM .In key128 x129) fun c130 => if c130 = true then DI.ret (some key128) else DI.ret none) := by kernel_rfl
theorem c_goes_2_eq (v_handed : D) (v_told : D) (v_sealed : D) (v_first : D) (key131 : D) : c_goes_2 [some (.sh v_handed), some (.sh v_told), some (.sh v_sealed), some (.ow v_first), none] key131 = noErrM (bnd (bnd (ixM v_told (.int 1)) fun x132 => bnd (cmpM .In key131 x132) fun c133 => DI.ret (.bool c133)) fun y134 => DI.ret (some y134)) := by kernel_rfl
theorem m_goes_eq (v_handed : D) (v_told : D) (v_sealed : D) : m_goes [v_handed, v_told, v_sealed] = bnd (bnd (bnd (ixM v_told (.int 2)) fun x116 => optM (seqOf x116)) fun xs117 => guardM (fits xs117.length) (bnd (compM (c_goes_1 [some (.sh v_handed), some (.sh v_told), some (.sh v_sealed), none, none]) xs117) fun ds => DI.ret (.list ds))) fun first_118 => bnd (bnd (bnd (biM .len [first_118]) fun x119 => bnd (cmpM .Gt x119 (.int 0)) fun c120 => DI.ret (.bool c120)) fun x121 => bnd (truthM x121) fun b122 => if b122 = true then bnd (bnd (bnd (bnd (ixM v_sealed (.int 3)) fun x123 => optM (seqOf x123)) fun xs124 => guardM (fits xs124.length) (bnd (compM (c_goes_2 [some (.sh v_handed), some (.sh v_told), some (.sh v_sealed), some (.ow first_118), none]) xs124) fun ds => DI.ret (.list ds))) fun x125 => DI.ret [x125]) fun x126 => biM .any x126 else DI.ret x121) fun d127 => DI.ret d127 := by
  unfold m_goes
  rw [runB_eq]
  kernel_rfl
def f_held_at_1 : D → DI.Env → M (Fl × DI.Env) := turnF 97 C_held_at (d0_held_at.body.getD 1 (.Pass ⟨0, 0, 0, 0⟩))
def k_held_at_1 := seqK 98 C_held_at (d0_held_at.body.drop 2) outK
theorem f_held_at_1_eq (v_plan : D) (v_keep : D) (v_time : D) (l_found : List D) (o_place : Option SV) (o_begun : Option SV) (o_state : Option SV) (o_till : Option SV) (place137 : D) (begun138 : D) (state139 : D) : f_held_at_1 (.tuple [place137, (.tuple [begun138, state139])]) [some (.sh v_plan), some (.sh v_keep), some (.sh v_time), some (.ow (.list l_found)), o_place, o_begun, o_state, o_till] = bnd (bnd (bnd (binM .Add place137 (.int 1)) fun x140 => bnd (biM .len [v_plan]) fun x141 => cmpM .Lt x140 x141) fun c142 => if c142 = true then bnd (bnd (binM .Add place137 (.int 1)) fun x143 => ixM v_plan x143) fun x144 => ixM x144 (.int 0) else binM .Add v_time (.int 1)) fun till_145 => bnd (bnd (cmpM .LtE begun138 v_time) fun b146 => if b146 = true then bnd (cmpM .Gt till_145 v_time) fun b147 => if b147 = true then DI.ret true else bnd (binM .Sub v_time till_145) fun x148 => cmpM .Lt x148 v_keep else DI.ret false) fun c149 => if c149 = true then guardM (fits (l_found.length + 1)) (DI.ret (Fl.nx, [some (.sh v_plan), some (.sh v_keep), some (.sh v_time), some (.ow (.list (l_found ++ [begun138]))), some (.sh place137), some (.sh begun138), some (.sh state139), some (.sh till_145)])) else DI.ret (Fl.nx, [some (.sh v_plan), some (.sh v_keep), some (.sh v_time), some (.ow (.list l_found)), some (.sh place137), some (.sh begun138), some (.sh state139), some (.sh till_145)]) := by
  unfold f_held_at_1
  rw [turnF_eq]
  kernel_rfl
theorem k_held_at_1_eq (v_plan : D) (v_keep : D) (v_time : D) (l_found : List D) (o_place : Option SV) (o_begun : Option SV) (o_state : Option SV) (o_till : Option SV) : endK k_held_at_1 (Fl.nx, [some (.sh v_plan), some (.sh v_keep), some (.sh v_time), some (.ow (.list l_found)), o_place, o_begun, o_state, o_till]) = DI.ret (.list l_found) := by kernel_rfl
theorem m_held_at_eq (v_plan : D) (v_keep : D) (v_time : D) : m_held_at [v_plan, v_keep, v_time] = bnd (bnd (optM (seqOf v_plan)) fun xs135 => DI.ret (enumD xs135)) fun xs136 => bnd (loopM f_held_at_1 xs136 [some (.sh v_plan), some (.sh v_keep), some (.sh v_time), some (.ow (.list [])), none, none, none, none]) (endK k_held_at_1) := by
  unfold m_held_at
  rw [runB_eq]
  kernel_rfl
def f_moments_1 : D → DI.Env → M (Fl × DI.Env) := turnF 97 C_moments (d0_moments.body.getD 1 (.Pass ⟨0, 0, 0, 0⟩))
def k_moments_1 := seqK 98 C_moments (d0_moments.body.drop 2) outK
def f_moments_2 : D → DI.Env → M (Fl × DI.Env) := turnF 94 C_moments ((forBody (d0_moments.body.getD 1 (.Pass ⟨0, 0, 0, 0⟩))).getD 1 (.Pass ⟨0, 0, 0, 0⟩))
def k_moments_2 := seqK 95 C_moments ((forBody (d0_moments.body.getD 1 (.Pass ⟨0, 0, 0, 0⟩))).drop 2) retF
theorem f_moments_1_eq (v_plan : D) (v_keeps : D) (v_found : D) (o_begun : Option SV) (o_state : Option SV) (o_keep : Option SV) (begun151 : D) (state152 : D) : f_moments_1 (.tuple [begun151, state152]) [some (.sh v_plan), some (.sh v_keeps), some (.ow v_found), o_begun, o_state, o_keep] = bnd (optM (setO v_found begun151 (.bool true))) fun o153 => bnd (optM (seqOf v_keeps)) fun xs154 => bnd (loopM f_moments_2 xs154 [some (.sh v_plan), some (.sh v_keeps), some (.ow o153), some (.sh begun151), some (.sh state152), o_keep]) (endK k_moments_2) := by
  unfold f_moments_1
  rw [turnF_eq]
  kernel_rfl
theorem k_moments_1_eq (v_plan : D) (v_keeps : D) (v_found : D) (o_begun : Option SV) (o_state : Option SV) (o_keep : Option SV) : endK k_moments_1 (Fl.nx, [some (.sh v_plan), some (.sh v_keeps), some (.ow v_found), o_begun, o_state, o_keep]) = bnd (biM .sorted [v_found]) fun d155 => DI.ret d155 := by kernel_rfl
theorem f_moments_2_eq (v_plan : D) (v_keeps : D) (v_found : D) (v_begun : D) (v_state : D) (o_keep : Option SV) (keep156 : D) : f_moments_2 keep156 [some (.sh v_plan), some (.sh v_keeps), some (.ow v_found), some (.sh v_begun), some (.sh v_state), o_keep] = bnd (binM .Add v_begun keep156) fun x157 => bnd (optM (setO v_found x157 (.bool true))) fun o158 => DI.ret (Fl.nx, [some (.sh v_plan), some (.sh v_keeps), some (.ow o158), some (.sh v_begun), some (.sh v_state), some (.sh keep156)]) := by
  unfold f_moments_2
  rw [turnF_eq]
  kernel_rfl
theorem k_moments_2_eq (v_plan : D) (v_keeps : D) (v_found : D) (v_begun : D) (v_state : D) (o_keep : Option SV) : endK k_moments_2 (Fl.nx, [some (.sh v_plan), some (.sh v_keeps), some (.ow v_found), some (.sh v_begun), some (.sh v_state), o_keep]) = DI.ret (Fl.nx, [some (.sh v_plan), some (.sh v_keeps), some (.ow v_found), some (.sh v_begun), some (.sh v_state), o_keep]) := by kernel_rfl
theorem m_moments_eq (v_plan : D) (v_keeps : D) : m_moments [v_plan, v_keeps] = bnd (optM (seqOf v_plan)) fun xs150 => bnd (loopM f_moments_1 xs150 [some (.sh v_plan), some (.sh v_keeps), some (.ow (.dict [])), none, none, none]) (endK k_moments_1) := by
  unfold m_moments
  rw [runB_eq]
  kernel_rfl
def c_broken_at_1 : DI.Env → D → M (Option D) := cF 97 C_broken_at (asgVal (d0_broken_at.body.getD 0 (.Pass ⟨0, 0, 0, 0⟩)))
def f_broken_at_2 : D → DI.Env → M (Fl × DI.Env) := turnF 97 C_broken_at (d0_broken_at.body.getD 1 (.Pass ⟨0, 0, 0, 0⟩))
def k_broken_at_2 := seqK 98 C_broken_at (d0_broken_at.body.drop 2) outK
def f_broken_at_3 : D → DI.Env → M (Fl × DI.Env) := turnF 95 C_broken_at ((forBody (d0_broken_at.body.getD 1 (.Pass ⟨0, 0, 0, 0⟩))).getD 0 (.Pass ⟨0, 0, 0, 0⟩))
def k_broken_at_3 := seqK 96 C_broken_at ((forBody (d0_broken_at.body.getD 1 (.Pass ⟨0, 0, 0, 0⟩))).drop 1) retF
def f_broken_at_4 : D → DI.Env → M (Fl × DI.Env) := turnF 93 C_broken_at ((forBody ((forBody (d0_broken_at.body.getD 1 (.Pass ⟨0, 0, 0, 0⟩))).getD 0 (.Pass ⟨0, 0, 0, 0⟩))).getD 0 (.Pass ⟨0, 0, 0, 0⟩))
def k_broken_at_4 := seqK 94 C_broken_at ((forBody ((forBody (d0_broken_at.body.getD 1 (.Pass ⟨0, 0, 0, 0⟩))).getD 0 (.Pass ⟨0, 0, 0, 0⟩))).drop 1) retF
theorem c_broken_at_1_eq (v_plan : D) (v_keeps : D) (v_time : D) (keep163 : D) : c_broken_at_1 [some (.sh v_plan), some (.sh v_keeps), some (.sh v_time), none, none, none, none, none] keep163 = noErrM (bnd (purely (m_held_at [v_plan, keep163, v_time])) fun y164 => DI.ret (some y164)) := by kernel_rfl
theorem f_broken_at_2_eq (v_plan : D) (v_keeps : D) (v_time : D) (v_rows : D) (o_one : Option SV) (o_two : Option SV) (o_three : Option SV) (one165 : D) : f_broken_at_2 one165 [some (.sh v_plan), some (.sh v_keeps), some (.sh v_time), some (.ow v_rows), o_one, o_two, none, o_three] = bnd (bnd (ixM v_rows (.int 1)) fun x166 => optM (seqOf x166)) fun xs167 => bnd (loopM f_broken_at_3 xs167 [some (.sh v_plan), some (.sh v_keeps), some (.sh v_time), some (.ow v_rows), some (.sh one165), o_two, none, o_three]) (endK k_broken_at_3) := by
  unfold f_broken_at_2
  rw [turnF_eq]
  kernel_rfl
theorem k_broken_at_2_eq (v_plan : D) (v_keeps : D) (v_time : D) (v_rows : D) (o_one : Option SV) (o_two : Option SV) (o_three : Option SV) : endK k_broken_at_2 (Fl.nx, [some (.sh v_plan), some (.sh v_keeps), some (.sh v_time), some (.ow v_rows), o_one, o_two, none, o_three]) = DI.ret .none := by kernel_rfl
theorem f_broken_at_3_eq (v_plan : D) (v_keeps : D) (v_time : D) (v_rows : D) (v_one : D) (o_two : Option SV) (o_three : Option SV) (two168 : D) : f_broken_at_3 two168 [some (.sh v_plan), some (.sh v_keeps), some (.sh v_time), some (.ow v_rows), some (.sh v_one), o_two, none, o_three] = bnd (bnd (ixM v_rows (.int 2)) fun x169 => optM (seqOf x169)) fun xs170 => bnd (loopM f_broken_at_4 xs170 [some (.sh v_plan), some (.sh v_keeps), some (.sh v_time), some (.ow v_rows), some (.sh v_one), some (.sh two168), none, o_three]) (endK k_broken_at_4) := by
  unfold f_broken_at_3
  rw [turnF_eq]
  kernel_rfl
theorem k_broken_at_3_eq (v_plan : D) (v_keeps : D) (v_time : D) (v_rows : D) (v_one : D) (o_two : Option SV) (o_three : Option SV) : endK k_broken_at_3 (Fl.nx, [some (.sh v_plan), some (.sh v_keeps), some (.sh v_time), some (.ow v_rows), some (.sh v_one), o_two, none, o_three]) = DI.ret (Fl.nx, [some (.sh v_plan), some (.sh v_keeps), some (.sh v_time), some (.ow v_rows), some (.sh v_one), o_two, none, o_three]) := by kernel_rfl
theorem f_broken_at_4_eq (v_plan : D) (v_keeps : D) (v_time : D) (v_rows : D) (v_one : D) (v_two : D) (o_three : Option SV) (three171 : D) : f_broken_at_4 three171 [some (.sh v_plan), some (.sh v_keeps), some (.sh v_time), some (.ow v_rows), some (.sh v_one), some (.sh v_two), none, o_three] = bnd (bnd (bnd (bnd (bnd (purely (m_known_state [v_plan, v_one])) fun x172 => bnd (bnd (purely (m_known_state [v_plan, v_two])) fun x173 => bnd (bnd (purely (m_known_state [v_plan, three171])) fun x174 => DI.ret [x174]) fun ds175 => DI.ret (x173 :: ds175)) fun ds176 => DI.ret (x172 :: ds176)) fun x177 => guardM (decide (x177.length = 3)) (purely (m_goes x177))) fun x178 => truthM x178) fun b179 => DI.ret (!b179)) fun c180 => if c180 = true then DI.ret (Fl.rt (.tuple [v_one, v_two, three171]), [some (.sh v_plan), some (.sh v_keeps), some (.sh v_time), some (.ow v_rows), some (.sh v_one), some (.sh v_two), none, some (.sh three171)]) else DI.ret (Fl.nx, [some (.sh v_plan), some (.sh v_keeps), some (.sh v_time), some (.ow v_rows), some (.sh v_one), some (.sh v_two), none, some (.sh three171)]) := by
  unfold f_broken_at_4
  rw [turnF_eq]
  kernel_rfl
theorem k_broken_at_4_eq (v_plan : D) (v_keeps : D) (v_time : D) (v_rows : D) (v_one : D) (v_two : D) (o_three : Option SV) : endK k_broken_at_4 (Fl.nx, [some (.sh v_plan), some (.sh v_keeps), some (.sh v_time), some (.ow v_rows), some (.sh v_one), some (.sh v_two), none, o_three]) = DI.ret (Fl.nx, [some (.sh v_plan), some (.sh v_keeps), some (.sh v_time), some (.ow v_rows), some (.sh v_one), some (.sh v_two), none, o_three]) := by kernel_rfl
theorem m_broken_at_eq (v_plan : D) (v_keeps : D) (v_time : D) : m_broken_at [v_plan, v_keeps, v_time] = bnd (bnd (optM (seqOf v_keeps)) fun xs159 => guardM (fits xs159.length) (bnd (compM (c_broken_at_1 [some (.sh v_plan), some (.sh v_keeps), some (.sh v_time), none, none, none, none, none]) xs159) fun ds => DI.ret (.list ds))) fun rows_160 => bnd (bnd (ixM rows_160 (.int 0)) fun x161 => optM (seqOf x161)) fun xs162 => bnd (loopM f_broken_at_2 xs162 [some (.sh v_plan), some (.sh v_keeps), some (.sh v_time), some (.ow rows_160), none, none, none, none]) (endK k_broken_at_2) := by
  unfold m_broken_at
  rw [runB_eq]
  kernel_rfl
def f_first_break_1 : D → DI.Env → M (Fl × DI.Env) := turnF 96 C_first_break (d0_first_break.body.getD 2 (.Pass ⟨0, 0, 0, 0⟩))
def k_first_break_1 := seqK 97 C_first_break (d0_first_break.body.drop 3) outK
theorem f_first_break_1_eq (v_plan : D) (v_keeps : D) (o_time : Option SV) (o_found : Option SV) (time185 : D) : f_first_break_1 time185 [some (.sh v_plan), some (.sh v_keeps), o_time, o_found] = bnd (purely (m_broken_at [v_plan, v_keeps, time185])) fun found_186 => bnd (cmpM .IsNot found_186 .none) fun c187 => if c187 = true then bnd (bnd (bnd (bnd (optM (seqOf found_186)) fun xs188 => DI.ret (xs188 ++ [])) fun ds189 => DI.ret (time185 :: ds189)) fun ds190 => guardM (fits ds190.length) (DI.ret (.tuple ds190))) fun d191 => DI.ret (Fl.rt d191, [some (.sh v_plan), some (.sh v_keeps), some (.sh time185), some (.sh found_186)]) else DI.ret (Fl.nx, [some (.sh v_plan), some (.sh v_keeps), some (.sh time185), some (.sh found_186)]) := by
  unfold f_first_break_1
  rw [turnF_eq]
  kernel_rfl
theorem k_first_break_1_eq (v_plan : D) (v_keeps : D) (o_time : Option SV) (o_found : Option SV) : endK k_first_break_1 (Fl.nx, [some (.sh v_plan), some (.sh v_keeps), o_time, o_found]) = throwM ⟨"Missing"⟩ := by kernel_rfl
theorem m_first_break_eq (v_plan : D) (v_keeps : D) : m_first_break [v_plan, v_keeps] = bnd (purely (m_check_plan [v_plan])) fun _x181 => bnd (purely (m_check_keeps [v_keeps])) fun _x182 => bnd (bnd (purely (m_moments [v_plan, v_keeps])) fun x183 => optM (seqOf x183)) fun xs184 => bnd (loopM f_first_break_1 xs184 [some (.sh v_plan), some (.sh v_keeps), none, none]) (endK k_first_break_1) := by
  unfold m_first_break
  rw [runB_eq]
  kernel_rfl
def c_is_safe_1 : DI.Env → D → M (Option D) := cF 89 C_is_safe (sb 0 (asgVal (d0_is_safe.body.getD 2 (.Pass ⟨0, 0, 0, 0⟩))))
theorem c_is_safe_1_eq (v_plan : D) (v_keeps : D) (time199 : D) : c_is_safe_1 [some (.sh v_plan), some (.sh v_keeps), none] time199 = noErrM (bnd (bnd (purely (m_broken_at [v_plan, v_keeps, time199])) fun x200 => bnd (cmpM .Is x200 .none) fun c201 => DI.ret (.bool c201)) fun y202 => DI.ret (some y202)) := by kernel_rfl
theorem m_is_safe_eq (v_plan : D) (v_keeps : D) : m_is_safe [v_plan, v_keeps] = bnd (purely (m_check_plan [v_plan])) fun _x192 => bnd (purely (m_check_keeps [v_keeps])) fun _x193 => bnd (bnd (bnd (bnd (bnd (purely (m_moments [v_plan, v_keeps])) fun x194 => optM (seqOf x194)) fun xs195 => guardM (fits xs195.length) (bnd (compM (c_is_safe_1 [some (.sh v_plan), some (.sh v_keeps), none]) xs195) fun ds => DI.ret (.list ds))) fun x196 => DI.ret [x196]) fun x197 => biM .all x197) fun d198 => DI.ret d198 := by
  unfold m_is_safe
  rw [runB_eq]
  kernel_rfl
def c_may_hold_1 : DI.Env → D → M (Option D) := cF 88 C_may_hold (sb 0 (asgVal (d0_may_hold.body.getD 3 (.Pass ⟨0, 0, 0, 0⟩))))
theorem c_may_hold_1_eq (v_plan : D) (v_keeps : D) (v_time : D) (keep212 : D) : c_may_hold_1 [some (.sh v_plan), some (.sh v_keeps), some (.sh v_time), none] keep212 = noErrM (bnd (bnd (bnd (purely (m_held_at [v_plan, keep212, v_time])) fun x213 => DI.ret [x213]) fun x214 => biM .tuple x214) fun y215 => DI.ret (some y215)) := by kernel_rfl
theorem m_may_hold_eq (v_plan : D) (v_keeps : D) (v_time : D) : m_may_hold [v_plan, v_keeps, v_time] = bnd (purely (m_check_plan [v_plan])) fun _x203 => bnd (purely (m_check_keeps [v_keeps])) fun _x204 => bnd (bnd (bnd (purely (m_is_whole [v_time, .int 0, .int 1000000])) fun x205 => truthM x205) fun b206 => DI.ret (!b206)) fun c207 => if c207 = true then throwM ⟨"NotAllowed"⟩ else bnd (bnd (bnd (bnd (optM (seqOf v_keeps)) fun xs208 => guardM (fits xs208.length) (bnd (compM (c_may_hold_1 [some (.sh v_plan), some (.sh v_keeps), some (.sh v_time), none]) xs208) fun ds => DI.ret (.list ds))) fun x209 => DI.ret [x209]) fun x210 => biM .tuple x210) fun d211 => DI.ret d211 := by
  unfold m_may_hold
  rw [runB_eq]
  kernel_rfl
def f_with_waits_1 : D → DI.Env → M (Fl × DI.Env) := turnF 97 C_with_waits (d0_with_waits.body.getD 1 (.Pass ⟨0, 0, 0, 0⟩))
def k_with_waits_1 := seqK 98 C_with_waits (d0_with_waits.body.drop 2) outK
theorem f_with_waits_1_eq (v_states : D) (v_waits : D) (v_time : D) (l_found : List D) (o_state : Option SV) (o_wait : Option SV) (state226 : D) (wait227 : D) : f_with_waits_1 (.tuple [state226, wait227]) [some (.sh v_states), some (.sh v_waits), some (.sh v_time), some (.ow (.list l_found)), o_state, o_wait] = bnd (binM .Add v_time wait227) fun time_228 => guardM (fits (l_found.length + 1)) (DI.ret (Fl.nx, [some (.sh v_states), some (.sh v_waits), some (.sh time_228), some (.ow (.list (l_found ++ [.tuple [time_228, state226]]))), some (.sh state226), some (.sh wait227)])) := by
  unfold f_with_waits_1
  rw [turnF_eq]
  kernel_rfl
theorem k_with_waits_1_eq (v_states : D) (v_waits : D) (v_time : D) (l_found : List D) (o_state : Option SV) (o_wait : Option SV) : endK k_with_waits_1 (Fl.nx, [some (.sh v_states), some (.sh v_waits), some (.sh v_time), some (.ow (.list l_found)), o_state, o_wait]) = bnd (biM .tuple [.list l_found]) fun d229 => DI.ret d229 := by kernel_rfl
theorem m_with_waits_eq (v_states : D) (v_waits : D) : m_with_waits [v_states, v_waits] = bnd (bnd (bnd (bnd (bnd (bnd (ixM v_states (.int 0)) fun x216 => DI.ret [x216]) fun ds217 => DI.ret ((.int 0) :: ds217)) fun ds218 => guardM (fits ds218.length) (DI.ret (.tuple ds218))) fun x219 => DI.ret [x219]) fun ds220 => guardM (fits ds220.length) (DI.ret (.list ds220))) fun x221 => bnd (bnd (sliceM v_states (some 1) none) fun x222 => bnd (optM (seqOf x222)) fun xs223 => bnd (optM (seqOf v_waits)) fun ys224 => DI.ret (zipD xs223 ys224)) fun xs225 => bnd (loopM f_with_waits_1 xs225 [some (.sh v_states), some (.sh v_waits), some (.sh (.int 0)), some (.ow x221), none, none]) (endK k_with_waits_1) := by
  unfold m_with_waits
  rw [runB_eq]
  kernel_rfl
def c_check_states_1 : DI.Env → D → M (Option D) := cF 84 C_check_states (sb 0 (sb 0 (sb 2 (asgVal (d0_check_states.body.getD 0 (.Pass ⟨0, 0, 0, 0⟩))))))
theorem c_check_states_1_eq (v_states : D) (one244 : D) : c_check_states_1 [some (.sh v_states), none] one244 = noErrM (bnd (purely (m_is_state [one244])) fun y245 => DI.ret (some y245)) := by kernel_rfl
theorem m_check_states_eq (v_states : D) : m_check_states [v_states] = bnd (bnd (bnd (bnd (bnd (optM (isT "tuple" v_states)) fun b230 => DI.ret (.bool b230)) fun x231 => truthM x231) fun b232 => DI.ret (!b232)) fun b233 => if b233 = true then DI.ret true else bnd (bnd (bnd (biM .len [v_states]) fun x234 => bnd (cmpM .LtE (.int 1) x234) fun c235 => if c235 = true then cmpM .LtE x234 (.int 12) else DI.ret false) fun b236 => DI.ret (!b236)) fun b237 => if b237 = true then DI.ret true else bnd (bnd (bnd (bnd (bnd (optM (seqOf v_states)) fun xs238 => guardM (fits xs238.length) (bnd (compM (c_check_states_1 [some (.sh v_states), none]) xs238) fun ds => DI.ret (.list ds))) fun x239 => DI.ret [x239]) fun x240 => biM .all x240) fun x241 => truthM x241) fun b242 => DI.ret (!b242)) fun c243 => if c243 = true then throwM ⟨"NotAllowed"⟩ else DI.ret .none := by
  unfold m_check_states
  rw [runB_eq]
  kernel_rfl
def f_waits_for_1 : D → DI.Env → M (Fl × DI.Env) := turnF 97 C_waits_for (d0_waits_for.body.getD 1 (.Pass ⟨0, 0, 0, 0⟩))
def k_waits_for_1 := seqK 98 C_waits_for (d0_waits_for.body.drop 2) outK
def f_waits_for_2 : D → DI.Env → M (Fl × DI.Env) := turnF 94 C_waits_for ((forBody (d0_waits_for.body.getD 1 (.Pass ⟨0, 0, 0, 0⟩))).getD 1 (.Pass ⟨0, 0, 0, 0⟩))
def k_waits_for_2 := seqK 95 C_waits_for ((forBody (d0_waits_for.body.getD 1 (.Pass ⟨0, 0, 0, 0⟩))).drop 2) retF
theorem f_waits_for_1_eq (v_keeps : D) (v_waits : D) (v_ends : D) (o_at : Option SV) (o_past : Option SV) (o_keep : Option SV) (at253 : D) : f_waits_for_1 at253 [some (.sh v_keeps), some (.ln v_waits), some (.ow v_ends), o_at, o_past, o_keep] = bnd (bnd (bnd (bnd (bnd (intM at253) fun i254 => DI.ret (some i254)) fun x255 => sliceM v_waits x255 none) fun x256 => DI.ret [x256]) fun x257 => biM .sum x257) fun past_258 => bnd (optM (seqOf v_keeps)) fun xs259 => bnd (loopM f_waits_for_2 xs259 [some (.sh v_keeps), some (.ln v_waits), some (.ow v_ends), some (.sh at253), some (.sh past_258), o_keep]) (endK k_waits_for_2) := by
  unfold f_waits_for_1
  rw [turnF_eq]
  kernel_rfl
theorem k_waits_for_1_eq (v_keeps : D) (v_waits : D) (v_ends : D) (o_at : Option SV) (o_past : Option SV) (o_keep : Option SV) : endK k_waits_for_1 (Fl.nx, [some (.sh v_keeps), some (.ln v_waits), some (.ow v_ends), o_at, o_past, o_keep]) = bnd (biM .sorted [v_ends]) fun d260 => DI.ret d260 := by kernel_rfl
theorem f_waits_for_2_eq (v_keeps : D) (v_waits : D) (v_ends : D) (v_at : D) (v_past : D) (o_keep : Option SV) (keep261 : D) : f_waits_for_2 keep261 [some (.sh v_keeps), some (.ln v_waits), some (.ow v_ends), some (.sh v_at), some (.sh v_past), o_keep] = bnd (bnd (bnd (bnd (binM .Sub keep261 v_past) fun x262 => DI.ret [x262]) fun ds263 => DI.ret ((.int 1) :: ds263)) fun x264 => biM .max x264) fun x265 => bnd (optM (setO v_ends x265 (.bool true))) fun o266 => DI.ret (Fl.nx, [some (.sh v_keeps), some (.ln v_waits), some (.ow o266), some (.sh v_at), some (.sh v_past), some (.sh keep261)]) := by
  unfold f_waits_for_2
  rw [turnF_eq]
  kernel_rfl
theorem k_waits_for_2_eq (v_keeps : D) (v_waits : D) (v_ends : D) (v_at : D) (v_past : D) (o_keep : Option SV) : endK k_waits_for_2 (Fl.nx, [some (.sh v_keeps), some (.ln v_waits), some (.ow v_ends), some (.sh v_at), some (.sh v_past), o_keep]) = DI.ret (Fl.nx, [some (.sh v_keeps), some (.ln v_waits), some (.ow v_ends), some (.sh v_at), some (.sh v_past), o_keep]) := by kernel_rfl
theorem m_waits_for_eq (v_keeps : D) (v_waits : D) : m_waits_for [v_keeps, v_waits] = bnd (bnd (bnd (optM (keyV (.int 1))) fun k246 => DI.ret ((kD k246, .bool true) :: [])) fun es247 => guardM (decide (es247.length ≤ 15)) (DI.ret (.dict (mergeE [] es247)))) fun ends_248 => bnd (bnd (bnd (biM .len [v_waits]) fun x249 => binM .Add x249 (.int 1)) fun x250 => bnd (intM x250) fun j251 => guardM (rgOk 0 j251) (DI.ret (rangeD 0 j251))) fun xs252 => bnd (loopM f_waits_for_1 xs252 [some (.sh v_keeps), some (.ln v_waits), some (.ow ends_248), none, none, none]) (endK k_waits_for_1) := by
  unfold m_waits_for
  rw [runB_eq]
  kernel_rfl
def f_least_waits_1 : D → DI.Env → M (Fl × DI.Env) := turnF 94 C_least_waits (d0_least_waits.body.getD 4 (.Pass ⟨0, 0, 0, 0⟩))
def k_least_waits_1 := seqK 95 C_least_waits (d0_least_waits.body.drop 5) outK
def f_least_waits_2 : D → DI.Env → M (Fl × DI.Env) := turnF 91 C_least_waits ((forBody (d0_least_waits.body.getD 4 (.Pass ⟨0, 0, 0, 0⟩))).getD 1 (.Pass ⟨0, 0, 0, 0⟩))
def k_least_waits_2 := seqK 92 C_least_waits ((forBody (d0_least_waits.body.getD 4 (.Pass ⟨0, 0, 0, 0⟩))).drop 2) retF
-- by hand: theorem f_least_waits_1_eq (v_states : D) (v_keeps : D) (l_found : List D) (o_place : Option SV) (o_good : Option SV) (o_wait : Option SV) (place274 : D) : f_least_waits_1 place274 [some (.sh v_states), some (.sh v_keeps), some (.ow (.list l_found)), o_place, o_good, o_wait] = bnd (bnd (purely (m_waits_for [v_keeps, .list l_found])) fun x275 => optM (seqOf x275)) fun xs276 => bnd (loopM f_least_waits_2 xs276 [some (.sh v_states), some (.sh v_keeps), some (.ow (.list l_found)), some (.sh place274), some (.ow (.list [])), o_wait]) (endK k_least_waits_2)
theorem k_least_waits_1_eq (v_states : D) (v_keeps : D) (l_found : List D) (o_place : Option SV) (o_good : Option SV) (o_wait : Option SV) : endK k_least_waits_1 (Fl.nx, [some (.sh v_states), some (.sh v_keeps), some (.ow (.list l_found)), o_place, o_good, o_wait]) = bnd (biM .tuple [.list l_found]) fun d277 => DI.ret d277 := by kernel_rfl
theorem f_least_waits_2_eq (v_states : D) (v_keeps : D) (l_found : List D) (v_place : D) (l_good : List D) (o_wait : Option SV) (wait278 : D) : f_least_waits_2 wait278 [some (.sh v_states), some (.sh v_keeps), some (.ow (.list l_found)), some (.sh v_place), some (.ow (.list l_good)), o_wait] = bnd (bnd (bnd (biM .len [.list l_good]) fun x279 => cmpM .Eq x279 (.int 0)) fun b280 => if b280 = true then bnd (bnd (bnd (bnd (bnd (bnd (bnd (binM .Add v_place (.int 1)) fun x281 => bnd (intM x281) fun i282 => DI.ret (some i282)) fun x283 => sliceM v_states none x283) fun x284 => bnd (bnd (bnd (bnd (optM (seqOf (.list l_found))) fun xs285 => DI.ret (xs285 ++ [wait278])) fun ds286 => guardM (fits ds286.length) (DI.ret (.list ds286))) fun x287 => DI.ret [x287]) fun ds288 => DI.ret (x284 :: ds288)) fun x289 => guardM (decide (x289.length = 2)) (purely (m_with_waits x289))) fun x290 => DI.ret [x290, v_keeps]) fun x291 => guardM (decide (x291.length = 2)) (purely (m_is_safe x291))) fun x292 => truthM x292 else DI.ret false) fun c293 => if c293 = true then guardM (fits (l_good.length + 1)) (DI.ret (Fl.nx, [some (.sh v_states), some (.sh v_keeps), some (.ow (.list l_found)), some (.sh v_place), some (.ow (.list (l_good ++ [wait278]))), some (.sh wait278)])) else DI.ret (Fl.nx, [some (.sh v_states), some (.sh v_keeps), some (.ow (.list l_found)), some (.sh v_place), some (.ow (.list l_good)), some (.sh wait278)]) := by
  unfold f_least_waits_2
  rw [turnF_eq]
  kernel_rfl
theorem k_least_waits_2_eq (v_states : D) (v_keeps : D) (l_found : List D) (v_place : D) (l_good : List D) (o_wait : Option SV) : endK k_least_waits_2 (Fl.nx, [some (.sh v_states), some (.sh v_keeps), some (.ow (.list l_found)), some (.sh v_place), some (.ow (.list l_good)), o_wait]) = bnd (bnd (biM .len [.list l_good]) fun x294 => cmpM .Eq x294 (.int 0)) fun c295 => if c295 = true then throwM ⟨"Missing"⟩ else bnd (ixM (.list l_good) (.int 0)) fun x296 => guardM (fits (l_found.length + 1)) (DI.ret (Fl.nx, [some (.sh v_states), some (.sh v_keeps), some (.ow (.list (l_found ++ [x296]))), some (.sh v_place), some (.ow (.list l_good)), o_wait])) := by kernel_rfl
theorem m_least_waits_eq (v_states : D) (v_keeps : D) : m_least_waits [v_states, v_keeps] = bnd (purely (m_check_states [v_states])) fun _x267 => bnd (purely (m_check_keeps [v_keeps])) fun _x268 => bnd (bnd (biM .max [v_keeps]) fun x269 => cmpM .Gt x269 (.int 5000)) fun c270 => if c270 = true then throwM ⟨"TooLarge"⟩ else bnd (bnd (biM .len [v_states]) fun x271 => bnd (intM x271) fun j272 => guardM (rgOk 1 j272) (DI.ret (rangeD 1 j272))) fun xs273 => bnd (loopM f_least_waits_1 xs273 [some (.sh v_states), some (.sh v_keeps), some (.ow (.list [])), none, none, none]) (endK k_least_waits_1) := by
  unfold m_least_waits
  rw [runB_eq]
  kernel_rfl
theorem m_ahead_plan_eq (v_old : D) (v_new : D) : m_ahead_plan [v_old, v_new] = bnd (bnd (bnd (bnd (purely (m_is_keys [.tuple [v_old]])) fun x297 => truthM x297) fun b298 => DI.ret (!b298)) fun b299 => if b299 = true then DI.ret true else bnd (bnd (bnd (purely (m_is_keys [.tuple [v_new]])) fun x300 => truthM x300) fun b301 => DI.ret (!b301)) fun b302 => if b302 = true then DI.ret true else cmpM .Eq v_old v_new) fun c303 => if c303 = true then throwM ⟨"NotAllowed"⟩ else bnd (bnd (bnd (biM .sorted [.tuple [v_old, v_new]]) fun x304 => DI.ret [x304]) fun x305 => biM .tuple x305) fun both_306 => DI.ret (.tuple [.tuple [.tuple [v_old], .tuple [v_old], .tuple [v_old], .tuple [v_old]], .tuple [.tuple [v_old], both_306, .tuple [v_old], .tuple [v_old]], .tuple [both_306, both_306, both_306, .tuple [v_new]], .tuple [.tuple [v_new], both_306, .tuple [v_new], .tuple [v_new]], .tuple [.tuple [v_new], .tuple [v_new], .tuple [v_new], .tuple [v_new]]]) := by
  unfold m_ahead_plan
  rw [runB_eq]
  kernel_rfl
def c_law_keys_1 : DI.Env → D → M (Option D) := cF 96 C_law_keys (asgVal (d0_law_keys.body.getD 1 (.Pass ⟨0, 0, 0, 0⟩)))
theorem c_law_keys_1_eq (v_some : D) (v_pool : D) (key315 : D) : c_law_keys_1 [some .stt, some (.sh v_some), some (.sh v_pool), none, none] key315 = noErrM (bnd (bnd (DI.m_law_next [.int 2]) fun x316 => cmpM .Eq x316 (.int 0)) fun c317 => if c317 = true then DI.ret (some key315) else DI.ret none) := by kernel_rfl
theorem m_law_keys_eq (v_some : D) : m_law_keys [v_some] = bnd (bnd (truthM v_some) fun b307 => if b307 = true then DI.ret v_some else DI.ret (.list [.int 1, .int 2, .int 3])) fun pool_308 => bnd (bnd (optM (seqOf pool_308)) fun xs309 => guardM (fits xs309.length) (bnd (compM (c_law_keys_1 [some .stt, some (.sh v_some), some (.sh pool_308), none, none]) xs309) fun ds => DI.ret (.list ds))) fun found_310 => bnd (bnd (bnd (bnd (truthM found_310) fun b311 => if b311 = true then DI.ret found_310 else sliceM pool_308 none (some 1)) fun x312 => DI.ret [x312]) fun x313 => biM .tuple x313) fun d314 => DI.ret d314 := by
  unfold m_law_keys
  rw [runB_eq]
  kernel_rfl
theorem m_law_state_eq  : m_law_state [] = bnd (m_law_keys [.list []]) fun told_318 => bnd (bnd (bnd (m_law_keys [.list []]) fun x319 => bnd (bnd (bnd (bnd (bnd (biM .list [told_318]) fun x320 => DI.ret [x320]) fun x321 => guardM (decide (x321.length = 1)) (m_law_keys x321)) fun x322 => bnd (bnd (bnd (bnd (biM .list [told_318]) fun x323 => DI.ret [x323]) fun x324 => guardM (decide (x324.length = 1)) (m_law_keys x324)) fun x325 => DI.ret [x325]) fun ds326 => DI.ret (x322 :: ds326)) fun ds327 => DI.ret (told_318 :: ds327)) fun ds328 => DI.ret (x319 :: ds328)) fun ds329 => guardM (fits ds329.length) (DI.ret (.tuple ds329))) fun d330 => DI.ret d330 := by
  unfold m_law_state
  rw [runB_eq]
  kernel_rfl
def f_law_held_1 : D → DI.Env → M (Fl × DI.Env) := turnF 97 C_law_held (d0_law_held.body.getD 1 (.Pass ⟨0, 0, 0, 0⟩))
def k_law_held_1 := seqK 98 C_law_held (d0_law_held.body.drop 2) outK
def c_law_held_2 : DI.Env → D → M (Option D) := cF 90 C_law_held (sb 1 (asgVal ((forBody (d0_law_held.body.getD 1 (.Pass ⟨0, 0, 0, 0⟩))).getD 1 (.Pass ⟨0, 0, 0, 0⟩))))
theorem f_law_held_1_eq (v_plan : D) (v_keep : D) (v_time : D) (l_found : List D) (o_k : Option SV) (o_begun : Option SV) (o_till : Option SV) (k334 : D) : f_law_held_1 k334 [some (.sh v_plan), some (.sh v_keep), some (.sh v_time), some (.ow (.list l_found)), o_k, o_begun, o_till, none] = bnd (bnd (ixM v_plan k334) fun x335 => ixM x335 (.int 0)) fun begun_336 => bnd (bnd (bnd (bnd (binM .Add v_time (.int 1)) fun x337 => DI.ret [x337]) fun ds338 => guardM (fits ds338.length) (DI.ret (.list ds338))) fun x339 => bnd (guardM (fits ([.int 0] : List D).length) (bnd (compM (c_law_held_2 [some (.sh v_plan), some (.sh v_keep), some (.sh v_time), some (.ow (.list l_found)), some (.sh k334), some (.sh begun_336), o_till, none]) ([.int 0] : List D)) fun ds => DI.ret (.list ds))) fun x340 => bnd (binM .Add x339 x340) fun x341 => onlyList x341) fun till_342 => bnd (bnd (cmpM .LtE begun_336 v_time) fun b343 => if b343 = true then bnd (bnd (bnd (unM .USub (.int 1)) fun x344 => ixM till_342 x344) fun x345 => cmpM .Gt x345 v_time) fun b346 => if b346 = true then DI.ret true else bnd (bnd (bnd (unM .USub (.int 1)) fun x347 => ixM till_342 x347) fun x348 => binM .Sub v_time x348) fun x349 => cmpM .Lt x349 v_keep else DI.ret false) fun c350 => if c350 = true then guardM (fits (l_found.length + 1)) (DI.ret (Fl.nx, [some (.sh v_plan), some (.sh v_keep), some (.sh v_time), some (.ow (.list (l_found ++ [k334]))), some (.sh k334), some (.sh begun_336), some (.ow till_342), none])) else DI.ret (Fl.nx, [some (.sh v_plan), some (.sh v_keep), some (.sh v_time), some (.ow (.list l_found)), some (.sh k334), some (.sh begun_336), some (.ow till_342), none]) := by
  unfold f_law_held_1
  rw [turnF_eq]
  kernel_rfl
theorem k_law_held_1_eq (v_plan : D) (v_keep : D) (v_time : D) (l_found : List D) (o_k : Option SV) (o_begun : Option SV) (o_till : Option SV) : endK k_law_held_1 (Fl.nx, [some (.sh v_plan), some (.sh v_keep), some (.sh v_time), some (.ow (.list l_found)), o_k, o_begun, o_till, none]) = DI.ret (.list l_found) := by kernel_rfl
theorem c_law_held_2_eq (v_plan : D) (v_keep : D) (v_time : D) (l_found : List D) (v_k : D) (v_begun : D) (o_till : Option SV) (j351 : D) : c_law_held_2 [some (.sh v_plan), some (.sh v_keep), some (.sh v_time), some (.ow (.list l_found)), some (.sh v_k), some (.sh v_begun), o_till, none] j351 = noErrM (bnd (bnd (binM .Add v_k (.int 1)) fun x352 => bnd (biM .len [v_plan]) fun x353 => cmpM .Lt x352 x353) fun c354 => if c354 = true then bnd (bnd (bnd (binM .Add v_k (.int 1)) fun x355 => ixM v_plan x355) fun x356 => ixM x356 (.int 0)) fun y357 => DI.ret (some y357) else DI.ret none) := by kernel_rfl
theorem m_law_held_eq (v_plan : D) (v_keep : D) (v_time : D) : m_law_held [v_plan, v_keep, v_time] = bnd (bnd (biM .len [v_plan]) fun x331 => bnd (intM x331) fun j332 => guardM (rgOk 0 j332) (DI.ret (rangeD 0 j332))) fun xs333 => bnd (loopM f_law_held_1 xs333 [some (.sh v_plan), some (.sh v_keep), some (.sh v_time), some (.ow (.list [])), none, none, none, none]) (endK k_law_held_1) := by
  unfold m_law_held
  rw [runB_eq]
  kernel_rfl
def c_law_goes_1 : DI.Env → D → M (Option D) := cF 89 C_law_goes (sb 0 (sb 0 (asgVal (d0_law_goes.body.getD 0 (.Pass ⟨0, 0, 0, 0⟩)))))
def c_law_goes_2 : DI.Env → D → M (Option D) := cF 88 C_law_goes (sb 0 (sb 1 (asgVal (d0_law_goes.body.getD 0 (.Pass ⟨0, 0, 0, 0⟩)))))
theorem c_law_goes_1_eq (v_one : D) (v_two : D) (v_three : D) (key369 : D) : c_law_goes_1 [some (.sh v_one), some (.sh v_two), some (.sh v_three), none] key369 = noErrM (bnd (bnd (ixM v_one (.int 0)) fun x370 => bnd (cmpM .In key369 x370) fun c371 => DI.ret (.bool c371)) fun y372 => DI.ret (some y372)) := by kernel_rfl
theorem c_law_goes_2_eq (v_one : D) (v_two : D) (v_three : D) (key373 : D) : c_law_goes_2 [some (.sh v_one), some (.sh v_two), some (.sh v_three), none] key373 = noErrM (bnd (bnd (ixM v_two (.int 1)) fun x374 => bnd (cmpM .In key373 x374) fun c375 => DI.ret (.bool c375)) fun y376 => DI.ret (some y376)) := by kernel_rfl
theorem m_law_goes_eq (v_one : D) (v_two : D) (v_three : D) : m_law_goes [v_one, v_two, v_three] = bnd (bnd (bnd (bnd (bnd (bnd (ixM v_two (.int 2)) fun x358 => optM (seqOf x358)) fun xs359 => guardM (fits xs359.length) (bnd (compM (c_law_goes_1 [some (.sh v_one), some (.sh v_two), some (.sh v_three), none]) xs359) fun ds => DI.ret (.list ds))) fun x360 => DI.ret [x360]) fun x361 => biM .any x361) fun x362 => bnd (truthM x362) fun b363 => if b363 = true then bnd (bnd (bnd (bnd (ixM v_three (.int 3)) fun x364 => optM (seqOf x364)) fun xs365 => guardM (fits xs365.length) (bnd (compM (c_law_goes_2 [some (.sh v_one), some (.sh v_two), some (.sh v_three), none]) xs365) fun ds => DI.ret (.list ds))) fun x366 => DI.ret [x366]) fun x367 => biM .any x367 else DI.ret x362) fun d368 => DI.ret d368 := by
  unfold m_law_goes
  rw [runB_eq]
  kernel_rfl
def f_law_break_1 : D → DI.Env → M (Fl × DI.Env) := turnF 98 C_law_break (d0_law_break.body.getD 0 (.Pass ⟨0, 0, 0, 0⟩))
def k_law_break_1 := seqK 99 C_law_break (d0_law_break.body.drop 1) outK
def c_law_break_2 : DI.Env → D → M (Option D) := cF 95 C_law_break (asgVal ((forBody (d0_law_break.body.getD 0 (.Pass ⟨0, 0, 0, 0⟩))).getD 0 (.Pass ⟨0, 0, 0, 0⟩)))
def f_law_break_3 : D → DI.Env → M (Fl × DI.Env) := turnF 95 C_law_break ((forBody (d0_law_break.body.getD 0 (.Pass ⟨0, 0, 0, 0⟩))).getD 1 (.Pass ⟨0, 0, 0, 0⟩))
def k_law_break_3 := seqK 96 C_law_break ((forBody (d0_law_break.body.getD 0 (.Pass ⟨0, 0, 0, 0⟩))).drop 2) retF
def f_law_break_4 : D → DI.Env → M (Fl × DI.Env) := turnF 93 C_law_break ((forBody ((forBody (d0_law_break.body.getD 0 (.Pass ⟨0, 0, 0, 0⟩))).getD 1 (.Pass ⟨0, 0, 0, 0⟩))).getD 0 (.Pass ⟨0, 0, 0, 0⟩))
def k_law_break_4 := seqK 94 C_law_break ((forBody ((forBody (d0_law_break.body.getD 0 (.Pass ⟨0, 0, 0, 0⟩))).getD 1 (.Pass ⟨0, 0, 0, 0⟩))).drop 1) retF
def f_law_break_5 : D → DI.Env → M (Fl × DI.Env) := turnF 91 C_law_break ((forBody ((forBody ((forBody (d0_law_break.body.getD 0 (.Pass ⟨0, 0, 0, 0⟩))).getD 1 (.Pass ⟨0, 0, 0, 0⟩))).getD 0 (.Pass ⟨0, 0, 0, 0⟩))).getD 0 (.Pass ⟨0, 0, 0, 0⟩))
def k_law_break_5 := seqK 92 C_law_break ((forBody ((forBody ((forBody (d0_law_break.body.getD 0 (.Pass ⟨0, 0, 0, 0⟩))).getD 1 (.Pass ⟨0, 0, 0, 0⟩))).getD 0 (.Pass ⟨0, 0, 0, 0⟩))).drop 1) retF
theorem f_law_break_1_eq (v_plan : D) (v_keeps : D) (v_until : D) (o_time : Option SV) (o_rows : Option SV) (o_one : Option SV) (o_two : Option SV) (o_three : Option SV) (time380 : D) : f_law_break_1 time380 [some (.sh v_plan), some (.sh v_keeps), some (.sh v_until), o_time, o_rows, o_one, o_two, none, o_three] = bnd (bnd (optM (seqOf v_keeps)) fun xs381 => guardM (fits xs381.length) (bnd (compM (c_law_break_2 [some (.sh v_plan), some (.sh v_keeps), some (.sh v_until), some (.sh time380), o_rows, o_one, o_two, none, o_three]) xs381) fun ds => DI.ret (.list ds))) fun rows_382 => bnd (bnd (ixM rows_382 (.int 0)) fun x383 => optM (seqOf x383)) fun xs384 => bnd (loopM f_law_break_3 xs384 [some (.sh v_plan), some (.sh v_keeps), some (.sh v_until), some (.sh time380), some (.ow rows_382), o_one, o_two, none, o_three]) (endK k_law_break_3) := by
  unfold f_law_break_1
  rw [turnF_eq]
  kernel_rfl
theorem k_law_break_1_eq (v_plan : D) (v_keeps : D) (v_until : D) (o_time : Option SV) (o_rows : Option SV) (o_one : Option SV) (o_two : Option SV) (o_three : Option SV) : endK k_law_break_1 (Fl.nx, [some (.sh v_plan), some (.sh v_keeps), some (.sh v_until), o_time, o_rows, o_one, o_two, none, o_three]) = DI.ret .none := by kernel_rfl
theorem c_law_break_2_eq (v_plan : D) (v_keeps : D) (v_until : D) (v_time : D) (o_rows : Option SV) (o_one : Option SV) (o_two : Option SV) (o_three : Option SV) (keep385 : D) : c_law_break_2 [some (.sh v_plan), some (.sh v_keeps), some (.sh v_until), some (.sh v_time), o_rows, o_one, o_two, none, o_three] keep385 = noErrM (bnd (purely (m_law_held [v_plan, keep385, v_time])) fun y386 => DI.ret (some y386)) := by kernel_rfl
theorem f_law_break_3_eq (v_plan : D) (v_keeps : D) (v_until : D) (v_time : D) (v_rows : D) (o_one : Option SV) (o_two : Option SV) (o_three : Option SV) (one387 : D) : f_law_break_3 one387 [some (.sh v_plan), some (.sh v_keeps), some (.sh v_until), some (.sh v_time), some (.ow v_rows), o_one, o_two, none, o_three] = bnd (bnd (ixM v_rows (.int 1)) fun x388 => optM (seqOf x388)) fun xs389 => bnd (loopM f_law_break_4 xs389 [some (.sh v_plan), some (.sh v_keeps), some (.sh v_until), some (.sh v_time), some (.ow v_rows), some (.sh one387), o_two, none, o_three]) (endK k_law_break_4) := by
  unfold f_law_break_3
  rw [turnF_eq]
  kernel_rfl
theorem k_law_break_3_eq (v_plan : D) (v_keeps : D) (v_until : D) (v_time : D) (v_rows : D) (o_one : Option SV) (o_two : Option SV) (o_three : Option SV) : endK k_law_break_3 (Fl.nx, [some (.sh v_plan), some (.sh v_keeps), some (.sh v_until), some (.sh v_time), some (.ow v_rows), o_one, o_two, none, o_three]) = DI.ret (Fl.nx, [some (.sh v_plan), some (.sh v_keeps), some (.sh v_until), some (.sh v_time), some (.ow v_rows), o_one, o_two, none, o_three]) := by kernel_rfl
theorem f_law_break_4_eq (v_plan : D) (v_keeps : D) (v_until : D) (v_time : D) (v_rows : D) (v_one : D) (o_two : Option SV) (o_three : Option SV) (two390 : D) : f_law_break_4 two390 [some (.sh v_plan), some (.sh v_keeps), some (.sh v_until), some (.sh v_time), some (.ow v_rows), some (.sh v_one), o_two, none, o_three] = bnd (bnd (ixM v_rows (.int 2)) fun x391 => optM (seqOf x391)) fun xs392 => bnd (loopM f_law_break_5 xs392 [some (.sh v_plan), some (.sh v_keeps), some (.sh v_until), some (.sh v_time), some (.ow v_rows), some (.sh v_one), some (.sh two390), none, o_three]) (endK k_law_break_5) := by
  unfold f_law_break_4
  rw [turnF_eq]
  kernel_rfl
theorem k_law_break_4_eq (v_plan : D) (v_keeps : D) (v_until : D) (v_time : D) (v_rows : D) (v_one : D) (o_two : Option SV) (o_three : Option SV) : endK k_law_break_4 (Fl.nx, [some (.sh v_plan), some (.sh v_keeps), some (.sh v_until), some (.sh v_time), some (.ow v_rows), some (.sh v_one), o_two, none, o_three]) = DI.ret (Fl.nx, [some (.sh v_plan), some (.sh v_keeps), some (.sh v_until), some (.sh v_time), some (.ow v_rows), some (.sh v_one), o_two, none, o_three]) := by kernel_rfl
theorem f_law_break_5_eq (v_plan : D) (v_keeps : D) (v_until : D) (v_time : D) (v_rows : D) (v_one : D) (v_two : D) (o_three : Option SV) (three393 : D) : f_law_break_5 three393 [some (.sh v_plan), some (.sh v_keeps), some (.sh v_until), some (.sh v_time), some (.ow v_rows), some (.sh v_one), some (.sh v_two), none, o_three] = bnd (bnd (bnd (bnd (bnd (bnd (ixM v_plan v_one) fun x394 => ixM x394 (.int 1)) fun x395 => bnd (bnd (bnd (ixM v_plan v_two) fun x396 => ixM x396 (.int 1)) fun x397 => bnd (bnd (bnd (ixM v_plan three393) fun x398 => ixM x398 (.int 1)) fun x399 => DI.ret [x399]) fun ds400 => DI.ret (x397 :: ds400)) fun ds401 => DI.ret (x395 :: ds401)) fun x402 => guardM (decide (x402.length = 3)) (purely (m_law_goes x402))) fun x403 => truthM x403) fun b404 => DI.ret (!b404)) fun c405 => if c405 = true then bnd (bnd (bnd (bnd (bnd (ixM v_plan v_one) fun x406 => ixM x406 (.int 0)) fun x407 => bnd (bnd (bnd (ixM v_plan v_two) fun x408 => ixM x408 (.int 0)) fun x409 => bnd (bnd (bnd (ixM v_plan three393) fun x410 => ixM x410 (.int 0)) fun x411 => DI.ret [x411]) fun ds412 => DI.ret (x409 :: ds412)) fun ds413 => DI.ret (x407 :: ds413)) fun ds414 => DI.ret (v_time :: ds414)) fun ds415 => guardM (fits ds415.length) (DI.ret (.tuple ds415))) fun d416 => DI.ret (Fl.rt d416, [some (.sh v_plan), some (.sh v_keeps), some (.sh v_until), some (.sh v_time), some (.ow v_rows), some (.sh v_one), some (.sh v_two), none, some (.sh three393)]) else DI.ret (Fl.nx, [some (.sh v_plan), some (.sh v_keeps), some (.sh v_until), some (.sh v_time), some (.ow v_rows), some (.sh v_one), some (.sh v_two), none, some (.sh three393)]) := by
  unfold f_law_break_5
  rw [turnF_eq]
  kernel_rfl
theorem k_law_break_5_eq (v_plan : D) (v_keeps : D) (v_until : D) (v_time : D) (v_rows : D) (v_one : D) (v_two : D) (o_three : Option SV) : endK k_law_break_5 (Fl.nx, [some (.sh v_plan), some (.sh v_keeps), some (.sh v_until), some (.sh v_time), some (.ow v_rows), some (.sh v_one), some (.sh v_two), none, o_three]) = DI.ret (Fl.nx, [some (.sh v_plan), some (.sh v_keeps), some (.sh v_until), some (.sh v_time), some (.ow v_rows), some (.sh v_one), some (.sh v_two), none, o_three]) := by kernel_rfl
theorem m_law_break_eq (v_plan : D) (v_keeps : D) (v_until : D) : m_law_break [v_plan, v_keeps, v_until] = bnd (bnd (binM .Add v_until (.int 1)) fun x377 => bnd (intM x377) fun j378 => guardM (rgOk 0 j378) (DI.ret (rangeD 0 j378))) fun xs379 => bnd (loopM f_law_break_1 xs379 [some (.sh v_plan), some (.sh v_keeps), some (.sh v_until), none, none, none, none, none, none]) (endK k_law_break_1) := by
  unfold m_law_break
  rw [runB_eq]
  kernel_rfl
def f_law_plan_1 : D → DI.Env → M (Fl × DI.Env) := turnF 96 C_law_plan (d0_law_plan.body.getD 2 (.Pass ⟨0, 0, 0, 0⟩))
def k_law_plan_1 := seqK 97 C_law_plan (d0_law_plan.body.drop 3) outK
theorem f_law_plan_1_eq (v_states : D) (v_waits : D) (v_now : D) (l_found : List D) (o_k : Option SV) (k426 : D) : f_law_plan_1 k426 [some (.sh v_states), some (.sh v_waits), some (.sh v_now), some (.ow (.list l_found)), o_k] = bnd (bnd (ixM v_waits k426) fun x427 => binM .Add v_now x427) fun now_428 => bnd (bnd (bnd (bnd (bnd (binM .Add k426 (.int 1)) fun x429 => ixM v_states x429) fun x430 => DI.ret [x430]) fun ds431 => DI.ret (now_428 :: ds431)) fun ds432 => guardM (fits ds432.length) (DI.ret (.tuple ds432))) fun x433 => guardM (fits (l_found.length + 1)) (DI.ret (Fl.nx, [some (.sh v_states), some (.sh v_waits), some (.sh now_428), some (.ow (.list (l_found ++ [x433]))), some (.sh k426)])) := by
  unfold f_law_plan_1
  rw [turnF_eq]
  kernel_rfl
theorem k_law_plan_1_eq (v_states : D) (v_waits : D) (v_now : D) (l_found : List D) (o_k : Option SV) : endK k_law_plan_1 (Fl.nx, [some (.sh v_states), some (.sh v_waits), some (.sh v_now), some (.ow (.list l_found)), o_k]) = bnd (biM .tuple [.list l_found]) fun d434 => DI.ret d434 := by kernel_rfl
theorem m_law_plan_eq (v_states : D) (v_waits : D) : m_law_plan [v_states, v_waits] = bnd (bnd (bnd (bnd (bnd (bnd (ixM v_states (.int 0)) fun x417 => DI.ret [x417]) fun ds418 => DI.ret ((.int 0) :: ds418)) fun ds419 => guardM (fits ds419.length) (DI.ret (.tuple ds419))) fun x420 => DI.ret [x420]) fun ds421 => guardM (fits ds421.length) (DI.ret (.list ds421))) fun found_422 => bnd (bnd (biM .len [v_waits]) fun x423 => bnd (intM x423) fun j424 => guardM (rgOk 0 j424) (DI.ret (rangeD 0 j424))) fun xs425 => bnd (loopM f_law_plan_1 xs425 [some (.sh v_states), some (.sh v_waits), some (.sh (.int 0)), some (.ow found_422), none]) (endK k_law_plan_1) := by
  unfold m_law_plan
  rw [runB_eq]
  kernel_rfl
def f_law_waits_1 : D → DI.Env → M (Fl × DI.Env) := turnF 97 C_law_waits (d0_law_waits.body.getD 1 (.Pass ⟨0, 0, 0, 0⟩))
def k_law_waits_1 := seqK 98 C_law_waits (d0_law_waits.body.drop 2) outK
def f_law_waits_2 : D → DI.Env → M (Fl × DI.Env) := turnF 94 C_law_waits ((forBody (d0_law_waits.body.getD 1 (.Pass ⟨0, 0, 0, 0⟩))).getD 1 (.Pass ⟨0, 0, 0, 0⟩))
def k_law_waits_2 := seqK 95 C_law_waits ((forBody (d0_law_waits.body.getD 1 (.Pass ⟨0, 0, 0, 0⟩))).drop 2) retF
theorem f_law_waits_1_eq (v_states : D) (v_keeps : D) (l_waits : List D) (o_k : Option SV) (o_good : Option SV) (o_wait : Option SV) (o_plan : Option SV) (k438 : D) : f_law_waits_1 k438 [some (.sh v_states), some (.sh v_keeps), some (.ow (.list l_waits)), o_k, o_good, o_wait, o_plan] = bnd (bnd (bnd (biM .max [v_keeps]) fun x439 => binM .Add x439 (.int 2)) fun x440 => bnd (intM x440) fun j441 => guardM (rgOk 1 j441) (DI.ret (rangeD 1 j441))) fun xs442 => bnd (loopM f_law_waits_2 xs442 [some (.sh v_states), some (.sh v_keeps), some (.ow (.list l_waits)), some (.sh k438), some (.sh .none), o_wait, o_plan]) (endK k_law_waits_2) := by
  unfold f_law_waits_1
  rw [turnF_eq]
  kernel_rfl
theorem k_law_waits_1_eq (v_states : D) (v_keeps : D) (l_waits : List D) (o_k : Option SV) (o_good : Option SV) (o_wait : Option SV) (o_plan : Option SV) : endK k_law_waits_1 (Fl.nx, [some (.sh v_states), some (.sh v_keeps), some (.ow (.list l_waits)), o_k, o_good, o_wait, o_plan]) = bnd (bnd (bnd (bnd (biM .tuple [.list l_waits]) fun x443 => DI.ret [x443]) fun ds444 => DI.ret ((.str "told") :: ds444)) fun ds445 => guardM (fits ds445.length) (DI.ret (.tuple ds445))) fun d446 => DI.ret d446 := by kernel_rfl
theorem f_law_waits_2_eq (v_states : D) (v_keeps : D) (l_waits : List D) (v_k : D) (v_good : D) (o_wait : Option SV) (o_plan : Option SV) (wait447 : D) : f_law_waits_2 wait447 [some (.sh v_states), some (.sh v_keeps), some (.ow (.list l_waits)), some (.sh v_k), some (.sh v_good), o_wait, o_plan] = bnd (bnd (bnd (bnd (bnd (binM .Add v_k (.int 1)) fun x448 => bnd (intM x448) fun i449 => DI.ret (some i449)) fun x450 => sliceM v_states none x450) fun x451 => bnd (bnd (binM .Add (.list l_waits) (.list [wait447])) fun x452 => DI.ret [x452]) fun ds453 => DI.ret (x451 :: ds453)) fun x454 => guardM (decide (x454.length = 2)) (purely (m_law_plan x454))) fun plan_455 => bnd (bnd (cmpM .Is v_good .none) fun b456 => if b456 = true then bnd (bnd (bnd (bnd (bnd (bnd (bnd (bnd (bnd (unM .USub (.int 1)) fun x457 => ixM plan_455 x457) fun x458 => ixM x458 (.int 0)) fun x459 => bnd (biM .max [v_keeps]) fun x460 => binM .Add x459 x460) fun x461 => binM .Add x461 (.int 1)) fun x462 => DI.ret [x462]) fun ds463 => DI.ret (v_keeps :: ds463)) fun ds464 => DI.ret (plan_455 :: ds464)) fun x465 => guardM (decide (x465.length = 3)) (purely (m_law_break x465))) fun x466 => cmpM .Is x466 .none else DI.ret false) fun c467 => if c467 = true then DI.ret (Fl.nx, [some (.sh v_states), some (.sh v_keeps), some (.ow (.list l_waits)), some (.sh v_k), some (.sh wait447), some (.sh wait447), some (.sh plan_455)]) else DI.ret (Fl.nx, [some (.sh v_states), some (.sh v_keeps), some (.ow (.list l_waits)), some (.sh v_k), some (.sh v_good), some (.sh wait447), some (.sh plan_455)]) := by
  unfold f_law_waits_2
  rw [turnF_eq]
  kernel_rfl
theorem k_law_waits_2_eq (v_states : D) (v_keeps : D) (l_waits : List D) (v_k : D) (v_good : D) (o_wait : Option SV) (o_plan : Option SV) : endK k_law_waits_2 (Fl.nx, [some (.sh v_states), some (.sh v_keeps), some (.ow (.list l_waits)), some (.sh v_k), some (.sh v_good), o_wait, o_plan]) = bnd (cmpM .Is v_good .none) fun c468 => if c468 = true then DI.ret (Fl.rt (.tuple [.str "missing"]), [some (.sh v_states), some (.sh v_keeps), some (.ow (.list l_waits)), some (.sh v_k), some (.sh v_good), o_wait, o_plan]) else guardM (fits (l_waits.length + 1)) (DI.ret (Fl.nx, [some (.sh v_states), some (.sh v_keeps), some (.ow (.list (l_waits ++ [v_good]))), some (.sh v_k), some (.sh v_good), o_wait, o_plan])) := by kernel_rfl
theorem m_law_waits_eq (v_states : D) (v_keeps : D) : m_law_waits [v_states, v_keeps] = bnd (bnd (biM .len [v_states]) fun x435 => bnd (intM x435) fun j436 => guardM (rgOk 1 j436) (DI.ret (rangeD 1 j436))) fun xs437 => bnd (loopM f_law_waits_1 xs437 [some (.sh v_states), some (.sh v_keeps), some (.ow (.list [])), none, none, none, none]) (endK k_law_waits_1) := by
  unfold m_law_waits
  rw [runB_eq]
  kernel_rfl
end K32
end
section
set_option Elab.async false
set_option linter.all false
set_option autoImplicit false
set_option maxRecDepth 100000
set_option maxHeartbeats 0
/-! K32u: the one equation that the kernel does not find at once. -/
namespace DI
open PySem L2
theorem evCall_fn {n ar : Nat} {C : DI.Ctx} {f : Str} {args : List Expr} {ρ : DI.Env} {le : List Bool} {sem : List D → M D} {ds : List D} (h : C.fn f = some ⟨ar, false, le, sem⟩) (hg : (gl C f && !args.any isStar) = true) (hl : ds.length = ar) (ha : evLs n C le args ρ = ret ds) :
    evCall (n + 1) C f args ρ = purely (sem ds) := by
  show guardM _ (match C.fn f with | some fi => _ | none => _) = _
  rw [h, hg]
  show bnd (evLs n C le args ρ) (fun ds => guardM (decide (ds.length = ar)) (purely (sem ds))) = _
  rw [ha]
  show guardM (decide (ds.length = ar)) (purely (sem ds)) = _
  rw [decide_eq_true hl]
  rfl
theorem bnd_retL {α β : Type} (a : α) (f : α → M β) : bnd (ret a) f = f a := rfl
theorem grd_true {α : Type} (m : M α) : guardM true m = m := rfl
theorem kSs_cons {β : Type} {n : Nat} {C : DI.Ctx} {B r : List Stmt} {s : Stmt} (h : B = s :: r) (ρ : DI.Env) (k : Fl → DI.Env → M β) : kSs (n + 1) C B ρ k = kS n C s ρ (seqK n C r k) := by
  subst h
  rfl
theorem seqK_nx {β : Type} {n : Nat} {C : DI.Ctx} {r : List Stmt} (ρ : DI.Env) (k : Fl → DI.Env → M β) : seqK n C r k .nx ρ = kSs n C r ρ k := rfl
theorem kS_forAt {β : Type} {n : Nat} {C : DI.Ctx} {s : Stmt} {p : Pos} (h : s = .For (forTg s) (forIt s) (forBody s) [] p) (hs : isSetE (forIt s) = false) {ρ ρ' : DI.Env} (hρ : share C (esc (lnd C) n (forIt s) ++ escsAll C (forIt s)) ρ = ρ') (k : Fl → DI.Env → M β) :
    kS (n + 1) C s ρ k = bnd (evI n C false (isTup (forTg s)) (forIt s) ρ') fun xs => bnd (loopM (turnF n C s) xs ρ') (endK k) := by
  subst hρ
  cases s with
  | For tg it body orelse q =>
    cases h
    show guardM (!isSetE it) _ = _
    have hs : isSetE it = false := hs
    rw [hs]
    rfl
  | _ => cases h
end DI
namespace K32
open PySem DI
def oX : List Stmt := forBody (d0_least_waits.body.getD 4 (.Pass ⟨0, 0, 0, 0⟩))
def sX : Stmt := oX.getD 1 (.Pass ⟨0, 0, 0, 0⟩)
theorem b1 : C_least_waits.fn "waits_for" = some ⟨2, false, [false, true], m_waits_for⟩ := by kernel_rfl
def argsX : Expr → List Expr
  | .Call _ as _ _ => as
  | _ => []
def posX : Stmt → Pos
  | .For _ _ _ _ p => p
  | _ => ⟨0, 0, 0, 0⟩
section
variable (v_states v_keeps v_place : D) (l_found : List D) (o_place o_good o_wait : Option SV) (place274 : D)
abbrev rX : DI.Env := [some (.sh v_states), some (.sh v_keeps), some (.ow (.list l_found)), some (.sh v_place), some (.ow (.list [])), o_wait]
theorem b2 : evLs 87 C_least_waits [false, true] (argsX (forIt sX)) (rX v_states v_keeps v_place l_found o_wait) = DI.ret [v_keeps, .list l_found] := by kernel_rfl
theorem b3 : evCall 88 C_least_waits "waits_for" (argsX (forIt sX)) (rX v_states v_keeps v_place l_found o_wait) = purely (m_waits_for [v_keeps, .list l_found]) := by
  exact evCall_fn b1 (by kernel_rfl) rfl (b2 _ _ _ _ _)
theorem b4 : evI 91 C_least_waits false (isTup (forTg sX)) (forIt sX) (rX v_states v_keeps v_place l_found o_wait) = bnd (evCall 88 C_least_waits "waits_for" (argsX (forIt sX)) (rX v_states v_keeps v_place l_found o_wait)) fun d => optM (seqOf d) := by kernel_rfl
theorem b5 : asg 94 C_least_waits (forTg (d0_least_waits.body.getD 4 (.Pass ⟨0, 0, 0, 0⟩))) place274 [some (.sh v_states), some (.sh v_keeps), some (.ow (.list l_found)), o_place, o_good, o_wait] = some [some (.sh v_states), some (.sh v_keeps), some (.ow (.list l_found)), some (.sh place274), o_good, o_wait] := by kernel_rfl
theorem b6 (k : Fl → DI.Env → M (Fl × DI.Env)) : kS 93 C_least_waits (oX.getD 0 (.Pass ⟨0, 0, 0, 0⟩)) [some (.sh v_states), some (.sh v_keeps), some (.ow (.list l_found)), some (.sh place274), o_good, o_wait] k = k .nx (rX v_states v_keeps place274 l_found o_wait) := by kernel_rfl
theorem b7 : oX = oX.getD 0 (.Pass ⟨0, 0, 0, 0⟩) :: oX.drop 1 := by kernel_rfl
theorem b8 : oX.drop 1 = sX :: oX.drop 2 := by kernel_rfl
theorem b9 : sX = .For (forTg sX) (forIt sX) (forBody sX) [] (posX sX) := by kernel_rfl
theorem b10 : share C_least_waits (esc (lnd C_least_waits) 91 (forIt sX) ++ escsAll C_least_waits (forIt sX)) (rX v_states v_keeps v_place l_found o_wait) = rX v_states v_keeps v_place l_found o_wait := by kernel_rfl
theorem f_least_waits_1_eq : f_least_waits_1 place274 [some (.sh v_states), some (.sh v_keeps), some (.ow (.list l_found)), o_place, o_good, o_wait] = bnd (bnd (purely (m_waits_for [v_keeps, .list l_found])) fun x275 => optM (seqOf x275)) fun xs276 => bnd (loopM f_least_waits_2 xs276 [some (.sh v_states), some (.sh v_keeps), some (.ow (.list l_found)), some (.sh place274), some (.ow (.list [])), o_wait]) (endK k_least_waits_2) := by
  have e1 : f_least_waits_2 = turnF 91 C_least_waits sX := by kernel_rfl
  have e2 : k_least_waits_2 = seqK 92 C_least_waits (oX.drop 2) retF := by kernel_rfl
  have e3 : f_least_waits_1 place274 [some (.sh v_states), some (.sh v_keeps), some (.ow (.list l_found)), o_place, o_good, o_wait] = kSs 94 C_least_waits oX [some (.sh v_states), some (.sh v_keeps), some (.ow (.list l_found)), some (.sh place274), o_good, o_wait] retF := by
    unfold f_least_waits_1
    rw [turnF_eq, b5]
    exact bnd_retL _ _
  have e4 := kSs_cons (n := 93) (C := C_least_waits) b7 [some (.sh v_states), some (.sh v_keeps), some (.ow (.list l_found)), some (.sh place274), o_good, o_wait] retF
  rw [b6, seqK_nx] at e4
  have e5 := kSs_cons (n := 92) (C := C_least_waits) b8 (rX v_states v_keeps place274 l_found o_wait) retF
  have e6 := kS_forAt (n := 91) (C := C_least_waits) b9 (by kernel_rfl) (b10 v_states v_keeps place274 l_found o_wait) (seqK 92 C_least_waits (oX.drop 2) retF)
  rw [b4, b3] at e6
  have e7 := e3.trans (e4.trans (e5.trans e6))
  rw [e1, e2]
  exact e7
end
end K32
end
section
set_option Elab.async false
set_option linter.all false
set_option autoImplicit false
set_option maxRecDepth 100000
set_option maxHeartbeats 0
namespace K32
open PySem DI
theorem refuses : m_law_refuses [] [] = .ok (.bool true) [] := by kernel_rfl
end K32
end
section
set_option linter.all false
set_option autoImplicit false
set_option maxRecDepth 100000
/-! PL: plain operations on plain data. -/
namespace DI
open PySem L2
section
variable {α β : Type}
theorem opt_some (a : α) : optM (some a) = ret a := rfl
theorem grd_t (m : M α) : guardM true m = m := rfl
theorem grd_fits {n : Nat} (h : n ≤ 16777216) (m : M α) : guardM (fits n) m = m := by
  have e : fits n = true := decide_eq_true (by show n ≤ 2 ^ 24; omega)
  rw [e]
  rfl
theorem grd_dec {p : Prop} [Decidable p] (h : p) (m : M α) : guardM (decide p) m = m := by
  rw [decide_eq_true h]
  rfl
theorem noErr_r (a : α) : noErrM (ret a) = ret a := rfl
theorem pure_r (a : α) : purely (ret a) = ret a := rfl
theorem seq_t (xs : List D) : seqOf (.tuple xs) = some xs := rfl
theorem seq_l (xs : List D) : seqOf (.list xs) = some xs := rfl
theorem isT_tt (xs : List D) : isT "tuple" (.tuple xs) = some true := by rfl
theorem isT_ii (i : Int) : isT "int" (.int i) = some true := by rfl
theorem tr_b (b : Bool) : truthM (.bool b) = ret b := rfl
theorem len_t (xs : List D) : biM .len [.tuple xs] = ret (.int xs.length) := rfl
theorem len_l (xs : List D) : biM .len [.list xs] = ret (.int xs.length) := rfl
theorem list_t (xs : List D) : biM .list [.tuple xs] = ret (.list xs) := rfl
theorem list_l (xs : List D) : biM .list [.list xs] = ret (.list xs) := rfl
theorem tuple_l (xs : List D) : biM .tuple [.list xs] = ret (.tuple xs) := rfl
theorem lt_ii (i j : Int) : cmpM .Lt (.int i) (.int j) = ret (decide (i < j)) := rfl
theorem le_ii (i j : Int) : cmpM .LtE (.int i) (.int j) = ret (decide (i ≤ j)) := rfl
theorem gt_ii (i j : Int) : cmpM .Gt (.int i) (.int j) = ret (decide (j < i)) := rfl
theorem add_ii (i j : Int) : binM .Add (.int i) (.int j) = ret (.int (i + j)) := rfl
theorem sub_ii (i j : Int) : binM .Sub (.int i) (.int j) = ret (.int (i - j)) := rfl
theorem neg_i (i : Int) : unM .USub (.int i) = ret (.int (-i)) := rfl
theorem int_i (i : Int) : intM (.int i) = ret i := rfl
theorem max_ii (i j : Int) : biM .max [.int i, .int j] = ret (.int (if j > i then j else i)) := rfl
theorem slice_t (xs : List D) (a b : Option Int) : sliceM (.tuple xs) a b = ret (.tuple (cutD xs a b)) := rfl
theorem slice_l (xs : List D) (a b : Option Int) : sliceM (.list xs) a b = ret (.list (cutD xs a b)) := rfl
theorem ix_t (xs : List D) (i : Int) : ixM (.tuple xs) (.int i) = optM (atI xs i) := rfl
theorem ix_l (xs : List D) (i : Int) : ixM (.list xs) (.int i) = optM (atI xs i) := rfl
theorem cat_l {xs ys : List D} (h : xs.length + ys.length ≤ 16777216) : binM .Add (.list xs) (.list ys) = ret (.list (xs ++ ys)) := grd_fits h _
theorem eq_sh {d e : D} (h1 : SeqAt.shaped d = true) (h2 : SeqAt.shaped e = true) : cmpM .Eq d e = ret (PyData.eqv d e) := by
  show guardM (SeqAt.shaped d && SeqAt.shaped e) _ = _
  rw [h1, h2]
  rfl
theorem ne_sh {d e : D} (h1 : SeqAt.shaped d = true) (h2 : SeqAt.shaped e = true) : cmpM .NotEq d e = ret (!PyData.eqv d e) := by
  show bnd (guardM (SeqAt.shaped d && SeqAt.shaped e) _) _ = _
  rw [h1, h2]
  rfl
theorem sh_i (i : Int) : SeqAt.shaped (.int i) = true := rfl
theorem eqv_ii (i j : Int) : PyData.eqv (.int i) (.int j) = decide (i = j) := by
  show (i == j) = _
  by_cases h : i = j
  · subst h; simp
  · simp [h]
theorem eq_ii (i j : Int) : cmpM .Eq (.int i) (.int j) = ret (decide (i = j)) := by rw [eq_sh (sh_i i) (sh_i j), eqv_ii]
theorem ne_ii (i j : Int) : cmpM .NotEq (.int i) (.int j) = ret (!decide (i = j)) := by rw [ne_sh (sh_i i) (sh_i j), eqv_ii]
theorem ints_sh (r : List Int) : PyData.canLayAll0 (r.map PyData.int) = true ∧ PyData.depthAll (r.map PyData.int) = 0 := by
  induction r with
  | nil => exact ⟨rfl, rfl⟩
  | cons x r ih => simp [PyData.canLayAll0, PyData.canLay0, PyData.depthAll, PyData.depth, ih.1, ih.2]
theorem sh_lt (r : List Int) : SeqAt.shaped (.tuple (r.map PyData.int)) = true ∧ SeqAt.shaped (.list (r.map PyData.int)) = true := by
  unfold SeqAt.shaped
  simp only [PyData.canLay0, PyData.depth, (ints_sh r).1, (ints_sh r).2]
  exact ⟨rfl, rfl⟩
theorem any_eqv (k : Int) (ks : List Int) : ((ks.map PyData.int).any fun z => PyData.eqv z (.int k)) = decide (k ∈ ks) := by
  induction ks with
  | nil => rfl
  | cons x ks ih =>
    rw [List.map_cons, List.any_cons, ih, eqv_ii]
    by_cases h : x = k
    · subst h; simp
    · have h' : ¬ k = x := fun z => h z.symm
      simp [h, h', List.mem_cons]
theorem in_kt (k : Int) (ks : List Int) : cmpM .In (.int k) (.tuple (ks.map PyData.int)) = ret (decide (k ∈ ks)) := by
  show guardM (SeqAt.shaped (.int k) && SeqAt.shaped (.tuple (ks.map PyData.int))) _ = _
  rw [sh_i, (sh_lt ks).1, any_eqv]
  rfl
theorem eqv_ints : ∀ (as bs : List Int), PyData.eqvAll (as.map PyData.int) (bs.map PyData.int) = decide (as = bs)
  | [], [] => by simp [PyData.eqvAll]
  | [], b :: bs => by simp [PyData.eqvAll]
  | a :: as, [] => by simp [PyData.eqvAll]
  | a :: as, b :: bs => by
    have ih := eqv_ints as bs
    simp only [List.map_cons, PyData.eqvAll, ih, eqv_ii]
    by_cases h : a = b <;> simp [h]
theorem eq_lints (as bs : List Int) : cmpM .Eq (.list (as.map PyData.int)) (.list (bs.map PyData.int)) = ret (decide (as = bs)) := by
  rw [eq_sh (sh_lt as).2 (sh_lt bs).2]
  show ret (PyData.eqvAll _ _) = _
  rw [eqv_ints]
theorem ne_lints (as bs : List Int) : cmpM .NotEq (.list (as.map PyData.int)) (.list (bs.map PyData.int)) = ret (!decide (as = bs)) := by
  rw [ne_sh (sh_lt as).2 (sh_lt bs).2]
  show ret (!PyData.eqvAll _ _) = _
  rw [eqv_ints]
theorem all_b (bs : List Bool) : biM .all [.list (bs.map PyData.bool)] = ret (.bool (bs.all id)) := all_at bs
theorem any_b (bs : List Bool) : biM .any [.list (bs.map PyData.bool)] = ret (.bool (bs.any id)) := by
  show bnd (optM (boolsOf (bs.map PyData.bool))) _ = _
  rw [bools_of]
  rfl
end
theorem atI_at (xs : List D) (i : Nat) (h : i < xs.length) : atI xs (i : Int) = some xs[i] := by
  unfold atI ixN
  rw [if_pos (by omega), if_pos (by omega)]
  show xs[(i : Int).toNat]? = _
  rw [Int.toNat_natCast, List.getElem?_eq_getElem h]
theorem ixt_at (xs : List D) (i : Nat) (h : i < xs.length) : ixM (.tuple xs) (.int (i : Int)) = ret xs[i] := by
  rw [ix_t, atI_at xs i h, opt_some]
theorem ixl_at (xs : List D) (i : Nat) (h : i < xs.length) : ixM (.list xs) (.int (i : Int)) = ret xs[i] := by
  rw [ix_l, atI_at xs i h, opt_some]
theorem ixt_map {α : Type} (mk : α → D) (as : List α) (i : Nat) (h : i < as.length) : ixM (.tuple (as.map mk)) (.int (i : Int)) = ret (mk as[i]) := by
  rw [ixt_at _ i (by rw [List.length_map]; exact h)]
  simp
theorem ixl_map {α : Type} (mk : α → D) (as : List α) (i : Nat) (h : i < as.length) : ixM (.list (as.map mk)) (.int (i : Int)) = ret (mk as[i]) := by
  rw [ixl_at _ i (by rw [List.length_map]; exact h)]
  simp
theorem atI_last (xs : List D) (h : xs ≠ []) : atI xs (-1) = some (xs.getLast h) := by
  have hl : 0 < xs.length := List.length_pos_iff.mpr h
  unfold atI ixN
  rw [if_neg (by omega), if_pos (by omega)]
  show xs[((-1 : Int) + xs.length).toNat]? = _
  have e : ((-1 : Int) + xs.length).toNat = xs.length - 1 := by omega
  rw [e, List.getLast_eq_getElem, List.getElem?_eq_getElem]
theorem cut_from (xs : List D) (k : Nat) : cutD xs (some (k : Int)) none = xs.drop k := by
  unfold cutD
  rw [HT.sIx_nat]
  have e : HT.sIx xs.length xs.length none = xs.length := rfl
  rw [e]
  by_cases h : k ≤ xs.length
  · rw [Nat.min_eq_left h, List.take_of_length_le (by rw [List.length_drop]; omega)]
  · rw [Nat.min_eq_right (by omega), List.drop_eq_nil_of_le (Nat.le_refl _), List.drop_eq_nil_of_le (by omega), List.take_nil]
theorem cut_to (xs : List D) (k : Nat) : cutD xs none (some (k : Int)) = xs.take k := by
  unfold cutD
  rw [HT.sIx_nat]
  have e : HT.sIx xs.length 0 none = 0 := rfl
  rw [e, Nat.sub_zero, List.drop_zero]
  by_cases h : k ≤ xs.length
  · rw [Nat.min_eq_left h]
  · rw [Nat.min_eq_right (by omega), List.take_of_length_le (Nat.le_refl _), List.take_of_length_le (by omega)]
/-! ### loops -/
section
variable {α σ : Type}
theorem comp_fm {f : D → M (Option D)} {mk : α → D} {g : α → Option D} : ∀ as : List α, (∀ a ∈ as, f (mk a) = ret (g a)) → compM f (as.map mk) = ret (as.filterMap g)
  | [], _ => rfl
  | a :: as, h => by
    show bnd (f (mk a)) (fun o => bnd (compM f (as.map mk)) _) = _
    rw [h a List.mem_cons_self, comp_fm as fun b hb => h b (List.mem_cons_of_mem _ hb)]
    show ret (match g a with | some y => y :: as.filterMap g | none => as.filterMap g) = _
    rw [List.filterMap_cons]
    cases g a <;> rfl
theorem comp_m {f : D → M (Option D)} {mk g : α → D} (as : List α) (h : ∀ a ∈ as, f (mk a) = ret (some (g a))) : compM f (as.map mk) = ret (as.map g) := by
  rw [comp_fm as (g := fun a => some (g a)) h]
  simp
theorem comp_all {f : D → M (Option D)} {mk : α → D} (as : List α) (h : ∀ a ∈ as, f (mk a) = ret (some (.bool true))) : compM f (as.map mk) = ret ((as.map fun _ => true).map PyData.bool) := by
  rw [comp_m as h, List.map_map]
  rfl
theorem compL_fm {f : D → M (List D)} {mk : α → D} {g : α → List D} : ∀ as : List α, (∀ a ∈ as, f (mk a) = ret (g a)) → compLM f (as.map mk) = ret (as.flatMap g)
  | [], _ => rfl
  | a :: as, h => by
    show bnd (f (mk a)) (fun o => bnd (compLM f (as.map mk)) _) = _
    rw [h a List.mem_cons_self, compL_fm as fun b hb => h b (List.mem_cons_of_mem _ hb)]
    rfl
theorem all_true (as : List α) : ((as.map fun _ => true) : List Bool).all id = true := by induction as <;> simp_all
theorem loopM_nx {f : D → DI.Env → M (Fl × DI.Env)} {x : D} {xs : List D} {ρ ρ' : DI.Env} (h : f x ρ = ret (.nx, ρ')) : loopM f (x :: xs) ρ = loopM f xs ρ' := by
  show bnd (f x ρ) _ = _
  rw [h]
  rfl
theorem loopM_thr {f : D → DI.Env → M (Fl × DI.Env)} {x : D} {xs : List D} {ρ : DI.Env} {e : Exn} (h : f x ρ = throwM e) : loopM f (x :: xs) ρ = throwM e := by
  show bnd (f x ρ) _ = _
  rw [h]
  rfl
theorem loopM_rt {f : D → DI.Env → M (Fl × DI.Env)} {x : D} {xs : List D} {ρ ρ' : DI.Env} {d : D} (h : f x ρ = ret (.rt d, ρ')) : loopM f (x :: xs) ρ = ret (.rt d, ρ') := by
  show bnd (f x ρ) _ = _
  rw [h]
  rfl
/-- a loop that goes to its end -/
theorem loop_fold {f : D → DI.Env → M (Fl × DI.Env)} {mk : α → D} {step : σ → α → σ} {Rl : σ → DI.Env → Prop} : ∀ (as pre : List α) (s0 : σ),
    (∀ (p q : List α) (a : α) (ρ : DI.Env), pre ++ as = p ++ a :: q → Rl (p.foldl step s0) ρ → ∃ ρ', Rl (step (p.foldl step s0) a) ρ' ∧ f (mk a) ρ = ret (.nx, ρ')) →
    ∀ ρ, Rl (pre.foldl step s0) ρ → ∃ ρ', Rl ((pre ++ as).foldl step s0) ρ' ∧ loopM f (as.map mk) ρ = ret (.nx, ρ')
  | [], pre, s0, _, ρ, r => ⟨ρ, by rw [List.append_nil]; exact r, rfl⟩
  | a :: as, pre, s0, h, ρ, r => by
    obtain ⟨ρ1, r1, e1⟩ := h pre as a ρ rfl r
    have hp : pre ++ a :: as = (pre ++ [a]) ++ as := by simp
    obtain ⟨ρ2, r2, e2⟩ := loop_fold (f := f) (mk := mk) (Rl := Rl) as (pre ++ [a]) s0 (fun p q b ρ e => h p q b ρ (hp.trans e)) ρ1 (by rw [List.foldl_append]; exact r1)
    refine ⟨ρ2, by rw [hp]; exact r2, ?_⟩
    show bnd (f (mk a) ρ) _ = _
    rw [e1]
    exact e2
theorem loop_all {f : D → DI.Env → M (Fl × DI.Env)} {mk : α → D} {step : σ → α → σ} {Rl : σ → DI.Env → Prop} (as : List α) (s0 : σ)
    (h : ∀ (p q : List α) (a : α) (ρ : DI.Env), as = p ++ a :: q → Rl (p.foldl step s0) ρ → ∃ ρ', Rl (step (p.foldl step s0) a) ρ' ∧ f (mk a) ρ = ret (.nx, ρ')) {ρ : DI.Env} (r : Rl s0 ρ) : ∃ ρ', Rl (as.foldl step s0) ρ' ∧ loopM f (as.map mk) ρ = ret (.nx, ρ') :=
  loop_fold as [] s0 h ρ r
/-- a loop that ends at the first find -/
theorem loop_find {f : D → DI.Env → M (Fl × DI.Env)} {mk : α → D} {g : α → Option D} {Rl : DI.Env → Prop} : ∀ (as : List α),
    (∀ a ∈ as, ∀ ρ, Rl ρ → ∃ ρ', Rl ρ' ∧ f (mk a) ρ = ret (match g a with | some d => Fl.rt d | none => Fl.nx, ρ')) →
    ∀ ρ, Rl ρ → ∃ ρ', Rl ρ' ∧ loopM f (as.map mk) ρ = ret (match as.findSome? g with | some d => Fl.rt d | none => Fl.nx, ρ')
  | [], _, ρ, r => ⟨ρ, r, rfl⟩
  | a :: as, h, ρ, r => by
    obtain ⟨ρ1, r1, e1⟩ := h a List.mem_cons_self ρ r
    show ∃ ρ', Rl ρ' ∧ bnd (f (mk a) ρ) _ = _
    rw [e1, List.findSome?_cons]
    cases hg : g a with
    | some d => exact ⟨ρ1, r1, rfl⟩
    | none =>
      obtain ⟨ρ2, r2, e2⟩ := loop_find as (fun b hb => h b (List.mem_cons_of_mem _ hb)) ρ1 r1
      exact ⟨ρ2, r2, e2⟩
end
end DI
end
section
set_option Elab.async false
set_option linter.all false
set_option autoImplicit false
set_option maxRecDepth 100000
set_option maxHeartbeats 1000000
/-! K32v: the small functions on what is given. -/
namespace K32
open PySem DI
def kt (ks : List Int) : D := .tuple (ks.map PyData.int)
structure Sx where
  a : List Int
  b : List Int
  c : List Int
  d : List Int
def Sx.e (s : Sx) : D := .tuple [kt s.a, kt s.b, kt s.c, kt s.d]
def row (p : Int × Sx) : D := .tuple [.int p.1, p.2.e]
def pe (P : List (Int × Sx)) : D := .tuple (P.map row)
def se (S : List Sx) : D := .tuple (S.map Sx.e)
structure KOk (ks : List Int) : Prop where
  ne : ks ≠ []
  up : ks.Pairwise (· < ·)
  rg : ∀ k ∈ ks, 1 ≤ k ∧ k ≤ 999
  le : ks.length < 63
structure SOk (s : Sx) : Prop where
  a : KOk s.a
  b : KOk s.b
  c : KOk s.c
  d : KOk s.d
  cb : ∀ k ∈ s.c, k ∈ s.b
  db : ∀ k ∈ s.d, k ∈ s.b
theorem isT_kt (ks : List Int) : isT "tuple" (kt ks) = some true := rfl
theorem seq_kt (ks : List Int) : seqOf (kt ks) = some (ks.map PyData.int) := rfl
theorem len_kt (ks : List Int) : biM .len [kt ks] = DI.ret (.int ks.length) := by
  show DI.ret (PyData.int ((ks.map PyData.int).length : Int)) = _
  rw [List.length_map]
theorem list_kt (ks : List Int) : biM .list [kt ks] = DI.ret (.list (ks.map PyData.int)) := rfl
theorem l_whole (v lo hi : Int) : m_is_whole [.int v, .int lo, .int hi] = DI.ret (.bool (decide (lo ≤ v) && decide (v ≤ hi))) := by
  rw [m_is_whole_eq]
  simp only [isT_ii, opt_some, bnd_ret_l, tr_b, le_ii, if_true]
  by_cases h : lo ≤ v <;> simp [h, bnd_ret_l]
theorem whole_t {v lo hi : Int} (h1 : lo ≤ v) (h2 : v ≤ hi) : m_is_whole [.int v, .int lo, .int hi] = DI.ret (.bool true) := by
  rw [l_whole, decide_eq_true h1, decide_eq_true h2]
  rfl
theorem setI_id {ks : List Int} (h : ks.Pairwise (· < ·)) : setI ks = ks := (setI_is h fun k => Iff.rfl).symm
theorem l_keys {ks : List Int} (h : KOk ks) : m_is_keys [kt ks] = DI.ret (.bool true) := by
  have hc : compM (c_is_keys_1 [some (.sh (kt ks)), none]) (ks.map PyData.int) = DI.ret ((ks.map fun _ => true).map PyData.bool) := comp_all ks fun k hk => by
    rw [c_is_keys_1_eq, whole_t (h.rg k hk).1 (h.rg k hk).2]
    rfl
  have hl : ¬ ((ks.length : Int) = 0) := fun z => h.ne (List.length_eq_zero_iff.mp (by omega))
  rw [m_is_keys_eq]
  simp only [isT_kt, seq_kt, len_kt, list_kt, opt_some, bnd_ret_l, tr_b, Bool.not_true, Bool.false_eq_true, if_false, eq_ii, hl, decide_false]
  rw [grd_fits (by rw [List.length_map]; have := h.le; omega), hc]
  simp only [bnd_ret_l, all_b, all_true, tr_b, Bool.not_true, Bool.false_eq_true, if_false, ints_of, opt_some]
  rw [grd_dec h.le, setI_id h.up, bnd_ret_l, eq_lints]
  simp only [bnd_ret_l, decide_true]
theorem l_state {s : Sx} (h : SOk s) : m_is_state [s.e] = DI.ret (.bool true) := by
  have h1 : compM (c_is_state_1 [some (.sh s.e), none, none]) [kt s.a, kt s.b, kt s.c, kt s.d] = DI.ret (([true, true, true, true] : List Bool).map PyData.bool) := by
    refine comp_all (mk := kt) [s.a, s.b, s.c, s.d] fun ks hk => ?_
    have hk : KOk ks := by
      simp only [List.mem_cons, List.not_mem_nil, or_false] at hk
      rcases hk with rfl | rfl | rfl | rfl
      · exact h.a
      · exact h.b
      · exact h.c
      · exact h.d
    rw [c_is_state_1_eq, l_keys hk]
    rfl
  have hi : ∀ ks : List Int, (∀ k ∈ ks, k ∈ s.b) → compM (c_is_state_2i [some (.sh s.e), some (.sh (kt ks)), none]) (ks.map PyData.int) = DI.ret ((ks.map fun _ => true).map PyData.bool) := fun ks hk => comp_all ks fun k hkk => by
    rw [c_is_state_2i_eq]
    have e : ixM s.e (.int 1) = DI.ret (kt s.b) := rfl
    rw [e, bnd_ret_l]
    show noErrM (bnd (bnd (cmpM .In (.int k) (.tuple (s.b.map PyData.int))) _) _) = _
    rw [in_kt, decide_eq_true (hk k hkk)]
    rfl
  have h2 : compLM (c_is_state_2 [some (.sh s.e), none, none]) [kt s.c, kt s.d] = DI.ret (((s.c ++ s.d).map fun _ => true).map PyData.bool) := by
    have z := compL_fm (f := c_is_state_2 [some (.sh s.e), none, none]) (mk := kt) (g := fun ks => ((ks.map fun _ => true).map PyData.bool)) [s.c, s.d] fun ks hk => by
      rw [c_is_state_2_eq, seq_kt, opt_some, bnd_ret_l, hi ks (by
        simp only [List.mem_cons, List.not_mem_nil, or_false] at hk
        rcases hk with rfl | rfl
        · exact h.cb
        · exact h.db)]
      rfl
    refine Eq.trans z ?_
    simp
  rw [m_is_state_eq]
  have t1 : isT "tuple" s.e = some true := rfl
  have t2 : biM .len [s.e] = DI.ret (.int 4) := rfl
  have t3 : seqOf s.e = some [kt s.a, kt s.b, kt s.c, kt s.d] := rfl
  have t4 : sliceM s.e (some 2) none = DI.ret (.tuple [kt s.c, kt s.d]) := rfl
  simp only [t1, t2, t3, t4, seq_t, opt_some, bnd_ret_l, tr_b, Bool.not_true, Bool.false_eq_true, if_false, ne_ii, decide_true]
  rw [grd_fits (by simp), h1, bnd_ret_l, bnd_ret_l, bnd_ret_l, all_b]
  simp only [bnd_ret_l, List.all_cons, List.all_nil, id_eq, Bool.and_true, tr_b, Bool.not_true, Bool.false_eq_true, if_false]
  rw [h2, bnd_ret_l, grd_fits (by simp only [List.length_map, List.length_append]; have := h.c.le; have := h.d.le; omega), bnd_ret_l, bnd_ret_l, all_b, all_true]
  rfl
structure POk (P : List (Int × Sx)) : Prop where
  n1 : 1 ≤ P.length
  n2 : P.length ≤ 12
  st : ∀ p ∈ P, SOk p.2
  up : (P.map (·.1)).Pairwise (· < ·)
  hd : (P.map (·.1)).head? = some 0
  mx : ∀ p ∈ P, 0 ≤ p.1 ∧ p.1 ≤ 1000000
theorem isT_pe (P : List (Int × Sx)) : isT "tuple" (pe P) = some true := rfl
theorem seq_pe (P : List (Int × Sx)) : seqOf (pe P) = some (P.map row) := rfl
theorem len_pe (P : List (Int × Sx)) : biM .len [pe P] = DI.ret (.int P.length) := by
  show DI.ret (PyData.int ((P.map row).length : Int)) = _
  rw [List.length_map]
theorem l_plan {P : List (Int × Sx)} (h : POk P) : m_check_plan [pe P] = DI.ret .none := by
  have h1 : compM (c_check_plan_1 [some (.sh (pe P)), none, none, none, none]) (P.map row) = DI.ret ((P.map fun _ => true).map PyData.bool) := comp_all P fun p hp => by
    rw [c_check_plan_1_eq]
    have t1 : isT "tuple" (row p) = some true := rfl
    have t2 : biM .len [row p] = DI.ret (.int 2) := rfl
    have t3 : ixM (row p) (.int 1) = DI.ret p.2.e := rfl
    simp only [t1, t2, t3, opt_some, bnd_ret_l, tr_b, if_true, eq_ii, decide_true, List.length_cons, List.length_nil, Nat.zero_add, grd_t, l_state (h.st p hp), pure_r, noErr_r]
  have h2 : compM (c_check_plan_2 [some (.sh (pe P)), none, none, none, none]) (P.map row) = DI.ret ((P.map (·.1)).map PyData.int) := by
    rw [comp_m (g := fun p => .int p.1) P fun p hp => by
      show c_check_plan_2 _ (.tuple [.int p.1, p.2.e]) = _
      rw [c_check_plan_2_eq]
      rfl]
    rw [List.map_map]
    rfl
  have h3 : ∀ d : D, compM (c_check_plan_3 [some (.sh (pe P)), some (.ow d), none, none, none]) ((P.map (·.1)).map PyData.int) = DI.ret (((P.map (·.1)).map fun _ => true).map PyData.bool) := fun d => comp_all (P.map (·.1)) fun t ht => by
    obtain ⟨p, hp, rfl⟩ := List.mem_map.mp ht
    rw [c_check_plan_3_eq, whole_t (h.mx p hp).1 (h.mx p hp).2]
    rfl
  have n1 := h.n1
  have n2 := h.n2
  have a1 : (decide ((1 : Int) ≤ (P.length : Int))) = true := decide_eq_true (by omega)
  have a2 : (decide ((P.length : Int) ≤ 12)) = true := decide_eq_true (by omega)
  have a3 : ixM (.list ((P.map (·.1)).map PyData.int)) (.int 0) = DI.ret (.int 0) := by
    have z := h.hd
    cases P with
    | nil => cases z
    | cons p P =>
      have z : p.1 = 0 := Option.some.inj z
      have y := ixl_map PyData.int ((p :: P).map (·.1)) 0 (by simp)
      have e : ((p :: P).map (·.1))[0]'(by simp) = p.1 := rfl
      rw [e, z] at y
      exact y
  rw [m_check_plan_eq]
  simp only [isT_pe, seq_pe, len_pe, opt_some, bnd_ret_l, tr_b, Bool.not_true, Bool.false_eq_true, if_false, if_true, le_ii, a1, a2]
  rw [grd_fits (by rw [List.length_map]; omega), h1]
  simp only [bnd_ret_l, all_b, all_true, tr_b, Bool.not_true, Bool.false_eq_true, if_false]
  rw [grd_fits (by rw [List.length_map]; omega), h2]
  simp only [bnd_ret_l, a3, ne_ii, decide_true, Bool.not_true, Bool.false_eq_true, if_false, seq_l, ints_of, opt_some]
  rw [grd_dec (by rw [List.length_map]; omega), setI_id h.up]
  simp only [bnd_ret_l, ne_lints, decide_true, Bool.not_true, Bool.false_eq_true, if_false]
  rw [grd_fits (by rw [List.length_map, List.length_map]; omega), h3]
  simp only [bnd_ret_l, all_b, all_true, tr_b, Bool.not_true, Bool.false_eq_true, if_false]
structure Kp3 (ks : List Int) : Prop where
  l : ks.length = 3
  rg : ∀ k ∈ ks, 0 ≤ k ∧ k ≤ 86400
theorem l_keeps {ks : List Int} (h : Kp3 ks) : m_check_keeps [kt ks] = DI.ret .none := by
  have h1 : compM (c_check_keeps_1 [some (.sh (kt ks)), none]) (ks.map PyData.int) = DI.ret ((ks.map fun _ => true).map PyData.bool) := comp_all ks fun k hk => by
    rw [c_check_keeps_1_eq, whole_t (h.rg k hk).1 (h.rg k hk).2]
    rfl
  have a : (((ks.length : Nat) : Int) = 3) = True := eq_true (by have := h.l; omega)
  rw [m_check_keeps_eq]
  simp only [isT_kt, seq_kt, len_kt, opt_some, bnd_ret_l, tr_b, Bool.not_true, Bool.false_eq_true, if_false, ne_ii, a, decide_true]
  rw [grd_fits (by rw [List.length_map, h.l]; omega), h1]
  simp only [bnd_ret_l, all_b, all_true, tr_b, Bool.not_true, Bool.false_eq_true, if_false]
structure StOk (S : List Sx) : Prop where
  n1 : 1 ≤ S.length
  n2 : S.length ≤ 12
  st : ∀ s ∈ S, SOk s
theorem isT_se (S : List Sx) : isT "tuple" (se S) = some true := rfl
theorem seq_se (S : List Sx) : seqOf (se S) = some (S.map Sx.e) := rfl
theorem len_se (S : List Sx) : biM .len [se S] = DI.ret (.int S.length) := by
  show DI.ret (PyData.int ((S.map Sx.e).length : Int)) = _
  rw [List.length_map]
theorem l_states {S : List Sx} (h : StOk S) : m_check_states [se S] = DI.ret .none := by
  have h1 : compM (c_check_states_1 [some (.sh (se S)), none]) (S.map Sx.e) = DI.ret ((S.map fun _ => true).map PyData.bool) := comp_all S fun s hs => by
    rw [c_check_states_1_eq, l_state (h.st s hs)]
    rfl
  have n1 := h.n1
  have n2 := h.n2
  have a1 : (decide ((1 : Int) ≤ (S.length : Int))) = true := decide_eq_true (by omega)
  have a2 : (decide ((S.length : Int) ≤ 12)) = true := decide_eq_true (by omega)
  rw [m_check_states_eq]
  simp only [isT_se, seq_se, len_se, opt_some, bnd_ret_l, tr_b, Bool.not_true, Bool.false_eq_true, if_false, if_true, le_ii, a1, a2]
  rw [grd_fits (by rw [List.length_map]; omega), h1]
  simp only [bnd_ret_l, all_b, all_true, tr_b, Bool.not_true, Bool.false_eq_true, if_false]
/-- whether three states go together -/
def goB (h t s : Sx) : Bool := (t.c.any fun k => decide (k ∈ h.a)) && s.d.any fun k => decide (k ∈ t.b)
theorem filt_len (p : Int → Bool) (ks : List Int) : decide (0 < ((ks.filter p).length : Int)) = ks.any p := by
  induction ks with
  | nil => rfl
  | cons k ks ih =>
    by_cases h : p k = true
    · rw [List.filter_cons_of_pos h, List.any_cons, h]
      exact decide_eq_true (by rw [List.length_cons]; omega)
    · rw [List.filter_cons_of_neg h, List.any_cons, ih]
      simp [h]
theorem l_goes (h t s : Sx) (ht : t.c.length < 63) (hs : s.d.length < 63) : m_goes [h.e, t.e, s.e] = DI.ret (.bool (goB h t s)) := by
  have h1 : compM (c_goes_1 [some (.sh h.e), some (.sh t.e), some (.sh s.e), none, none]) (t.c.map PyData.int) = DI.ret ((t.c.filter fun k => decide (k ∈ h.a)).map PyData.int) := comp_filter (fun k => by
    rw [c_goes_1_eq]
    have e : ixM h.e (.int 0) = DI.ret (.tuple (h.a.map PyData.int)) := rfl
    rw [e, bnd_ret_l, in_kt, bnd_ret_l]
    cases decide (k ∈ h.a) <;> rfl) t.c
  have h2 : ∀ f : D, compM (c_goes_2 [some (.sh h.e), some (.sh t.e), some (.sh s.e), some (.ow f), none]) (s.d.map PyData.int) = DI.ret ((s.d.map fun k => decide (k ∈ t.b)).map PyData.bool) := fun f => by
    rw [comp_m (g := fun k => .bool (decide (k ∈ t.b))) s.d fun k hk => by
      rw [c_goes_2_eq]
      have e : ixM t.e (.int 1) = DI.ret (.tuple (t.b.map PyData.int)) := rfl
      rw [e, bnd_ret_l, in_kt]
      rfl]
    rw [List.map_map]
    rfl
  have e1 : ixM t.e (.int 2) = DI.ret (.tuple (t.c.map PyData.int)) := rfl
  have e2 : ixM s.e (.int 3) = DI.ret (.tuple (s.d.map PyData.int)) := rfl
  rw [m_goes_eq]
  simp only [e1, e2, seq_t, opt_some, bnd_ret_l]
  rw [grd_fits (by rw [List.length_map]; omega), h1]
  simp only [bnd_ret_l, len_l, gt_ii, tr_b, List.length_map]
  rw [filt_len, grd_fits (by omega), h2]
  unfold goB
  cases t.c.any fun k => decide (k ∈ h.a) with
  | true =>
    simp only [if_true, bnd_ret_l, any_b, Bool.true_and, List.any_map]
    rfl
  | false => rfl
end K32
end
section
set_option Elab.async false
set_option linter.all false
set_option autoImplicit false
set_option maxRecDepth 100000
set_option maxHeartbeats 1000000
/-! K32w: what may be held, what breaks. -/
namespace K32
open PySem DI
abbrev Pt := List (Int × Sx)
def r0 : Int × Sx := (0, ⟨[], [], [], []⟩)
def bt (P : Pt) (i : Nat) : Int := (P.getD i r0).1
def stS (P : Pt) (i : Nat) : Sx := (P.getD i r0).2
/-- when the next step begins -/
def tl (P : Pt) (t : Int) (i : Nat) : Int := if i + 1 < P.length then bt P (i + 1) else t + 1
def hB (P : Pt) (K t : Int) (i : Nat) : Bool := decide (bt P i ≤ t) && (decide (t < tl P t i) || decide (t - tl P t i < K))
def hl (P : Pt) (K t : Int) : List Nat := (List.range P.length).filter (hB P K t)
theorem hl_lt {P : Pt} {K t : Int} {i : Nat} (h : i ∈ hl P K t) : i < P.length := List.mem_range.mp (List.mem_filter.mp h).1
theorem row_at {P : Pt} {i : Nat} (h : i < P.length) : (P.map row).getD i .none = .tuple [.int (bt P i), (stS P i).e] := by
  simp [List.getD, bt, stS, h, row]
theorem ix_pe {P : Pt} {i : Nat} (h : i < P.length) : ixM (pe P) (.int (i : Int)) = DI.ret (.tuple [.int (bt P i), (stS P i).e]) := by
  show ixM (.tuple (P.map row)) _ = _
  rw [ixt_map row P i h]
  simp [bt, stS, List.getD, h, row]
theorem fold_filter {α : Type} (p : α → Bool) : ∀ (as l : List α), as.foldl (fun l a => if p a = true then l ++ [a] else l) l = l ++ as.filter p
  | [], l => by simp
  | a :: as, l => by
    rw [List.foldl_cons, fold_filter p as]
    by_cases h : p a = true
    · rw [if_pos h, List.filter_cons_of_pos h, List.append_assoc]
      rfl
    · rw [if_neg h, List.filter_cons_of_neg h]
theorem i1 (i n : Nat) : decide (((i : Int) + 1) < (n : Int)) = decide (i + 1 < n) := by
  by_cases h : i + 1 < n
  · rw [decide_eq_true h, decide_eq_true (by omega)]
  · rw [decide_eq_false h, decide_eq_false (by omega)]
section
variable {P : Pt} (hP : P.length ≤ 1000) (K t : Int)
include hP
theorem l_held : m_held_at [pe P, .int K, .int t] = DI.ret (.list ((hl P K t).map fun i => .int (bt P i))) := by
  have hloop := loop_all (f := f_held_at_1) (mk := fun i : Nat => PyData.tuple [.int (i : Int), (P.map row).getD i .none]) (step := fun l i => if hB P K t i = true then l ++ [i] else l)
    (Rl := fun (l : List Nat) ρ => ∃ o1 o2 o3 o4 : Option SV, ρ = [some (.sh (pe P)), some (.sh (.int K)), some (.sh (.int t)), some (.ow (.list (l.map fun i => PyData.int (bt P i)))), o1, o2, o3, o4])
    (List.range P.length) [] (fun p q i ρ e r => by
      obtain ⟨o1, o2, o3, o4, rfl⟩ := r
      have hi : i < P.length := List.mem_range.mp (by rw [e]; simp)
      have hlen : (p.foldl (fun l i => if hB P K t i = true then l ++ [i] else l) ([] : List Nat)).length ≤ 1000 := by
        rw [fold_filter, List.nil_append]
        have h1 := List.length_filter_le (hB P K t) p
        have h2 := congrArg List.length e
        simp at h2
        omega
      generalize (p.foldl (fun l i => if hB P K t i = true then l ++ [i] else l) ([] : List Nat)) = l at hlen ⊢
      show ∃ ρ', _ ∧ f_held_at_1 (.tuple [.int (i : Int), (P.map row).getD i .none]) _ = _
      rw [row_at hi, f_held_at_1_eq]
      have e1 : (bnd (bnd (bnd (binM .Add (.int (i : Int)) (.int 1)) fun x126 => bnd (biM .len [pe P]) fun x127 => cmpM .Lt x126 x127) fun c128 => if c128 = true then bnd (bnd (binM .Add (.int (i : Int)) (.int 1)) fun x129 => ixM (pe P) x129) fun x130 => ixM x130 (.int 0) else binM .Add (.int t) (.int 1)) fun d => DI.ret d) = DI.ret (.int (tl P t i)) := by
        simp only [add_ii, bnd_ret_l, len_pe, lt_ii, i1]
        unfold tl
        by_cases h : i + 1 < P.length
        · rw [decide_eq_true h, if_pos rfl, if_pos h]
          have z := ix_pe h
          have e : ((i : Int) + 1) = ((i + 1 : Nat) : Int) := by omega
          rw [e, z]
          rfl
        · rw [decide_eq_false h, if_neg (by decide), if_neg h]
          rfl
      rw [bnd_ret_r] at e1
      rw [e1, bnd_ret_l]
      simp only [le_ii, gt_ii, sub_ii, lt_ii, bnd_ret_l]
      have e2 : (if decide (bt P i ≤ t) = true then bnd (DI.ret (decide (t < tl P t i))) (fun b => if b = true then DI.ret true else DI.ret (decide (t - tl P t i < K))) else DI.ret false) = DI.ret (hB P K t i) := by
        unfold hB
        cases decide (bt P i ≤ t) <;> cases decide (t < tl P t i) <;> rfl
      simp only [bnd_ret_l] at e2
      rw [e2, bnd_ret_l]
      by_cases h : hB P K t i = true
      · rw [if_pos h, if_pos h, grd_fits (by rw [List.length_map]; omega)]
        exact ⟨_, ⟨_, _, _, _, rfl⟩, by rw [List.map_append]; rfl⟩
      · rw [if_neg h, if_neg h]
        exact ⟨_, ⟨_, _, _, _, rfl⟩, rfl⟩) (ρ := [some (.sh (pe P)), some (.sh (.int K)), some (.sh (.int t)), some (.ow (.list [])), none, none, none, none]) ⟨none, none, none, none, rfl⟩
  obtain ⟨ρ', ⟨o1, o2, o3, o4, rfl⟩, hl'⟩ := hloop
  rw [fold_filter, List.nil_append] at hl'
  rw [m_held_at_eq, seq_pe, opt_some, bnd_ret_l, bnd_ret_l]
  have e : enumD (P.map row) = (List.range P.length).map fun i : Nat => PyData.tuple [.int (i : Int), (P.map row).getD i .none] := by
    unfold enumD
    rw [List.length_map]
  rw [e, hl', bnd_ret_l, k_held_at_1_eq]
  rfl
theorem l_lheld : m_law_held [pe P, .int K, .int t] = DI.ret (.list ((hl P K t).map fun i : Nat => PyData.int (i : Int))) := by
  have hloop := loop_all (f := f_law_held_1) (mk := fun i : Nat => PyData.int (0 + (i : Int))) (step := fun l i => if hB P K t i = true then l ++ [i] else l)
    (Rl := fun (l : List Nat) ρ => ∃ o1 o2 o3 : Option SV, ρ = [some (.sh (pe P)), some (.sh (.int K)), some (.sh (.int t)), some (.ow (.list (l.map fun i : Nat => PyData.int (i : Int)))), o1, o2, o3, none])
    (List.range P.length) [] (fun p q i ρ e r => by
      obtain ⟨o1, o2, o3, rfl⟩ := r
      have hi : i < P.length := List.mem_range.mp (by rw [e]; simp)
      have hlen : (p.foldl (fun l i => if hB P K t i = true then l ++ [i] else l) ([] : List Nat)).length ≤ 1000 := by
        rw [fold_filter, List.nil_append]
        have h1 := List.length_filter_le (hB P K t) p
        have h2 := congrArg List.length e
        simp at h2
        omega
      generalize (p.foldl (fun l i => if hB P K t i = true then l ++ [i] else l) ([] : List Nat)) = l at hlen ⊢
      have e0 : (0 : Int) + (i : Int) = (i : Int) := by omega
      show ∃ ρ', _ ∧ f_law_held_1 (.int (0 + (i : Int))) _ = _
      rw [e0, f_law_held_1_eq, ix_pe hi, bnd_ret_l]
      have e1 : ixM (.tuple [.int (bt P i), (stS P i).e]) (.int 0) = DI.ret (.int (bt P i)) := rfl
      have hc : ∀ (l : List D) (o : Option SV), compM (c_law_held_2 [some (.sh (pe P)), some (.sh (.int K)), some (.sh (.int t)), some (.ow (.list l)), some (.sh (.int (i : Int))), some (.sh (.int (bt P i))), o, none]) ([.int 0] : List D) = DI.ret (if i + 1 < P.length then [.int (bt P (i + 1))] else []) := fun l o => by
        show bnd (c_law_held_2 _ (.int 0)) (fun o => bnd (DI.ret []) _) = _
        rw [c_law_held_2_eq]
        simp only [add_ii, bnd_ret_l, len_pe, lt_ii, i1]
        by_cases h : i + 1 < P.length
        · have z := ix_pe h
          have e : ((i : Int) + 1) = ((i + 1 : Nat) : Int) := by omega
          rw [decide_eq_true h, if_pos rfl, if_pos h, e, z]
          rfl
        · rw [decide_eq_false h, if_neg (by decide), if_neg h]
          rfl
      rw [e1, bnd_ret_l, hc]
      simp only [add_ii, bnd_ret_l]
      rw [grd_fits (by simp), bnd_ret_l, grd_fits (by simp)]
      simp only [bnd_ret_l]
      rw [cat_l (by split <;> simp), bnd_ret_l]
      have e3 : ([PyData.int (t + 1)] ++ if i + 1 < P.length then [PyData.int (bt P (i + 1))] else []) = if i + 1 < P.length then [PyData.int (t + 1), PyData.int (bt P (i + 1))] else [PyData.int (t + 1)] := by split <;> rfl
      rw [e3]
      have e4 : ixM (.list (if i + 1 < P.length then [PyData.int (t + 1), PyData.int (bt P (i + 1))] else [PyData.int (t + 1)])) (.int (-1)) = DI.ret (.int (tl P t i)) := by
        unfold tl
        split <;> rfl
      show ∃ ρ', _ ∧ bnd (DI.ret _) _ = _
      simp only [bnd_ret_l, le_ii, gt_ii, neg_i, e4, sub_ii, lt_ii]
      have e2 : (if decide (bt P i ≤ t) = true then (if decide (t < tl P t i) = true then DI.ret true else DI.ret (decide (t - tl P t i < K))) else DI.ret false) = DI.ret (hB P K t i) := by
        unfold hB
        cases decide (bt P i ≤ t) <;> cases decide (t < tl P t i) <;> rfl
      rw [e2, bnd_ret_l]
      by_cases h : hB P K t i = true
      · rw [if_pos h, if_pos h, grd_fits (by rw [List.length_map]; omega)]
        exact ⟨_, ⟨_, _, _, rfl⟩, by rw [List.map_append]; rfl⟩
      · rw [if_neg h, if_neg h]
        exact ⟨_, ⟨_, _, _, rfl⟩, rfl⟩) (ρ := [some (.sh (pe P)), some (.sh (.int K)), some (.sh (.int t)), some (.ow (.list [])), none, none, none, none]) ⟨none, none, none, rfl⟩
  obtain ⟨ρ', ⟨o1, o2, o3, rfl⟩, hl'⟩ := hloop
  rw [fold_filter, List.nil_append] at hl'
  rw [m_law_held_eq, len_pe, bnd_ret_l, int_i, bnd_ret_l]
  have e : rangeD 0 (P.length : Int) = (List.range P.length).map fun i : Nat => PyData.int (0 + (i : Int)) := by
    unfold rangeD
    have : ((P.length : Int) - 0).toNat = P.length := by omega
    rw [this]
  have hr : rgOk 0 (P.length : Int) = true := decide_eq_true (by omega)
  rw [hr, grd_t, bnd_ret_l, e, hl', bnd_ret_l, k_law_held_1_eq]
  rfl
end
/-- the times rise -/
def Up (P : Pt) : Prop := (P.map (·.1)).Pairwise (· < ·)
theorem bt_lt {P : Pt} (h : Up P) {i j : Nat} (hij : i < j) (hj : j < P.length) : bt P i < bt P j := by
  have z := List.pairwise_iff_getElem.mp h i j (by rw [List.length_map]; omega) (by rw [List.length_map]; omega) hij
  simp only [List.getElem_map] at z
  unfold bt
  simp only [List.getD, List.getElem?_eq_getElem (show i < P.length by omega), List.getElem?_eq_getElem hj, Option.getD_some]
  exact z
theorem filt_take : ∀ {P : Pt} (h : Up P) {i : Nat} (hi : i < P.length), P.filter (fun p => decide (p.1 ≤ bt P i)) = P.take (i + 1)
  | [], _, i, hi => by simp at hi
  | p :: P, h, i, hi => by
    have h' := List.pairwise_cons.mp h
    cases i with
    | zero =>
      have e : bt (p :: P) 0 = p.1 := rfl
      rw [e, List.filter_cons_of_pos (by simp)]
      have n : P.filter (fun q => decide (q.1 ≤ p.1)) = [] := List.filter_eq_nil_iff.mpr fun q hq => by
        have := h'.1 q.1 (List.mem_map.mpr ⟨q, hq, rfl⟩)
        simp
        omega
      rw [n]
      simp
    | succ i =>
      have hi' : i < P.length := by simp at hi; omega
      have e : bt (p :: P) (i + 1) = bt P i := rfl
      have lt : p.1 ≤ bt P i := by
        have := bt_lt h (i := 0) (j := i + 1) (by omega) hi
        have e0 : bt (p :: P) 0 = p.1 := rfl
        rw [e, e0] at this
        omega
      rw [e, List.filter_cons_of_pos (by simp; omega), filt_take h'.2 hi']
      rfl
theorem l_known {P : Pt} (hP : P.length ≤ 1000) (h : Up P) {i : Nat} (hi : i < P.length) : m_known_state [pe P, .int (bt P i)] = DI.ret (stS P i).e := by
  have hc : compM (c_known_state_1 [some (.sh (pe P)), some (.sh (.int (bt P i))), none, none]) (P.map row) = DI.ret ((P.take (i + 1)).map fun p => p.2.e) := by
    rw [comp_fm (g := fun p : Int × Sx => if decide (p.1 ≤ bt P i) = true then some p.2.e else none) P fun p hp => by
      show c_known_state_1 _ (.tuple [.int p.1, p.2.e]) = _
      rw [c_known_state_1_eq, le_ii, bnd_ret_l]
      cases decide (p.1 ≤ bt P i) <;> rfl]
    rw [← filt_take h hi, ← List.filterMap_eq_map, List.filterMap_filter]
    congr 1
  rw [m_known_state_eq, seq_pe, opt_some, bnd_ret_l, grd_fits (by rw [List.length_map]; omega), hc, bnd_ret_l, bnd_ret_l, neg_i, bnd_ret_l, ix_l]
  have ne : ((P.take (i + 1)).map fun p => p.2.e) ≠ [] := List.length_pos_iff.mp (by rw [List.length_map, List.length_take]; omega)
  rw [atI_last _ ne, opt_some, bnd_ret_l]
  congr 1
  rw [List.getLast_eq_getElem]
  simp only [List.length_map, List.length_take, List.getElem_map, List.getElem_take]
  have e : min (i + 1) P.length - 1 = i := by omega
  simp only [e]
  unfold stS
  simp [List.getD, hi]
end K32
end
section
set_option Elab.async false
set_option linter.all false
set_option autoImplicit false
set_option maxRecDepth 100000
set_option maxHeartbeats 1000000
/-! K32x: the first triple that breaks. -/
namespace K32
open PySem DI
theorem l_lgoes (h t s : Sx) (ht : t.c.length < 63) (hs : s.d.length < 63) : m_law_goes [h.e, t.e, s.e] = DI.ret (.bool (goB h t s)) := by
  have h1 : compM (c_law_goes_1 [some (.sh h.e), some (.sh t.e), some (.sh s.e), none]) (t.c.map PyData.int) = DI.ret ((t.c.map fun k => decide (k ∈ h.a)).map PyData.bool) := by
    rw [comp_m (g := fun k => .bool (decide (k ∈ h.a))) t.c fun k hk => by
      rw [c_law_goes_1_eq]
      have e : ixM h.e (.int 0) = DI.ret (.tuple (h.a.map PyData.int)) := rfl
      rw [e, bnd_ret_l, in_kt]
      rfl]
    rw [List.map_map]
    rfl
  have h2 : compM (c_law_goes_2 [some (.sh h.e), some (.sh t.e), some (.sh s.e), none]) (s.d.map PyData.int) = DI.ret ((s.d.map fun k => decide (k ∈ t.b)).map PyData.bool) := by
    rw [comp_m (g := fun k => .bool (decide (k ∈ t.b))) s.d fun k hk => by
      rw [c_law_goes_2_eq]
      have e : ixM t.e (.int 1) = DI.ret (.tuple (t.b.map PyData.int)) := rfl
      rw [e, bnd_ret_l, in_kt]
      rfl]
    rw [List.map_map]
    rfl
  have e1 : ixM t.e (.int 2) = DI.ret (.tuple (t.c.map PyData.int)) := rfl
  have e2 : ixM s.e (.int 3) = DI.ret (.tuple (s.d.map PyData.int)) := rfl
  rw [m_law_goes_eq]
  simp only [e1, e2, seq_t, opt_some, bnd_ret_l]
  rw [grd_fits (by rw [List.length_map]; omega), h1]
  simp only [bnd_ret_l, any_b, tr_b, List.any_map]
  rw [grd_fits (by rw [List.length_map]; omega), h2]
  unfold goB
  have e3 : t.c.any (id ∘ fun k => decide (k ∈ h.a)) = t.c.any fun k => decide (k ∈ h.a) := rfl
  rw [e3]
  cases t.c.any fun k => decide (k ∈ h.a) with
  | true =>
    simp only [if_true, bnd_ret_l, any_b, Bool.true_and, List.any_map]
    rfl
  | false => rfl
/-- a triple that does not go together -/
def bad (P : Pt) (i j k : Nat) : Bool := !goB (stS P i) (stS P j) (stS P k)
def tD {β : Type} (P : Pt) (k0 k1 k2 t : Int) (e : Nat → Nat → Nat → β) : Option β :=
  (hl P k0 t).findSome? fun i => (hl P k1 t).findSome? fun j => (hl P k2 t).findSome? fun k => if bad P i j k = true then some (e i j k) else none
structure Ok (P : Pt) : Prop where
  le : P.length ≤ 1000
  up : Up P
  sm : ∀ i, (stS P i).c.length < 63 ∧ (stS P i).d.length < 63
def ff (o : Option D) : Fl := match o with
  | some d => .rt d
  | none => .nx
section
variable {P : Pt} (hP : Ok P) (k0 k1 k2 t : Int)
include hP
theorem l_broken : m_broken_at [pe P, kt [k0, k1, k2], .int t] = DI.ret ((tD P k0 k1 k2 t fun i j k => .tuple [.int (bt P i), .int (bt P j), .int (bt P k)]).getD .none) := by
  let E : Nat → Nat → Nat → D := fun i j k => .tuple [.int (bt P i), .int (bt P j), .int (bt P k)]
  let rw' (K : Int) : D := .list ((hl P K t).map fun i => .int (bt P i))
  have hr : compM (c_broken_at_1 [some (.sh (pe P)), some (.sh (kt [k0, k1, k2])), some (.sh (.int t)), none, none, none, none, none]) (([k0, k1, k2] : List Int).map PyData.int) = DI.ret [rw' k0, rw' k1, rw' k2] := comp_m (g := rw') [k0, k1, k2] fun K _ => by
    rw [c_broken_at_1_eq, l_held hP.le]
    rfl
  have L4 : ∀ i j, i < P.length → j < P.length → ∀ o, ∃ o', loopM f_broken_at_4 ((hl P k2 t).map fun i => .int (bt P i)) [some (.sh (pe P)), some (.sh (kt [k0, k1, k2])), some (.sh (.int t)), some (.ow (.list [rw' k0, rw' k1, rw' k2])), some (.sh (.int (bt P i))), some (.sh (.int (bt P j))), none, o] =
      DI.ret (ff ((hl P k2 t).findSome? fun k => if bad P i j k = true then some (E i j k) else none), [some (.sh (pe P)), some (.sh (kt [k0, k1, k2])), some (.sh (.int t)), some (.ow (.list [rw' k0, rw' k1, rw' k2])), some (.sh (.int (bt P i))), some (.sh (.int (bt P j))), none, o']) := fun i j hi hj o => by
    obtain ⟨ρ', ⟨o', rfl⟩, e⟩ := loop_find (f := f_broken_at_4) (mk := fun i => .int (bt P i)) (g := fun k => if bad P i j k = true then some (E i j k) else none)
      (Rl := fun ρ => ∃ o, ρ = [some (.sh (pe P)), some (.sh (kt [k0, k1, k2])), some (.sh (.int t)), some (.ow (.list [rw' k0, rw' k1, rw' k2])), some (.sh (.int (bt P i))), some (.sh (.int (bt P j))), none, o]) (hl P k2 t) (fun k hk ρ r => by
        obtain ⟨o, rfl⟩ := r
        have hk := hl_lt hk
        rw [f_broken_at_4_eq, l_known hP.le hP.up hi, l_known hP.le hP.up hj, l_known hP.le hP.up hk]
        simp only [pure_r, bnd_ret_l]
        have z : decide (([(stS P i).e, (stS P j).e, (stS P k).e] : List D).length = 3) = true := rfl
        rw [z, grd_t, l_goes _ _ _ (hP.sm j).1 (hP.sm k).2]
        simp only [pure_r, bnd_ret_l, tr_b]
        show ∃ ρ', _ ∧ (if bad P i j k = true then _ else _) = _
        by_cases h : bad P i j k = true
        · rw [if_pos h, if_pos h]
          exact ⟨_, ⟨_, rfl⟩, rfl⟩
        · rw [if_neg h, if_neg h]
          exact ⟨_, ⟨_, rfl⟩, rfl⟩) _ ⟨o, rfl⟩
    exact ⟨o', e⟩
  have L3 : ∀ i, i < P.length → ∀ o p, ∃ o' p', loopM f_broken_at_3 ((hl P k1 t).map fun i => .int (bt P i)) [some (.sh (pe P)), some (.sh (kt [k0, k1, k2])), some (.sh (.int t)), some (.ow (.list [rw' k0, rw' k1, rw' k2])), some (.sh (.int (bt P i))), o, none, p] =
      DI.ret (ff ((hl P k1 t).findSome? fun j => (hl P k2 t).findSome? fun k => if bad P i j k = true then some (E i j k) else none), [some (.sh (pe P)), some (.sh (kt [k0, k1, k2])), some (.sh (.int t)), some (.ow (.list [rw' k0, rw' k1, rw' k2])), some (.sh (.int (bt P i))), o', none, p']) := fun i hi o p => by
    obtain ⟨ρ', ⟨o', p', rfl⟩, e⟩ := loop_find (f := f_broken_at_3) (mk := fun i => .int (bt P i)) (g := fun j => (hl P k2 t).findSome? fun k => if bad P i j k = true then some (E i j k) else none)
      (Rl := fun ρ => ∃ o p, ρ = [some (.sh (pe P)), some (.sh (kt [k0, k1, k2])), some (.sh (.int t)), some (.ow (.list [rw' k0, rw' k1, rw' k2])), some (.sh (.int (bt P i))), o, none, p]) (hl P k1 t) (fun j hj ρ r => by
        obtain ⟨o, p, rfl⟩ := r
        have hj := hl_lt hj
        obtain ⟨p', e4⟩ := L4 i j hi hj p
        have e1 : ixM (.list [rw' k0, rw' k1, rw' k2]) (.int 2) = DI.ret (rw' k2) := rfl
        have e2 : optM (seqOf (rw' k2)) = DI.ret ((hl P k2 t).map fun i => .int (bt P i)) := rfl
        rw [f_broken_at_3_eq, e1, bnd_ret_l, e2, bnd_ret_l, e4, bnd_ret_l]
        cases (hl P k2 t).findSome? fun k => if bad P i j k = true then some (E i j k) else none with
        | none => exact ⟨_, ⟨_, _, rfl⟩, k_broken_at_4_eq _ _ _ _ _ _ _⟩
        | some d => exact ⟨_, ⟨_, _, rfl⟩, rfl⟩) _ ⟨o, p, rfl⟩
    exact ⟨o', p', e⟩
  obtain ⟨ρ', ⟨o, p, q, rfl⟩, e⟩ := loop_find (f := f_broken_at_2) (mk := fun i => .int (bt P i)) (g := fun i => (hl P k1 t).findSome? fun j => (hl P k2 t).findSome? fun k => if bad P i j k = true then some (E i j k) else none)
      (Rl := fun ρ => ∃ o p q, ρ = [some (.sh (pe P)), some (.sh (kt [k0, k1, k2])), some (.sh (.int t)), some (.ow (.list [rw' k0, rw' k1, rw' k2])), o, p, none, q]) (hl P k0 t) (fun i hi ρ r => by
        obtain ⟨o, p, q, rfl⟩ := r
        have hi := hl_lt hi
        obtain ⟨p', q', e4⟩ := L3 i hi p q
        have e1 : ixM (.list [rw' k0, rw' k1, rw' k2]) (.int 1) = DI.ret (rw' k1) := rfl
        have e2 : optM (seqOf (rw' k1)) = DI.ret ((hl P k1 t).map fun i => .int (bt P i)) := rfl
        rw [f_broken_at_2_eq, e1, bnd_ret_l, e2, bnd_ret_l, e4, bnd_ret_l]
        cases (hl P k1 t).findSome? fun j => (hl P k2 t).findSome? fun k => if bad P i j k = true then some (E i j k) else none with
        | none => exact ⟨_, ⟨_, _, _, rfl⟩, k_broken_at_3_eq _ _ _ _ _ _ _⟩
        | some d => exact ⟨_, ⟨_, _, _, rfl⟩, rfl⟩) _ ⟨none, none, none, rfl⟩
  have e1 : ixM (.list [rw' k0, rw' k1, rw' k2]) (.int 0) = DI.ret (rw' k0) := rfl
  have e2 : optM (seqOf (rw' k0)) = DI.ret ((hl P k0 t).map fun i => .int (bt P i)) := rfl
  rw [m_broken_at_eq, seq_kt, opt_some, bnd_ret_l, grd_fits (by simp), hr, bnd_ret_l, bnd_ret_l, e1, bnd_ret_l, e2, bnd_ret_l, e, bnd_ret_l]
  show _ = DI.ret (((hl P k0 t).findSome? fun i => (hl P k1 t).findSome? fun j => (hl P k2 t).findSome? fun k => if bad P i j k = true then some (E i j k) else none).getD .none)
  cases (hl P k0 t).findSome? fun i => (hl P k1 t).findSome? fun j => (hl P k2 t).findSome? fun k => if bad P i j k = true then some (E i j k) else none with
  | none => exact k_broken_at_2_eq _ _ _ _ _ _ _
  | some d => rfl
end
end K32
end
section
set_option Elab.async false
set_option linter.all false
set_option autoImplicit false
set_option maxRecDepth 100000
set_option maxHeartbeats 1000000
/-! K32y: the law's own looking at all seconds. -/
namespace K32
open PySem DI
theorem ix_st {P : Pt} {i : Nat} (h : i < P.length) : (bnd (ixM (pe P) (.int (i : Int))) fun x => ixM x (.int 1)) = DI.ret (stS P i).e := by
  rw [ix_pe h]
  rfl
theorem ix_bt {P : Pt} {i : Nat} (h : i < P.length) : (bnd (ixM (pe P) (.int (i : Int))) fun x => ixM x (.int 0)) = DI.ret (.int (bt P i)) := by
  rw [ix_pe h]
  rfl
section
variable {P : Pt} (hP : Ok P) (k0 k1 k2 : Int) (n : Nat)
include hP
theorem l_lbreak (hn : n < 1000000) : m_law_break [pe P, kt [k0, k1, k2], .int (n : Int)] = DI.ret (((List.range (n + 1)).findSome? fun t : Nat => tD P k0 k1 k2 (t : Int) fun i j k => PyData.tuple [.int (t : Int), .int (bt P i), .int (bt P j), .int (bt P k)]).getD .none) := by
  let E : Nat → Nat → Nat → Nat → D := fun t i j k => .tuple [.int (t : Int), .int (bt P i), .int (bt P j), .int (bt P k)]
  let rw' (t : Nat) (K : Int) : D := .list ((hl P K (t : Int)).map fun i : Nat => PyData.int (i : Int))
  let base (t : Nat) (r : Option SV) : DI.Env := [some (.sh (pe P)), some (.sh (kt [k0, k1, k2])), some (.sh (.int (n : Int))), some (.sh (.int (t : Int))), r]
  have hr : ∀ (t : Nat) o1 o2 o3 o4, compM (c_law_break_2 [some (.sh (pe P)), some (.sh (kt [k0, k1, k2])), some (.sh (.int (n : Int))), some (.sh (.int (t : Int))), o1, o2, o3, none, o4]) (([k0, k1, k2] : List Int).map PyData.int) = DI.ret [rw' t k0, rw' t k1, rw' t k2] := fun t o1 o2 o3 o4 => comp_m (g := rw' t) [k0, k1, k2] fun K _ => by
    rw [c_law_break_2_eq, l_lheld hP.le]
    rfl
  have L5 : ∀ (t i j : Nat), i < P.length → j < P.length → ∀ o, ∃ o', loopM f_law_break_5 ((hl P k2 (t : Int)).map fun i : Nat => PyData.int (i : Int)) [some (.sh (pe P)), some (.sh (kt [k0, k1, k2])), some (.sh (.int (n : Int))), some (.sh (.int (t : Int))), some (.ow (.list [rw' t k0, rw' t k1, rw' t k2])), some (.sh (.int (i : Int))), some (.sh (.int (j : Int))), none, o] =
      DI.ret (ff ((hl P k2 (t : Int)).findSome? fun k => if bad P i j k = true then some (E t i j k) else none), [some (.sh (pe P)), some (.sh (kt [k0, k1, k2])), some (.sh (.int (n : Int))), some (.sh (.int (t : Int))), some (.ow (.list [rw' t k0, rw' t k1, rw' t k2])), some (.sh (.int (i : Int))), some (.sh (.int (j : Int))), none, o']) := fun t i j hi hj o => by
    obtain ⟨ρ', ⟨o', rfl⟩, e⟩ := loop_find (f := f_law_break_5) (mk := fun i : Nat => PyData.int (i : Int)) (g := fun k => if bad P i j k = true then some (E t i j k) else none)
      (Rl := fun ρ => ∃ o, ρ = [some (.sh (pe P)), some (.sh (kt [k0, k1, k2])), some (.sh (.int (n : Int))), some (.sh (.int (t : Int))), some (.ow (.list [rw' t k0, rw' t k1, rw' t k2])), some (.sh (.int (i : Int))), some (.sh (.int (j : Int))), none, o]) (hl P k2 (t : Int)) (fun k hk ρ r => by
        obtain ⟨o, rfl⟩ := r
        have hk := hl_lt hk
        rw [f_law_break_5_eq, ix_st hi, ix_st hj, ix_st hk, ix_bt hi, ix_bt hj, ix_bt hk]
        simp only [bnd_ret_l]
        have z : decide (([(stS P i).e, (stS P j).e, (stS P k).e] : List D).length = 3) = true := rfl
        rw [z, grd_t, l_lgoes _ _ _ (hP.sm j).1 (hP.sm k).2]
        simp only [pure_r, bnd_ret_l, tr_b]
        show ∃ ρ', _ ∧ (if bad P i j k = true then _ else _) = _
        by_cases h : bad P i j k = true
        · rw [if_pos h, if_pos h, grd_fits (by simp), bnd_ret_l]
          exact ⟨_, ⟨_, rfl⟩, rfl⟩
        · rw [if_neg h, if_neg h]
          exact ⟨_, ⟨_, rfl⟩, rfl⟩) _ ⟨o, rfl⟩
    exact ⟨o', e⟩
  have L4 : ∀ (t i : Nat), i < P.length → ∀ o p, ∃ o' p', loopM f_law_break_4 ((hl P k1 (t : Int)).map fun i : Nat => PyData.int (i : Int)) [some (.sh (pe P)), some (.sh (kt [k0, k1, k2])), some (.sh (.int (n : Int))), some (.sh (.int (t : Int))), some (.ow (.list [rw' t k0, rw' t k1, rw' t k2])), some (.sh (.int (i : Int))), o, none, p] =
      DI.ret (ff ((hl P k1 (t : Int)).findSome? fun j => (hl P k2 (t : Int)).findSome? fun k => if bad P i j k = true then some (E t i j k) else none), [some (.sh (pe P)), some (.sh (kt [k0, k1, k2])), some (.sh (.int (n : Int))), some (.sh (.int (t : Int))), some (.ow (.list [rw' t k0, rw' t k1, rw' t k2])), some (.sh (.int (i : Int))), o', none, p']) := fun t i hi o p => by
    obtain ⟨ρ', ⟨o', p', rfl⟩, e⟩ := loop_find (f := f_law_break_4) (mk := fun i : Nat => PyData.int (i : Int)) (g := fun j => (hl P k2 (t : Int)).findSome? fun k => if bad P i j k = true then some (E t i j k) else none)
      (Rl := fun ρ => ∃ o p, ρ = [some (.sh (pe P)), some (.sh (kt [k0, k1, k2])), some (.sh (.int (n : Int))), some (.sh (.int (t : Int))), some (.ow (.list [rw' t k0, rw' t k1, rw' t k2])), some (.sh (.int (i : Int))), o, none, p]) (hl P k1 (t : Int)) (fun j hj ρ r => by
        obtain ⟨o, p, rfl⟩ := r
        have hj := hl_lt hj
        obtain ⟨p', e4⟩ := L5 t i j hi hj p
        have e1 : ixM (.list [rw' t k0, rw' t k1, rw' t k2]) (.int 2) = DI.ret (rw' t k2) := rfl
        have e2 : optM (seqOf (rw' t k2)) = DI.ret ((hl P k2 (t : Int)).map fun i : Nat => PyData.int (i : Int)) := rfl
        rw [f_law_break_4_eq, e1, bnd_ret_l, e2, bnd_ret_l, e4, bnd_ret_l]
        cases (hl P k2 (t : Int)).findSome? fun k => if bad P i j k = true then some (E t i j k) else none with
        | none => exact ⟨_, ⟨_, _, rfl⟩, k_law_break_5_eq _ _ _ _ _ _ _ _⟩
        | some d => exact ⟨_, ⟨_, _, rfl⟩, rfl⟩) _ ⟨o, p, rfl⟩
    exact ⟨o', p', e⟩
  have L3 : ∀ (t : Nat) o p q, ∃ o' p' q', loopM f_law_break_3 ((hl P k0 (t : Int)).map fun i : Nat => PyData.int (i : Int)) [some (.sh (pe P)), some (.sh (kt [k0, k1, k2])), some (.sh (.int (n : Int))), some (.sh (.int (t : Int))), some (.ow (.list [rw' t k0, rw' t k1, rw' t k2])), o, p, none, q] =
      DI.ret (ff (tD P k0 k1 k2 (t : Int) (E t)), [some (.sh (pe P)), some (.sh (kt [k0, k1, k2])), some (.sh (.int (n : Int))), some (.sh (.int (t : Int))), some (.ow (.list [rw' t k0, rw' t k1, rw' t k2])), o', p', none, q']) := fun t o p q => by
    obtain ⟨ρ', ⟨o', p', q', rfl⟩, e⟩ := loop_find (f := f_law_break_3) (mk := fun i : Nat => PyData.int (i : Int)) (g := fun i => (hl P k1 (t : Int)).findSome? fun j => (hl P k2 (t : Int)).findSome? fun k => if bad P i j k = true then some (E t i j k) else none)
      (Rl := fun ρ => ∃ o p q, ρ = [some (.sh (pe P)), some (.sh (kt [k0, k1, k2])), some (.sh (.int (n : Int))), some (.sh (.int (t : Int))), some (.ow (.list [rw' t k0, rw' t k1, rw' t k2])), o, p, none, q]) (hl P k0 (t : Int)) (fun i hi ρ r => by
        obtain ⟨o, p, q, rfl⟩ := r
        have hi := hl_lt hi
        obtain ⟨p', q', e4⟩ := L4 t i hi p q
        have e1 : ixM (.list [rw' t k0, rw' t k1, rw' t k2]) (.int 1) = DI.ret (rw' t k1) := rfl
        have e2 : optM (seqOf (rw' t k1)) = DI.ret ((hl P k1 (t : Int)).map fun i : Nat => PyData.int (i : Int)) := rfl
        rw [f_law_break_3_eq, e1, bnd_ret_l, e2, bnd_ret_l, e4, bnd_ret_l]
        cases (hl P k1 (t : Int)).findSome? fun j => (hl P k2 (t : Int)).findSome? fun k => if bad P i j k = true then some (E t i j k) else none with
        | none => exact ⟨_, ⟨_, _, _, rfl⟩, k_law_break_4_eq _ _ _ _ _ _ _ _⟩
        | some d => exact ⟨_, ⟨_, _, _, rfl⟩, rfl⟩) _ ⟨o, p, q, rfl⟩
    exact ⟨o', p', q', e⟩
  obtain ⟨ρ', ⟨o1, o2, o3, o4, o5, rfl⟩, e⟩ := loop_find (f := f_law_break_1) (mk := fun t : Nat => PyData.int (0 + (t : Int))) (g := fun t : Nat => tD P k0 k1 k2 (t : Int) (E t))
      (Rl := fun ρ => ∃ o1 o2 o3 o4 o5, ρ = [some (.sh (pe P)), some (.sh (kt [k0, k1, k2])), some (.sh (.int (n : Int))), o1, o2, o3, o4, none, o5]) (List.range (n + 1)) (fun t ht ρ r => by
        obtain ⟨o1, o2, o3, o4, o5, rfl⟩ := r
        obtain ⟨o', p', q', e4⟩ := L3 t o3 o4 o5
        have e0 : (0 : Int) + (t : Int) = (t : Int) := by omega
        have e1 : ixM (.list [rw' t k0, rw' t k1, rw' t k2]) (.int 0) = DI.ret (rw' t k0) := rfl
        have e2 : optM (seqOf (rw' t k0)) = DI.ret ((hl P k0 (t : Int)).map fun i : Nat => PyData.int (i : Int)) := rfl
        rw [e0, f_law_break_1_eq, seq_kt, opt_some, bnd_ret_l, grd_fits (by simp), hr, bnd_ret_l, bnd_ret_l, e1, bnd_ret_l, e2, bnd_ret_l, e4, bnd_ret_l]
        cases tD P k0 k1 k2 (t : Int) (E t) with
        | none => exact ⟨_, ⟨_, _, _, _, _, rfl⟩, k_law_break_3_eq _ _ _ _ _ _ _ _⟩
        | some d => exact ⟨_, ⟨_, _, _, _, _, rfl⟩, rfl⟩) [some (.sh (pe P)), some (.sh (kt [k0, k1, k2])), some (.sh (.int (n : Int))), none, none, none, none, none, none] ⟨none, none, none, none, none, rfl⟩
  have er : rangeD 0 ((n : Int) + 1) = (List.range (n + 1)).map fun t : Nat => PyData.int (0 + (t : Int)) := by
    unfold rangeD
    have : ((n : Int) + 1 - 0).toNat = n + 1 := by omega
    rw [this]
  have hg : rgOk 0 ((n : Int) + 1) = true := decide_eq_true (by omega)
  rw [m_law_break_eq, add_ii, bnd_ret_l, int_i, bnd_ret_l, hg, grd_t, bnd_ret_l, er, e, bnd_ret_l]
  show _ = DI.ret (((List.range (n + 1)).findSome? fun t : Nat => tD P k0 k1 k2 (t : Int) (E t)).getD .none)
  cases (List.range (n + 1)).findSome? fun t : Nat => tD P k0 k1 k2 (t : Int) (E t) with
  | none => exact k_law_break_1_eq _ _ _ _ _ _ _ _
  | some d => rfl
end
end K32
end
section
set_option Elab.async false
set_option linter.all false
set_option autoImplicit false
set_option maxRecDepth 100000
set_option maxHeartbeats 1000000
/-! K32c: moments; safe plans; what is told of them. -/
namespace K32
open PySem DI
def dE (ks : List Int) : D := .dict (ks.map fun k => (PyData.int k, PyData.bool true))
def addK (ks : List Int) (k : Int) : List Int := if k ∈ ks then ks else ks ++ [k]
theorem addK_mem {ks : List Int} {k j : Int} : j ∈ addK ks k ↔ j ∈ ks ∨ j = k := by
  unfold addK
  split
  · rename_i h
    exact ⟨.inl, fun z => z.elim id fun e => e ▸ h⟩
  · simp
theorem addK_len (ks : List Int) (k : Int) : (addK ks k).length ≤ ks.length + 1 := by
  unfold addK
  split
  · omega
  · simp
theorem keyV_eq (j k : Int) : decide (keyV (.int j) = some (Sum.inl k : L2.Key)) = decide (j = k) := by
  show decide ((some (Sum.inl j) : Option L2.Key) = some (Sum.inl k)) = _
  simp
theorem put_dE (ks : List Int) (k : Int) : putK' (ks.map fun k => (PyData.int k, PyData.bool true)) (.inl k) (.bool true) = (addK ks k).map fun k => (PyData.int k, PyData.bool true) := by
  unfold putK' addK
  have e : ((ks.map fun k => (PyData.int k, PyData.bool true)).any fun e => decide (keyV e.1 = some (Sum.inl k : L2.Key))) = decide (k ∈ ks) := by
    induction ks with
    | nil => rfl
    | cons j ks ih =>
      rw [List.map_cons, List.any_cons, ih, keyV_eq]
      by_cases h : j = k
      · subst h; simp
      · have h' : ¬ k = j := fun z => h z.symm
        simp [h, h', List.mem_cons]
  rw [e]
  by_cases h : k ∈ ks
  · rw [decide_eq_true h, if_pos rfl, if_pos h, List.map_map]
    apply List.map_congr_left
    intro j _
    show (if keyV (.int j) = some (Sum.inl k : L2.Key) then _ else _) = _
    split <;> rfl
  · rw [decide_eq_false h, if_neg (by decide), if_neg h, List.map_append]
    rfl
theorem set_dE {ks : List Int} (h : ks.length < 16777216) (k : Int) : setO (dE ks) (.int k) (.bool true) = some (dE (addK ks k)) := by
  show (if (ks.map fun k => (PyData.int k, PyData.bool true)).length < sizeLine then some (PyData.dict _) else none) = _
  rw [if_pos (by rw [List.length_map]; exact h), put_dE]
  rfl
theorem sort_dE {ks : List Int} (h : ks.length < 64) : biM .sorted [dE ks] = DI.ret (.list ((sortI ks).map PyData.int)) := by
  show bnd (optM (intsOf ((ks.map fun k => (PyData.int k, PyData.bool true)).map (·.1)))) _ = _
  have e : ((ks.map fun k => (PyData.int k, PyData.bool true)).map (·.1)) = ks.map PyData.int := by rw [List.map_map]; rfl
  rw [e, ints_of, opt_some, bnd_ret_l, grd_dec h]
def moS (keeps : List Int) (ks : List Int) (p : Int × Sx) : List Int := keeps.foldl (fun ks K => addK ks (p.1 + K)) (addK ks p.1)
def moL (P : Pt) (keeps : List Int) : List Int := P.foldl (moS keeps) []
theorem inner_mem (b j : Int) : ∀ (keeps ks : List Int), j ∈ keeps.foldl (fun ks K => addK ks (b + K)) ks ↔ j ∈ ks ∨ ∃ K ∈ keeps, j = b + K
  | [], ks => by simp
  | K :: keeps, ks => by
    rw [List.foldl_cons, inner_mem b j keeps, addK_mem]
    simp only [List.mem_cons, exists_eq_or_imp, or_assoc]
theorem inner_len (b : Int) : ∀ (keeps ks : List Int), (keeps.foldl (fun ks K => addK ks (b + K)) ks).length ≤ ks.length + keeps.length
  | [], ks => by simp
  | K :: keeps, ks => by
    have h1 := inner_len b keeps (addK ks (b + K))
    have h2 := addK_len ks (b + K)
    rw [List.foldl_cons, List.length_cons]
    omega
theorem moS_len (keeps ks : List Int) (p : Int × Sx) : (moS keeps ks p).length ≤ ks.length + keeps.length + 1 := by
  have h1 := inner_len p.1 keeps (addK ks p.1)
  have h2 := addK_len ks p.1
  unfold moS
  omega
theorem moL_len (keeps : List Int) : ∀ (P : Pt) (ks : List Int), (P.foldl (moS keeps) ks).length ≤ ks.length + P.length * (keeps.length + 1)
  | [], ks => by simp
  | p :: P, ks => by
    have h1 := moL_len keeps P (moS keeps ks p)
    have h2 := moS_len keeps ks p
    rw [List.foldl_cons, List.length_cons, Nat.add_mul]
    omega
theorem moL_mem (keeps : List Int) (j : Int) : ∀ (P : Pt) (ks : List Int), j ∈ P.foldl (moS keeps) ks ↔ j ∈ ks ∨ ∃ p ∈ P, j = p.1 ∨ ∃ K ∈ keeps, j = p.1 + K
  | [], ks => by simp
  | p :: P, ks => by
    rw [List.foldl_cons, moL_mem keeps j P]
    unfold moS
    rw [inner_mem, addK_mem]
    simp only [List.mem_cons, exists_eq_or_imp, or_assoc]
theorem l_moments {P : Pt} (hP : P.length ≤ 12) {keeps : List Int} (hk : keeps.length = 3) : m_moments [pe P, kt keeps] = DI.ret (.list ((sortI (moL P keeps)).map PyData.int)) := by
  have L2 : ∀ (ks : List Int) (b : Int) (s : D) (o : Option SV), ks.length ≤ 1000 → ∃ o', loopM f_moments_2 (keeps.map PyData.int) [some (.sh (pe P)), some (.sh (kt keeps)), some (.ow (dE ks)), some (.sh (.int b)), some (.sh s), o] = DI.ret (.nx, [some (.sh (pe P)), some (.sh (kt keeps)), some (.ow (dE (keeps.foldl (fun ks K => addK ks (b + K)) ks))), some (.sh (.int b)), some (.sh s), o']) := fun ks b s o hks => by
    obtain ⟨ρ', ⟨o', rfl⟩, e⟩ := loop_all (f := f_moments_2) (mk := PyData.int) (step := fun ks K => addK ks (b + K)) (Rl := fun ks ρ => ∃ o, ρ = [some (.sh (pe P)), some (.sh (kt keeps)), some (.ow (dE ks)), some (.sh (.int b)), some (.sh s), o]) keeps ks (fun p q K ρ e r => by
      obtain ⟨o, rfl⟩ := r
      have h1 := inner_len b p ks
      have h2 := congrArg List.length e
      simp at h2
      rw [f_moments_2_eq, add_ii, bnd_ret_l, set_dE (by omega), opt_some, bnd_ret_l]
      exact ⟨_, ⟨_, rfl⟩, rfl⟩) (ρ := [some (.sh (pe P)), some (.sh (kt keeps)), some (.ow (dE ks)), some (.sh (.int b)), some (.sh s), o]) ⟨o, rfl⟩
    exact ⟨o', e⟩
  obtain ⟨ρ', ⟨o1, o2, o3, rfl⟩, e⟩ := loop_all (f := f_moments_1) (mk := row) (step := moS keeps) (Rl := fun ks ρ => ∃ o1 o2 o3, ρ = [some (.sh (pe P)), some (.sh (kt keeps)), some (.ow (dE ks)), o1, o2, o3]) P [] (fun p q r ρ e hr => by
    obtain ⟨o1, o2, o3, rfl⟩ := hr
    have h1 := moL_len keeps p []
    have h2 := congrArg List.length e
    simp at h2
    rw [hk] at h1
    have h3 : (p.foldl (moS keeps) []).length ≤ 100 := by
      have : p.length * (3 + 1) ≤ 12 * 4 := Nat.mul_le_mul (by omega) (by omega)
      simp at h1
      omega
    show ∃ ρ', _ ∧ f_moments_1 (.tuple [.int r.1, r.2.e]) _ = _
    obtain ⟨o', e2⟩ := L2 (addK (p.foldl (moS keeps) []) r.1) r.1 r.2.e o3 (by have := addK_len (p.foldl (moS keeps) []) r.1; omega)
    rw [f_moments_1_eq, set_dE (by omega), opt_some, bnd_ret_l, seq_kt, opt_some, bnd_ret_l, e2, bnd_ret_l, k_moments_2_eq]
    exact ⟨_, ⟨_, _, _, rfl⟩, rfl⟩) (ρ := [some (.sh (pe P)), some (.sh (kt keeps)), some (.ow (.dict [])), none, none, none]) ⟨none, none, none, rfl⟩
  have hl : (moL P keeps).length < 64 := by
    have h1 := moL_len keeps P []
    rw [hk] at h1
    have : P.length * (3 + 1) ≤ 12 * 4 := Nat.mul_le_mul hP (by omega)
    unfold moL
    simp at h1
    omega
  rw [m_moments_eq, seq_pe, opt_some, bnd_ret_l, e, bnd_ret_l, k_moments_1_eq]
  show bnd (biM .sorted [dE (moL P keeps)]) _ = _
  rw [sort_dE hl, bnd_ret_l]
end K32
end
section
set_option Elab.async false
set_option linter.all false
set_option autoImplicit false
set_option maxRecDepth 100000
set_option maxHeartbeats 1000000
/-! K32d: safe plans; what is told of them; plans by waits. -/
namespace K32
open PySem DI
theorem POk.ok {P : Pt} (h : POk P) : Ok P := by
  refine ⟨by have := h.n2; omega, h.up, fun i => ?_⟩
  unfold stS
  by_cases hi : i < P.length
  · have hm : P.getD i r0 ∈ P := by
      rw [List.getD, List.getElem?_eq_getElem hi]
      exact List.getElem_mem hi
    exact ⟨(h.st _ hm).c.le, (h.st _ hm).d.le⟩
  · have e : P.getD i r0 = r0 := by rw [List.getD, List.getElem?_eq_none (by omega)]; rfl
    rw [e]
    exact ⟨by decide, by decide⟩
abbrev tr (P : Pt) (k0 k1 k2 t : Int) : Option (Nat × Nat × Nat) := tD P k0 k1 k2 t fun i j k => (i, j, k)
theorem fs_map {α β γ : Type} (f : α → Option β) (g : β → γ) (l : List α) : (l.findSome? f).map g = l.findSome? fun a => (f a).map g := by
  rw [List.map_findSome?]
  rfl
theorem tD_map {β : Type} (P : Pt) (k0 k1 k2 t : Int) (e : Nat → Nat → Nat → β) : tD P k0 k1 k2 t e = (tr P k0 k1 k2 t).map fun q => e q.1 q.2.1 q.2.2 := by
  unfold tr tD
  rw [fs_map]
  congr 1
  funext i
  rw [fs_map]
  congr 1
  funext j
  rw [fs_map]
  congr 1
  funext k
  by_cases h : bad P i j k = true
  · rw [if_pos h, if_pos h]
    rfl
  · rw [if_neg h, if_neg h]
    rfl
theorem k3 {ks : List Int} (h : ks.length = 3) : ∃ k0 k1 k2, ks = [k0, k1, k2] := by
  match ks, h with
  | [a, b, c], _ => exact ⟨a, b, c, rfl⟩
section
variable {P : Pt} (hP : POk P) {k0 k1 k2 : Int} (hk : Kp3 [k0, k1, k2])
include hP hk
theorem mo_len : (sortI (moL P [k0, k1, k2])).length ≤ 1000 := by
  have h1 := moL_len [k0, k1, k2] P []
  have h2 := hP.n2
  have : P.length * (3 + 1) ≤ 12 * 4 := Nat.mul_le_mul hP.n2 (by omega)
  rw [(sortI_perm _).length_eq]
  unfold moL
  simp at h1
  omega
theorem l_safe : m_is_safe [pe P, kt [k0, k1, k2]] = DI.ret (.bool ((sortI (moL P [k0, k1, k2])).all fun t => (tr P k0 k1 k2 t).isNone)) := by
  have hc : compM (c_is_safe_1 [some (.sh (pe P)), some (.sh (kt [k0, k1, k2])), none]) ((sortI (moL P [k0, k1, k2])).map PyData.int) = DI.ret (((sortI (moL P [k0, k1, k2])).map fun t => (tr P k0 k1 k2 t).isNone).map PyData.bool) := by
    rw [comp_m (g := fun t => .bool (tr P k0 k1 k2 t).isNone) _ fun t ht => by
      rw [c_is_safe_1_eq, l_broken hP.ok, tD_map]
      cases tr P k0 k1 k2 t <;> rfl]
    rw [List.map_map]
    rfl
  rw [m_is_safe_eq, l_plan hP, l_keeps hk, l_moments hP.n2 rfl]
  simp only [pure_r, bnd_ret_l, seq_l, opt_some]
  rw [grd_fits (by rw [List.length_map]; have := mo_len hP hk; omega), hc]
  simp only [bnd_ret_l, all_b, List.all_map]
  rfl
theorem l_first : m_first_break [pe P, kt [k0, k1, k2]] = (match (sortI (moL P [k0, k1, k2])).findSome? fun t => (tr P k0 k1 k2 t).map fun q => (t, q) with
    | some (t, i, j, k) => DI.ret (.tuple [.int t, .int (bt P i), .int (bt P j), .int (bt P k)])
    | none => throwM ⟨"Missing"⟩) := by
  let E : Int → Nat → Nat → Nat → D := fun t i j k => .tuple [.int t, .int (bt P i), .int (bt P j), .int (bt P k)]
  obtain ⟨ρ', ⟨o1, o2, rfl⟩, e⟩ := loop_find (f := f_first_break_1) (mk := PyData.int) (g := fun t => tD P k0 k1 k2 t (E t)) (Rl := fun ρ => ∃ o1 o2, ρ = [some (.sh (pe P)), some (.sh (kt [k0, k1, k2])), o1, o2]) (sortI (moL P [k0, k1, k2])) (fun t ht ρ r => by
    obtain ⟨o1, o2, rfl⟩ := r
    rw [f_first_break_1_eq, l_broken hP.ok, pure_r, bnd_ret_l, tD_map, tD_map (e := E t)]
    cases tr P k0 k1 k2 t with
    | none => exact ⟨_, ⟨_, _, rfl⟩, rfl⟩
    | some q =>
      refine ⟨[some (.sh (pe P)), some (.sh (kt [k0, k1, k2])), some (.sh (.int t)), some (.sh (.tuple [.int (bt P q.1), .int (bt P q.2.1), .int (bt P q.2.2)]))], ⟨_, _, rfl⟩, ?_⟩
      show bnd (DI.ret true) _ = _
      rw [bnd_ret_l, if_pos rfl]
      show bnd (bnd (DI.ret _) _) _ = _
      rw [bnd_ret_l, grd_fits (by simp)]
      rfl) [some (.sh (pe P)), some (.sh (kt [k0, k1, k2])), none, none] ⟨none, none, rfl⟩
  rw [m_first_break_eq, l_plan hP, l_keeps hk, l_moments hP.n2 rfl]
  simp only [pure_r, bnd_ret_l, seq_l, opt_some]
  rw [e, bnd_ret_l]
  have e2 : ((sortI (moL P [k0, k1, k2])).findSome? fun t => tD P k0 k1 k2 t (E t)) = ((sortI (moL P [k0, k1, k2])).findSome? fun t => (tr P k0 k1 k2 t).map fun q => (t, q)).map fun q => E q.1 q.2.1 q.2.2.1 q.2.2.2 := by
    rw [List.map_findSome?]
    congr 1
    funext t
    rw [tD_map]
    simp only [Function.comp, Option.map_map]
    rfl
  rw [e2]
  cases (sortI (moL P [k0, k1, k2])).findSome? fun t => (tr P k0 k1 k2 t).map fun q => (t, q) with
  | none => exact k_first_break_1_eq _ _ _ _
  | some q => rfl
theorem l_may {t : Int} (h0 : 0 ≤ t) (h1 : t ≤ 1000000) : m_may_hold [pe P, kt [k0, k1, k2], .int t] = DI.ret (.tuple (([k0, k1, k2] : List Int).map fun K => PyData.tuple ((hl P K t).map fun i => PyData.int (bt P i)))) := by
  have hc : compM (c_may_hold_1 [some (.sh (pe P)), some (.sh (kt [k0, k1, k2])), some (.sh (.int t)), none]) (([k0, k1, k2] : List Int).map PyData.int) = DI.ret (([k0, k1, k2] : List Int).map fun K => PyData.tuple ((hl P K t).map fun i => PyData.int (bt P i))) := comp_m _ fun K _ => by
    rw [c_may_hold_1_eq, l_held hP.ok.le]
    rfl
  rw [m_may_hold_eq, l_plan hP, l_keeps hk, whole_t h0 h1]
  simp only [pure_r, bnd_ret_l, tr_b, Bool.not_true, Bool.false_eq_true, if_false, seq_kt, opt_some]
  rw [grd_fits (by simp), hc]
  rfl
end
/-- the steps behind the first -/
def wpl (t : Int) : List Sx → List Int → Pt
  | s :: S, w :: ws => (t + w, s) :: wpl (t + w) S ws
  | _, _ => []
def pln (S : List Sx) (ws : List Int) : Pt := match S with
  | s :: S => (0, s) :: wpl 0 S ws
  | [] => []
def stepW (q : Int × Pt) (p : Sx × Int) : Int × Pt := (q.1 + p.2, q.2 ++ [(q.1 + p.2, p.1)])
theorem wpl_fold : ∀ (S : List Sx) (ws : List Int) (t : Int) (l : Pt), ((S.zip ws).foldl stepW (t, l)).2 = l ++ wpl t S ws
  | [], ws, t, l => by simp [wpl]
  | s :: S, [], t, l => by simp [wpl]
  | s :: S, w :: ws, t, l => by
    rw [List.zip_cons_cons, List.foldl_cons]
    show ((S.zip ws).foldl stepW (t + w, l ++ [(t + w, s)])).2 = _
    rw [wpl_fold S ws]
    simp [wpl]
theorem stepW_len (ps : List (Sx × Int)) : ∀ q : Int × Pt, (ps.foldl stepW q).2.length = q.2.length + ps.length := by
  induction ps with
  | nil => intro q; rfl
  | cons p ps ih =>
    intro q
    rw [List.foldl_cons, ih]
    unfold stepW
    simp
    omega
theorem l_with {S : List Sx} (hS : S ≠ []) (hl : S.length ≤ 1000) (ws : List Int) {d : D} (hd : seqOf d = some (ws.map PyData.int)) : m_with_waits [se S, d] = DI.ret (pe (pln S ws)) := by
  cases S with
  | nil => exact absurd rfl hS
  | cons s S =>
    have e0 : ixM (se (s :: S)) (.int 0) = DI.ret s.e := by
      have z := ixt_map Sx.e (s :: S) 0 (by simp)
      exact z
    have e1 : sliceM (se (s :: S)) (some 1) none = DI.ret (.tuple (S.map Sx.e)) := by
      show sliceM (.tuple ((s :: S).map Sx.e)) (some 1) none = _
      rw [slice_t]
      have z := cut_from ((s :: S).map Sx.e) 1
      have z : cutD ((s :: S).map Sx.e) (some 1) none = S.map Sx.e := z
      rw [z]
    have ez : zipD (S.map Sx.e) (ws.map PyData.int) = (S.zip ws).map fun p => PyData.tuple [p.1.e, .int p.2] := by
      unfold zipD
      rw [List.zip_map, List.map_map]
      rfl
    obtain ⟨ρ', ⟨o1, o2, rfl⟩, e⟩ := loop_all (f := f_with_waits_1) (mk := fun p : Sx × Int => PyData.tuple [p.1.e, .int p.2]) (step := stepW)
      (Rl := fun q ρ => ∃ o1 o2, ρ = [some (.sh (se (s :: S))), some (.sh d), some (.sh (.int q.1)), some (.ow (.list (q.2.map row))), o1, o2]) (S.zip ws) (0, [(0, s)]) (fun p q r ρ e hr => by
        obtain ⟨o1, o2, rfl⟩ := hr
        have h2 := congrArg List.length e
        have h3 := stepW_len p (0, [(0, s)])
        simp at h2 h3 hl
        show ∃ ρ', _ ∧ f_with_waits_1 (.tuple [r.1.e, .int r.2]) _ = _
        rw [f_with_waits_1_eq, add_ii, bnd_ret_l, grd_fits (by rw [List.length_map]; omega)]
        exact ⟨_, ⟨_, _, rfl⟩, by
          unfold stepW
          rw [List.map_append]
          rfl⟩) (ρ := [some (.sh (se (s :: S))), some (.sh d), some (.sh (.int 0)), some (.ow (.list [row (0, s)])), none, none]) ⟨none, none, rfl⟩
    rw [m_with_waits_eq, e0]
    simp only [bnd_ret_l]
    rw [grd_fits (by simp), bnd_ret_l, bnd_ret_l, grd_fits (by simp), bnd_ret_l, e1, bnd_ret_l, seq_t, opt_some, bnd_ret_l, hd, opt_some, bnd_ret_l, bnd_ret_l, ez]
    have e' : loopM f_with_waits_1 ((S.zip ws).map fun p => PyData.tuple [p.1.e, .int p.2]) [some (.sh (se (s :: S))), some (.sh d), some (.sh (.int 0)), some (.ow (.list [.tuple [.int 0, s.e]])), none, none] = _ := e
    rw [e', bnd_ret_l, k_with_waits_1_eq, tuple_l, bnd_ret_l, wpl_fold]
    rfl
end K32
end
section
set_option Elab.async false
set_option linter.all false
set_option autoImplicit false
set_option maxRecDepth 100000
set_option maxHeartbeats 1000000
/-! K32e: waits to try; plans by waits. -/
namespace K32
open PySem DI
def mx (x : Int) : Int := if x > 1 then x else 1
def pst (ws : List Int) (i : Nat) : Int := (ws.drop i).sum
def caS (keeps ws ks : List Int) (i : Nat) : List Int := keeps.foldl (fun ks K => addK ks (mx (K - pst ws i))) ks
def caL (keeps ws : List Int) : List Int := (List.range (ws.length + 1)).foldl (caS keeps ws) [1]
theorem ca_in (c j : Int) : ∀ (keeps ks : List Int), j ∈ keeps.foldl (fun ks K => addK ks (mx (K - c))) ks ↔ j ∈ ks ∨ ∃ K ∈ keeps, j = mx (K - c)
  | [], ks => by simp
  | K :: keeps, ks => by
    rw [List.foldl_cons, ca_in c j keeps, addK_mem]
    simp only [List.mem_cons, exists_eq_or_imp, or_assoc]
theorem ca_inlen (c : Int) : ∀ (keeps ks : List Int), (keeps.foldl (fun ks K => addK ks (mx (K - c))) ks).length ≤ ks.length + keeps.length
  | [], ks => by simp
  | K :: keeps, ks => by
    have h1 := ca_inlen c keeps (addK ks (mx (K - c)))
    have h2 := addK_len ks (mx (K - c))
    rw [List.foldl_cons, List.length_cons]
    omega
theorem ca_len (keeps ws : List Int) : ∀ (is : List Nat) (ks : List Int), (is.foldl (caS keeps ws) ks).length ≤ ks.length + is.length * keeps.length
  | [], ks => by simp
  | i :: is, ks => by
    have h1 := ca_len keeps ws is (caS keeps ws ks i)
    have h2 := ca_inlen (pst ws i) keeps ks
    rw [List.foldl_cons, List.length_cons, Nat.add_mul]
    unfold caS at h1 ⊢
    omega
theorem ca_mem (keeps ws : List Int) (j : Int) : ∀ (is : List Nat) (ks : List Int), j ∈ is.foldl (caS keeps ws) ks ↔ j ∈ ks ∨ ∃ i ∈ is, ∃ K ∈ keeps, j = mx (K - pst ws i)
  | [], ks => by simp
  | i :: is, ks => by
    rw [List.foldl_cons, ca_mem keeps ws j is]
    unfold caS
    rw [ca_in]
    simp only [List.mem_cons, exists_eq_or_imp, or_assoc]
theorem caL_mem {keeps ws : List Int} {j : Int} : j ∈ caL keeps ws ↔ j = 1 ∨ ∃ i, i ≤ ws.length ∧ ∃ K ∈ keeps, j = mx (K - pst ws i) := by
  unfold caL
  rw [ca_mem]
  simp only [List.mem_singleton, List.mem_range, Nat.lt_succ_iff]
theorem l_cand {keeps ws : List Int} (hk : keeps.length = 3) (hw : ws.length ≤ 12) : m_waits_for [kt keeps, .list (ws.map PyData.int)] = DI.ret (.list ((sortI (caL keeps ws)).map PyData.int)) := by
  let W : D := .list (ws.map PyData.int)
  have L2 : ∀ (ks : List Int) (c : Int) (a : D) (o : Option SV), ks.length ≤ 1000 → ∃ o', loopM f_waits_for_2 (keeps.map PyData.int) [some (.sh (kt keeps)), some (.ln W), some (.ow (dE ks)), some (.sh a), some (.sh (.int c)), o] = DI.ret (.nx, [some (.sh (kt keeps)), some (.ln W), some (.ow (dE (keeps.foldl (fun ks K => addK ks (mx (K - c))) ks))), some (.sh a), some (.sh (.int c)), o']) := fun ks c a o hks => by
    obtain ⟨ρ', ⟨o', rfl⟩, e⟩ := loop_all (f := f_waits_for_2) (mk := PyData.int) (step := fun ks K => addK ks (mx (K - c))) (Rl := fun ks ρ => ∃ o, ρ = [some (.sh (kt keeps)), some (.ln W), some (.ow (dE ks)), some (.sh a), some (.sh (.int c)), o]) keeps ks (fun p q K ρ e r => by
      obtain ⟨o, rfl⟩ := r
      have h1 := ca_inlen c p ks
      have h2 := congrArg List.length e
      simp at h2
      rw [f_waits_for_2_eq, sub_ii]
      simp only [bnd_ret_l]
      show ∃ ρ', _ ∧ bnd (biM .max [.int 1, .int (K - c)]) _ = _
      rw [max_ii, bnd_ret_l]
      show ∃ ρ', _ ∧ bnd (optM (setO (dE _) (.int (mx (K - c))) (.bool true))) _ = _
      rw [set_dE (by omega), opt_some, bnd_ret_l]
      exact ⟨_, ⟨_, rfl⟩, rfl⟩) (ρ := [some (.sh (kt keeps)), some (.ln W), some (.ow (dE ks)), some (.sh a), some (.sh (.int c)), o]) ⟨o, rfl⟩
    exact ⟨o', e⟩
  obtain ⟨ρ', ⟨o1, o2, o3, rfl⟩, e⟩ := loop_all (f := f_waits_for_1) (mk := fun i : Nat => PyData.int (0 + (i : Int))) (step := caS keeps ws) (Rl := fun ks ρ => ∃ o1 o2 o3, ρ = [some (.sh (kt keeps)), some (.ln W), some (.ow (dE ks)), o1, o2, o3]) (List.range (ws.length + 1)) [1] (fun p q i ρ e hr => by
    obtain ⟨o1, o2, o3, rfl⟩ := hr
    have h1 := ca_len keeps ws p [1]
    have h2 := congrArg List.length e
    simp at h2
    rw [hk] at h1
    have h3 : (p.foldl (caS keeps ws) [1]).length ≤ 100 := by
      simp at h1
      omega
    obtain ⟨o', e2⟩ := L2 (p.foldl (caS keeps ws) [1]) (pst ws i) (.int (i : Int)) o3 (by omega)
    have e0 : (0 : Int) + (i : Int) = (i : Int) := by omega
    have es : sliceM W (some (i : Int)) none = DI.ret (.list ((ws.drop i).map PyData.int)) := by
      show sliceM (.list (ws.map PyData.int)) _ _ = _
      rw [slice_l, cut_from, List.map_drop]
    have eS : biM .sum [.list ((ws.drop i).map PyData.int)] = DI.ret (.int (pst ws i)) := by
      show bnd (optM (intsOf ((ws.drop i).map PyData.int))) _ = _
      rw [ints_of]
      rfl
    show ∃ ρ', _ ∧ f_waits_for_1 (.int (0 + (i : Int))) _ = _
    rw [e0, f_waits_for_1_eq, int_i]
    simp only [bnd_ret_l]
    rw [es]
    simp only [bnd_ret_l]
    rw [eS]
    simp only [bnd_ret_l, seq_kt, opt_some]
    rw [e2, bnd_ret_l, k_waits_for_2_eq]
    exact ⟨_, ⟨_, _, _, rfl⟩, rfl⟩) (ρ := [some (.sh (kt keeps)), some (.ln W), some (.ow (dE [1])), none, none, none]) ⟨none, none, none, rfl⟩
  have hl : (caL keeps ws).length < 64 := by
    have h1 := ca_len keeps ws (List.range (ws.length + 1)) [1]
    rw [hk] at h1
    unfold caL
    simp at h1
    omega
  have er : rangeD 0 ((ws.length : Int) + 1) = (List.range (ws.length + 1)).map fun t : Nat => PyData.int (0 + (t : Int)) := by
    unfold rangeD
    have : ((ws.length : Int) + 1 - 0).toNat = ws.length + 1 := by omega
    rw [this]
  have hg : rgOk 0 ((ws.length : Int) + 1) = true := decide_eq_true (by omega)
  have en : biM .len [.list (ws.map PyData.int)] = DI.ret (.int ws.length) := by rw [len_l, List.length_map]
  have ed : (bnd (bnd (optM (keyV (.int 1))) fun k246 => DI.ret ((kD k246, .bool true) :: [])) fun es247 => guardM (decide (es247.length ≤ 15)) (DI.ret (PyData.dict (mergeE [] es247)))) = DI.ret (dE [1]) := rfl
  rw [m_waits_for_eq, ed, bnd_ret_l, en, bnd_ret_l, add_ii, bnd_ret_l, int_i, bnd_ret_l, hg, grd_t, bnd_ret_l, er, e, bnd_ret_l, k_waits_for_1_eq]
  show bnd (biM .sorted [dE (caL keeps ws)]) _ = _
  rw [sort_dE hl, bnd_ret_l]
end K32
end
section
set_option Elab.async false
set_option linter.all false
set_option autoImplicit false
set_option maxRecDepth 100000
set_option maxHeartbeats 1000000
/-! K32f: plans by waits. -/
namespace K32
open PySem DI
theorem wpl_len : ∀ (S : List Sx) (ws : List Int) (t : Int), (wpl t S ws).length = min S.length ws.length
  | [], ws, t => by simp [wpl]
  | s :: S, [], t => by simp [wpl]
  | s :: S, w :: ws, t => by
    simp only [wpl, List.length_cons, wpl_len S ws]
    omega
theorem wpl_at : ∀ (S : List Sx) (ws : List Int) (t : Int) (i : Nat), i < S.length → i < ws.length → (wpl t S ws).getD i r0 = (t + (ws.take (i + 1)).sum, S.getD i r0.2)
  | [], ws, t, i, h, _ => by simp at h
  | s :: S, [], t, i, _, h => by simp at h
  | s :: S, w :: ws, t, 0, _, _ => by simp [wpl, List.getD]
  | s :: S, w :: ws, t, i + 1, h1, h2 => by
    have z := wpl_at S ws (t + w) i (by simpa using h1) (by simpa using h2)
    simp only [wpl, List.getD_cons_succ, z, List.take_succ_cons, List.sum_cons]
    rw [Int.add_assoc]
theorem pln_len {S : List Sx} {ws : List Int} (h : S.length = ws.length + 1) : (pln S ws).length = ws.length + 1 := by
  cases S with
  | nil => simp at h
  | cons s S =>
    simp only [pln, List.length_cons, wpl_len] at h ⊢
    omega
theorem pln_at {S : List Sx} {ws : List Int} (h : S.length = ws.length + 1) {i : Nat} (hi : i ≤ ws.length) : (pln S ws).getD i r0 = ((ws.take i).sum, S.getD i r0.2) := by
  cases S with
  | nil => simp at h
  | cons s S =>
    cases i with
    | zero => simp [pln, List.getD]
    | succ i =>
      have z := wpl_at S ws 0 i (by simp at h; omega) (by omega)
      simp only [pln, List.getD_cons_succ, z]
      rw [Int.zero_add]
theorem pln_bt {S : List Sx} {ws : List Int} (h : S.length = ws.length + 1) {i : Nat} (hi : i ≤ ws.length) : bt (pln S ws) i = (ws.take i).sum := by
  unfold bt
  rw [pln_at h hi]
theorem pln_st {S : List Sx} {ws : List Int} (h : S.length = ws.length + 1) {i : Nat} (hi : i ≤ ws.length) : stS (pln S ws) i = S.getD i r0.2 := by
  unfold stS
  rw [pln_at h hi]
def wOk (ws : List Int) : Prop := ∀ w ∈ ws, 1 ≤ w ∧ w ≤ 100
theorem take_succ_sum (ws : List Int) (i : Nat) (h : i < ws.length) : (ws.take (i + 1)).sum = (ws.take i).sum + ws[i] := by
  rw [List.take_succ_eq_append_getElem h, List.sum_append]
  simp
theorem sum_rng {ws : List Int} (h : wOk ws) : ∀ i, i ≤ ws.length → (i : Int) ≤ (ws.take i).sum ∧ (ws.take i).sum ≤ 100 * i
  | 0, _ => by simp
  | i + 1, hi => by
    have z := sum_rng h i (by omega)
    rw [take_succ_sum ws i (by omega)]
    have y := h _ (List.getElem_mem (show i < ws.length by omega))
    omega
theorem sum_lt {ws : List Int} (h : wOk ws) {i : Nat} : ∀ d, i + d ≤ ws.length → (ws.take i).sum + d ≤ (ws.take (i + d)).sum
  | 0, _ => by simp
  | d + 1, hi => by
    have z := sum_lt h (i := i) d (by omega)
    have e := take_succ_sum ws (i + d) (by omega)
    have y := h _ (List.getElem_mem (show i + d < ws.length by omega))
    have e2 : i + (d + 1) = i + d + 1 := by omega
    rw [e2, e]
    omega
theorem map_fst (P : Pt) : P.map (·.1) = (List.range P.length).map (bt P) := by
  apply List.ext_getElem
  · simp
  · intro i h1 h2
    simp at h1
    simp [bt, List.getD, h1]
theorem pln_ok {S : List Sx} {ws : List Int} (h : S.length = ws.length + 1) (hn : ws.length ≤ 11) (hS : ∀ s ∈ S, SOk s) (hw : wOk ws) : POk (pln S ws) := by
  have hlen := pln_len h
  have mem : ∀ p ∈ pln S ws, ∃ i, i ≤ ws.length ∧ p = ((ws.take i).sum, S.getD i r0.2) := fun p hp => by
    obtain ⟨i, hi, rfl⟩ := List.getElem_of_mem hp
    rw [hlen] at hi
    refine ⟨i, by omega, ?_⟩
    rw [← pln_at h (by omega), List.getD, List.getElem?_eq_getElem (by omega)]
    rfl
  refine ⟨by omega, by omega, fun p hp => ?_, ?_, ?_, fun p hp => ?_⟩
  · obtain ⟨i, hi, rfl⟩ := mem p hp
    refine hS _ ?_
    show S.getD i r0.2 ∈ S
    rw [List.getD, List.getElem?_eq_getElem (by omega)]
    exact List.getElem_mem _
  · rw [map_fst, List.pairwise_map, hlen]
    refine List.Pairwise.imp_of_mem ?_ (List.pairwise_lt_range)
    intro a b ha hb hab
    have hb := List.mem_range.mp hb
    rw [pln_bt h (by omega), pln_bt h (by omega)]
    have z := sum_lt hw (i := a) (b - a) (by omega)
    have e : a + (b - a) = b := by omega
    rw [e] at z
    omega
  · rw [map_fst, hlen]
    have z := pln_bt h (i := 0) (by omega)
    simp at z
    rw [List.range_succ_eq_map]
    simp [z]
  · obtain ⟨i, hi, rfl⟩ := mem p hp
    have z := sum_rng hw i hi
    constructor
    · show 0 ≤ (ws.take i).sum
      omega
    · show (ws.take i).sum ≤ 1000000
      omega
theorem l_lplan {S : List Sx} {ws : List Int} (h : S.length = ws.length + 1) (hn : ws.length ≤ 1000) : m_law_plan [se S, .list (ws.map PyData.int)] = DI.ret (pe (pln S ws)) := by
  cases S with
  | nil => simp at h
  | cons s S =>
    have hl : S.length = ws.length := by simpa using h
    have e0 : ixM (se (s :: S)) (.int 0) = DI.ret s.e := ixt_map Sx.e (s :: S) 0 (by simp)
    let fz : Nat → Sx × Int := fun k => (S.getD k r0.2, ws.getD k 0)
    obtain ⟨ρ', ⟨o1, rfl⟩, e⟩ := loop_all (f := f_law_plan_1) (mk := fun k : Nat => PyData.int (0 + (k : Int))) (step := fun q k => stepW q (fz k))
      (Rl := fun q ρ => ∃ o1, ρ = [some (.sh (se (s :: S))), some (.sh (.list (ws.map PyData.int))), some (.sh (.int q.1)), some (.ow (.list (q.2.map row))), o1]) (List.range ws.length) (0, [(0, s)]) (fun p q k ρ e hr => by
        obtain ⟨o1, rfl⟩ := hr
        have hk : k < ws.length := List.mem_range.mp (by rw [e]; simp)
        have h2 := congrArg List.length e
        have h3 := stepW_len (p.map fz) (0, [(0, s)])
        rw [List.foldl_map] at h3
        simp at h2 h3
        have ek : (0 : Int) + (k : Int) = (k : Int) := by omega
        have e1 : ixM (.list (ws.map PyData.int)) (.int (k : Int)) = DI.ret (.int (ws.getD k 0)) := by
          rw [ixl_map PyData.int ws k hk]
          simp [List.getD, hk]
        have e2 : ixM (se (s :: S)) (.int ((k : Int) + 1)) = DI.ret (S.getD k r0.2).e := by
          have z := ixt_map Sx.e (s :: S) (k + 1) (by simp; omega)
          have ec : ((k + 1 : Nat) : Int) = (k : Int) + 1 := by omega
          rw [ec] at z
          refine Eq.trans z ?_
          simp [List.getD, show k < S.length by omega]
        show ∃ ρ', _ ∧ f_law_plan_1 (.int (0 + (k : Int))) _ = _
        rw [ek, f_law_plan_1_eq, e1]
        simp only [bnd_ret_l, add_ii]
        rw [e2]
        simp only [bnd_ret_l]
        rw [grd_fits (by simp), bnd_ret_l, grd_fits (by rw [List.length_map]; omega)]
        exact ⟨_, ⟨_, rfl⟩, by
          show DI.ret (Fl.nx, _) = DI.ret (Fl.nx, _)
          unfold stepW
          rw [List.map_append]
          rfl⟩) (ρ := [some (.sh (se (s :: S))), some (.sh (.list (ws.map PyData.int))), some (.sh (.int 0)), some (.ow (.list [row (0, s)])), none]) ⟨none, rfl⟩
    have ez : (List.range ws.length).map fz = S.zip ws := by
      apply List.ext_getElem
      · simp; omega
      · intro i h1 h2
        simp at h1
        simp [fz, List.getD, h1, show i < S.length by omega]
    have ef : ((List.range ws.length).foldl (fun q k => stepW q (fz k)) (0, [(0, s)])).2 = pln (s :: S) ws := by
      rw [← List.foldl_map, ez, wpl_fold]
      rfl
    have en : biM .len [.list (ws.map PyData.int)] = DI.ret (.int ws.length) := by rw [len_l, List.length_map]
    have er : rangeD 0 (ws.length : Int) = (List.range ws.length).map fun t : Nat => PyData.int (0 + (t : Int)) := by
      unfold rangeD
      have : ((ws.length : Int) - 0).toNat = ws.length := by omega
      rw [this]
    have hg : rgOk 0 (ws.length : Int) = true := decide_eq_true (by omega)
    rw [m_law_plan_eq, e0]
    simp only [bnd_ret_l]
    rw [grd_fits (by simp), bnd_ret_l, bnd_ret_l, grd_fits (by simp), bnd_ret_l, en, bnd_ret_l, int_i, bnd_ret_l, hg, grd_t, bnd_ret_l, er]
    have e' : loopM f_law_plan_1 ((List.range ws.length).map fun t : Nat => PyData.int (0 + (t : Int))) [some (.sh (se (s :: S))), some (.sh (.list (ws.map PyData.int))), some (.sh (.int 0)), some (.ow (.list [.tuple [.int 0, s.e]])), none] = _ := e
    rw [e', bnd_ret_l, k_law_plan_1_eq, tuple_l, bnd_ret_l, ef]
    rfl
end K32
end
section
set_option Elab.async false
set_option linter.all false
set_option autoImplicit false
set_option maxRecDepth 100000
set_option maxHeartbeats 1000000
/-! K32g: the plain mathematics: moments suffice; which triples may be held at one time. -/
namespace K32
open PySem DI
theorem fs_sorted {Q : Type} (f : Int → Option Q) : ∀ (M : List Int), M.Pairwise (· ≤ ·) → ∀ {m : Int} {q : Q}, M.findSome? (fun t => (f t).map fun q => (t, q)) = some (m, q) → m ∈ M ∧ f m = some q ∧ ∀ m' ∈ M, m' < m → f m' = none
  | [], _, m, q, h => by cases h
  | a :: M, hs, m, q, h => by
    obtain ⟨ha, hs⟩ := List.pairwise_cons.mp hs
    rw [List.findSome?_cons] at h
    cases hf : f a with
    | some x =>
      rw [hf] at h
      have h : some (a, x) = some (m, q) := h
      cases h
      refine ⟨List.mem_cons_self, hf, fun m' hm' hlt => ?_⟩
      rcases List.mem_cons.mp hm' with rfl | hm'
      · omega
      · have := ha m' hm'; omega
    | none =>
      rw [hf] at h
      obtain ⟨h1, h2, h3⟩ := fs_sorted f M hs (show M.findSome? _ = some (m, q) from h)
      refine ⟨List.mem_cons_of_mem _ h1, h2, fun m' hm' hlt => ?_⟩
      rcases List.mem_cons.mp hm' with rfl | hm'
      · exact hf
      · exact h3 m' hm' hlt
theorem fs_none {Q : Type} (f : Int → Option Q) (M : List Int) : M.findSome? (fun t => (f t).map fun q => (t, q)) = none ↔ ∀ m ∈ M, f m = none := by
  rw [List.findSome?_eq_none_iff]
  simp only [Option.map_eq_none_iff]
/-- the first of all is the first of those where something changes -/
theorem first_eq {Q : Type} (f : Int → Option Q) {M R : List Int} {lo hi : Int} (hs : M.Pairwise (· ≤ ·)) (hR : R.Pairwise (· ≤ ·)) (hr : ∀ t, t ∈ R ↔ lo ≤ t ∧ t ≤ hi) (hlo : lo ∈ M) (hM : ∀ m ∈ M, lo ≤ m ∧ m ≤ hi)
    (step : ∀ t, lo < t → t ≤ hi → t ∉ M → f t ≠ none → f (t - 1) ≠ none) : R.findSome? (fun t => (f t).map fun q => (t, q)) = M.findSome? (fun t => (f t).map fun q => (t, q)) := by
  cases e1 : R.findSome? (fun t => (f t).map fun q => (t, q)) with
  | none =>
    have h := (fs_none f R).mp e1
    exact ((fs_none f M).mpr fun m hm => h m ((hr m).mpr (hM m hm))).symm
  | some x =>
    obtain ⟨t, q⟩ := x
    obtain ⟨h1, h2, h3⟩ := fs_sorted f R hR e1
    have ht := (hr t).mp h1
    have hm : t ∈ M := by
      by_cases c : t = lo
      · exact c ▸ hlo
      · refine Classical.byContradiction fun n => ?_
        refine step t (by omega) (by omega) n (by rw [h2]; simp) (h3 (t - 1) ((hr _).mpr (by omega)) (by omega))
    cases e2 : M.findSome? (fun t => (f t).map fun q => (t, q)) with
    | none =>
      have h := (fs_none f M).mp e2 t hm
      rw [h2] at h
      cases h
    | some y =>
      obtain ⟨m, p⟩ := y
      obtain ⟨g1, g2, g3⟩ := fs_sorted f M hs e2
      have hmR := hM m g1
      have a1 : ¬ t < m := fun c => by
        have := g3 t hm c
        rw [h2] at this
        cases this
      have a2 : ¬ m < t := fun c => by
        have := h3 m ((hr m).mpr hmR) c
        rw [g2] at this
        cases this
      have e : m = t := by omega
      subst e
      rw [h2] at g2
      cases g2
      rfl
/-! ### held -/
theorem hl_iff {P : Pt} {K t : Int} (hK : 0 ≤ K) {i : Nat} : i ∈ hl P K t ↔ i < P.length ∧ bt P i ≤ t ∧ (i + 1 < P.length → t < bt P (i + 1) + K) := by
  unfold hl
  rw [List.mem_filter, List.mem_range]
  unfold hB tl
  by_cases h : i + 1 < P.length
  · simp only [if_pos h, Bool.and_eq_true, Bool.or_eq_true, decide_eq_true_eq]
    constructor
    · rintro ⟨h1, h2, h3⟩
      exact ⟨h1, h2, fun _ => by omega⟩
    · rintro ⟨h1, h2, h3⟩
      have := h3 h
      exact ⟨h1, h2, by omega⟩
  · simp only [if_neg h, Bool.and_eq_true, Bool.or_eq_true, decide_eq_true_eq]
    constructor
    · rintro ⟨h1, h2, h3⟩
      exact ⟨h1, h2, fun c => absurd c h⟩
    · rintro ⟨h1, h2, h3⟩
      exact ⟨h1, h2, .inl (by omega)⟩
theorem tr_none {P : Pt} {k0 k1 k2 t : Int} : tr P k0 k1 k2 t = none ↔ ∀ i ∈ hl P k0 t, ∀ j ∈ hl P k1 t, ∀ k ∈ hl P k2 t, bad P i j k = false := by
  unfold tr tD
  simp only [List.findSome?_eq_none_iff]
  constructor
  · intro h i hi j hj k hk
    have z := h i hi j hj k hk
    cases hb : bad P i j k with
    | false => rfl
    | true => rw [hb] at z; cases z
  · intro h i hi j hj k hk
    rw [h i hi j hj k hk]
    rfl
theorem bt_mem {P : Pt} {t : Int} : (∃ p ∈ P, t = p.1) ↔ ∃ i, i < P.length ∧ t = bt P i := by
  constructor
  · rintro ⟨p, hp, rfl⟩
    obtain ⟨i, hi, rfl⟩ := List.getElem_of_mem hp
    exact ⟨i, hi, by simp [bt, List.getD, hi]⟩
  · rintro ⟨i, hi, rfl⟩
    exact ⟨P[i], List.getElem_mem hi, by simp [bt, List.getD, hi]⟩
theorem mo_iff {P : Pt} {keeps : List Int} {t : Int} : t ∈ sortI (moL P keeps) ↔ ∃ i, i < P.length ∧ (t = bt P i ∨ ∃ K ∈ keeps, t = bt P i + K) := by
  rw [(sortI_perm _).mem_iff]
  unfold moL
  rw [moL_mem]
  simp only [List.not_mem_nil, false_or]
  constructor
  · rintro ⟨p, hp, h⟩
    obtain ⟨i, hi, rfl⟩ := List.getElem_of_mem hp
    have e : P[i].1 = bt P i := by simp [bt, List.getD, hi]
    rw [e] at h
    exact ⟨i, hi, h⟩
  · rintro ⟨i, hi, h⟩
    have e : P[i].1 = bt P i := by simp [bt, List.getD, hi]
    exact ⟨P[i], List.getElem_mem hi, by rw [e]; exact h⟩
/-- nothing changes but at a moment -/
theorem hl_same {P : Pt} {K t : Int} (hK : 0 ≤ K) (h1 : ∀ i, i < P.length → t ≠ bt P i) (h2 : ∀ i, i < P.length → t ≠ bt P i + K) : hl P K t = hl P K (t - 1) := by
  unfold hl
  apply List.filter_congr
  intro i hi
  have hi := List.mem_range.mp hi
  have a := h1 i hi
  unfold hB tl
  by_cases h : i + 1 < P.length
  · have b := h1 (i + 1) h
    have c := h2 (i + 1) h
    simp only [if_pos h]
    have e1 : decide (bt P i ≤ t) = decide (bt P i ≤ t - 1) := by
      by_cases c1 : bt P i ≤ t
      · rw [decide_eq_true c1, decide_eq_true (by omega)]
      · rw [decide_eq_false c1, decide_eq_false (by omega)]
    have e2 : (decide (t < bt P (i + 1)) || decide (t - bt P (i + 1) < K)) = (decide (t - 1 < bt P (i + 1)) || decide (t - 1 - bt P (i + 1) < K)) := by
      rw [← Bool.decide_or, ← Bool.decide_or]
      by_cases c1 : t < bt P (i + 1) ∨ t - bt P (i + 1) < K
      · rw [decide_eq_true c1, decide_eq_true (by omega)]
      · rw [decide_eq_false c1, decide_eq_false (by omega)]
    rw [e1, e2]
  · simp only [if_neg h]
    have e1 : decide (bt P i ≤ t) = decide (bt P i ≤ t - 1) := by
      by_cases c1 : bt P i ≤ t
      · rw [decide_eq_true c1, decide_eq_true (by omega)]
      · rw [decide_eq_false c1, decide_eq_false (by omega)]
    have e2 : decide (t < t + 1) = true := decide_eq_true (by omega)
    have e3 : decide (t - 1 < t - 1 + 1) = true := decide_eq_true (by omega)
    rw [e1, e2, e3]
    rfl
theorem tr_same {P : Pt} {k0 k1 k2 t : Int} (h0 : 0 ≤ k0) (h1 : 0 ≤ k1) (h2 : 0 ≤ k2) (n : t ∉ sortI (moL P [k0, k1, k2])) : tr P k0 k1 k2 t = tr P k0 k1 k2 (t - 1) := by
  have a : ∀ i, i < P.length → t ≠ bt P i := fun i hi e => n (mo_iff.mpr ⟨i, hi, .inl e⟩)
  have b : ∀ K ∈ ([k0, k1, k2] : List Int), ∀ i, i < P.length → t ≠ bt P i + K := fun K hK i hi e => n (mo_iff.mpr ⟨i, hi, .inr ⟨K, hK, e⟩⟩)
  unfold tr tD
  rw [hl_same h0 a (b k0 (by simp)), hl_same h1 a (b k1 (by simp)), hl_same h2 a (b k2 (by simp))]
/-! ### triples -/
def cp (P : Pt) (K : Int) (i j : Nat) : Prop := i < j → bt P j < bt P (i + 1) + K
def Coh (P : Pt) (k0 k1 k2 : Int) (i j k : Nat) : Prop := cp P k0 i j ∧ cp P k0 i k ∧ cp P k1 j i ∧ cp P k1 j k ∧ cp P k2 k i ∧ cp P k2 k j
theorem bt_le {P : Pt} (h : Up P) {i j : Nat} (hij : i ≤ j) (hj : j < P.length) : bt P i ≤ bt P j := by
  rcases Nat.lt_or_eq_of_le hij with c | rfl
  · exact Int.le_of_lt (bt_lt h c hj)
  · exact Int.le_refl _
theorem some_time {P : Pt} (hU : Up P) {k0 k1 k2 : Int} (h0 : 0 ≤ k0) (h1 : 0 ≤ k1) (h2 : 0 ≤ k2) {i j k : Nat} (hi : i < P.length) (hj : j < P.length) (hk : k < P.length) :
    (∃ m, m < P.length ∧ i ∈ hl P k0 (bt P m) ∧ j ∈ hl P k1 (bt P m) ∧ k ∈ hl P k2 (bt P m)) ↔ Coh P k0 k1 k2 i j k := by
  constructor
  · rintro ⟨m, hm, a, b, c⟩
    obtain ⟨_, a1, a2⟩ := (hl_iff h0).mp a
    obtain ⟨_, b1, b2⟩ := (hl_iff h1).mp b
    obtain ⟨_, c1, c2⟩ := (hl_iff h2).mp c
    refine ⟨fun z => ?_, fun z => ?_, fun z => ?_, fun z => ?_, fun z => ?_, fun z => ?_⟩
    · have := a2 (by omega); omega
    · have := a2 (by omega); omega
    · have := b2 (by omega); omega
    · have := b2 (by omega); omega
    · have := c2 (by omega); omega
    · have := c2 (by omega); omega
  · rintro ⟨p1, p2, p3, p4, p5, p6⟩
    have up : ∀ {K : Int} {x : Nat}, 0 ≤ K → x + 1 < P.length → bt P x < bt P (x + 1) + K := fun {K x} hK hx => by
      have := bt_lt hU (i := x) (j := x + 1) (by omega) hx
      omega
    by_cases c1 : j ≤ i ∧ k ≤ i
    · refine ⟨i, hi, (hl_iff h0).mpr ⟨hi, by omega, fun z => up h0 z⟩, (hl_iff h1).mpr ⟨hj, bt_le hU c1.1 hi, fun z => ?_⟩, (hl_iff h2).mpr ⟨hk, bt_le hU c1.2 hi, fun z => ?_⟩⟩
      · rcases Nat.lt_or_eq_of_le c1.1 with d | d
        · exact p3 d
        · subst d; exact up h1 z
      · rcases Nat.lt_or_eq_of_le c1.2 with d | d
        · exact p5 d
        · subst d; exact up h2 z
    · by_cases c2 : i ≤ j ∧ k ≤ j
      · refine ⟨j, hj, (hl_iff h0).mpr ⟨hi, bt_le hU c2.1 hj, fun z => ?_⟩, (hl_iff h1).mpr ⟨hj, by omega, fun z => up h1 z⟩, (hl_iff h2).mpr ⟨hk, bt_le hU c2.2 hj, fun z => ?_⟩⟩
        · rcases Nat.lt_or_eq_of_le c2.1 with d | d
          · exact p1 d
          · subst d; exact up h0 z
        · rcases Nat.lt_or_eq_of_le c2.2 with d | d
          · exact p6 d
          · subst d; exact up h2 z
      · have c3 : i ≤ k ∧ j ≤ k := by omega
        refine ⟨k, hk, (hl_iff h0).mpr ⟨hi, bt_le hU c3.1 hk, fun z => ?_⟩, (hl_iff h1).mpr ⟨hj, bt_le hU c3.2 hk, fun z => ?_⟩, (hl_iff h2).mpr ⟨hk, by omega, fun z => up h2 z⟩⟩
        · rcases Nat.lt_or_eq_of_le c3.1 with d | d
          · exact p2 d
          · subst d; exact up h0 z
        · rcases Nat.lt_or_eq_of_le c3.2 with d | d
          · exact p4 d
          · subst d; exact up h1 z
end K32
end
section
set_option Elab.async false
set_option linter.all false
set_option autoImplicit false
set_option maxRecDepth 100000
set_option maxHeartbeats 1000000
/-! K32h: safe plans; longer waits; waits that are worth a try. -/
namespace K32
open PySem DI
theorem coh_of {P : Pt} {k0 k1 k2 t : Int} (h0 : 0 ≤ k0) (h1 : 0 ≤ k1) (h2 : 0 ≤ k2) {i j k : Nat} (a : i ∈ hl P k0 t) (b : j ∈ hl P k1 t) (c : k ∈ hl P k2 t) : Coh P k0 k1 k2 i j k := by
  obtain ⟨_, a1, a2⟩ := (hl_iff h0).mp a
  obtain ⟨_, b1, b2⟩ := (hl_iff h1).mp b
  obtain ⟨_, c1, c2⟩ := (hl_iff h2).mp c
  refine ⟨fun z => ?_, fun z => ?_, fun z => ?_, fun z => ?_, fun z => ?_, fun z => ?_⟩
  · have := a2 (by omega); omega
  · have := a2 (by omega); omega
  · have := b2 (by omega); omega
  · have := b2 (by omega); omega
  · have := c2 (by omega); omega
  · have := c2 (by omega); omega
def safeB (P : Pt) (k0 k1 k2 : Int) : Bool := (sortI (moL P [k0, k1, k2])).all fun t => (tr P k0 k1 k2 t).isNone
theorem safe_iff {P : Pt} (hU : Up P) {k0 k1 k2 : Int} (h0 : 0 ≤ k0) (h1 : 0 ≤ k1) (h2 : 0 ≤ k2) : safeB P k0 k1 k2 = true ↔ ∀ i j k, i < P.length → j < P.length → k < P.length → Coh P k0 k1 k2 i j k → bad P i j k = false := by
  unfold safeB
  rw [List.all_eq_true]
  constructor
  · intro h i j k hi hj hk c
    obtain ⟨m, hm, a1, a2, a3⟩ := (some_time hU h0 h1 h2 hi hj hk).mpr c
    have z := h (bt P m) (mo_iff.mpr ⟨m, hm, .inl rfl⟩)
    rw [Option.isNone_iff_eq_none] at z
    exact tr_none.mp z i a1 j a2 k a3
  · intro h t ht
    rw [Option.isNone_iff_eq_none]
    exact tr_none.mpr fun i hi j hj k hk => h i j k (hl_lt hi) (hl_lt hj) (hl_lt hk) (coh_of h0 h1 h2 hi hj hk)
/-- the law's first second is the program's -/
theorem law_first {P : Pt} (hP : POk P) {k0 k1 k2 : Int} (h0 : 0 ≤ k0) (h1 : 0 ≤ k1) (h2 : 0 ≤ k2) (n : Nat) (hn : ∀ i, i < P.length → bt P i ≤ n ∧ bt P i + k0 ≤ n ∧ bt P i + k1 ≤ n ∧ bt P i + k2 ≤ n) :
    ((List.range (n + 1)).findSome? fun t : Nat => tD P k0 k1 k2 (t : Int) fun i j k => PyData.tuple [.int (t : Int), .int (bt P i), .int (bt P j), .int (bt P k)]) =
      ((sortI (moL P [k0, k1, k2])).findSome? fun t => (tr P k0 k1 k2 t).map fun q => (t, q)).map fun q => PyData.tuple [.int q.1, .int (bt P q.2.1), .int (bt P q.2.2.1), .int (bt P q.2.2.2)] := by
  have e1 : ((List.range (n + 1)).findSome? fun t : Nat => tD P k0 k1 k2 (t : Int) fun i j k => PyData.tuple [.int (t : Int), .int (bt P i), .int (bt P j), .int (bt P k)]) =
      (((List.range (n + 1)).map fun t : Nat => (t : Int)).findSome? fun t => (tr P k0 k1 k2 t).map fun q => (t, q)).map fun q => PyData.tuple [.int q.1, .int (bt P q.2.1), .int (bt P q.2.2.1), .int (bt P q.2.2.2)] := by
    rw [fs_map, List.findSome?_map]
    congr 1
    funext t
    simp only [Function.comp, Option.map_map]
    rw [tD_map]
    rfl
  rw [e1]
  congr 1
  have b0 : bt P 0 = 0 := by
    have z := hP.hd
    cases P with
    | nil => cases z
    | cons p P => exact Option.some.inj z
  have nn : ∀ i, i < P.length → 0 ≤ bt P i := fun i hi => by
    have := bt_le hP.up (Nat.zero_le i) hi
    omega
  refine first_eq (fun t => tr P k0 k1 k2 t) (lo := 0) (hi := n) (sortI_rises _) ?_ (fun t => ?_) ?_ (fun m hm => ?_) (fun t ht _ hn h => ?_)
  · rw [List.pairwise_map]
    refine List.Pairwise.imp ?_ List.pairwise_lt_range
    intro a b hab
    omega
  · rw [List.mem_map]
    constructor
    · rintro ⟨x, hx, rfl⟩
      have := List.mem_range.mp hx
      omega
    · rintro ⟨a, b⟩
      exact ⟨t.toNat, List.mem_range.mpr (by omega), by omega⟩
  · exact mo_iff.mpr ⟨0, by have := hP.n1; omega, .inl b0.symm⟩
  · obtain ⟨i, hi, rfl | ⟨K, hK, rfl⟩⟩ := mo_iff.mp hm
    · exact ⟨nn i hi, (hn i hi).1⟩
    · have := nn i hi
      have := hn i hi
      simp only [List.mem_cons, List.not_mem_nil, or_false] at hK
      rcases hK with rfl | rfl | rfl <;> omega
  · rw [← tr_same h0 h1 h2 hn]
    exact h
theorem safe_none {P : Pt} {k0 k1 k2 : Int} : safeB P k0 k1 k2 = ((sortI (moL P [k0, k1, k2])).findSome? fun t => (tr P k0 k1 k2 t).map fun q => (t, q)).isNone := by
  cases e : (sortI (moL P [k0, k1, k2])).findSome? fun t => (tr P k0 k1 k2 t).map fun q => (t, q) with
  | none =>
    have z := (fs_none (fun t => tr P k0 k1 k2 t) _).mp e
    show safeB P k0 k1 k2 = true
    unfold safeB
    rw [List.all_eq_true]
    exact fun t ht => by rw [z t ht]; rfl
  | some x =>
    obtain ⟨t, q⟩ := x
    obtain ⟨h1, h2, _⟩ := fs_sorted (fun t => tr P k0 k1 k2 t) _ (sortI_rises _) e
    show safeB P k0 k1 k2 = false
    cases c : safeB P k0 k1 k2 with
    | false => rfl
    | true =>
      unfold safeB at c
      have z := List.all_eq_true.mp c t h1
      rw [h2] at z
      cases z
/-! ### longer waits -/
theorem gap_le : ∀ {ws vs : List Int}, ws.length = vs.length → (∀ i (h : i < ws.length) (h' : i < vs.length), ws[i] ≤ vs[i]) → ∀ (i d : Nat), i + d ≤ ws.length → (ws.take (i + d)).sum - (ws.take i).sum ≤ (vs.take (i + d)).sum - (vs.take i).sum := by
  intro ws vs hl h i d
  induction d with
  | zero => intro _; simp
  | succ d ih =>
    intro hd
    have z := ih (by omega)
    have e1 := take_succ_sum ws (i + d) (by omega)
    have e2 := take_succ_sum vs (i + d) (by omega)
    have y := h (i + d) (by omega) (by omega)
    have e3 : i + (d + 1) = i + d + 1 := by omega
    rw [e3, e1, e2]
    omega
theorem bad_pln {S : List Sx} {ws vs : List Int} (h : S.length = ws.length + 1) (h' : S.length = vs.length + 1) {i j k : Nat} (hi : i ≤ ws.length) (hj : j ≤ ws.length) (hk : k ≤ ws.length) : bad (pln S ws) i j k = bad (pln S vs) i j k := by
  have e : ws.length = vs.length := by omega
  unfold bad
  rw [pln_st h hi, pln_st h hj, pln_st h hk, pln_st h' (e ▸ hi), pln_st h' (e ▸ hj), pln_st h' (e ▸ hk)]
theorem longer {S : List Sx} {ws vs : List Int} (h : S.length = ws.length + 1) (hl : ws.length = vs.length) (hn : ws.length ≤ 11) (hS : ∀ s ∈ S, SOk s) (hw : wOk ws) (hv : wOk vs) (hle : ∀ i (h : i < ws.length) (h' : i < vs.length), ws[i] ≤ vs[i])
    {k0 k1 k2 : Int} (h0 : 0 ≤ k0) (h1 : 0 ≤ k1) (h2 : 0 ≤ k2) (hs : safeB (pln S ws) k0 k1 k2 = true) : safeB (pln S vs) k0 k1 k2 = true := by
  have h' : S.length = vs.length + 1 := by omega
  have l1 := pln_len h
  have l2 := pln_len h'
  have p1 := pln_ok h hn hS hw
  have p2 := pln_ok h' (by omega) hS hv
  refine (safe_iff p2.up h0 h1 h2).mpr fun i j k hi hj hk c => ?_
  rw [← bad_pln h h' (by omega) (by omega) (by omega)]
  have cpp : ∀ {K : Int} {x y : Nat}, x < (pln S vs).length → y < (pln S vs).length → cp (pln S vs) K x y → cp (pln S ws) K x y := fun {K x y} hx hy hc hxy => by
    have z := hc hxy
    have g := gap_le hl hle (x + 1) (y - (x + 1)) (by omega)
    have e : x + 1 + (y - (x + 1)) = y := by omega
    rw [e] at g
    rw [pln_bt h (by omega), pln_bt h (by omega)]
    rw [pln_bt h' (by omega), pln_bt h' (by omega)] at z
    omega
  obtain ⟨q1, q2, q3, q4, q5, q6⟩ := c
  exact (safe_iff p1.up h0 h1 h2).mp hs i j k (by omega) (by omega) (by omega) ⟨cpp hi hj q1, cpp hi hk q2, cpp hj hi q3, cpp hj hk q4, cpp hk hi q5, cpp hk hj q6⟩
/-- a wait that is none to try is as good as one second less -/
theorem less {S : List Sx} {ws : List Int} {w : Int} (h : S.length = ws.length + 2) (hn : ws.length ≤ 10) (hS : ∀ s ∈ S, SOk s) (hw : wOk ws) (w2 : 2 ≤ w) (w3 : w ≤ 100)
    {k0 k1 k2 : Int} (h0 : 0 ≤ k0) (h1 : 0 ≤ k1) (h2 : 0 ≤ k2) (nc : w ∉ caL [k0, k1, k2] ws) (hs : safeB (pln S (ws ++ [w])) k0 k1 k2 = true) : safeB (pln S (ws ++ [w - 1])) k0 k1 k2 = true := by
  have hA : S.length = (ws ++ [w]).length + 1 := by simp; omega
  have hB : S.length = (ws ++ [w - 1]).length + 1 := by simp; omega
  have wA : wOk (ws ++ [w]) := fun x hx => by
    rcases List.mem_append.mp hx with z | z
    · exact hw x z
    · rw [List.mem_singleton.mp z]; omega
  have wB : wOk (ws ++ [w - 1]) := fun x hx => by
    rcases List.mem_append.mp hx with z | z
    · exact hw x z
    · rw [List.mem_singleton.mp z]; omega
  have nA : (ws ++ [w]).length = ws.length + 1 := by simp
  have nB : (ws ++ [w - 1]).length = ws.length + 1 := by simp
  have pA := pln_ok hA (by omega) hS wA
  have pB := pln_ok hB (by omega) hS wB
  have lA := pln_len hA
  have lB := pln_len hB
  refine (safe_iff pB.up h0 h1 h2).mpr fun i j k hi hj hk c => ?_
  rw [← bad_pln hA hB (by omega) (by omega) (by omega)]
  have tk : ∀ (x : Int) (i : Nat), i ≤ ws.length → ((ws ++ [x]).take i).sum = (ws.take i).sum := fun x i hi => by rw [List.take_append_of_le_length hi]
  have tl : ∀ x : Int, ((ws ++ [x]).take (ws.length + 1)).sum = ws.sum + x := fun x => by
    rw [List.take_of_length_le (by simp), List.sum_append]
    simp
  have spl : ∀ i, i ≤ ws.length → ws.sum = (ws.take i).sum + pst ws i := fun i _ => by
    unfold pst
    rw [← List.sum_append, List.take_append_drop]
  have cpp : ∀ {K : Int} {x y : Nat}, K ∈ ([k0, k1, k2] : List Int) → x < (pln S (ws ++ [w - 1])).length → y < (pln S (ws ++ [w - 1])).length → cp (pln S (ws ++ [w - 1])) K x y → cp (pln S (ws ++ [w])) K x y := fun {K x y} hK hx hy hc hxy => by
    have z := hc hxy
    rw [pln_bt hA (by omega), pln_bt hA (by omega)]
    rw [pln_bt hB (by omega), pln_bt hB (by omega)] at z
    by_cases c1 : y ≤ ws.length
    · rw [tk _ _ c1, tk _ _ (by omega)] at z ⊢
      exact z
    · have ey : y = ws.length + 1 := by omega
      subst ey
      rw [tl] at z ⊢
      by_cases c2 : x + 1 ≤ ws.length
      · rw [tk _ _ c2] at z ⊢
        have sp := spl (x + 1) c2
        refine Classical.byContradiction fun nlt => nc ?_
        refine caL_mem.mpr (.inr ⟨x + 1, c2, K, hK, ?_⟩)
        unfold mx
        have ew : w = K - pst ws (x + 1) := by omega
        rw [if_pos (by omega)]
        exact ew
      · have ex : x + 1 = ws.length + 1 := by omega
        rw [ex, tl] at z ⊢
        omega
  obtain ⟨q1, q2, q3, q4, q5, q6⟩ := c
  exact (safe_iff pA.up h0 h1 h2).mp hs i j k (by omega) (by omega) (by omega) ⟨cpp (by simp) hi hj q1, cpp (by simp) hi hk q2, cpp (by simp) hj hi q3, cpp (by simp) hj hk q4, cpp (by simp) hk hi q5, cpp (by simp) hk hj q6⟩
end K32
end
section
set_option Elab.async false
set_option linter.all false
set_option autoImplicit false
set_option maxRecDepth 100000
set_option maxHeartbeats 1000000
/-! K32i: the least waits, by the waits to try. -/
namespace K32
open PySem DI
def mk3 (k0 k1 k2 : Int) : Int := ([k1, k2] : List Int).foldl (fun a b => if b > a then b else a) k0
theorem l_max (k0 k1 k2 : Int) : biM .max [kt [k0, k1, k2]] = DI.ret (.int (mk3 k0 k1 k2)) := rfl
theorem mk3_ge (k0 k1 k2 : Int) : k0 ≤ mk3 k0 k1 k2 ∧ k1 ≤ mk3 k0 k1 k2 ∧ k2 ≤ mk3 k0 k1 k2 ∧ (mk3 k0 k1 k2 = k0 ∨ mk3 k0 k1 k2 = k1 ∨ mk3 k0 k1 k2 = k2) := by
  unfold mk3
  simp only [List.foldl_cons, List.foldl_nil]
  split <;> split <;> omega
def fS (S : List Sx) (k0 k1 k2 : Int) (k : Nat) (f : List Int) (w : Int) : Option Unit := if safeB (pln (S.take (k + 2)) (f ++ [w])) k0 k1 k2 = true then some () else none
def nxP (S : List Sx) (k0 k1 k2 : Int) (k : Nat) (f : List Int) : Option (Int × Unit) := (sortI (caL [k0, k1, k2] f)).findSome? fun w => (fS S k0 k1 k2 k f w).map fun q => (w, q)
def go (nx : Nat → List Int → Option (Int × Unit)) : List Nat → List Int → Option (List Int)
  | [], f => some f
  | k :: r, f => match nx k f with
    | some (w, _) => go nx r (f ++ [w])
    | none => none
structure Kq (k0 k1 k2 : Int) : Prop where
  a : 0 ≤ k0 ∧ k0 ≤ 7
  b : 0 ≤ k1 ∧ k1 ≤ 7
  c : 0 ≤ k2 ∧ k2 ≤ 7
theorem Kq.k3 {k0 k1 k2 : Int} (h : Kq k0 k1 k2) : Kp3 [k0, k1, k2] := ⟨rfl, fun k hk => by
  have := h.a
  have := h.b
  have := h.c
  simp only [List.mem_cons, List.not_mem_nil, or_false] at hk
  rcases hk with rfl | rfl | rfl <;> omega⟩
theorem pst_nn {ws : List Int} (hw : wOk ws) (i : Nat) : 0 ≤ pst ws i := by
  unfold pst
  have : ∀ l : List Int, (∀ x ∈ l, 0 ≤ x) → 0 ≤ l.sum := fun l => by
    induction l with
    | nil => intro _; simp
    | cons x l ih =>
      intro h
      have h1 := h x List.mem_cons_self
      have h2 := ih fun y hy => h y (List.mem_cons_of_mem _ hy)
      rw [List.sum_cons]
      omega
  exact this _ fun x hx => by
    have := hw x (List.mem_of_mem_drop hx)
    omega
theorem ca_rg {k0 k1 k2 : Int} (h : Kq k0 k1 k2) {ws : List Int} (hw : wOk ws) {w : Int} (hm : w ∈ caL [k0, k1, k2] ws) : 1 ≤ w ∧ w ≤ mk3 k0 k1 k2 + 1 := by
  have g := mk3_ge k0 k1 k2
  have := h.a
  have := h.b
  have := h.c
  rcases caL_mem.mp hm with rfl | ⟨i, hi, K, hK, rfl⟩
  · omega
  · have p := pst_nn hw i
    unfold mx
    simp only [List.mem_cons, List.not_mem_nil, or_false] at hK
    rcases hK with rfl | rfl | rfl <;> split <;> omega
theorem nx_rg {S : List Sx} {k0 k1 k2 : Int} (h : Kq k0 k1 k2) {k : Nat} {f : List Int} (hw : wOk f) {w : Int} {u : Unit} (e : nxP S k0 k1 k2 k f = some (w, u)) : 1 ≤ w ∧ w ≤ 100 := by
  obtain ⟨h1, _, _⟩ := fs_sorted _ _ (sortI_rises _) e
  have z := ca_rg h hw ((sortI_perm _).mem_iff.mp h1)
  have g := mk3_ge k0 k1 k2
  have := h.a
  have := h.b
  have := h.c
  omega
theorem wOk_app {f : List Int} (hf : wOk f) {w : Int} (h1 : 1 ≤ w) (h2 : w ≤ 100) : wOk (f ++ [w]) := fun x hx => by
  rcases List.mem_append.mp hx with z | z
  · exact hf x z
  · rw [List.mem_singleton.mp z]; omega
/-- the first good one, by a list that takes no second -/
def gst (p : Int → Bool) (G : List Int) (w : Int) : List Int := if G.length = 0 ∧ p w = true then G ++ [w] else G
theorem gst_full (p : Int → Bool) {g : Int} : ∀ M : List Int, M.foldl (gst p) [g] = [g]
  | [] => rfl
  | w :: M => by
    rw [List.foldl_cons]
    have e : gst p [g] w = [g] := by unfold gst; rw [if_neg (by simp)]
    rw [e, gst_full p M]
theorem gst_fold (p : Int → Bool) : ∀ M : List Int, M.foldl (gst p) [] = (match M.findSome? (fun w => ((if p w = true then some () else none) : Option Unit).map fun q => (w, q)) with | some (w, _) => [w] | none => [])
  | [] => rfl
  | w :: M => by
    rw [List.foldl_cons, List.findSome?_cons]
    by_cases h : p w = true
    · have e : gst p [] w = [w] := by unfold gst; rw [if_pos ⟨rfl, h⟩]; rfl
      rw [e, gst_full, if_pos h]
      rfl
    · have e : gst p [] w = [] := by unfold gst; rw [if_neg fun z => h z.2]
      rw [e, if_neg h, gst_fold p M]
      rfl
theorem gst_len (p : Int → Bool) {G : List Int} (h : G.length ≤ 1) (w : Int) : (gst p G w).length ≤ 1 := by
  unfold gst
  split
  · rename_i c
    rw [List.length_append, c.1]
    simp
  · exact h
section
variable {S : List Sx} (hn : S.length ≤ 12) (hS : ∀ s ∈ S, SOk s) {k0 k1 k2 : Int} (hk : Kq k0 k1 k2)
include hn hS hk
theorem take_ok {k : Nat} (hk2 : k + 2 ≤ S.length) {f : List Int} (hf : f.length = k) (hw : wOk f) {w : Int} (h1 : 1 ≤ w) (h2 : w ≤ 100) : POk (pln (S.take (k + 2)) (f ++ [w])) :=
  pln_ok (by rw [List.length_take, List.length_append]; simp; omega) (by rw [List.length_append]; simp; omega) (fun s hs => hS s (List.mem_of_mem_take hs)) (wOk_app hw h1 h2)
theorem se_take (k : Nat) : sliceM (se S) none (some (((k + 2 : Nat)) : Int)) = DI.ret (se (S.take (k + 2))) := by
  show sliceM (.tuple (S.map Sx.e)) _ _ = _
  rw [slice_t, cut_to, ← List.map_take]
  rfl
theorem inner_P {k : Nat} (hk2 : k + 2 ≤ S.length) {f : List Int} (hf : f.length = k) (hw : wOk f) (o : Option SV) : ∃ o', loopM f_least_waits_2 ((sortI (caL [k0, k1, k2] f)).map PyData.int) [some (.sh (se S)), some (.sh (kt [k0, k1, k2])), some (.ow (.list (f.map PyData.int))), some (.sh (.int (1 + (k : Int)))), some (.ow (.list [])), o] =
    DI.ret (.nx, [some (.sh (se S)), some (.sh (kt [k0, k1, k2])), some (.ow (.list (f.map PyData.int))), some (.sh (.int (1 + (k : Int)))), some (.ow (.list ((match nxP S k0 k1 k2 k f with | some (w, _) => [w] | none => []).map PyData.int))), o']) := by
  let p : Int → Bool := fun w => safeB (pln (S.take (k + 2)) (f ++ [w])) k0 k1 k2
  obtain ⟨ρ', ⟨_, o', rfl⟩, e⟩ := loop_all (f := f_least_waits_2) (mk := PyData.int) (step := gst p) (Rl := fun G ρ => G.length ≤ 1 ∧ ∃ o, ρ = [some (.sh (se S)), some (.sh (kt [k0, k1, k2])), some (.ow (.list (f.map PyData.int))), some (.sh (.int (1 + (k : Int)))), some (.ow (.list (G.map PyData.int))), o]) (sortI (caL [k0, k1, k2] f)) [] (fun a b w ρ e hr => by
    obtain ⟨hG, o, rfl⟩ := hr
    generalize a.foldl (gst p) [] = G at hG ⊢
    have hm : w ∈ caL [k0, k1, k2] f := (sortI_perm _).mem_iff.mp (by rw [e]; simp)
    have rg := ca_rg hk hw hm
    have g := mk3_ge k0 k1 k2
    have q1 := hk.a
    have q2 := hk.b
    have q3 := hk.c
    have ok := take_ok hn hS hk hk2 hf hw rg.1 (by omega)
    have eG : biM .len [.list (G.map PyData.int)] = DI.ret (.int G.length) := by rw [len_l, List.length_map]
    have ep : ((1 : Int) + (k : Int)) + 1 = ((k + 2 : Nat) : Int) := by omega
    rw [f_least_waits_2_eq, eG]
    simp only [bnd_ret_l, eq_ii, add_ii, int_i, seq_l, opt_some]
    rw [ep, se_take hn hS hk]
    simp only [bnd_ret_l]
    have eapp : f.map PyData.int ++ [PyData.int w] = (f ++ [w]).map PyData.int := by rw [List.map_append]; rfl
    rw [eapp, grd_fits (by rw [List.length_map, List.length_append]; simp; omega)]
    simp only [bnd_ret_l]
    have z2 : decide (([se (S.take (k + 2)), PyData.list ((f ++ [w]).map PyData.int)] : List D).length = 2) = true := rfl
    rw [z2, grd_t, l_with (List.length_pos_iff.mp (by rw [List.length_take]; omega)) (by rw [List.length_take]; omega) (f ++ [w]) (seq_l _)]
    simp only [pure_r, bnd_ret_l]
    have z3 : decide (([pe (pln (S.take (k + 2)) (f ++ [w])), kt [k0, k1, k2]] : List D).length = 2) = true := rfl
    rw [z3, grd_t, l_safe ok hk.k3]
    simp only [pure_r, bnd_ret_l, tr_b]
    show ∃ ρ', _ ∧ bnd (if decide ((G.length : Int) = 0) = true then DI.ret (p w) else DI.ret false) _ = _
    have et : (if decide ((G.length : Int) = 0) = true then DI.ret (p w) else DI.ret false) = DI.ret (decide (G.length = 0 ∧ p w = true)) := by
      by_cases c : G.length = 0
      · rw [if_pos (decide_eq_true (by omega))]
        cases p w <;> simp [c]
      · rw [if_neg (by simpa using c), decide_eq_false (fun z => c z.1)]
    rw [et, bnd_ret_l]
    refine ⟨[some (.sh (se S)), some (.sh (kt [k0, k1, k2])), some (.ow (.list (f.map PyData.int))), some (.sh (.int (1 + (k : Int)))), some (.ow (.list ((gst p G w).map PyData.int))), some (.sh (.int w))], ⟨gst_len p hG w, _, rfl⟩, ?_⟩
    unfold gst
    by_cases c : G.length = 0 ∧ p w = true
    · rw [if_pos (decide_eq_true c), if_pos c, grd_fits (by rw [List.length_map]; omega), List.map_append]
      rfl
    · rw [if_neg (by rw [decide_eq_false c]; simp), if_neg c]) (ρ := [some (.sh (se S)), some (.sh (kt [k0, k1, k2])), some (.ow (.list (f.map PyData.int))), some (.sh (.int (1 + (k : Int)))), some (.ow (.list [])), o]) ⟨by simp, o, rfl⟩
  refine ⟨o', e.trans ?_⟩
  rw [gst_fold]
  rfl
theorem outer_P : ∀ (r k : Nat) (f : List Int), k + r + 1 = S.length → f.length = k → wOk f → ∀ o1 o2 o3, ∃ o1' o2' o3', loopM f_least_waits_1 ((List.range' k r).map fun k : Nat => PyData.int (1 + (k : Int))) [some (.sh (se S)), some (.sh (kt [k0, k1, k2])), some (.ow (.list (f.map PyData.int))), o1, o2, o3] =
    (match go (nxP S k0 k1 k2) (List.range' k r) f with
      | some f' => DI.ret (.nx, [some (.sh (se S)), some (.sh (kt [k0, k1, k2])), some (.ow (.list (f'.map PyData.int))), o1', o2', o3'])
      | none => throwM ⟨"Missing"⟩)
  | 0, k, f, _, _, _, o1, o2, o3 => ⟨o1, o2, o3, rfl⟩
  | r + 1, k, f, hr, hf, hw, o1, o2, o3 => by
    obtain ⟨o', e⟩ := inner_P hn hS hk (by omega) hf hw o3
    rw [List.range'_succ, List.map_cons]
    have e1 : f_least_waits_1 (.int (1 + (k : Int))) [some (.sh (se S)), some (.sh (kt [k0, k1, k2])), some (.ow (.list (f.map PyData.int))), o1, o2, o3] = endK k_least_waits_2 (Fl.nx, [some (.sh (se S)), some (.sh (kt [k0, k1, k2])), some (.ow (.list (f.map PyData.int))), some (.sh (.int (1 + (k : Int)))), some (.ow (.list ((match nxP S k0 k1 k2 k f with | some (w, _) => [w] | none => []).map PyData.int))), o']) := by
      rw [f_least_waits_1_eq, l_cand rfl (by omega), pure_r, bnd_ret_l, seq_l, opt_some, bnd_ret_l, e, bnd_ret_l]
    rw [k_least_waits_2_eq] at e1
    cases en : nxP S k0 k1 k2 k f with
    | none =>
      have e2 : f_least_waits_1 (.int (1 + (k : Int))) [some (.sh (se S)), some (.sh (kt [k0, k1, k2])), some (.ow (.list (f.map PyData.int))), o1, o2, o3] = throwM ⟨"Missing"⟩ := by
        rw [e1, en]
        rfl
      have eg : go (nxP S k0 k1 k2) (k :: List.range' (k + 1) r) f = none := by
        show (match nxP S k0 k1 k2 k f with | some (w, _) => _ | none => none) = none
        rw [en]
      refine ⟨none, none, none, ?_⟩
      rw [eg]
      exact loopM_thr e2
    | some x =>
      obtain ⟨w, u⟩ := x
      have rg := nx_rg hk hw en
      have e2 : f_least_waits_1 (.int (1 + (k : Int))) [some (.sh (se S)), some (.sh (kt [k0, k1, k2])), some (.ow (.list (f.map PyData.int))), o1, o2, o3] = DI.ret (.nx, [some (.sh (se S)), some (.sh (kt [k0, k1, k2])), some (.ow (.list ((f ++ [w]).map PyData.int))), some (.sh (.int (1 + (k : Int)))), some (.ow (.list [.int w])), o']) := by
        rw [e1, en]
        show bnd (DI.ret false) _ = _
        rw [bnd_ret_l, if_neg (by simp)]
        show bnd (DI.ret (PyData.int w)) _ = _
        rw [bnd_ret_l, grd_fits (by rw [List.length_map]; omega), List.map_append]
        rfl
      have eg : go (nxP S k0 k1 k2) (k :: List.range' (k + 1) r) f = go (nxP S k0 k1 k2) (List.range' (k + 1) r) (f ++ [w]) := by
        show (match nxP S k0 k1 k2 k f with | some (w, _) => go (nxP S k0 k1 k2) (List.range' (k + 1) r) (f ++ [w]) | none => none) = _
        rw [en]
      obtain ⟨p1, p2, p3, e3⟩ := outer_P r (k + 1) (f ++ [w]) (by omega) (by rw [List.length_append, hf]; rfl) (wOk_app hw rg.1 rg.2) (some (.sh (.int (1 + (k : Int))))) (some (.ow (.list [.int w]))) o'
      refine ⟨p1, p2, p3, ?_⟩
      rw [eg]
      exact (loopM_nx e2).trans e3
theorem l_least (h1 : 1 ≤ S.length) : m_least_waits [se S, kt [k0, k1, k2]] = (match go (nxP S k0 k1 k2) (List.range' 0 (S.length - 1)) [] with
      | some f' => DI.ret (.tuple (f'.map PyData.int))
      | none => throwM ⟨"Missing"⟩) := by
  obtain ⟨o1, o2, o3, e⟩ := outer_P hn hS hk (S.length - 1) 0 [] (by omega) rfl (fun _ z => by cases z) none none none
  have g := mk3_ge k0 k1 k2
  have q1 := hk.a
  have q2 := hk.b
  have q3 := hk.c
  have er : rangeD 1 (S.length : Int) = (List.range' 0 (S.length - 1)).map fun k : Nat => PyData.int (1 + (k : Int)) := by
    unfold rangeD
    have : ((S.length : Int) - 1).toNat = S.length - 1 := by omega
    rw [this, List.range_eq_range']
  have hg : rgOk 1 (S.length : Int) = true := decide_eq_true (by omega)
  rw [m_least_waits_eq, l_states ⟨h1, hn, hS⟩, l_keeps hk.k3, l_max]
  simp only [pure_r, bnd_ret_l, gt_ii]
  rw [if_neg (by rw [decide_eq_false (by omega)]; simp), len_se, bnd_ret_l, int_i, bnd_ret_l, hg, grd_t, bnd_ret_l, er]
  have e : loopM f_least_waits_1 ((List.range' 0 (S.length - 1)).map fun k : Nat => PyData.int (1 + (k : Int))) [some (.sh (se S)), some (.sh (kt [k0, k1, k2])), some (.ow (.list [])), none, none, none] = _ := e
  rw [e]
  cases go (nxP S k0 k1 k2) (List.range' 0 (S.length - 1)) [] with
  | none => rfl
  | some f' =>
    show bnd (DI.ret _) _ = _
    rw [bnd_ret_l, k_least_waits_1_eq, tuple_l, bnd_ret_l]
end
end K32
end
section
set_option Elab.async false
set_option linter.all false
set_option autoImplicit false
set_option maxRecDepth 100000
set_option maxHeartbeats 1000000
/-! K32j: the least waits, by all waits. -/
namespace K32
open PySem DI
def allW (k0 k1 k2 : Int) : List Int := (List.range (mk3 k0 k1 k2 + 1).toNat).map fun x : Nat => 1 + (x : Int)
def nxL (S : List Sx) (k0 k1 k2 : Int) (k : Nat) (f : List Int) : Option (Int × Unit) := (allW k0 k1 k2).findSome? fun w => (fS S k0 k1 k2 k f w).map fun q => (w, q)
theorem nx_eq {S : List Sx} (hn : S.length ≤ 12) (hS : ∀ s ∈ S, SOk s) {k0 k1 k2 : Int} (hk : Kq k0 k1 k2) {k : Nat} (hk2 : k + 2 ≤ S.length) {f : List Int} (hf : f.length = k) (hw : wOk f) : nxL S k0 k1 k2 k f = nxP S k0 k1 k2 k f := by
  have g := mk3_ge k0 k1 k2
  have q1 := hk.a
  have q2 := hk.b
  have q3 := hk.c
  refine first_eq (fS S k0 k1 k2 k f) (lo := 1) (hi := mk3 k0 k1 k2 + 1) (sortI_rises _) ?_ (fun t => ?_) ?_ (fun m hm => ca_rg hk hw ((sortI_perm _).mem_iff.mp hm)) (fun t h1 h2 n h => ?_)
  · unfold allW
    rw [List.pairwise_map]
    refine List.Pairwise.imp ?_ List.pairwise_lt_range
    intro a b hab
    omega
  · unfold allW
    rw [List.mem_map]
    constructor
    · rintro ⟨x, hx, rfl⟩
      have := List.mem_range.mp hx
      omega
    · rintro ⟨a, b⟩
      exact ⟨(t - 1).toNat, List.mem_range.mpr (by omega), by omega⟩
  · exact (sortI_perm _).mem_iff.mpr (caL_mem.mpr (.inl rfl))
  · unfold fS at h ⊢
    have hs : safeB (pln (S.take (k + 2)) (f ++ [t])) k0 k1 k2 = true := by
      refine Classical.byContradiction fun c => ?_
      rw [if_neg c] at h
      exact h rfl
    rw [if_pos (less (by rw [List.length_take]; omega) (by omega) (fun s hs => hS s (List.mem_of_mem_take hs)) hw (by omega) (by omega) q1.1 q2.1 q3.1 (fun z => n ((sortI_perm _).mem_iff.mpr z)) hs)]
    simp
def gD : Option Int → D
  | none => .none
  | some w => .int w
def ost (p : Int → Bool) (g : Option Int) (w : Int) : Option Int := if g = none ∧ p w = true then some w else g
theorem ost_some (p : Int → Bool) {g : Int} : ∀ M : List Int, M.foldl (ost p) (some g) = some g
  | [] => rfl
  | w :: M => by
    rw [List.foldl_cons]
    have e : ost p (some g) w = some g := by unfold ost; rw [if_neg (by simp)]
    rw [e, ost_some p M]
theorem ost_fold (p : Int → Bool) : ∀ M : List Int, M.foldl (ost p) none = (M.findSome? (fun w => ((if p w = true then some () else none) : Option Unit).map fun q => (w, q))).map (·.1)
  | [] => rfl
  | w :: M => by
    rw [List.foldl_cons, List.findSome?_cons]
    by_cases h : p w = true
    · have e : ost p none w = some w := by unfold ost; rw [if_pos ⟨rfl, h⟩]
      rw [e, ost_some, if_pos h]
      rfl
    · have e : ost p none w = none := by unfold ost; rw [if_neg fun z => h z.2]
      rw [e, if_neg h, ost_fold p M]
      rfl
theorem last_bt {P : Pt} (h : P ≠ []) : (bnd (ixM (pe P) (.int (-1))) fun x => ixM x (.int 0)) = DI.ret (.int (bt P (P.length - 1))) := by
  have hl : 0 < P.length := List.length_pos_iff.mpr h
  have e : ixM (pe P) (.int (-1)) = DI.ret (row (P.getLast h)) := by
    show ixM (.tuple (P.map row)) _ = _
    rw [ix_t, atI_last _ (by simpa using h), opt_some, List.getLast_map]
  rw [e]
  show DI.ret (PyData.int (P.getLast h).1) = _
  rw [List.getLast_eq_getElem]
  unfold bt
  rw [List.getD, List.getElem?_eq_getElem (show P.length - 1 < P.length by omega)]
  rfl
section
variable {S : List Sx} (hn : S.length ≤ 12) (hS : ∀ s ∈ S, SOk s) {k0 k1 k2 : Int} (hk : Kq k0 k1 k2)
include hn hS hk
theorem inner_L {k : Nat} (hk2 : k + 2 ≤ S.length) {f : List Int} (hf : f.length = k) (hw : wOk f) (o p0 : Option SV) : ∃ o' p', loopM f_law_waits_2 ((allW k0 k1 k2).map PyData.int) [some (.sh (se S)), some (.sh (kt [k0, k1, k2])), some (.ow (.list (f.map PyData.int))), some (.sh (.int (1 + (k : Int)))), some (.sh .none), o, p0] =
    DI.ret (.nx, [some (.sh (se S)), some (.sh (kt [k0, k1, k2])), some (.ow (.list (f.map PyData.int))), some (.sh (.int (1 + (k : Int)))), some (.sh (gD ((nxL S k0 k1 k2 k f).map (·.1)))), o', p']) := by
  let p : Int → Bool := fun w => safeB (pln (S.take (k + 2)) (f ++ [w])) k0 k1 k2
  have g := mk3_ge k0 k1 k2
  have q1 := hk.a
  have q2 := hk.b
  have q3 := hk.c
  obtain ⟨ρ', ⟨o', p', rfl⟩, e⟩ := loop_all (f := f_law_waits_2) (mk := PyData.int) (step := ost p) (Rl := fun G ρ => ∃ o p0, ρ = [some (.sh (se S)), some (.sh (kt [k0, k1, k2])), some (.ow (.list (f.map PyData.int))), some (.sh (.int (1 + (k : Int)))), some (.sh (gD G)), o, p0]) (allW k0 k1 k2) none (fun a b w ρ e hr => by
    obtain ⟨o, p0, rfl⟩ := hr
    generalize a.foldl (ost p) none = G
    have rg : 1 ≤ w ∧ w ≤ mk3 k0 k1 k2 + 1 := by
      have hm : w ∈ allW k0 k1 k2 := by rw [e]; simp
      unfold allW at hm
      obtain ⟨x, hx, rfl⟩ := List.mem_map.mp hm
      have := List.mem_range.mp hx
      omega
    have hlen : (S.take (k + 2)).length = (f ++ [w]).length + 1 := by rw [List.length_take, List.length_append]; simp; omega
    have hlw : (f ++ [w]).length = k + 1 := by rw [List.length_append, hf]; rfl
    have ww : wOk (f ++ [w]) := wOk_app hw rg.1 (by omega)
    have ok := take_ok hn hS hk hk2 hf hw rg.1 (by omega)
    have ln := pln_len hlen
    have ep : ((1 : Int) + (k : Int)) + 1 = ((k + 2 : Nat) : Int) := by omega
    have ecat : binM .Add (.list (f.map PyData.int)) (.list [.int w]) = DI.ret (.list ((f ++ [w]).map PyData.int)) := by
      rw [cat_l (by rw [List.length_map]; simp; omega), List.map_append]
      rfl
    rw [f_law_waits_2_eq, add_ii, ecat]
    simp only [bnd_ret_l, int_i]
    rw [ep, se_take hn hS hk]
    simp only [bnd_ret_l]
    have z2 : decide (([se (S.take (k + 2)), PyData.list ((f ++ [w]).map PyData.int)] : List D).length = 2) = true := rfl
    rw [z2, grd_t, l_lplan hlen (by omega)]
    simp only [pure_r, bnd_ret_l, neg_i]
    have bl : bt (pln (S.take (k + 2)) (f ++ [w])) ((pln (S.take (k + 2)) (f ++ [w])).length - 1) = (f ++ [w]).sum := by
      rw [ln, pln_bt hlen (by omega), Nat.add_sub_cancel, List.take_length]
    have srg := sum_rng ww (f ++ [w]).length (Nat.le_refl _)
    rw [List.take_length] at srg
    rw [last_bt (List.length_pos_iff.mp (by omega)), bl, l_max]
    simp only [bnd_ret_l, add_ii]
    have z3 : ∀ x : D, decide (([pe (pln (S.take (k + 2)) (f ++ [w])), kt [k0, k1, k2], x] : List D).length = 3) = true := fun _ => rfl
    rw [z3, grd_t]
    obtain ⟨n, hnn⟩ : ∃ n : Nat, (f ++ [w]).sum + mk3 k0 k1 k2 + 1 = (n : Int) := ⟨((f ++ [w]).sum + mk3 k0 k1 k2 + 1).toNat, by omega⟩
    have hbn : ∀ i, i < (pln (S.take (k + 2)) (f ++ [w])).length → bt (pln (S.take (k + 2)) (f ++ [w])) i ≤ n ∧ bt (pln (S.take (k + 2)) (f ++ [w])) i + k0 ≤ n ∧ bt (pln (S.take (k + 2)) (f ++ [w])) i + k1 ≤ n ∧ bt (pln (S.take (k + 2)) (f ++ [w])) i + k2 ≤ n := fun i hi => by
      have z := bt_le ok.up (i := i) (j := (pln (S.take (k + 2)) (f ++ [w])).length - 1) (by omega) (by omega)
      rw [bl] at z
      omega
    rw [hnn, l_lbreak ok.ok k0 k1 k2 n (by omega), law_first ok q1.1 q2.1 q3.1 n hbn]
    simp only [pure_r, bnd_ret_l]
    have eI : cmpM .Is ((((sortI (moL (pln (S.take (k + 2)) (f ++ [w])) [k0, k1, k2])).findSome? fun t => (tr (pln (S.take (k + 2)) (f ++ [w])) k0 k1 k2 t).map fun q => (t, q)).map fun q => PyData.tuple [.int q.1, .int (bt (pln (S.take (k + 2)) (f ++ [w])) q.2.1), .int (bt (pln (S.take (k + 2)) (f ++ [w])) q.2.2.1), .int (bt (pln (S.take (k + 2)) (f ++ [w])) q.2.2.2)]).getD .none) .none = DI.ret (p w) := by
      show _ = DI.ret (safeB _ _ _ _)
      rw [safe_none]
      cases (sortI (moL (pln (S.take (k + 2)) (f ++ [w])) [k0, k1, k2])).findSome? fun t => (tr (pln (S.take (k + 2)) (f ++ [w])) k0 k1 k2 t).map fun q => (t, q) <;> rfl
    rw [eI]
    have eg : cmpM .Is (gD G) .none = DI.ret (decide (G = none)) := by cases G <;> rfl
    rw [eg, bnd_ret_l]
    have et : (if decide (G = none) = true then DI.ret (p w) else DI.ret false) = DI.ret (decide (G = none ∧ p w = true)) := by
      by_cases c : G = none
      · rw [if_pos (decide_eq_true c)]
        cases p w <;> simp [c]
      · rw [if_neg (by simpa using c), decide_eq_false (fun z => c z.1)]
    rw [et, bnd_ret_l]
    refine ⟨[some (.sh (se S)), some (.sh (kt [k0, k1, k2])), some (.ow (.list (f.map PyData.int))), some (.sh (.int (1 + (k : Int)))), some (.sh (gD (ost p G w))), some (.sh (.int w)), some (.sh (pe (pln (S.take (k + 2)) (f ++ [w]))))], ⟨_, _, rfl⟩, ?_⟩
    unfold ost
    by_cases c : G = none ∧ p w = true
    · rw [if_pos (decide_eq_true c), if_pos c]
      rfl
    · rw [if_neg (by rw [decide_eq_false c]; simp), if_neg c]) (ρ := [some (.sh (se S)), some (.sh (kt [k0, k1, k2])), some (.ow (.list (f.map PyData.int))), some (.sh (.int (1 + (k : Int)))), some (.sh .none), o, p0]) ⟨o, p0, rfl⟩
  refine ⟨o', p', e.trans ?_⟩
  rw [ost_fold]
  rfl
theorem outer_L : ∀ (r k : Nat) (f : List Int), k + r + 1 = S.length → f.length = k → wOk f → ∀ o1 o2 o3 o4, ∃ f2 o1' o2' o3' o4', loopM f_law_waits_1 ((List.range' k r).map fun k : Nat => PyData.int (1 + (k : Int))) [some (.sh (se S)), some (.sh (kt [k0, k1, k2])), some (.ow (.list (f.map PyData.int))), o1, o2, o3, o4] =
    (match go (nxP S k0 k1 k2) (List.range' k r) f with
      | some f' => DI.ret (.nx, [some (.sh (se S)), some (.sh (kt [k0, k1, k2])), some (.ow (.list (f'.map PyData.int))), o1', o2', o3', o4'])
      | none => DI.ret (.rt (.tuple [.str "missing"]), [some (.sh (se S)), some (.sh (kt [k0, k1, k2])), some (.ow (.list f2)), o1', o2', o3', o4']))
  | 0, k, f, _, _, _, o1, o2, o3, o4 => ⟨[], o1, o2, o3, o4, rfl⟩
  | r + 1, k, f, hr, hf, hw, o1, o2, o3, o4 => by
    have g := mk3_ge k0 k1 k2
    have q1 := hk.a
    have q2 := hk.b
    have q3 := hk.c
    obtain ⟨o', p', e⟩ := inner_L hn hS hk (k := k) (by omega) hf hw o3 o4
    rw [nx_eq hn hS hk (by omega) hf hw] at e
    rw [List.range'_succ, List.map_cons]
    have er : rangeD 1 (mk3 k0 k1 k2 + 2) = (allW k0 k1 k2).map PyData.int := by
      unfold rangeD allW
      have : (mk3 k0 k1 k2 + 2 - 1).toNat = (mk3 k0 k1 k2 + 1).toNat := by omega
      rw [this, List.map_map]
      rfl
    have hg : rgOk 1 (mk3 k0 k1 k2 + 2) = true := decide_eq_true (by omega)
    have e1 : f_law_waits_1 (.int (1 + (k : Int))) [some (.sh (se S)), some (.sh (kt [k0, k1, k2])), some (.ow (.list (f.map PyData.int))), o1, o2, o3, o4] = endK k_law_waits_2 (Fl.nx, [some (.sh (se S)), some (.sh (kt [k0, k1, k2])), some (.ow (.list (f.map PyData.int))), some (.sh (.int (1 + (k : Int)))), some (.sh (gD ((nxP S k0 k1 k2 k f).map (·.1)))), o', p']) := by
      rw [f_law_waits_1_eq, l_max, bnd_ret_l, add_ii, bnd_ret_l, int_i, bnd_ret_l, hg, grd_t, bnd_ret_l, er, e, bnd_ret_l]
    rw [k_law_waits_2_eq] at e1
    cases en : nxP S k0 k1 k2 k f with
    | none =>
      have e2 : f_law_waits_1 (.int (1 + (k : Int))) [some (.sh (se S)), some (.sh (kt [k0, k1, k2])), some (.ow (.list (f.map PyData.int))), o1, o2, o3, o4] = DI.ret (.rt (.tuple [.str "missing"]), [some (.sh (se S)), some (.sh (kt [k0, k1, k2])), some (.ow (.list (f.map PyData.int))), some (.sh (.int (1 + (k : Int)))), some (.sh .none), o', p']) := by
        rw [e1, en]
        rfl
      have eg : go (nxP S k0 k1 k2) (k :: List.range' (k + 1) r) f = none := by
        show (match nxP S k0 k1 k2 k f with | some (w, _) => _ | none => none) = none
        rw [en]
      refine ⟨f.map PyData.int, some (.sh (.int (1 + (k : Int)))), some (.sh .none), o', p', ?_⟩
      rw [eg]
      exact loopM_rt e2
    | some x =>
      obtain ⟨w, u⟩ := x
      have rg := nx_rg hk hw en
      have e2 : f_law_waits_1 (.int (1 + (k : Int))) [some (.sh (se S)), some (.sh (kt [k0, k1, k2])), some (.ow (.list (f.map PyData.int))), o1, o2, o3, o4] = DI.ret (.nx, [some (.sh (se S)), some (.sh (kt [k0, k1, k2])), some (.ow (.list ((f ++ [w]).map PyData.int))), some (.sh (.int (1 + (k : Int)))), some (.sh (.int w)), o', p']) := by
        rw [e1, en]
        show bnd (DI.ret false) _ = _
        rw [bnd_ret_l, if_neg (by simp), grd_fits (by rw [List.length_map]; omega), List.map_append]
        rfl
      have eg : go (nxP S k0 k1 k2) (k :: List.range' (k + 1) r) f = go (nxP S k0 k1 k2) (List.range' (k + 1) r) (f ++ [w]) := by
        show (match nxP S k0 k1 k2 k f with | some (w, _) => go (nxP S k0 k1 k2) (List.range' (k + 1) r) (f ++ [w]) | none => none) = _
        rw [en]
      obtain ⟨f2, p1, p2, p3, p4, e3⟩ := outer_L r (k + 1) (f ++ [w]) (by omega) (by rw [List.length_append, hf]; rfl) (wOk_app hw rg.1 rg.2) (some (.sh (.int (1 + (k : Int))))) (some (.sh (.int w))) o' p'
      refine ⟨f2, p1, p2, p3, p4, ?_⟩
      rw [eg]
      exact (loopM_nx e2).trans e3
theorem l_lwaits (h1 : 1 ≤ S.length) : m_law_waits [se S, kt [k0, k1, k2]] = DI.ret (match go (nxP S k0 k1 k2) (List.range' 0 (S.length - 1)) [] with
      | some f' => .tuple [.str "told", .tuple (f'.map PyData.int)]
      | none => .tuple [.str "missing"]) := by
  obtain ⟨f2, o1, o2, o3, o4, e⟩ := outer_L hn hS hk (S.length - 1) 0 [] (by omega) rfl (fun _ z => by cases z) none none none none
  have er : rangeD 1 (S.length : Int) = (List.range' 0 (S.length - 1)).map fun k : Nat => PyData.int (1 + (k : Int)) := by
    unfold rangeD
    have : ((S.length : Int) - 1).toNat = S.length - 1 := by omega
    rw [this, List.range_eq_range']
  have hg : rgOk 1 (S.length : Int) = true := decide_eq_true (by omega)
  rw [m_law_waits_eq, len_se, bnd_ret_l, int_i, bnd_ret_l, hg, grd_t, bnd_ret_l, er]
  have e : loopM f_law_waits_1 ((List.range' 0 (S.length - 1)).map fun k : Nat => PyData.int (1 + (k : Int))) [some (.sh (se S)), some (.sh (kt [k0, k1, k2])), some (.ow (.list [])), none, none, none, none] = _ := e
  rw [e]
  cases go (nxP S k0 k1 k2) (List.range' 0 (S.length - 1)) [] with
  | none => rfl
  | some f' =>
    show bnd (DI.ret _) _ = _
    rw [bnd_ret_l, k_law_waits_1_eq, tuple_l]
    simp only [bnd_ret_l]
    rw [grd_fits (by simp), bnd_ret_l]
end
end K32
end
section
set_option Elab.async false
set_option linter.all false
set_option autoImplicit false
set_option maxRecDepth 100000
set_option maxHeartbeats 0
/-! K32k: the law as plain operations: written by gen3.py -/
namespace K32
open PySem DI
def f_law_1 : D → DI.Env → M (Fl × DI.Env) := turnF 96 C_law (d0_law.body.getD 2 (.Pass ⟨0, 0, 0, 0⟩))
def k_law_1 := seqK 97 C_law (d0_law.body.drop 3) outK
def j_law_4 := seqK 93 C_law ((forBody (d0_law.body.getD 2 (.Pass ⟨0, 0, 0, 0⟩))).drop 3) retF
def c_law_2 : DI.Env → D → M (Option D) := cF 87 C_law (sb 0 (asgVal ((forBody (d0_law.body.getD 2 (.Pass ⟨0, 0, 0, 0⟩))).getD 0 (.Pass ⟨0, 0, 0, 0⟩))))
def c_law_3 : DI.Env → D → M (Option D) := cF 86 C_law (sb 0 (asgVal ((forBody (d0_law.body.getD 2 (.Pass ⟨0, 0, 0, 0⟩))).getD 1 (.Pass ⟨0, 0, 0, 0⟩))))
def j_law_6 := seqK 89 C_law ((forBody (d0_law.body.getD 2 (.Pass ⟨0, 0, 0, 0⟩))).drop 7) retF
def c_law_5 : DI.Env → D → M (Option D) := cF 88 C_law (asgVal ((forBody (d0_law.body.getD 2 (.Pass ⟨0, 0, 0, 0⟩))).getD 5 (.Pass ⟨0, 0, 0, 0⟩)))
def c_law_7 : DI.Env → D → M (Option D) := cF 85 C_law (asgVal ((ifA ((forBody (d0_law.body.getD 2 (.Pass ⟨0, 0, 0, 0⟩))).getD 6 (.Pass ⟨0, 0, 0, 0⟩))).getD 0 (.Pass ⟨0, 0, 0, 0⟩)))
def j_law_8 := seqK 84 C_law ((forBody (d0_law.body.getD 2 (.Pass ⟨0, 0, 0, 0⟩))).drop 12) retF
def c_law_9 : DI.Env → D → M (Option D) := cF 74 C_law (sb 0 (asgVal ((forBody (d0_law.body.getD 2 (.Pass ⟨0, 0, 0, 0⟩))).getD 13 (.Pass ⟨0, 0, 0, 0⟩))))
def c_law_10 : DI.Env → D → M (Option D) := cF 57 C_law (sb 0 (sb 1 (sb 0 (sb 0 (sb 2 (asgVal ((forBody (d0_law.body.getD 2 (.Pass ⟨0, 0, 0, 0⟩))).getD 16 (.Pass ⟨0, 0, 0, 0⟩))))))))
def c_law_11 : DI.Env → D → M (Option D) := cF 67 (inC C_law (sb 0 (asgVal ((forBody (d0_law.body.getD 2 (.Pass ⟨0, 0, 0, 0⟩))).getD 13 (.Pass ⟨0, 0, 0, 0⟩))))) (sb 0 (sb 0 (sb 0 (asgVal ((forBody (d0_law.body.getD 2 (.Pass ⟨0, 0, 0, 0⟩))).getD 13 (.Pass ⟨0, 0, 0, 0⟩))))))
theorem f_law_1_eq (v_script : D) (o_turn : Option SV) (o_keeps : Option SV) (o_states : Option SV) (o_waits : Option SV) (o_own : Option SV) (o_plan : Option SV) (o_until : Option SV) (o_broken : Option SV) (o_first : Option SV) (o_time : Option SV) (o_held : Option SV) (o_told : Option SV) (o_old : Option SV) (o_new : Option SV) (o_due : Option SV) (turn5 : D) : f_law_1 turn5 [some (.sh v_script), some .stt, o_turn, o_keeps, o_states, o_waits, o_own, o_plan, o_until, o_broken, o_first, o_time, o_held, o_told, o_old, o_new, o_due, none, none, none, none, none, none] = bnd (bnd (bnd (guardM (fits (rangeD 0 3).length) (bnd (compM (c_law_2 [some (.sh v_script), some .stt, some (.sh turn5), o_keeps, o_states, o_waits, o_own, o_plan, o_until, o_broken, o_first, o_time, o_held, o_told, o_old, o_new, o_due, none, none, none, none, none, none]) (rangeD 0 3)) fun ds => DI.ret (.list ds))) fun x6 => DI.ret [x6]) fun x7 => biM .tuple x7) fun keeps_8 => bnd (bnd (bnd (bnd (bnd (bnd (DI.m_law_next [.int 4]) fun x9 => binM .Add (.int 1) x9) fun x10 => bnd (intM x10) fun j11 => guardM (rgOk 0 j11) (DI.ret (rangeD 0 j11))) fun xs12 => guardM (fits xs12.length) (bnd (compM (c_law_3 [some (.sh v_script), some .stt, some (.sh turn5), some (.sh keeps_8), o_states, o_waits, o_own, o_plan, o_until, o_broken, o_first, o_time, o_held, o_told, o_old, o_new, o_due, none, none, none, none, none, none]) xs12) fun ds => DI.ret (.list ds))) fun x13 => DI.ret [x13]) fun x14 => biM .tuple x14) fun states_15 => bnd (bnd (DI.m_law_next [.int 2]) fun x16 => cmpM .Eq x16 (.int 0)) fun c17 => if c17 = true then bnd (bnd (DI.m_law_next [.int 5]) fun x18 => binM .Add (.int 1) x18) fun old_19 => bnd (bnd (DI.m_law_next [.int 5]) fun x20 => binM .Add (.int 6) x20) fun new_21 => bnd (purely (m_ahead_plan [old_19, new_21])) fun states_22 => bnd (bnd (cmpM .NotEq states_22 (.tuple [.tuple [.tuple [old_19], .tuple [old_19], .tuple [old_19], .tuple [old_19]], .tuple [.tuple [old_19], .tuple [old_19, new_21], .tuple [old_19], .tuple [old_19]], .tuple [.tuple [old_19, new_21], .tuple [old_19, new_21], .tuple [old_19, new_21], .tuple [new_21]], .tuple [.tuple [new_21], .tuple [old_19, new_21], .tuple [new_21], .tuple [new_21]], .tuple [.tuple [new_21], .tuple [new_21], .tuple [new_21], .tuple [new_21]]])) fun b23 => if b23 = true then DI.ret true else bnd (bnd (purely (m_ahead_plan [new_21, old_19])) fun x24 => ixM x24 (.int 1)) fun x25 => cmpM .NotEq x25 (.tuple [.tuple [new_21], .tuple [old_19, new_21], .tuple [new_21], .tuple [new_21]])) fun c26 => if c26 = true then DI.ret (Fl.rt (.bool false), [some (.sh v_script), some .stt, some (.sh turn5), some (.sh keeps_8), some (.sh states_22), o_waits, o_own, o_plan, o_until, o_broken, o_first, o_time, o_held, o_told, some (.sh old_19), some (.sh new_21), some (.sh (.tuple [.tuple [.tuple [old_19], .tuple [old_19], .tuple [old_19], .tuple [old_19]], .tuple [.tuple [old_19], .tuple [old_19, new_21], .tuple [old_19], .tuple [old_19]], .tuple [.tuple [old_19, new_21], .tuple [old_19, new_21], .tuple [old_19, new_21], .tuple [new_21]], .tuple [.tuple [new_21], .tuple [old_19, new_21], .tuple [new_21], .tuple [new_21]], .tuple [.tuple [new_21], .tuple [new_21], .tuple [new_21], .tuple [new_21]]])), none, none, none, none, none, none]) else j_law_4 Fl.nx [some (.sh v_script), some .stt, some (.sh turn5), some (.sh keeps_8), some (.sh states_22), o_waits, o_own, o_plan, o_until, o_broken, o_first, o_time, o_held, o_told, some (.sh old_19), some (.sh new_21), some (.sh (.tuple [.tuple [.tuple [old_19], .tuple [old_19], .tuple [old_19], .tuple [old_19]], .tuple [.tuple [old_19], .tuple [old_19, new_21], .tuple [old_19], .tuple [old_19]], .tuple [.tuple [old_19, new_21], .tuple [old_19, new_21], .tuple [old_19, new_21], .tuple [new_21]], .tuple [.tuple [new_21], .tuple [old_19, new_21], .tuple [new_21], .tuple [new_21]], .tuple [.tuple [new_21], .tuple [new_21], .tuple [new_21], .tuple [new_21]]])), none, none, none, none, none, none] else j_law_4 Fl.nx [some (.sh v_script), some .stt, some (.sh turn5), some (.sh keeps_8), some (.sh states_15), o_waits, o_own, o_plan, o_until, o_broken, o_first, o_time, o_held, o_told, o_old, o_new, o_due, none, none, none, none, none, none] := by
  unfold f_law_1
  rw [turnF_eq]
  kernel_rfl
theorem k_law_1_eq (v_script : D) (o_turn : Option SV) (o_keeps : Option SV) (o_states : Option SV) (o_waits : Option SV) (o_own : Option SV) (o_plan : Option SV) (o_until : Option SV) (o_broken : Option SV) (o_first : Option SV) (o_time : Option SV) (o_held : Option SV) (o_told : Option SV) (o_old : Option SV) (o_new : Option SV) (o_due : Option SV) : endK k_law_1 (Fl.nx, [some (.sh v_script), some .stt, o_turn, o_keeps, o_states, o_waits, o_own, o_plan, o_until, o_broken, o_first, o_time, o_held, o_told, o_old, o_new, o_due, none, none, none, none, none, none]) = DI.ret (.bool true) := by kernel_rfl
theorem c_law_2_eq (v_script : D) (v_turn : D) (o_keeps : Option SV) (o_states : Option SV) (o_waits : Option SV) (o_own : Option SV) (o_plan : Option SV) (o_until : Option SV) (o_broken : Option SV) (o_first : Option SV) (o_time : Option SV) (o_held : Option SV) (o_told : Option SV) (o_old : Option SV) (o_new : Option SV) (o_due : Option SV) (k27 : D) : c_law_2 [some (.sh v_script), some .stt, some (.sh v_turn), o_keeps, o_states, o_waits, o_own, o_plan, o_until, o_broken, o_first, o_time, o_held, o_told, o_old, o_new, o_due, none, none, none, none, none, none] k27 = noErrM (bnd (DI.m_law_next [.int 8]) fun y28 => DI.ret (some y28)) := by kernel_rfl
theorem c_law_3_eq (v_script : D) (v_turn : D) (v_keeps : D) (o_states : Option SV) (o_waits : Option SV) (o_own : Option SV) (o_plan : Option SV) (o_until : Option SV) (o_broken : Option SV) (o_first : Option SV) (o_time : Option SV) (o_held : Option SV) (o_told : Option SV) (o_old : Option SV) (o_new : Option SV) (o_due : Option SV) (k29 : D) : c_law_3 [some (.sh v_script), some .stt, some (.sh v_turn), some (.sh v_keeps), o_states, o_waits, o_own, o_plan, o_until, o_broken, o_first, o_time, o_held, o_told, o_old, o_new, o_due, none, none, none, none, none, none] k29 = noErrM (bnd (m_law_state []) fun y30 => DI.ret (some y30)) := by kernel_rfl
theorem j_law_4_eq (v_script : D) (v_turn : D) (v_keeps : D) (v_states : D) (o_waits : Option SV) (o_own : Option SV) (o_plan : Option SV) (o_until : Option SV) (o_broken : Option SV) (o_first : Option SV) (o_time : Option SV) (o_held : Option SV) (o_told : Option SV) (o_old : Option SV) (o_new : Option SV) (o_due : Option SV) : j_law_4 Fl.nx [some (.sh v_script), some .stt, some (.sh v_turn), some (.sh v_keeps), some (.sh v_states), o_waits, o_own, o_plan, o_until, o_broken, o_first, o_time, o_held, o_told, o_old, o_new, o_due, none, none, none, none, none, none] = bnd (purely (m_law_waits [v_states, v_keeps])) fun waits_31 => bnd (bnd (bnd (bnd (bnd (toldM (purely (m_least_waits [v_states, v_keeps]))) fun x32 => DI.ret [x32, waits_31]) fun x33 => guardM (decide (x33.length = 2)) (purely (DI.m_law_same x33))) fun x34 => truthM x34) fun b35 => DI.ret (!b35)) fun c36 => if c36 = true then DI.ret (Fl.rt (.bool false), [some (.sh v_script), some .stt, some (.sh v_turn), some (.sh v_keeps), some (.sh v_states), some (.sh waits_31), o_own, o_plan, o_until, o_broken, o_first, o_time, o_held, o_told, o_old, o_new, o_due, none, none, none, none, none, none]) else bnd (bnd (bnd (bnd (biM .len [v_states]) fun x37 => binM .Sub x37 (.int 1)) fun x38 => bnd (intM x38) fun j39 => guardM (rgOk 0 j39) (DI.ret (rangeD 0 j39))) fun xs40 => guardM (fits xs40.length) (bnd (compM (c_law_5 [some (.sh v_script), some .stt, some (.sh v_turn), some (.sh v_keeps), some (.sh v_states), some (.sh waits_31), o_own, o_plan, o_until, o_broken, o_first, o_time, o_held, o_told, o_old, o_new, o_due, none, none, none, none, none, none]) xs40) fun ds => DI.ret (.list ds))) fun own_41 => bnd (bnd (bnd (ixM waits_31 (.int 0)) fun x42 => cmpM .Eq x42 (.str "told")) fun b43 => if b43 = true then bnd (DI.m_law_next [.int 2]) fun x44 => cmpM .Eq x44 (.int 0) else DI.ret false) fun c45 => if c45 = true then bnd (bnd (bnd (ixM waits_31 (.int 1)) fun x46 => optM (seqOf x46)) fun xs47 => guardM (fits xs47.length) (bnd (compM (c_law_7 [some (.sh v_script), some .stt, some (.sh v_turn), some (.sh v_keeps), some (.sh v_states), some (.sh waits_31), some (.ow own_41), o_plan, o_until, o_broken, o_first, o_time, o_held, o_told, o_old, o_new, o_due, none, none, none, none, none, none]) xs47) fun ds => DI.ret (.list ds))) fun own_48 => j_law_6 Fl.nx [some (.sh v_script), some .stt, some (.sh v_turn), some (.sh v_keeps), some (.sh v_states), some (.sh waits_31), some (.ow own_48), o_plan, o_until, o_broken, o_first, o_time, o_held, o_told, o_old, o_new, o_due, none, none, none, none, none, none] else j_law_6 Fl.nx [some (.sh v_script), some .stt, some (.sh v_turn), some (.sh v_keeps), some (.sh v_states), some (.sh waits_31), some (.ow own_41), o_plan, o_until, o_broken, o_first, o_time, o_held, o_told, o_old, o_new, o_due, none, none, none, none, none, none] := by kernel_rfl
theorem c_law_5_eq (v_script : D) (v_turn : D) (v_keeps : D) (v_states : D) (v_waits : D) (o_own : Option SV) (o_plan : Option SV) (o_until : Option SV) (o_broken : Option SV) (o_first : Option SV) (o_time : Option SV) (o_held : Option SV) (o_told : Option SV) (o_old : Option SV) (o_new : Option SV) (o_due : Option SV) (k49 : D) : c_law_5 [some (.sh v_script), some .stt, some (.sh v_turn), some (.sh v_keeps), some (.sh v_states), some (.sh v_waits), o_own, o_plan, o_until, o_broken, o_first, o_time, o_held, o_told, o_old, o_new, o_due, none, none, none, none, none, none] k49 = noErrM (bnd (bnd (DI.m_law_next [.int 10]) fun x50 => binM .Add (.int 1) x50) fun y51 => DI.ret (some y51)) := by kernel_rfl
theorem c_law_7_eq (v_script : D) (v_turn : D) (v_keeps : D) (v_states : D) (v_waits : D) (v_own : D) (o_plan : Option SV) (o_until : Option SV) (o_broken : Option SV) (o_first : Option SV) (o_time : Option SV) (o_held : Option SV) (o_told : Option SV) (o_old : Option SV) (o_new : Option SV) (o_due : Option SV) (wait52 : D) : c_law_7 [some (.sh v_script), some .stt, some (.sh v_turn), some (.sh v_keeps), some (.sh v_states), some (.sh v_waits), some (.ow v_own), o_plan, o_until, o_broken, o_first, o_time, o_held, o_told, o_old, o_new, o_due, none, none, none, none, none, none] wait52 = noErrM (bnd (bnd (bnd (bnd (bnd (bnd (DI.m_law_next [.int 3]) fun x53 => binM .Add wait52 x53) fun x54 => binM .Sub x54 (.int 1)) fun x55 => DI.ret [x55]) fun ds56 => DI.ret ((.int 1) :: ds56)) fun x57 => biM .max x57) fun y58 => DI.ret (some y58)) := by kernel_rfl
theorem j_law_8_eq (v_script : D) (v_turn : D) (v_keeps : D) (v_states : D) (v_waits : D) (v_own : D) (v_plan : D) (v_until : D) (v_broken : D) (v_first : D) (o_time : Option SV) (o_held : Option SV) (o_told : Option SV) (o_old : Option SV) (o_new : Option SV) (o_due : Option SV) : j_law_8 Fl.nx [some (.sh v_script), some .stt, some (.sh v_turn), some (.sh v_keeps), some (.sh v_states), some (.sh v_waits), some (.sh v_own), some (.sh v_plan), some (.sh v_until), some (.sh v_broken), some (.sh v_first), o_time, o_held, o_told, o_old, o_new, o_due, none, none, none, none, none, none] = bnd (bnd (bnd (binM .Add v_until (.int 1)) fun x68 => DI.ret [x68]) fun x69 => guardM (decide (x69.length = 1)) (DI.m_law_next x69)) fun time_70 => bnd (bnd (bnd (bnd (optM (seqOf v_keeps)) fun xs71 => guardM (fits xs71.length) (bnd (compM (c_law_9 [some (.sh v_script), some .stt, some (.sh v_turn), some (.sh v_keeps), some (.sh v_states), some (.sh v_waits), some (.sh v_own), some (.sh v_plan), some (.sh v_until), some (.sh v_broken), some (.sh v_first), some (.sh time_70), o_held, o_told, o_old, o_new, o_due, none, none, none, none, none, none]) xs71) fun ds => DI.ret (.list ds))) fun x72 => DI.ret [x72]) fun x73 => biM .tuple x73) fun held_74 => bnd (bnd (bnd (toldM (bnd (bnd (bnd (biM .tuple [v_own]) fun x75 => DI.ret [x75]) fun ds76 => DI.ret (v_states :: ds76)) fun x77 => guardM (decide (x77.length = 2)) (purely (m_with_waits x77)))) fun x78 => bnd (bnd (toldM (purely (m_is_safe [v_plan, v_keeps]))) fun x79 => bnd (bnd (toldM (purely (m_first_break [v_plan, v_keeps]))) fun x80 => bnd (bnd (toldM (purely (m_may_hold [v_plan, v_keeps, time_70]))) fun x81 => DI.ret [x81]) fun ds82 => DI.ret (x80 :: ds82)) fun ds83 => DI.ret (x79 :: ds83)) fun ds84 => DI.ret (x78 :: ds84)) fun ds85 => guardM (fits ds85.length) (DI.ret (.list ds85))) fun told_86 => bnd (bnd (bnd (bnd (bnd (bnd (bnd (bnd (bnd (bnd (bnd (bnd (bnd (cmpM .Is v_broken .none) fun c87 => DI.ret (.bool c87)) fun x88 => DI.ret [x88]) fun ds89 => DI.ret ((.str "told") :: ds89)) fun ds90 => guardM (fits ds90.length) (DI.ret (.tuple ds90))) fun x91 => DI.ret ([x91, v_first, .tuple [.str "told", held_74]])) fun ds92 => DI.ret ((.tuple [.str "told", v_plan]) :: ds92)) fun ds93 => guardM (fits ds93.length) (DI.ret (.list ds93))) fun x94 => DI.ret [x94]) fun ds95 => DI.ret (told_86 :: ds95)) fun x96 => guardM (decide (x96.length = 2)) (purely (DI.m_law_same x96))) fun x97 => truthM x97) fun b98 => DI.ret (!b98)) fun c99 => if c99 = true then DI.ret (Fl.rt (.bool false), [some (.sh v_script), some .stt, some (.sh v_turn), some (.sh v_keeps), some (.sh v_states), some (.sh v_waits), some (.sh v_own), some (.sh v_plan), some (.sh v_until), some (.sh v_broken), some (.sh v_first), some (.sh time_70), some (.sh held_74), some (.sh told_86), o_old, o_new, o_due, none, none, none, none, none, none]) else bnd (bnd (bnd (ixM v_waits (.int 0)) fun x100 => cmpM .Eq x100 (.str "told")) fun b101 => if b101 = true then bnd (bnd (biM .len [v_states]) fun x102 => cmpM .Gt x102 (.int 1)) fun b103 => if b103 = true then bnd (bnd (bnd (bnd (bnd (bnd (bnd (bnd (bnd (bnd (bnd (ixM v_waits (.int 1)) fun x104 => optM (seqOf x104)) fun xs105 => guardM (fits xs105.length) (bnd (compM (c_law_10 [some (.sh v_script), some .stt, some (.sh v_turn), some (.sh v_keeps), some (.sh v_states), some (.sh v_waits), some (.sh v_own), some (.sh v_plan), some (.sh v_until), some (.sh v_broken), some (.sh v_first), some (.sh time_70), some (.sh held_74), some (.sh told_86), o_old, o_new, o_due, none, none, none, none, none, none]) xs105) fun ds => DI.ret (.list ds))) fun x106 => DI.ret [x106]) fun x107 => biM .tuple x107) fun x108 => DI.ret [x108]) fun ds109 => DI.ret (v_states :: ds109)) fun x110 => guardM (decide (x110.length = 2)) (purely (m_with_waits x110))) fun x111 => DI.ret [x111, v_keeps]) fun x112 => guardM (decide (x112.length = 2)) (purely (m_is_safe x112))) fun x113 => truthM x113) fun b114 => DI.ret (!b114) else DI.ret false else DI.ret false) fun c115 => if c115 = true then DI.ret (Fl.rt (.bool false), [some (.sh v_script), some .stt, some (.sh v_turn), some (.sh v_keeps), some (.sh v_states), some (.sh v_waits), some (.sh v_own), some (.sh v_plan), some (.sh v_until), some (.sh v_broken), some (.sh v_first), some (.sh time_70), some (.sh held_74), some (.sh told_86), o_old, o_new, o_due, none, none, none, none, none, none]) else DI.ret (Fl.nx, [some (.sh v_script), some .stt, some (.sh v_turn), some (.sh v_keeps), some (.sh v_states), some (.sh v_waits), some (.sh v_own), some (.sh v_plan), some (.sh v_until), some (.sh v_broken), some (.sh v_first), some (.sh time_70), some (.sh held_74), some (.sh told_86), o_old, o_new, o_due, none, none, none, none, none, none]) := by kernel_rfl
theorem c_law_9_eq (v_script : D) (v_turn : D) (v_keeps : D) (v_states : D) (v_waits : D) (v_own : D) (v_plan : D) (v_until : D) (v_broken : D) (v_first : D) (v_time : D) (o_held : Option SV) (o_told : Option SV) (o_old : Option SV) (o_new : Option SV) (o_due : Option SV) (keep116 : D) : c_law_9 [some (.sh v_script), some .stt, some (.sh v_turn), some (.sh v_keeps), some (.sh v_states), some (.sh v_waits), some (.sh v_own), some (.sh v_plan), some (.sh v_until), some (.sh v_broken), some (.sh v_first), some (.sh v_time), o_held, o_told, o_old, o_new, o_due, none, none, none, none, none, none] keep116 = noErrM (bnd (bnd (bnd (bnd (bnd (purely (m_law_held [v_plan, keep116, v_time])) fun x117 => optM (seqOf x117)) fun xs118 => guardM (fits xs118.length) (bnd (compM (c_law_11 [some (.sh v_script), some .stt, some (.sh v_turn), some (.sh v_keeps), some (.sh v_states), some (.sh v_waits), some (.sh v_own), some (.sh v_plan), some (.sh v_until), some (.sh v_broken), some (.sh v_first), some (.sh v_time), o_held, o_told, o_old, o_new, o_due, none, none, some (.sh keep116), none, none, none]) xs118) fun ds => DI.ret (.list ds))) fun x119 => DI.ret [x119]) fun x120 => biM .tuple x120) fun y121 => DI.ret (some y121)) := by kernel_rfl
theorem c_law_10_eq (v_script : D) (v_turn : D) (v_keeps : D) (v_states : D) (v_waits : D) (v_own : D) (v_plan : D) (v_until : D) (v_broken : D) (v_first : D) (v_time : D) (v_held : D) (v_told : D) (o_old : Option SV) (o_new : Option SV) (o_due : Option SV) (wait122 : D) : c_law_10 [some (.sh v_script), some .stt, some (.sh v_turn), some (.sh v_keeps), some (.sh v_states), some (.sh v_waits), some (.sh v_own), some (.sh v_plan), some (.sh v_until), some (.sh v_broken), some (.sh v_first), some (.sh v_time), some (.sh v_held), some (.sh v_told), o_old, o_new, o_due, none, none, none, none, none, none] wait122 = noErrM (bnd (bnd (DI.m_law_next [.int 4]) fun x123 => binM .Add wait122 x123) fun y124 => DI.ret (some y124)) := by kernel_rfl
theorem c_law_11_eq (v_script : D) (v_turn : D) (v_keeps : D) (v_states : D) (v_waits : D) (v_own : D) (v_plan : D) (v_until : D) (v_broken : D) (v_first : D) (v_time : D) (o_held : Option SV) (o_told : Option SV) (o_old : Option SV) (o_new : Option SV) (o_due : Option SV) (v_keep : D) (k125 : D) : c_law_11 [some (.sh v_script), some .stt, some (.sh v_turn), some (.sh v_keeps), some (.sh v_states), some (.sh v_waits), some (.sh v_own), some (.sh v_plan), some (.sh v_until), some (.sh v_broken), some (.sh v_first), some (.sh v_time), o_held, o_told, o_old, o_new, o_due, none, none, some (.sh v_keep), none, none, none] k125 = noErrM (bnd (bnd (ixM v_plan k125) fun x126 => ixM x126 (.int 0)) fun y127 => DI.ret (some y127)) := by kernel_rfl
theorem law_rest_eq (v_script : D) : kSs 99 C_law (d0_law.body.drop 1) [some (.sh v_script), some .stt, none, none, none, none, none, none, none, none, none, none, none, none, none, none, none, none, none, none, none, none, none] outK = bnd (bnd (cmpM .NotEq (.tuple [.int 12, .int 5000]) (.tuple [.int 12, .int 5000])) fun b1 => if b1 = true then DI.ret true else bnd (bnd (purely (m_law_refuses [])) fun x2 => truthM x2) fun b3 => DI.ret (!b3)) fun c4 => if c4 = true then DI.ret (.bool false) else bnd (loopM f_law_1 (rangeD 0 3) [some (.sh v_script), some .stt, none, none, none, none, none, none, none, none, none, none, none, none, none, none, none, none, none, none, none, none, none]) (endK k_law_1) := by kernel_rfl
end K32
end
section
set_option Elab.async false
set_option linter.all false
set_option autoImplicit false
set_option maxRecDepth 100000
set_option maxHeartbeats 0
namespace K32
open PySem DI
def oL : List Stmt := forBody (d0_law.body.getD 2 (.Pass ⟨0, 0, 0, 0⟩))
def sL (i : Nat) : Stmt := oL.getD i (.Pass ⟨0, 0, 0, 0⟩)
section
variable (v_script v_turn v_keeps v_states v_waits v_own v_plan v_until v_broken v_first : D) (o_plan o_until o_broken o_first o_time o_held o_told o_old o_new o_due : Option SV) (k : Fl → DI.Env → M (Fl × DI.Env))
theorem q7 : kS 88 C_law (sL 7) [some (.sh v_script), some .stt, some (.sh v_turn), some (.sh v_keeps), some (.sh v_states), some (.sh v_waits), some (.ow v_own), o_plan, o_until, o_broken, o_first, o_time, o_held, o_told, o_old, o_new, o_due, none, none, none, none, none, none] k = bnd (purely (m_law_plan [v_states, v_own])) fun v_plan => k .nx [some (.sh v_script), some .stt, some (.sh v_turn), some (.sh v_keeps), some (.sh v_states), some (.sh v_waits), some (.sh v_own), some (.sh v_plan), o_until, o_broken, o_first, o_time, o_held, o_told, o_old, o_new, o_due, none, none, none, none, none, none] := by kernel_rfl
theorem q8 : kS 87 C_law (sL 8) [some (.sh v_script), some .stt, some (.sh v_turn), some (.sh v_keeps), some (.sh v_states), some (.sh v_waits), some (.sh v_own), some (.sh v_plan), o_until, o_broken, o_first, o_time, o_held, o_told, o_old, o_new, o_due, none, none, none, none, none, none] k = bnd (bnd (bnd (bnd (bnd (unM .USub (.int 1)) fun x60 => ixM v_plan x60) fun x61 => ixM x61 (.int 0)) fun x62 => bnd (biM .max [v_keeps]) fun x63 => binM .Add x62 x63) fun x64 => binM .Add x64 (.int 2)) fun v_until => k .nx [some (.sh v_script), some .stt, some (.sh v_turn), some (.sh v_keeps), some (.sh v_states), some (.sh v_waits), some (.sh v_own), some (.sh v_plan), some (.sh v_until), o_broken, o_first, o_time, o_held, o_told, o_old, o_new, o_due, none, none, none, none, none, none] := by kernel_rfl
theorem q9 : kS 86 C_law (sL 9) [some (.sh v_script), some .stt, some (.sh v_turn), some (.sh v_keeps), some (.sh v_states), some (.sh v_waits), some (.sh v_own), some (.sh v_plan), some (.sh v_until), o_broken, o_first, o_time, o_held, o_told, o_old, o_new, o_due, none, none, none, none, none, none] k = bnd (purely (m_law_break [v_plan, v_keeps, v_until])) fun v_broken => k .nx [some (.sh v_script), some .stt, some (.sh v_turn), some (.sh v_keeps), some (.sh v_states), some (.sh v_waits), some (.sh v_own), some (.sh v_plan), some (.sh v_until), some (.sh v_broken), o_first, o_time, o_held, o_told, o_old, o_new, o_due, none, none, none, none, none, none] := by kernel_rfl
theorem q10 : kS 85 C_law (sL 10) [some (.sh v_script), some .stt, some (.sh v_turn), some (.sh v_keeps), some (.sh v_states), some (.sh v_waits), some (.sh v_own), some (.sh v_plan), some (.sh v_until), some (.sh v_broken), o_first, o_time, o_held, o_told, o_old, o_new, o_due, none, none, none, none, none, none] k = k .nx [some (.sh v_script), some .stt, some (.sh v_turn), some (.sh v_keeps), some (.sh v_states), some (.sh v_waits), some (.sh v_own), some (.sh v_plan), some (.sh v_until), some (.sh v_broken), some (.sh (.tuple [.str "missing"])), o_time, o_held, o_told, o_old, o_new, o_due, none, none, none, none, none, none] := by kernel_rfl
theorem q11 : kS 84 C_law (sL 11) [some (.sh v_script), some .stt, some (.sh v_turn), some (.sh v_keeps), some (.sh v_states), some (.sh v_waits), some (.sh v_own), some (.sh v_plan), some (.sh v_until), some (.sh v_broken), some (.sh v_first), o_time, o_held, o_told, o_old, o_new, o_due, none, none, none, none, none, none] k = bnd (cmpM .IsNot v_broken .none) fun c67 => if c67 = true then k .nx [some (.sh v_script), some .stt, some (.sh v_turn), some (.sh v_keeps), some (.sh v_states), some (.sh v_waits), some (.sh v_own), some (.sh v_plan), some (.sh v_until), some (.sh v_broken), some (.sh (.tuple [.str "told", v_broken])), o_time, o_held, o_told, o_old, o_new, o_due, none, none, none, none, none, none] else k .nx [some (.sh v_script), some .stt, some (.sh v_turn), some (.sh v_keeps), some (.sh v_states), some (.sh v_waits), some (.sh v_own), some (.sh v_plan), some (.sh v_until), some (.sh v_broken), some (.sh v_first), o_time, o_held, o_told, o_old, o_new, o_due, none, none, none, none, none, none] := by kernel_rfl
end
theorem bnd_cong {α β : Type} {m : M α} {f g : α → M β} (h : ∀ x, f x = g x) : bnd m f = bnd m g := by
  have e : f = g := funext h
  rw [e]
theorem d7 : oL.drop 7 = sL 7 :: oL.drop 8 := by kernel_rfl
theorem d8 : oL.drop 8 = sL 8 :: oL.drop 9 := by kernel_rfl
theorem d9 : oL.drop 9 = sL 9 :: oL.drop 10 := by kernel_rfl
theorem d10 : oL.drop 10 = sL 10 :: oL.drop 11 := by kernel_rfl
theorem d11 : oL.drop 11 = sL 11 :: oL.drop 12 := by kernel_rfl
theorem j6 (ρ : DI.Env) : j_law_6 Fl.nx ρ = kSs 89 C_law (oL.drop 7) ρ retF := by kernel_rfl
theorem j8 : seqK 84 C_law (oL.drop 12) retF = j_law_8 := by kernel_rfl
theorem j_law_6_eq (v_script : D) (v_turn : D) (v_keeps : D) (v_states : D) (v_waits : D) (v_own : D) (o_plan : Option SV) (o_until : Option SV) (o_broken : Option SV) (o_first : Option SV) (o_time : Option SV) (o_held : Option SV) (o_told : Option SV) (o_old : Option SV) (o_new : Option SV) (o_due : Option SV) : j_law_6 Fl.nx [some (.sh v_script), some .stt, some (.sh v_turn), some (.sh v_keeps), some (.sh v_states), some (.sh v_waits), some (.ow v_own), o_plan, o_until, o_broken, o_first, o_time, o_held, o_told, o_old, o_new, o_due, none, none, none, none, none, none] = bnd (purely (m_law_plan [v_states, v_own])) fun plan_59 => bnd (bnd (bnd (bnd (bnd (unM .USub (.int 1)) fun x60 => ixM plan_59 x60) fun x61 => ixM x61 (.int 0)) fun x62 => bnd (biM .max [v_keeps]) fun x63 => binM .Add x62 x63) fun x64 => binM .Add x64 (.int 2)) fun until_65 => bnd (purely (m_law_break [plan_59, v_keeps, until_65])) fun broken_66 => bnd (cmpM .IsNot broken_66 .none) fun c67 => if c67 = true then j_law_8 Fl.nx [some (.sh v_script), some .stt, some (.sh v_turn), some (.sh v_keeps), some (.sh v_states), some (.sh v_waits), some (.sh v_own), some (.sh plan_59), some (.sh until_65), some (.sh broken_66), some (.sh (.tuple [.str "told", broken_66])), o_time, o_held, o_told, o_old, o_new, o_due, none, none, none, none, none, none] else j_law_8 Fl.nx [some (.sh v_script), some .stt, some (.sh v_turn), some (.sh v_keeps), some (.sh v_states), some (.sh v_waits), some (.sh v_own), some (.sh plan_59), some (.sh until_65), some (.sh broken_66), some (.sh (.tuple [.str "missing"])), o_time, o_held, o_told, o_old, o_new, o_due, none, none, none, none, none, none] := by
  rw [j6, kSs_cons d7, q7]
  refine bnd_cong fun plan_59 => ?_
  rw [seqK_nx, kSs_cons d8, q8]
  refine bnd_cong fun until_65 => ?_
  rw [seqK_nx, kSs_cons d9, q9]
  refine bnd_cong fun broken_66 => ?_
  rw [seqK_nx, kSs_cons d10, q10, seqK_nx, kSs_cons d11, q11, j8]
end K32
end
section
set_option Elab.async false
set_option linter.all false
set_option autoImplicit false
set_option maxRecDepth 100000
set_option maxHeartbeats 1000000
/-! K32n: plans that turn a key over. -/
namespace K32
open PySem DI
def ahS (o n : Int) : List Sx := [⟨[o], [o], [o], [o]⟩, ⟨[o], sortI [o, n], [o], [o]⟩, ⟨sortI [o, n], sortI [o, n], sortI [o, n], [n]⟩, ⟨[n], sortI [o, n], [n], [n]⟩, ⟨[n], [n], [n], [n]⟩]
theorem one_ok {k : Int} (h1 : 1 ≤ k) (h2 : k ≤ 999) : KOk [k] := ⟨by simp, by simp, fun j hj => by rw [List.mem_singleton.mp hj]; exact ⟨h1, h2⟩, by simp⟩
theorem l_ahead {o n : Int} (o1 : 1 ≤ o) (o2 : o ≤ 999) (n1 : 1 ≤ n) (n2 : n ≤ 999) (ne : o ≠ n) : m_ahead_plan [.int o, .int n] = DI.ret (se (ahS o n)) := by
  have e1 : m_is_keys [.tuple [.int o]] = DI.ret (.bool true) := by
    have ek : (PyData.tuple [.int o]) = kt [o] := rfl
    rw [ek]
    exact l_keys (one_ok o1 o2)
  have e2 : m_is_keys [.tuple [.int n]] = DI.ret (.bool true) := by
    have ek : (PyData.tuple [.int n]) = kt [n] := rfl
    rw [ek]
    exact l_keys (one_ok n1 n2)
  have e3 : biM .sorted [.tuple [.int o, .int n]] = DI.ret (.list ((sortI [o, n]).map PyData.int)) := by
    have z : ∀ xs : List D, biM .sorted [.tuple xs] = bnd (optM (intsOf xs)) fun ns => guardM (decide (ns.length < 64)) (DI.ret (.list ((sortI ns).map PyData.int))) := fun _ => rfl
    have ek : ([.int o, .int n] : List D) = ([o, n] : List Int).map PyData.int := rfl
    rw [z, ek]
    rw [ints_of, opt_some, bnd_ret_l, grd_dec (by simp)]
  rw [m_ahead_plan_eq, e1, e2, e3]
  simp only [pure_r, bnd_ret_l, tr_b, Bool.not_true, Bool.false_eq_true, if_false, eq_ii, ne, decide_false, tuple_l]
  rfl
theorem sort2 {o n : Int} (h : o < n) : sortI [o, n] = [o, n] := by
  show (if o ≤ n then [o, n] else [n, o]) = _
  rw [if_pos (by omega)]
theorem sort2' {o n : Int} (h : n < o) : sortI [o, n] = [n, o] := by
  show (if o ≤ n then [o, n] else [n, o]) = _
  rw [if_neg (by omega)]
theorem ah_ok {o n : Int} (o1 : 1 ≤ o) (n2 : n ≤ 999) (h : o < n) : ∀ s ∈ ahS o n, SOk s := fun s hs => by
  have a := one_ok (k := o) o1 (by omega)
  have b := one_ok (k := n) (by omega) n2
  have c : KOk [o, n] := ⟨by simp, by simp [h], fun j hj => by
    simp only [List.mem_cons, List.not_mem_nil, or_false] at hj
    rcases hj with rfl | rfl <;> omega, by simp⟩
  unfold ahS at hs
  rw [sort2 h] at hs
  simp only [List.mem_cons, List.not_mem_nil, or_false] at hs
  rcases hs with rfl | rfl | rfl | rfl | rfl
  · exact ⟨a, a, a, a, fun _ z => z, fun _ z => z⟩
  · exact ⟨a, c, a, a, fun k z => by rw [List.mem_singleton.mp z]; simp, fun k z => by rw [List.mem_singleton.mp z]; simp⟩
  · exact ⟨c, c, c, b, fun _ z => z, fun k z => by rw [List.mem_singleton.mp z]; simp⟩
  · exact ⟨b, c, b, b, fun k z => by rw [List.mem_singleton.mp z]; simp, fun k z => by rw [List.mem_singleton.mp z]; simp⟩
  · exact ⟨b, b, b, b, fun _ z => z, fun _ z => z⟩
end K32
end
section
set_option Elab.async false
set_option linter.all false
set_option autoImplicit false
set_option maxRecDepth 100000
set_option maxHeartbeats 1000000
/-! K32o: what is drawn. -/
namespace K32
open PySem DI
def St (is : List Int) (k : Int) : Stt := [PyData.list (is.map PyData.int), PyData.int k]
theorem bnd_ok {α β : Type} {m : M α} {f : α → M β} {st st' : Stt} {a : α} (h : m st = .ok a st') : bnd m f st = f a st' := by
  show R.next (m st) f = _
  rw [h]
  rfl
theorem noErr_ok {α : Type} {m : M α} {st st' : Stt} {a : α} (h : m st = .ok a st') : noErrM m st = .ok a st' := by
  show (m st).noErr = _
  rw [h]
  rfl
theorem pur {α : Type} {m : M α} {a : α} (h : m = DI.ret a) (st : Stt) : m st = .ok a st := by rw [h]
structure Kd (ks : List Int) : Prop where
  ne : ks ≠ []
  up : ks.Pairwise (· < ·)
  rg : ∀ k ∈ ks, 1 ≤ k ∧ k ≤ 3
  le : ks.length ≤ 3
theorem Kd.ok {ks : List Int} (h : Kd ks) : KOk ks := ⟨h.ne, h.up, fun k hk => by have := h.rg k hk; omega, by have := h.le; omega⟩
section
variable {is : List Int} (hL : 0 < is.length ∧ is.length < 1073741824)
include hL
theorem nx_at {k m : Int} (hk : 0 ≤ k ∧ k < 1000000) (hm : 0 < m) : ∃ v, DI.m_law_next [.int m] (St is k) = .ok (.int v) (St is (k + 1)) ∧ 0 ≤ v ∧ v < m := by
  refine ⟨_, ?_, Int.emod_nonneg _ (by omega), Int.emod_lt_of_pos (((is.getD ((k + 1) % is.length).toNat 0) + (k + 1) / is.length * 389) + (k + 1) * ((k + 1) / is.length) * 17) hm⟩
  show (match intsOf (is.map PyData.int) with
      | some is' => _
      | none => _) = _
  rw [ints_of]
  exact if_pos (decide_eq_true ⟨hL.1, hL.2, hk.1, hk.2, hm⟩)
theorem kc_at (sm pl : D) : ∀ (xs : List Int) (k : Int), 0 ≤ k → k + xs.length < 1000000 → ∃ ys : List Int, compM (c_law_keys_1 [some .stt, some (.sh sm), some (.sh pl), none, none]) (xs.map PyData.int) (St is k) = .ok (ys.map PyData.int) (St is (k + xs.length)) ∧ ys.Sublist xs
  | [], k, _, _ => ⟨[], by simp; rfl, .slnil⟩
  | x :: xs, k, h0, h1 => by
    have h1 : k + ((xs.length : Int) + 1) < 1000000 := by simpa using h1
    obtain ⟨v, e1, _, _⟩ := nx_at hL (k := k) (m := 2) (by omega) (by omega)
    obtain ⟨ys, e2, s⟩ := kc_at sm pl xs (k + 1) (by omega) (by omega)
    have ek : k + ((x :: xs).length : Int) = k + 1 + xs.length := by simp; omega
    have e3 : c_law_keys_1 [some .stt, some (.sh sm), some (.sh pl), none, none] (.int x) (St is k) = .ok (if v = 0 then some (.int x) else none) (St is (k + 1)) := by
      rw [c_law_keys_1_eq]
      refine noErr_ok ?_
      have e4 : bnd (DI.m_law_next [.int 2]) (fun x316 => cmpM .Eq x316 (.int 0)) (St is k) = .ok (decide (v = 0)) (St is (k + 1)) := by
        rw [bnd_ok e1, eq_ii]
      rw [bnd_ok e4]
      by_cases c : v = 0
      · rw [if_pos (decide_eq_true c), if_pos c]
      · rw [if_neg (by simpa using c), if_neg c]
    rw [ek]
    show ∃ ys : List Int, bnd (c_law_keys_1 _ (.int x)) _ (St is k) = _ ∧ _
    rw [bnd_ok e3]
    by_cases c : v = 0
    · refine ⟨x :: ys, ?_, s.cons₂ x⟩
      show bnd (compM _ _) _ _ = _
      rw [bnd_ok e2, if_pos c]
      rfl
    · refine ⟨ys, ?_, s.cons x⟩
      show bnd (compM _ _) _ _ = _
      rw [bnd_ok e2, if_neg c]
theorem lkeys_at {pool : List Int} (hp : Kd pool) (sm : List Int) (hsm : (sm = [] ∧ pool = [1, 2, 3]) ∨ (sm ≠ [] ∧ sm = pool)) {k : Int} (h0 : 0 ≤ k) (h1 : k + 10 < 1000000) :
    ∃ ks : List Int, m_law_keys [.list (sm.map PyData.int)] (St is k) = .ok (kt ks) (St is (k + pool.length)) ∧ Kd ks ∧ ∀ x ∈ ks, x ∈ pool := by
  have hl := hp.le
  obtain ⟨ys, e, s⟩ := kc_at hL (.list (sm.map PyData.int)) (.list (pool.map PyData.int)) pool k h0 (by omega)
  have e1 : (bnd (truthM (.list (sm.map PyData.int))) fun b307 => if b307 = true then DI.ret (PyData.list (sm.map PyData.int)) else DI.ret (.list [.int 1, .int 2, .int 3])) = DI.ret (.list (pool.map PyData.int)) := by
    rcases hsm with ⟨rfl, rfl⟩ | ⟨h, rfl⟩
    · rfl
    · cases sm with
      | nil => exact absurd rfl h
      | cons x r => rfl
  have e2 : bnd (guardM (fits (pool.map PyData.int).length) (bnd (compM (c_law_keys_1 [some .stt, some (.sh (.list (sm.map PyData.int))), some (.sh (.list (pool.map PyData.int))), none, none]) (pool.map PyData.int)) fun ds => DI.ret (PyData.list ds))) (fun d => DI.ret d) (St is k) = .ok (.list (ys.map PyData.int)) (St is (k + pool.length)) := by
    rw [bnd_ret_r, grd_fits (by rw [List.length_map]; omega), bnd_ok e]
  rw [bnd_ret_r] at e2
  have tk : ∀ x ∈ pool.take 1, x ∈ pool := fun x hx => List.mem_of_mem_take hx
  obtain ⟨p, r, rfl⟩ : ∃ p r, pool = p :: r := by
    cases pool with
    | nil => exact absurd rfl hp.ne
    | cons p r => exact ⟨p, r, rfl⟩
  rw [m_law_keys_eq, e1, bnd_ret_l, seq_l, opt_some, bnd_ret_l, bnd_ok e2]
  cases ys with
  | nil =>
    refine ⟨[p], ?_, ⟨by simp, by simp, fun x hx => by rw [List.mem_singleton.mp hx]; exact hp.rg p List.mem_cons_self, by simp⟩, fun x hx => by rw [List.mem_singleton.mp hx]; exact List.mem_cons_self⟩
    have es : sliceM (.list ((p :: r).map PyData.int)) none (some 1) = DI.ret (.list [.int p]) := by
      have z := cut_to ((p :: r).map PyData.int) 1
      rw [slice_l]
      have z : cutD ((p :: r).map PyData.int) none (some 1) = [.int p] := z
      rw [z]
    show bnd (bnd (bnd (sliceM (.list ((p :: r).map PyData.int)) none (some 1)) _) _) _ _ = _
    rw [es]
    rfl
  | cons y ys =>
    exact ⟨y :: ys, rfl, ⟨by simp, hp.up.sublist s, fun x hx => hp.rg x (s.subset hx), by have := s.length_le; omega⟩, fun x hx => s.subset hx⟩
end
end K32
end
section
set_option Elab.async false
set_option linter.all false
set_option autoImplicit false
set_option maxRecDepth 100000
set_option maxHeartbeats 1000000
/-! K32p: drawn states. -/
namespace K32
open PySem DI
theorem kd3 : Kd [1, 2, 3] := ⟨by simp, by simp, fun k hk => by
  simp only [List.mem_cons, List.not_mem_nil, or_false] at hk
  rcases hk with rfl | rfl | rfl <;> omega, by simp⟩
section
variable {is : List Int} (hL : 0 < is.length ∧ is.length < 1073741824)
include hL
theorem lstate_at {k : Int} (h0 : 0 ≤ k) (h1 : k + 30 < 1000000) : ∃ (s : Sx) (k' : Int), m_law_state [] (St is k) = .ok s.e (St is k') ∧ (SOk s ∧ s.a.length ≤ 3 ∧ s.b.length ≤ 3 ∧ s.c.length ≤ 3 ∧ s.d.length ≤ 3) ∧ k ≤ k' ∧ k' ≤ k + 12 := by
  obtain ⟨b, e1, kb, _⟩ := lkeys_at hL kd3 [] (.inl ⟨rfl, rfl⟩) (k := k) h0 (by omega)
  obtain ⟨a, e2, ka, _⟩ := lkeys_at hL kd3 [] (.inl ⟨rfl, rfl⟩) (k := k + 3) (by omega) (by omega)
  obtain ⟨c, e3, kc, sc⟩ := lkeys_at hL kb b (.inr ⟨kb.ne, rfl⟩) (k := k + 3 + 3) (by omega) (by omega)
  have lb := kb.le
  obtain ⟨d, e4, kd, sd⟩ := lkeys_at hL kb b (.inr ⟨kb.ne, rfl⟩) (k := k + 3 + 3 + b.length) (by omega) (by omega)
  have e1 : m_law_keys [.list []] (St is k) = .ok (kt b) (St is (k + 3)) := e1
  have e2 : m_law_keys [.list []] (St is (k + 3)) = .ok (kt a) (St is (k + 3 + 3)) := e2
  refine ⟨⟨a, b, c, d⟩, k + 3 + 3 + b.length + b.length, ?_, ⟨⟨ka.ok, kb.ok, kc.ok, kd.ok, sc, sd⟩, ka.le, kb.le, kc.le, kd.le⟩, by omega, by omega⟩
  have z : decide (([PyData.list (b.map PyData.int)] : List D).length = 1) = true := rfl
  rw [m_law_state_eq, bnd_ok e1]
  simp only [list_kt, bnd_ret_l, z, grd_t]
  have a1 : bnd (m_law_keys [.list (b.map PyData.int)]) (fun x325 => DI.ret [x325]) (St is (k + 3 + 3 + b.length)) = .ok [kt d] (St is (k + 3 + 3 + b.length + b.length)) := bnd_ok e4
  have a2 : bnd (m_law_keys [.list (b.map PyData.int)]) (fun x322 => bnd (bnd (m_law_keys [.list (b.map PyData.int)]) fun x325 => DI.ret [x325]) fun ds326 => DI.ret (x322 :: ds326)) (St is (k + 3 + 3)) = .ok [kt c, kt d] (St is (k + 3 + 3 + b.length + b.length)) := by
    rw [bnd_ok e3, bnd_ok a1]
  have a3 : bnd (bnd (m_law_keys [.list (b.map PyData.int)]) fun x322 => bnd (bnd (m_law_keys [.list (b.map PyData.int)]) fun x325 => DI.ret [x325]) fun ds326 => DI.ret (x322 :: ds326)) (fun ds327 => DI.ret (kt b :: ds327)) (St is (k + 3 + 3)) = .ok [kt b, kt c, kt d] (St is (k + 3 + 3 + b.length + b.length)) := bnd_ok a2
  have a4 : bnd (m_law_keys [.list []]) (fun x319 => bnd (bnd (bnd (m_law_keys [.list (b.map PyData.int)]) fun x322 => bnd (bnd (m_law_keys [.list (b.map PyData.int)]) fun x325 => DI.ret [x325]) fun ds326 => DI.ret (x322 :: ds326)) fun ds327 => DI.ret (kt b :: ds327)) fun ds328 => DI.ret (x319 :: ds328)) (St is (k + 3)) = .ok [kt a, kt b, kt c, kt d] (St is (k + 3 + 3 + b.length + b.length)) := by
    rw [bnd_ok e2, bnd_ok a3]
  have a5 : bnd (bnd (m_law_keys [.list []]) (fun x319 => bnd (bnd (bnd (m_law_keys [.list (b.map PyData.int)]) fun x322 => bnd (bnd (m_law_keys [.list (b.map PyData.int)]) fun x325 => DI.ret [x325]) fun ds326 => DI.ret (x322 :: ds326)) fun ds327 => DI.ret (kt b :: ds327)) fun ds328 => DI.ret (x319 :: ds328))) (fun ds329 => guardM (fits ds329.length) (DI.ret (PyData.tuple ds329))) (St is (k + 3)) = .ok (.tuple [kt a, kt b, kt c, kt d]) (St is (k + 3 + 3 + b.length + b.length)) := by
    rw [bnd_ok a4, grd_fits (by simp)]
  rw [bnd_ok a5]
  rfl
end
end K32
end
section
set_option Elab.async false
set_option linter.all false
set_option autoImplicit false
set_option maxRecDepth 100000
set_option maxHeartbeats 1000000
/-! K32q: sizes of what is compared. -/
namespace K32
open PySem DI
structure Sm (w h : Nat) (d : D) : Prop where
  s : smallD d = true
  w : wtD d ≤ w
  h : d.depth ≤ h
theorem Sm.up {w h w' h' : Nat} {d : D} (x : Sm w h d) (a : w ≤ w') (b : h ≤ h') : Sm w' h' d := ⟨x.s, Nat.le_trans x.w a, Nat.le_trans x.h b⟩
theorem sm_all {w h : Nat} : ∀ xs : List D, (∀ x ∈ xs, Sm w h x) → smallAll xs = true ∧ wtAll xs ≤ xs.length * (w + 1) ∧ PyData.depthAll xs ≤ h
  | [], _ => ⟨rfl, by simp [wtAll], by simp [PyData.depthAll]⟩
  | x :: xs, hx => by
    obtain ⟨a, b, c⟩ := sm_all xs fun y hy => hx y (List.mem_cons_of_mem _ hy)
    have z := hx x List.mem_cons_self
    refine ⟨?_, ?_, ?_⟩
    · simp only [smallAll, z.s, a, Bool.and_self]
    · have := z.w
      simp only [wtAll, List.length_cons, Nat.add_mul]
      omega
    · have := z.h
      simp only [PyData.depthAll]
      omega
theorem sm_l {w h n : Nat} {xs : List D} (hx : ∀ x ∈ xs, Sm w h x) (hn : xs.length ≤ n) : Sm (n * (w + 1)) (h + 1) (.list xs) := by
  obtain ⟨a, b, c⟩ := sm_all xs hx
  have : xs.length * (w + 1) ≤ n * (w + 1) := Nat.mul_le_mul_right _ hn
  exact ⟨by simpa only [smallD] using a, by simp only [wtD]; omega, by simp only [PyData.depth]; omega⟩
theorem sm_t {w h n : Nat} {xs : List D} (hx : ∀ x ∈ xs, Sm w h x) (hn : xs.length ≤ n) : Sm (n * (w + 1)) (h + 1) (.tuple xs) := by
  obtain ⟨a, b, c⟩ := sm_all xs hx
  have : xs.length * (w + 1) ≤ n * (w + 1) := Nat.mul_le_mul_right _ hn
  exact ⟨by simpa only [smallD] using a, by simp only [wtD]; omega, by simp only [PyData.depth]; omega⟩
theorem sm_i {i : Int} (h0 : -1000000 ≤ i) (h1 : i ≤ 1000000) : Sm 41 0 (.int i) := ⟨decide_eq_true (by omega), by simp only [wtD]; omega, by simp only [PyData.depth]; omega⟩
theorem sm_b (b : Bool) : Sm 41 0 (.bool b) := ⟨rfl, by simp [wtD], by simp [PyData.depth]⟩
theorem sm_told : Sm 41 0 (.str "told") := ⟨by decide +kernel, by decide +kernel, by decide +kernel⟩
theorem sm_miss : Sm 41 0 (.str "missing") := ⟨by decide +kernel, by decide +kernel, by decide +kernel⟩
theorem Sm.ok {w h : Nat} {d : D} (x : Sm w h d) (a : w ≤ 524288) (b : h ≤ 98) : okD d = true := by
  unfold okD
  have := x.w
  have := x.h
  rw [x.s, decide_eq_true (show wtD d ≤ 524288 by omega), decide_eq_true (show d.depth ≤ 98 by omega)]
  rfl
theorem sm_kt {ks : List Int} (h : KOk ks) (hl : ks.length ≤ 3) : Sm 126 1 (kt ks) := sm_t (n := 3) (fun x hx => by
  obtain ⟨k, hk, rfl⟩ := List.mem_map.mp hx
  have := h.rg k hk
  exact sm_i (i := k) (by omega) (by omega)) (by rw [List.length_map]; exact hl)
end K32
end
section
set_option Elab.async false
set_option linter.all false
set_option autoImplicit false
set_option maxRecDepth 100000
set_option maxHeartbeats 1000000
/-! K32r: the second half of a turn of the law. -/
namespace K32
open PySem DI
structure S3 (s : Sx) : Prop where
  ok : SOk s
  a : s.a.length ≤ 3
  b : s.b.length ≤ 3
  c : s.c.length ≤ 3
  d : s.d.length ≤ 3
theorem sm_e {s : Sx} (h : S3 s) : Sm 508 2 s.e := by
  refine (sm_t (w := 126) (h := 1) (n := 4) (fun x hx => ?_) (by simp)).up (by omega) (by omega)
  simp only [List.mem_cons, List.not_mem_nil, or_false] at hx
  rcases hx with rfl | rfl | rfl | rfl
  · exact sm_kt h.ok.a h.a
  · exact sm_kt h.ok.b h.b
  · exact sm_kt h.ok.c h.c
  · exact sm_kt h.ok.d h.d
theorem sm_row {t : Int} {s : Sx} (h : S3 s) (h0 : 0 ≤ t) (h1 : t ≤ 1000000) : Sm 1018 3 (row (t, s)) := by
  refine (sm_t (w := 508) (h := 2) (n := 2) (fun x hx => ?_) (by simp)).up (by omega) (by omega)
  simp only [List.mem_cons, List.not_mem_nil, or_false] at hx
  rcases hx with rfl | rfl
  · exact (sm_i (by omega) h1).up (by omega) (by omega)
  · exact sm_e h
theorem sm_pe {P : Pt} (h : ∀ p ∈ P, S3 p.2 ∧ 0 ≤ p.1 ∧ p.1 ≤ 1000000) (hn : P.length ≤ 12) : Sm 12228 4 (pe P) := by
  refine (sm_t (w := 1018) (h := 3) (n := 12) (fun x hx => ?_) (by rw [List.length_map]; exact hn)).up (by omega) (by omega)
  obtain ⟨p, hp, rfl⟩ := List.mem_map.mp hx
  obtain ⟨a, b, c⟩ := h p hp
  exact sm_row (t := p.1) (s := p.2) a b c
theorem told_r {m : M D} {d : D} (h : m = DI.ret d) : toldM m = DI.ret (.tuple [.str "told", d]) := by
  rw [h]
  rfl
theorem told_m {m : M D} (h : m = throwM ⟨"Missing"⟩) : toldM m = DI.ret (.tuple [.str "missing"]) := by
  rw [h]
  rfl
theorem pure_t (e : Exn) : purely (throwM e : M D) = throwM e := rfl
def Sh (s : D) (ρ : DI.Env) : Prop := ∃ o2 o3 o4 o5 o6 o7 o8 o9 o10 o11 o12 o13 o14 o15 o16 : Option SV, ρ = [some (.sh s), some .stt, o2, o3, o4, o5, o6, o7, o8, o9, o10, o11, o12, o13, o14, o15, o16, none, none, none, none, none, none]
end K32
end
section
set_option Elab.async false
set_option linter.all false
set_option autoImplicit false
set_option maxRecDepth 100000
set_option maxHeartbeats 1000000
/-! K32t: what the least waits are; draws of rows of numbers. -/
namespace K32
open PySem DI
theorem nx_safe {S : List Sx} {k0 k1 k2 : Int} {k : Nat} {f : List Int} {w : Int} {u : Unit} (e : nxP S k0 k1 k2 k f = some (w, u)) : safeB (pln (S.take (k + 2)) (f ++ [w])) k0 k1 k2 = true := by
  obtain ⟨_, h2, _⟩ := fs_sorted _ _ (sortI_rises _) e
  unfold fS at h2
  split at h2
  · assumption
  · cases h2
theorem nx_rg8 {S : List Sx} {k0 k1 k2 : Int} (h : Kq k0 k1 k2) {k : Nat} {f : List Int} (hw : wOk f) {w : Int} {u : Unit} (e : nxP S k0 k1 k2 k f = some (w, u)) : 1 ≤ w ∧ w ≤ 8 := by
  obtain ⟨h1, _, _⟩ := fs_sorted _ _ (sortI_rises _) e
  have z := ca_rg h hw ((sortI_perm _).mem_iff.mp h1)
  have g := mk3_ge k0 k1 k2
  have := h.a
  have := h.b
  have := h.c
  omega
def w8 (ws : List Int) : Prop := ∀ w ∈ ws, 1 ≤ w ∧ w ≤ 8
theorem w8.ok {ws : List Int} (h : w8 ws) : wOk ws := fun w hw => by have := h w hw; omega
theorem go_ok {S : List Sx} {k0 k1 k2 : Int} (hk : Kq k0 k1 k2) : ∀ (r k : Nat) (f f' : List Int), w8 f → go (nxP S k0 k1 k2) (List.range' k r) f = some f' → w8 f' ∧ f'.length = f.length + r ∧ (0 < r → safeB (pln (S.take (k + r + 1)) f') k0 k1 k2 = true)
  | 0, k, f, f', hf, e => by
    cases e
    exact ⟨hf, rfl, fun z => by omega⟩
  | r + 1, k, f, f', hf, e => by
    rw [List.range'_succ] at e
    have e : (match nxP S k0 k1 k2 k f with | some (w, _) => go (nxP S k0 k1 k2) (List.range' (k + 1) r) (f ++ [w]) | none => none) = some f' := e
    cases en : nxP S k0 k1 k2 k f with
    | none => rw [en] at e; cases e
    | some x =>
      obtain ⟨w, u⟩ := x
      rw [en] at e
      have rg := nx_rg8 hk hf.ok en
      have hf2 : w8 (f ++ [w]) := fun x hx => by
        rcases List.mem_append.mp hx with z | z
        · exact hf x z
        · rw [List.mem_singleton.mp z]; exact rg
      obtain ⟨a, b, c⟩ := go_ok hk r (k + 1) (f ++ [w]) f' hf2 e
      refine ⟨a, by rw [b, List.length_append]; simp; omega, fun _ => ?_⟩
      by_cases hr : 0 < r
      · have z := c hr
        have e2 : k + 1 + r + 1 = k + (r + 1) + 1 := by omega
        rw [e2] at z
        exact z
      · have r0 : r = 0 := by omega
        subst r0
        cases e
        exact nx_safe en
section
variable {is : List Int} (hL : 0 < is.length ∧ is.length < 1073741824)
include hL
/-- a row of numbers, one draw for each -/
theorem rowD_at {α : Type} {f : D → M (Option D)} {mk : α → D} {R : α → Int → Prop} (hf : ∀ (a : α) (k : Int), 0 ≤ k → k < 900000 → ∃ v, f (mk a) (St is k) = .ok (some (.int v)) (St is (k + 1)) ∧ R a v) :
    ∀ (as : List α) (k : Int), 0 ≤ k → k + as.length < 900000 → ∃ vs : List Int, compM f (as.map mk) (St is k) = .ok (vs.map PyData.int) (St is (k + as.length)) ∧ vs.length = as.length ∧ ∀ (i : Nat) (h : i < as.length) (h' : i < vs.length), R as[i] vs[i]
  | [], k, _, _ => ⟨[], by simp; rfl, rfl, fun i h => by simp at h⟩
  | a :: as, k, h0, h1 => by
    have h1 : k + ((as.length : Int) + 1) < 900000 := by simpa using h1
    obtain ⟨v, e1, r⟩ := hf a k h0 (by omega)
    obtain ⟨vs, e2, hl, hr⟩ := rowD_at hf as (k + 1) (by omega) (by omega)
    have ek : k + ((a :: as).length : Int) = k + 1 + as.length := by simp; omega
    refine ⟨v :: vs, ?_, by simp [hl], fun i h h' => ?_⟩
    · rw [ek]
      show bnd (f (mk a)) _ (St is k) = _
      rw [bnd_ok e1]
      show bnd (compM _ _) _ _ = _
      rw [bnd_ok e2]
      rfl
    · cases i with
      | zero => exact r
      | succ i => exact hr i (by simpa using h) (by simpa using h')
end
end K32
end
section
set_option Elab.async false
set_option linter.all false
set_option autoImplicit false
set_option maxRecDepth 100000
set_option maxHeartbeats 2000000
/-! K32x8: the end of a turn of the law. -/
namespace K32
open PySem DI
theorem eq_told : cmpM .Eq (.str "told") (.str "told") = DI.ret true := by
  rw [eq_sh (by decide +kernel) (by decide +kernel)]
  rfl
theorem eq_miss : cmpM .Eq (.str "missing") (.str "told") = DI.ret false := by
  rw [eq_sh (by decide +kernel) (by decide +kernel)]
  rfl
def wD (g : Option (List Int)) : D := match g with
  | some f' => .tuple [.str "told", .tuple (f'.map PyData.int)]
  | none => .tuple [.str "missing"]
abbrev Bk := Int × Nat × Nat × Nat
def brk (P : Pt) (k0 k1 k2 : Int) : Option Bk := (sortI (moL P [k0, k1, k2])).findSome? fun t => (tr P k0 k1 k2 t).map fun q => (t, q)
def bkE (P : Pt) (q : Bk) : D := .tuple [.int q.1, .int (bt P q.2.1), .int (bt P q.2.2.1), .int (bt P q.2.2.2)]
def bkD (P : Pt) (b : Option Bk) : D := (b.map (bkE P)).getD .none
def fiD (P : Pt) (b : Option Bk) : D := match b with
  | some q => .tuple [.str "told", bkE P q]
  | none => .tuple [.str "missing"]
theorem is_bk (P : Pt) (b : Option Bk) : cmpM .Is (bkD P b) .none = DI.ret b.isNone := by cases b <;> rfl
theorem isnot_bk (P : Pt) (b : Option Bk) : cmpM .IsNot (bkD P b) .none = DI.ret (!b.isNone) := by cases b <;> rfl
theorem told_first {P : Pt} (hP : POk P) {k0 k1 k2 : Int} (hk : Kp3 [k0, k1, k2]) : toldM (purely (m_first_break [pe P, kt [k0, k1, k2]])) = DI.ret (fiD P (brk P k0 k1 k2)) := by
  rw [l_first hP hk]
  show toldM (purely (match brk P k0 k1 k2 with | some (t, i, j, k) => _ | none => _)) = _
  cases brk P k0 k1 k2 with
  | none => rfl
  | some q => rfl
end K32
end
section
set_option Elab.async false
set_option linter.all false
set_option autoImplicit false
set_option maxRecDepth 100000
set_option maxHeartbeats 0
/-! K32y7: the steps of a turn of the law, what each gives left open (printed by stage.py). -/
namespace K32
open PySem DI
theorem j8_abs (v_script : D) (v_turn : D) (v_keeps : D) (v_states : D) (v_waits : D) (v_own : D) (v_plan : D) (v_until : D) (v_broken : D) (v_first : D) (o_time : Option SV) (o_held : Option SV) (o_told : Option SV) (o_old : Option SV) (o_new : Option SV) (o_due : Option SV) {time_70 held_74 told_86 : D} {st0 st1 st2 st3 st4 st5 : Stt} (h1 : (bnd (bnd (binM .Add v_until (.int 1)) fun x68 => DI.ret [x68]) fun x69 => guardM (decide (x69.length = 1)) (DI.m_law_next x69)) st0 = .ok time_70 st1) (h2 : (bnd (bnd (bnd (optM (seqOf v_keeps)) fun xs71 => guardM (fits xs71.length) (bnd (compM (c_law_9 [some (.sh v_script), some .stt, some (.sh v_turn), some (.sh v_keeps), some (.sh v_states), some (.sh v_waits), some (.sh v_own), some (.sh v_plan), some (.sh v_until), some (.sh v_broken), some (.sh v_first), some (.sh time_70), o_held, o_told, o_old, o_new, o_due, none, none, none, none, none, none]) xs71) fun ds => DI.ret (.list ds))) fun x72 => DI.ret [x72]) fun x73 => biM .tuple x73) st1 = .ok held_74 st2) (h3 : (bnd (bnd (toldM (bnd (bnd (bnd (biM .tuple [v_own]) fun x75 => DI.ret [x75]) fun ds76 => DI.ret (v_states :: ds76)) fun x77 => guardM (decide (x77.length = 2)) (purely (m_with_waits x77)))) fun x78 => bnd (bnd (toldM (purely (m_is_safe [v_plan, v_keeps]))) fun x79 => bnd (bnd (toldM (purely (m_first_break [v_plan, v_keeps]))) fun x80 => bnd (bnd (toldM (purely (m_may_hold [v_plan, v_keeps, time_70]))) fun x81 => DI.ret [x81]) fun ds82 => DI.ret (x80 :: ds82)) fun ds83 => DI.ret (x79 :: ds83)) fun ds84 => DI.ret (x78 :: ds84)) fun ds85 => guardM (fits ds85.length) (DI.ret (.list ds85))) st2 = .ok told_86 st3) (h4 : (bnd (bnd (bnd (bnd (bnd (bnd (bnd (bnd (bnd (bnd (bnd (bnd (cmpM .Is v_broken .none) fun c87 => DI.ret (.bool c87)) fun x88 => DI.ret [x88]) fun ds89 => DI.ret ((.str "told") :: ds89)) fun ds90 => guardM (fits ds90.length) (DI.ret (.tuple ds90))) fun x91 => DI.ret ([x91, v_first, .tuple [.str "told", held_74]])) fun ds92 => DI.ret ((.tuple [.str "told", v_plan]) :: ds92)) fun ds93 => guardM (fits ds93.length) (DI.ret (.list ds93))) fun x94 => DI.ret [x94]) fun ds95 => DI.ret (told_86 :: ds95)) fun x96 => guardM (decide (x96.length = 2)) (purely (DI.m_law_same x96))) fun x97 => truthM x97) fun b98 => DI.ret (!b98)) st3 = .ok false st4) (h5 : (bnd (bnd (ixM v_waits (.int 0)) fun x100 => cmpM .Eq x100 (.str "told")) fun b101 => if b101 = true then bnd (bnd (biM .len [v_states]) fun x102 => cmpM .Gt x102 (.int 1)) fun b103 => if b103 = true then bnd (bnd (bnd (bnd (bnd (bnd (bnd (bnd (bnd (bnd (bnd (ixM v_waits (.int 1)) fun x104 => optM (seqOf x104)) fun xs105 => guardM (fits xs105.length) (bnd (compM (c_law_10 [some (.sh v_script), some .stt, some (.sh v_turn), some (.sh v_keeps), some (.sh v_states), some (.sh v_waits), some (.sh v_own), some (.sh v_plan), some (.sh v_until), some (.sh v_broken), some (.sh v_first), some (.sh time_70), some (.sh held_74), some (.sh told_86), o_old, o_new, o_due, none, none, none, none, none, none]) xs105) fun ds => DI.ret (.list ds))) fun x106 => DI.ret [x106]) fun x107 => biM .tuple x107) fun x108 => DI.ret [x108]) fun ds109 => DI.ret (v_states :: ds109)) fun x110 => guardM (decide (x110.length = 2)) (purely (m_with_waits x110))) fun x111 => DI.ret [x111, v_keeps]) fun x112 => guardM (decide (x112.length = 2)) (purely (m_is_safe x112))) fun x113 => truthM x113) fun b114 => DI.ret (!b114) else DI.ret false else DI.ret false) st4 = .ok false st5) : j_law_8 Fl.nx [some (.sh v_script), some .stt, some (.sh v_turn), some (.sh v_keeps), some (.sh v_states), some (.sh v_waits), some (.sh v_own), some (.sh v_plan), some (.sh v_until), some (.sh v_broken), some (.sh v_first), o_time, o_held, o_told, o_old, o_new, o_due, none, none, none, none, none, none] st0 = (DI.ret (Fl.nx, [some (.sh v_script), some .stt, some (.sh v_turn), some (.sh v_keeps), some (.sh v_states), some (.sh v_waits), some (.sh v_own), some (.sh v_plan), some (.sh v_until), some (.sh v_broken), some (.sh v_first), some (.sh time_70), some (.sh held_74), some (.sh told_86), o_old, o_new, o_due, none, none, none, none, none, none])) st5 := by
  rw [j_law_8_eq]
  rw [bnd_ok h1]
  rw [bnd_ok h2]
  rw [bnd_ok h3]
  rw [bnd_ok h4]
  rw [if_neg Bool.false_ne_true]
  rw [bnd_ok h5]
  rw [if_neg Bool.false_ne_true]
theorem j6_abs_e (v_script : D) (v_turn : D) (v_keeps : D) (v_states : D) (v_waits : D) (v_own : D) (o_plan : Option SV) (o_until : Option SV) (o_broken : Option SV) (o_first : Option SV) (o_time : Option SV) (o_held : Option SV) (o_told : Option SV) (o_old : Option SV) (o_new : Option SV) (o_due : Option SV) {plan_59 until_65 broken_66 : D} {st0 st1 st2 st3 st4 : Stt} (h1 : (purely (m_law_plan [v_states, v_own])) st0 = .ok plan_59 st1) (h2 : (bnd (bnd (bnd (bnd (unM .USub (.int 1)) fun x60 => ixM plan_59 x60) fun x61 => ixM x61 (.int 0)) fun x62 => bnd (biM .max [v_keeps]) fun x63 => binM .Add x62 x63) fun x64 => binM .Add x64 (.int 2)) st1 = .ok until_65 st2) (h3 : (purely (m_law_break [plan_59, v_keeps, until_65])) st2 = .ok broken_66 st3) (h4 : (cmpM .IsNot broken_66 .none) st3 = .ok false st4) : j_law_6 Fl.nx [some (.sh v_script), some .stt, some (.sh v_turn), some (.sh v_keeps), some (.sh v_states), some (.sh v_waits), some (.ow v_own), o_plan, o_until, o_broken, o_first, o_time, o_held, o_told, o_old, o_new, o_due, none, none, none, none, none, none] st0 = (j_law_8 Fl.nx [some (.sh v_script), some .stt, some (.sh v_turn), some (.sh v_keeps), some (.sh v_states), some (.sh v_waits), some (.sh v_own), some (.sh plan_59), some (.sh until_65), some (.sh broken_66), some (.sh (.tuple [.str "missing"])), o_time, o_held, o_told, o_old, o_new, o_due, none, none, none, none, none, none]) st4 := by
  rw [j_law_6_eq]
  rw [bnd_ok h1]
  rw [bnd_ok h2]
  rw [bnd_ok h3]
  rw [bnd_ok h4]
  rw [if_neg Bool.false_ne_true]
theorem j6_abs_t (v_script : D) (v_turn : D) (v_keeps : D) (v_states : D) (v_waits : D) (v_own : D) (o_plan : Option SV) (o_until : Option SV) (o_broken : Option SV) (o_first : Option SV) (o_time : Option SV) (o_held : Option SV) (o_told : Option SV) (o_old : Option SV) (o_new : Option SV) (o_due : Option SV) {plan_59 until_65 broken_66 : D} {st0 st1 st2 st3 st4 : Stt} (h1 : (purely (m_law_plan [v_states, v_own])) st0 = .ok plan_59 st1) (h2 : (bnd (bnd (bnd (bnd (unM .USub (.int 1)) fun x60 => ixM plan_59 x60) fun x61 => ixM x61 (.int 0)) fun x62 => bnd (biM .max [v_keeps]) fun x63 => binM .Add x62 x63) fun x64 => binM .Add x64 (.int 2)) st1 = .ok until_65 st2) (h3 : (purely (m_law_break [plan_59, v_keeps, until_65])) st2 = .ok broken_66 st3) (h4 : (cmpM .IsNot broken_66 .none) st3 = .ok true st4) : j_law_6 Fl.nx [some (.sh v_script), some .stt, some (.sh v_turn), some (.sh v_keeps), some (.sh v_states), some (.sh v_waits), some (.ow v_own), o_plan, o_until, o_broken, o_first, o_time, o_held, o_told, o_old, o_new, o_due, none, none, none, none, none, none] st0 = (j_law_8 Fl.nx [some (.sh v_script), some .stt, some (.sh v_turn), some (.sh v_keeps), some (.sh v_states), some (.sh v_waits), some (.sh v_own), some (.sh plan_59), some (.sh until_65), some (.sh broken_66), some (.sh (.tuple [.str "told", broken_66])), o_time, o_held, o_told, o_old, o_new, o_due, none, none, none, none, none, none]) st4 := by
  rw [j_law_6_eq]
  rw [bnd_ok h1]
  rw [bnd_ok h2]
  rw [bnd_ok h3]
  rw [bnd_ok h4]
  rw [if_pos rfl]
theorem j4_abs_e (v_script : D) (v_turn : D) (v_keeps : D) (v_states : D) (o_waits : Option SV) (o_own : Option SV) (o_plan : Option SV) (o_until : Option SV) (o_broken : Option SV) (o_first : Option SV) (o_time : Option SV) (o_held : Option SV) (o_told : Option SV) (o_old : Option SV) (o_new : Option SV) (o_due : Option SV) {waits_31 own_41 : D} {st0 st1 st2 st3 st4 : Stt} (h1 : (purely (m_law_waits [v_states, v_keeps])) st0 = .ok waits_31 st1) (h2 : (bnd (bnd (bnd (bnd (toldM (purely (m_least_waits [v_states, v_keeps]))) fun x32 => DI.ret [x32, waits_31]) fun x33 => guardM (decide (x33.length = 2)) (purely (DI.m_law_same x33))) fun x34 => truthM x34) fun b35 => DI.ret (!b35)) st1 = .ok false st2) (h3 : (bnd (bnd (bnd (biM .len [v_states]) fun x37 => binM .Sub x37 (.int 1)) fun x38 => bnd (intM x38) fun j39 => guardM (rgOk 0 j39) (DI.ret (rangeD 0 j39))) fun xs40 => guardM (fits xs40.length) (bnd (compM (c_law_5 [some (.sh v_script), some .stt, some (.sh v_turn), some (.sh v_keeps), some (.sh v_states), some (.sh waits_31), o_own, o_plan, o_until, o_broken, o_first, o_time, o_held, o_told, o_old, o_new, o_due, none, none, none, none, none, none]) xs40) fun ds => DI.ret (.list ds))) st2 = .ok own_41 st3) (h4 : (bnd (bnd (ixM waits_31 (.int 0)) fun x42 => cmpM .Eq x42 (.str "told")) fun b43 => if b43 = true then bnd (DI.m_law_next [.int 2]) fun x44 => cmpM .Eq x44 (.int 0) else DI.ret false) st3 = .ok false st4) : j_law_4 Fl.nx [some (.sh v_script), some .stt, some (.sh v_turn), some (.sh v_keeps), some (.sh v_states), o_waits, o_own, o_plan, o_until, o_broken, o_first, o_time, o_held, o_told, o_old, o_new, o_due, none, none, none, none, none, none] st0 = (j_law_6 Fl.nx [some (.sh v_script), some .stt, some (.sh v_turn), some (.sh v_keeps), some (.sh v_states), some (.sh waits_31), some (.ow own_41), o_plan, o_until, o_broken, o_first, o_time, o_held, o_told, o_old, o_new, o_due, none, none, none, none, none, none]) st4 := by
  rw [j_law_4_eq]
  rw [bnd_ok h1]
  rw [bnd_ok h2]
  rw [if_neg Bool.false_ne_true]
  rw [bnd_ok h3]
  rw [bnd_ok h4]
  rw [if_neg Bool.false_ne_true]
theorem j4_abs_t (v_script : D) (v_turn : D) (v_keeps : D) (v_states : D) (o_waits : Option SV) (o_own : Option SV) (o_plan : Option SV) (o_until : Option SV) (o_broken : Option SV) (o_first : Option SV) (o_time : Option SV) (o_held : Option SV) (o_told : Option SV) (o_old : Option SV) (o_new : Option SV) (o_due : Option SV) {waits_31 own_41 own_48 : D} {st0 st1 st2 st3 st4 st5 : Stt} (h1 : (purely (m_law_waits [v_states, v_keeps])) st0 = .ok waits_31 st1) (h2 : (bnd (bnd (bnd (bnd (toldM (purely (m_least_waits [v_states, v_keeps]))) fun x32 => DI.ret [x32, waits_31]) fun x33 => guardM (decide (x33.length = 2)) (purely (DI.m_law_same x33))) fun x34 => truthM x34) fun b35 => DI.ret (!b35)) st1 = .ok false st2) (h3 : (bnd (bnd (bnd (biM .len [v_states]) fun x37 => binM .Sub x37 (.int 1)) fun x38 => bnd (intM x38) fun j39 => guardM (rgOk 0 j39) (DI.ret (rangeD 0 j39))) fun xs40 => guardM (fits xs40.length) (bnd (compM (c_law_5 [some (.sh v_script), some .stt, some (.sh v_turn), some (.sh v_keeps), some (.sh v_states), some (.sh waits_31), o_own, o_plan, o_until, o_broken, o_first, o_time, o_held, o_told, o_old, o_new, o_due, none, none, none, none, none, none]) xs40) fun ds => DI.ret (.list ds))) st2 = .ok own_41 st3) (h4 : (bnd (bnd (ixM waits_31 (.int 0)) fun x42 => cmpM .Eq x42 (.str "told")) fun b43 => if b43 = true then bnd (DI.m_law_next [.int 2]) fun x44 => cmpM .Eq x44 (.int 0) else DI.ret false) st3 = .ok true st4) (h5 : (bnd (bnd (ixM waits_31 (.int 1)) fun x46 => optM (seqOf x46)) fun xs47 => guardM (fits xs47.length) (bnd (compM (c_law_7 [some (.sh v_script), some .stt, some (.sh v_turn), some (.sh v_keeps), some (.sh v_states), some (.sh waits_31), some (.ow own_41), o_plan, o_until, o_broken, o_first, o_time, o_held, o_told, o_old, o_new, o_due, none, none, none, none, none, none]) xs47) fun ds => DI.ret (.list ds))) st4 = .ok own_48 st5) : j_law_4 Fl.nx [some (.sh v_script), some .stt, some (.sh v_turn), some (.sh v_keeps), some (.sh v_states), o_waits, o_own, o_plan, o_until, o_broken, o_first, o_time, o_held, o_told, o_old, o_new, o_due, none, none, none, none, none, none] st0 = (j_law_6 Fl.nx [some (.sh v_script), some .stt, some (.sh v_turn), some (.sh v_keeps), some (.sh v_states), some (.sh waits_31), some (.ow own_48), o_plan, o_until, o_broken, o_first, o_time, o_held, o_told, o_old, o_new, o_due, none, none, none, none, none, none]) st5 := by
  rw [j_law_4_eq]
  rw [bnd_ok h1]
  rw [bnd_ok h2]
  rw [if_neg Bool.false_ne_true]
  rw [bnd_ok h3]
  rw [bnd_ok h4]
  rw [if_pos rfl]
  rw [bnd_ok h5]
theorem f1_abs_e (v_script : D) (o_turn : Option SV) (o_keeps : Option SV) (o_states : Option SV) (o_waits : Option SV) (o_own : Option SV) (o_plan : Option SV) (o_until : Option SV) (o_broken : Option SV) (o_first : Option SV) (o_time : Option SV) (o_held : Option SV) (o_told : Option SV) (o_old : Option SV) (o_new : Option SV) (o_due : Option SV) (turn5 : D) {keeps_8 states_15 : D} {st0 st1 st2 st3 : Stt} (h1 : (bnd (bnd (guardM (fits (rangeD 0 3).length) (bnd (compM (c_law_2 [some (.sh v_script), some .stt, some (.sh turn5), o_keeps, o_states, o_waits, o_own, o_plan, o_until, o_broken, o_first, o_time, o_held, o_told, o_old, o_new, o_due, none, none, none, none, none, none]) (rangeD 0 3)) fun ds => DI.ret (.list ds))) fun x6 => DI.ret [x6]) fun x7 => biM .tuple x7) st0 = .ok keeps_8 st1) (h2 : (bnd (bnd (bnd (bnd (bnd (DI.m_law_next [.int 4]) fun x9 => binM .Add (.int 1) x9) fun x10 => bnd (intM x10) fun j11 => guardM (rgOk 0 j11) (DI.ret (rangeD 0 j11))) fun xs12 => guardM (fits xs12.length) (bnd (compM (c_law_3 [some (.sh v_script), some .stt, some (.sh turn5), some (.sh keeps_8), o_states, o_waits, o_own, o_plan, o_until, o_broken, o_first, o_time, o_held, o_told, o_old, o_new, o_due, none, none, none, none, none, none]) xs12) fun ds => DI.ret (.list ds))) fun x13 => DI.ret [x13]) fun x14 => biM .tuple x14) st1 = .ok states_15 st2) (h3 : (bnd (DI.m_law_next [.int 2]) fun x16 => cmpM .Eq x16 (.int 0)) st2 = .ok false st3) : f_law_1 turn5 [some (.sh v_script), some .stt, o_turn, o_keeps, o_states, o_waits, o_own, o_plan, o_until, o_broken, o_first, o_time, o_held, o_told, o_old, o_new, o_due, none, none, none, none, none, none] st0 = (j_law_4 Fl.nx [some (.sh v_script), some .stt, some (.sh turn5), some (.sh keeps_8), some (.sh states_15), o_waits, o_own, o_plan, o_until, o_broken, o_first, o_time, o_held, o_told, o_old, o_new, o_due, none, none, none, none, none, none]) st3 := by
  rw [f_law_1_eq]
  rw [bnd_ok h1]
  rw [bnd_ok h2]
  rw [bnd_ok h3]
  rw [if_neg Bool.false_ne_true]
theorem f1_abs_t (v_script : D) (o_turn : Option SV) (o_keeps : Option SV) (o_states : Option SV) (o_waits : Option SV) (o_own : Option SV) (o_plan : Option SV) (o_until : Option SV) (o_broken : Option SV) (o_first : Option SV) (o_time : Option SV) (o_held : Option SV) (o_told : Option SV) (o_old : Option SV) (o_new : Option SV) (o_due : Option SV) (turn5 : D) {keeps_8 states_15 old_19 new_21 states_22 : D} {st0 st1 st2 st3 st4 st5 st6 st7 : Stt} (h1 : (bnd (bnd (guardM (fits (rangeD 0 3).length) (bnd (compM (c_law_2 [some (.sh v_script), some .stt, some (.sh turn5), o_keeps, o_states, o_waits, o_own, o_plan, o_until, o_broken, o_first, o_time, o_held, o_told, o_old, o_new, o_due, none, none, none, none, none, none]) (rangeD 0 3)) fun ds => DI.ret (.list ds))) fun x6 => DI.ret [x6]) fun x7 => biM .tuple x7) st0 = .ok keeps_8 st1) (h2 : (bnd (bnd (bnd (bnd (bnd (DI.m_law_next [.int 4]) fun x9 => binM .Add (.int 1) x9) fun x10 => bnd (intM x10) fun j11 => guardM (rgOk 0 j11) (DI.ret (rangeD 0 j11))) fun xs12 => guardM (fits xs12.length) (bnd (compM (c_law_3 [some (.sh v_script), some .stt, some (.sh turn5), some (.sh keeps_8), o_states, o_waits, o_own, o_plan, o_until, o_broken, o_first, o_time, o_held, o_told, o_old, o_new, o_due, none, none, none, none, none, none]) xs12) fun ds => DI.ret (.list ds))) fun x13 => DI.ret [x13]) fun x14 => biM .tuple x14) st1 = .ok states_15 st2) (h3 : (bnd (DI.m_law_next [.int 2]) fun x16 => cmpM .Eq x16 (.int 0)) st2 = .ok true st3) (h4 : (bnd (DI.m_law_next [.int 5]) fun x18 => binM .Add (.int 1) x18) st3 = .ok old_19 st4) (h5 : (bnd (DI.m_law_next [.int 5]) fun x20 => binM .Add (.int 6) x20) st4 = .ok new_21 st5) (h6 : (purely (m_ahead_plan [old_19, new_21])) st5 = .ok states_22 st6) (h7 : (bnd (cmpM .NotEq states_22 (.tuple [.tuple [.tuple [old_19], .tuple [old_19], .tuple [old_19], .tuple [old_19]], .tuple [.tuple [old_19], .tuple [old_19, new_21], .tuple [old_19], .tuple [old_19]], .tuple [.tuple [old_19, new_21], .tuple [old_19, new_21], .tuple [old_19, new_21], .tuple [new_21]], .tuple [.tuple [new_21], .tuple [old_19, new_21], .tuple [new_21], .tuple [new_21]], .tuple [.tuple [new_21], .tuple [new_21], .tuple [new_21], .tuple [new_21]]])) fun b23 => if b23 = true then DI.ret true else bnd (bnd (purely (m_ahead_plan [new_21, old_19])) fun x24 => ixM x24 (.int 1)) fun x25 => cmpM .NotEq x25 (.tuple [.tuple [new_21], .tuple [old_19, new_21], .tuple [new_21], .tuple [new_21]])) st6 = .ok false st7) : f_law_1 turn5 [some (.sh v_script), some .stt, o_turn, o_keeps, o_states, o_waits, o_own, o_plan, o_until, o_broken, o_first, o_time, o_held, o_told, o_old, o_new, o_due, none, none, none, none, none, none] st0 = (j_law_4 Fl.nx [some (.sh v_script), some .stt, some (.sh turn5), some (.sh keeps_8), some (.sh states_22), o_waits, o_own, o_plan, o_until, o_broken, o_first, o_time, o_held, o_told, some (.sh old_19), some (.sh new_21), some (.sh (.tuple [.tuple [.tuple [old_19], .tuple [old_19], .tuple [old_19], .tuple [old_19]], .tuple [.tuple [old_19], .tuple [old_19, new_21], .tuple [old_19], .tuple [old_19]], .tuple [.tuple [old_19, new_21], .tuple [old_19, new_21], .tuple [old_19, new_21], .tuple [new_21]], .tuple [.tuple [new_21], .tuple [old_19, new_21], .tuple [new_21], .tuple [new_21]], .tuple [.tuple [new_21], .tuple [new_21], .tuple [new_21], .tuple [new_21]]])), none, none, none, none, none, none]) st7 := by
  rw [f_law_1_eq]
  rw [bnd_ok h1]
  rw [bnd_ok h2]
  rw [bnd_ok h3]
  rw [if_pos rfl]
  rw [bnd_ok h4]
  rw [bnd_ok h5]
  rw [bnd_ok h6]
  rw [bnd_ok h7]
  rw [if_neg Bool.false_ne_true]
end K32
end
section
set_option Elab.async false
set_option linter.all false
set_option autoImplicit false
set_option maxRecDepth 100000
set_option maxHeartbeats 2000000
/-! K32y8: the end of a turn of the law, run. -/
namespace K32
open PySem DI
theorem hl_len (P : Pt) (K t : Int) : (hl P K t).length ≤ P.length := by
  unfold hl
  have := List.length_filter_le (hB P K t) (List.range P.length)
  rw [List.length_range] at this
  exact this
def heldR (P : Pt) (t K : Int) : D := .tuple ((hl P K t).map fun i => PyData.int (bt P i))
def heldD (P : Pt) (k0 k1 k2 t : Int) : D := .tuple (([k0, k1, k2] : List Int).map (heldR P t))
theorem c11_at (v_script v_turn v_keeps v_states v_waits v_own v_until v_broken v_first : D) (v_time v_keep : D) (o_held o_told o_old o_new o_due : Option SV) {P : Pt} {i : Nat} (h : i < P.length) :
    c_law_11 [some (.sh v_script), some .stt, some (.sh v_turn), some (.sh v_keeps), some (.sh v_states), some (.sh v_waits), some (.sh v_own), some (.sh (pe P)), some (.sh v_until), some (.sh v_broken), some (.sh v_first), some (.sh v_time), o_held, o_told, o_old, o_new, o_due, none, none, some (.sh v_keep), none, none, none] (.int (i : Int)) = DI.ret (some (.int (bt P i))) := by
  rw [c_law_11_eq, ix_bt h]
  rfl
theorem c9_at (v_script v_turn v_keeps v_states v_waits v_own v_until v_broken v_first : D) (o_held o_told o_old o_new o_due : Option SV) {P : Pt} (okP : POk P) (K t : Int) :
    c_law_9 [some (.sh v_script), some .stt, some (.sh v_turn), some (.sh v_keeps), some (.sh v_states), some (.sh v_waits), some (.sh v_own), some (.sh (pe P)), some (.sh v_until), some (.sh v_broken), some (.sh v_first), some (.sh (.int t)), o_held, o_told, o_old, o_new, o_due, none, none, none, none, none, none] (.int K) = DI.ret (some (heldR P t K)) := by
  have hl9 := hl_len P K t
  have n2 := okP.n2
  rw [c_law_9_eq, l_lheld okP.ok.le, pure_r, bnd_ret_l, seq_l, opt_some, bnd_ret_l, grd_fits (by rw [List.length_map]; omega),
    comp_m (mk := fun i : Nat => PyData.int (i : Int)) (g := fun i => PyData.int (bt P i)) (hl P K t) fun i hi => c11_at v_script v_turn v_keeps v_states v_waits v_own v_until v_broken v_first (.int t) (.int K) o_held o_told o_old o_new o_due (hl_lt hi)]
  rfl
theorem held_at8 (v_script v_turn v_states v_waits v_own v_until v_broken v_first : D) (o_held o_told o_old o_new o_due : Option SV) {P : Pt} (okP : POk P) (k0 k1 k2 t : Int) :
    bnd (bnd (bnd (optM (seqOf (kt [k0, k1, k2]))) fun xs71 => guardM (fits xs71.length) (bnd (compM (c_law_9 [some (.sh v_script), some .stt, some (.sh v_turn), some (.sh (kt [k0, k1, k2])), some (.sh v_states), some (.sh v_waits), some (.sh v_own), some (.sh (pe P)), some (.sh v_until), some (.sh v_broken), some (.sh v_first), some (.sh (.int t)), o_held, o_told, o_old, o_new, o_due, none, none, none, none, none, none]) xs71) fun ds => DI.ret (PyData.list ds))) fun x72 => DI.ret [x72]) (fun x73 => biM .tuple x73) = DI.ret (heldD P k0 k1 k2 t) := by
  rw [seq_kt, opt_some, bnd_ret_l, grd_fits (by simp), comp_m (mk := PyData.int) (g := heldR P t) [k0, k1, k2] fun K _ => c9_at v_script v_turn _ v_states v_waits v_own v_until v_broken v_first o_held o_told o_old o_new o_due okP K t]
  rfl
def toldD (d : D) : D := .tuple [.str "told", d]
theorem told8 {S : List Sx} (hn1 : 1 ≤ S.length) (hn : S.length ≤ 12) {k0 k1 k2 : Int} (hk : Kp3 [k0, k1, k2]) {ws : List Int} (okP : POk (pln S ws)) {t : Int} (t0 : 0 ≤ t) (t1 : t ≤ 1000000) :
    bnd (bnd (toldM (bnd (bnd (bnd (biM .tuple [.list (ws.map PyData.int)]) fun x75 => DI.ret [x75]) fun ds76 => DI.ret (se S :: ds76)) fun x77 => guardM (decide (x77.length = 2)) (purely (m_with_waits x77)))) fun x78 => bnd (bnd (toldM (purely (m_is_safe [pe (pln S ws), kt [k0, k1, k2]]))) fun x79 => bnd (bnd (toldM (purely (m_first_break [pe (pln S ws), kt [k0, k1, k2]]))) fun x80 => bnd (bnd (toldM (purely (m_may_hold [pe (pln S ws), kt [k0, k1, k2], .int t]))) fun x81 => DI.ret [x81]) fun ds82 => DI.ret (x80 :: ds82)) fun ds83 => DI.ret (x79 :: ds83)) fun ds84 => DI.ret (x78 :: ds84)) (fun ds85 => guardM (fits ds85.length) (DI.ret (PyData.list ds85))) =
    DI.ret (.list [toldD (pe (pln S ws)), toldD (.bool (brk (pln S ws) k0 k1 k2).isNone), fiD (pln S ws) (brk (pln S ws) k0 k1 k2), toldD (heldD (pln S ws) k0 k1 k2 t)]) := by
  have e1 : toldM (bnd (bnd (bnd (biM .tuple [.list (ws.map PyData.int)]) fun x75 => DI.ret [x75]) fun ds76 => DI.ret (se S :: ds76)) fun x77 => guardM (decide (x77.length = 2)) (purely (m_with_waits x77))) = DI.ret (toldD (pe (pln S ws))) := by
    rw [tuple_l, bnd_ret_l, bnd_ret_l, bnd_ret_l, grd_dec (by rfl), l_with (S := S) (by intro z; rw [z] at hn1; simp at hn1) (by omega) ws (seq_t _), pure_r]
    rfl
  have e2 : toldM (purely (m_is_safe [pe (pln S ws), kt [k0, k1, k2]])) = DI.ret (toldD (.bool (brk (pln S ws) k0 k1 k2).isNone)) := by
    have z : safeB (pln S ws) k0 k1 k2 = (brk (pln S ws) k0 k1 k2).isNone := safe_none
    rw [l_safe okP hk, pure_r]
    exact congrArg (fun b => DI.ret (toldD (.bool b))) z
  have e4 : toldM (purely (m_may_hold [pe (pln S ws), kt [k0, k1, k2], .int t])) = DI.ret (toldD (heldD (pln S ws) k0 k1 k2 t)) := by
    rw [l_may okP hk t0 t1, pure_r]
    rfl
  rw [e1, e2, told_first okP hk, e4]
  rfl
end K32
end
section
set_option Elab.async false
set_option linter.all false
set_option autoImplicit false
set_option maxRecDepth 100000
set_option maxHeartbeats 2000000
/-! K32y9: the end of a turn of the law: what is compared, what longer waits tell. -/
namespace K32
open PySem DI
structure P3 (P : Pt) : Prop where
  le : P.length ≤ 12
  r : ∀ p ∈ P, S3 p.2 ∧ 0 ≤ p.1 ∧ p.1 ≤ 2000
theorem pln_p3 {S : List Sx} {ws : List Int} (h : S.length = ws.length + 1) (hn : S.length ≤ 12) (hS : ∀ s ∈ S, S3 s) (hw : wOk ws) : P3 (pln S ws) := by
  have hlen := pln_len h
  refine ⟨by omega, fun p hp => ?_⟩
  obtain ⟨i, hi, rfl⟩ := List.getElem_of_mem hp
  have hi' : i ≤ ws.length := by omega
  have b1 := pln_bt h hi'
  have b2 := pln_st h hi'
  have g : (pln S ws).getD i r0 = (pln S ws)[i] := by simp [List.getD, hi]
  unfold bt at b1
  unfold stS at b2
  rw [g] at b1 b2
  have q := sum_rng hw i hi'
  rw [b1, b2]
  have hi2 : i < S.length := by omega
  have e : S.getD i r0.2 = S[i] := by simp [List.getD, hi2]
  rw [e]
  exact ⟨hS _ (List.getElem_mem hi2), by omega, by omega⟩
theorem P3.bt {P : Pt} (h : P3 P) (i : Nat) : 0 ≤ K32.bt P i ∧ K32.bt P i ≤ 2000 := by
  unfold K32.bt
  by_cases hi : i < P.length
  · have e : P.getD i r0 = P[i] := by simp [List.getD, hi]
    rw [e]
    exact (h.r _ (List.getElem_mem hi)).2
  · have e : P.getD i r0 = r0 := by simp [List.getD, hi]
    rw [e]
    decide
theorem sm_heldR {P : Pt} (h : P3 P) (t K : Int) : Sm 504 1 (heldR P t K) := by
  refine (sm_t (w := 41) (h := 0) (n := 12) (fun x hx => ?_) (by rw [List.length_map]; have := hl_len P K t; have := h.le; omega))
  obtain ⟨i, _, rfl⟩ := List.mem_map.mp hx
  have := h.bt i
  exact sm_i (by omega) (by omega)
theorem sm_held {P : Pt} (h : P3 P) (k0 k1 k2 t : Int) : Sm 1515 2 (heldD P k0 k1 k2 t) := by
  refine (sm_t (w := 504) (h := 1) (n := 3) (fun x hx => ?_) (by simp))
  obtain ⟨K, _, rfl⟩ := List.mem_map.mp hx
  exact sm_heldR h t K
theorem sm_toldD {w h : Nat} {d : D} (z : Sm w h d) (hw : 41 ≤ w) : Sm (2 * (w + 1)) (h + 1) (toldD d) := by
  refine sm_t (w := w) (h := h) (n := 2) (fun x hx => ?_) (by simp)
  simp only [List.mem_cons, List.not_mem_nil, or_false] at hx
  rcases hx with rfl | rfl
  · exact sm_told.up hw (by omega)
  · exact z
theorem sm_fi {P : Pt} (h : P3 P) {k0 k1 k2 : Int} (hk : Kq k0 k1 k2) : Sm 338 2 (fiD P (brk P k0 k1 k2)) := by
  cases e : brk P k0 k1 k2 with
  | none => exact (sm_t (w := 41) (h := 0) (n := 1) (xs := [.str "missing"]) (fun x hx => by rw [List.mem_singleton.mp hx]; exact sm_miss) (by simp)).up (by omega) (by omega)
  | some q =>
    unfold brk at e
    obtain ⟨t, ht, e⟩ := List.exists_of_findSome?_eq_some e
    obtain ⟨i, hi, z⟩ := mo_iff.mp ht
    have rg : 0 ≤ t ∧ t ≤ 3000 := by
      have b := h.bt i
      rcases z with z | ⟨K, hK, z⟩
      · omega
      · have := hk.a
        have := hk.b
        have := hk.c
        simp only [List.mem_cons, List.not_mem_nil, or_false] at hK
        rcases hK with rfl | rfl | rfl <;> omega
    have eq1 : q.1 = t := by
      cases c : tr P k0 k1 k2 t with
      | none => rw [c] at e; cases e
      | some y => rw [c] at e; cases e; rfl
    have sb : Sm 168 1 (bkE P q) := by
      refine sm_t (w := 41) (h := 0) (n := 4) (fun x hx => ?_) (by simp)
      have b1 := h.bt q.2.1
      have b2 := h.bt q.2.2.1
      have b3 := h.bt q.2.2.2
      simp only [List.mem_cons, List.not_mem_nil, or_false] at hx
      rcases hx with rfl | rfl | rfl | rfl <;> exact sm_i (by omega) (by omega)
    exact sm_toldD sb (by omega)
theorem ok8 {P : Pt} (h : P3 P) {k0 k1 k2 : Int} (hk : Kq k0 k1 k2) (t : Int) (b : Bool) : okD (.list [toldD (pe P), toldD (.bool b), fiD P (brk P k0 k1 k2), toldD (heldD P k0 k1 k2 t)]) = true := by
  refine Sm.ok (w := 97836) (h := 6) ?_ (by omega) (by omega)
  refine sm_l (w := 24458) (h := 5) (n := 4) (fun x hx => ?_) (by simp)
  simp only [List.mem_cons, List.not_mem_nil, or_false] at hx
  rcases hx with rfl | rfl | rfl | rfl
  · exact (sm_toldD (sm_pe (fun p hp => ⟨(h.r p hp).1, (h.r p hp).2.1, by have := (h.r p hp).2.2; omega⟩) h.le) (by omega)).up (by omega) (by omega)
  · exact (sm_toldD (sm_b b) (by omega)).up (by omega) (by omega)
  · exact (sm_fi h hk).up (by omega) (by omega)
  · exact (sm_toldD (sm_held h k0 k1 k2 t) (by omega)).up (by omega) (by omega)
theorem due8 (P : Pt) (b : Option Bk) (held told : D) (ok : okD told = true) (e : told = .list [toldD (pe P), toldD (.bool b.isNone), fiD P b, toldD held]) :
    bnd (bnd (bnd (bnd (bnd (bnd (bnd (bnd (bnd (bnd (bnd (bnd (cmpM .Is (bkD P b) .none) fun c87 => DI.ret (PyData.bool c87)) fun x88 => DI.ret [x88]) fun ds89 => DI.ret ((PyData.str "told") :: ds89)) fun ds90 => guardM (fits ds90.length) (DI.ret (PyData.tuple ds90))) fun x91 => DI.ret ([x91, fiD P b, PyData.tuple [.str "told", held]])) fun ds92 => DI.ret ((PyData.tuple [.str "told", pe P]) :: ds92)) fun ds93 => guardM (fits ds93.length) (DI.ret (PyData.list ds93))) fun x94 => DI.ret [x94]) fun ds95 => DI.ret (told :: ds95)) fun x96 => guardM (decide (x96.length = 2)) (purely (DI.m_law_same x96))) fun x97 => truthM x97) (fun b98 => DI.ret (!b98)) = DI.ret false := by
  rw [is_bk]
  generalize fiD P b = f at e ⊢
  generalize b.isNone = c at e ⊢
  generalize pe P = p at e ⊢
  have e2 : bnd (bnd (bnd (bnd (bnd (bnd (bnd (bnd (bnd (bnd (DI.ret c) fun c87 => DI.ret (PyData.bool c87)) fun x88 => DI.ret [x88]) fun ds89 => DI.ret ((PyData.str "told") :: ds89)) fun ds90 => guardM (fits ds90.length) (DI.ret (PyData.tuple ds90))) fun x91 => DI.ret ([x91, f, PyData.tuple [.str "told", held]])) fun ds92 => DI.ret ((PyData.tuple [.str "told", p]) :: ds92)) fun ds93 => guardM (fits ds93.length) (DI.ret (PyData.list ds93))) fun x94 => DI.ret [x94]) fun ds95 => DI.ret (told :: ds95)) (fun x96 => guardM (decide (x96.length = 2)) (purely (DI.m_law_same x96))) = purely (DI.m_law_same [told, .list [toldD p, toldD (.bool c), f, toldD held]]) := rfl
  rw [e2, ← e, same_true ok, pure_r, bnd_ret_l, tr_b, bnd_ret_l]
  rfl
end K32
end
section
set_option Elab.async false
set_option linter.all false
set_option autoImplicit false
set_option maxRecDepth 100000
set_option maxHeartbeats 2000000
/-! K32z1: the end of a turn of the law, run to its end. -/
namespace K32
open PySem DI
structure Wg (S : List Sx) (k0 k1 k2 : Int) (f : List Int) : Prop where
  w : w8 f
  l : S.length = f.length + 1
  s : 1 < S.length → safeB (pln S f) k0 k1 k2 = true
theorem if_f {α : Type} (a b : α) : (if false = true then a else b) = b := rfl
theorem if_t {α : Type} (a b : α) : (if true = true then a else b) = a := rfl
theorem ix0 (x : D) (xs : List D) : ixM (.tuple (x :: xs)) (.int 0) = DI.ret x := ixt_at (x :: xs) 0 (Nat.succ_pos _)
theorem ix1 (x y : D) (xs : List D) : ixM (.tuple (x :: y :: xs)) (.int 1) = DI.ret y := ixt_at (x :: y :: xs) 1 (Nat.succ_lt_succ (Nat.succ_pos _))
theorem bnd_ok2 {α β γ : Type} {m : M α} {f : α → M β} {g : β → M γ} {st st' : Stt} {a : α} (h : m st = .ok a st') : bnd (bnd m f) g st = bnd (f a) g st' := by
  show R.next (R.next (m st) f) g = _
  rw [h]
  rfl
theorem bnd_ok3 {α β γ δ : Type} {m : M α} {f : α → M β} {g : β → M γ} {i : γ → M δ} {st st' : Stt} {a : α} (h : m st = .ok a st') : bnd (bnd (bnd m f) g) i st = bnd (bnd (f a) g) i st' := by
  show R.next (R.next (R.next (m st) f) g) i = _
  rw [h]
  rfl
section
variable {is : List Int} (hL : 0 < is.length ∧ is.length < 1073741824)
include hL
theorem c10_at (v_script v_turn v_keeps v_states v_waits v_own v_plan v_until v_broken v_first v_time v_held v_told : D) (o_old o_new o_due : Option SV) (a k : Int) (h0 : 0 ≤ k) (h1 : k < 900000) :
    ∃ v, c_law_10 [some (.sh v_script), some .stt, some (.sh v_turn), some (.sh v_keeps), some (.sh v_states), some (.sh v_waits), some (.sh v_own), some (.sh v_plan), some (.sh v_until), some (.sh v_broken), some (.sh v_first), some (.sh v_time), some (.sh v_held), some (.sh v_told), o_old, o_new, o_due, none, none, none, none, none, none] (.int a) (St is k) = .ok (some (.int v)) (St is (k + 1)) ∧ (a ≤ v ∧ v ≤ a + 3) := by
  obtain ⟨v, e, v0, v1⟩ := nx_at hL (k := k) (m := 4) (by omega) (by omega)
  refine ⟨a + v, ?_, by omega, by omega⟩
  rw [c_law_10_eq]
  refine noErr_ok ?_
  have e2 : bnd (DI.m_law_next [.int 4]) (fun x123 => binM .Add (.int a) x123) (St is k) = .ok (.int (a + v)) (St is (k + 1)) := by
    rw [bnd_ok e, add_ii]
  rw [bnd_ok e2]
theorem last8 (v_script v_turn v_own v_plan v_until v_broken v_first v_time v_held v_told : D) (o_old o_new o_due : Option SV) {S : List Sx} (hn1 : 1 ≤ S.length) (hn : S.length ≤ 12) (hS : ∀ s ∈ S, SOk s) {k0 k1 k2 : Int} (hk : Kq k0 k1 k2) (W : Option (List Int)) (hW : ∀ f, W = some f → Wg S k0 k1 k2 f) {k : Int} (h0 : 0 ≤ k) (h1 : k + 100 < 900000) :
    ∃ k', (bnd (bnd (ixM (wD W) (.int 0)) fun x100 => cmpM .Eq x100 (.str "told")) fun b101 => if b101 = true then bnd (bnd (biM .len [se S]) fun x102 => cmpM .Gt x102 (.int 1)) fun b103 => if b103 = true then bnd (bnd (bnd (bnd (bnd (bnd (bnd (bnd (bnd (bnd (bnd (ixM (wD W) (.int 1)) fun x104 => optM (seqOf x104)) fun xs105 => guardM (fits xs105.length) (bnd (compM (c_law_10 [some (.sh v_script), some .stt, some (.sh v_turn), some (.sh (kt [k0, k1, k2])), some (.sh (se S)), some (.sh (wD W)), some (.sh v_own), some (.sh v_plan), some (.sh v_until), some (.sh v_broken), some (.sh v_first), some (.sh v_time), some (.sh v_held), some (.sh v_told), o_old, o_new, o_due, none, none, none, none, none, none]) xs105) fun ds => DI.ret (PyData.list ds))) fun x106 => DI.ret [x106]) fun x107 => biM .tuple x107) fun x108 => DI.ret [x108]) fun ds109 => DI.ret (se S :: ds109)) fun x110 => guardM (decide (x110.length = 2)) (purely (m_with_waits x110))) fun x111 => DI.ret [x111, kt [k0, k1, k2]]) fun x112 => guardM (decide (x112.length = 2)) (purely (m_is_safe x112))) fun x113 => truthM x113) fun b114 => DI.ret (!b114) else DI.ret false else DI.ret false) (St is k) = .ok false (St is k') ∧ k ≤ k' ∧ k' ≤ k + 12 := by
  cases W with
  | none =>
    refine ⟨k, ?_, by omega, by omega⟩
    have e1 : (bnd (ixM (wD none) (.int 0)) fun x100 => cmpM .Eq x100 (.str "told")) = DI.ret false := by
      show (bnd (ixM (.tuple [.str "missing"]) (.int 0)) fun x100 => cmpM .Eq x100 (.str "told")) = DI.ret false
      rw [ix0, bnd_ret_l, eq_miss]
    rw [e1, bnd_ret_l, if_f]
  | some f =>
    have w := hW f rfl
    have e1 : (bnd (ixM (wD (some f)) (.int 0)) fun x100 => cmpM .Eq x100 (.str "told")) = DI.ret true := by
      show (bnd (ixM (.tuple [.str "told", .tuple (f.map PyData.int)]) (.int 0)) fun x100 => cmpM .Eq x100 (.str "told")) = DI.ret true
      rw [ix0, bnd_ret_l, eq_told]
    have e2 : (bnd (biM .len [se S]) fun x102 => cmpM .Gt x102 (.int 1)) = DI.ret (decide ((1 : Int) < S.length)) := by
      rw [len_se, bnd_ret_l, gt_ii]
    rw [e1, bnd_ret_l, if_t, e2, bnd_ret_l]
    by_cases h2 : 1 < S.length
    · rw [decide_eq_true (by omega), if_t]
      have lf := w.l
      have e3 : (bnd (ixM (wD (some f)) (.int 1)) fun x104 => optM (seqOf x104)) = DI.ret (f.map PyData.int) := by
        show (bnd (ixM (.tuple [.str "told", .tuple (f.map PyData.int)]) (.int 1)) fun x104 => optM (seqOf x104)) = _
        rw [ix1, bnd_ret_l, seq_t, opt_some]
      obtain ⟨vs, e4, lv, r⟩ := rowD_at hL (mk := PyData.int) (R := fun a v => a ≤ v ∧ v ≤ a + 3) (fun a k h0 h1 => c10_at hL v_script v_turn (kt [k0, k1, k2]) (se S) (wD (some f)) v_own v_plan v_until v_broken v_first v_time v_held v_told o_old o_new o_due a k h0 h1) f k h0 (by omega)
      have wv : wOk vs := fun v hv => by
        obtain ⟨i, hi, rfl⟩ := List.getElem_of_mem hv
        have := r i (by omega) hi
        have := w.w _ (List.getElem_mem (show i < f.length by omega))
        omega
      have okV := pln_ok (ws := vs) (by omega) (by omega) hS wv
      have sf : safeB (pln S vs) k0 k1 k2 = true := longer (ws := f) lf (by omega) (by omega) hS w.w.ok wv (fun i h h' => (r i h h').1) hk.a.1 hk.b.1 hk.c.1 (w.s h2)
      refine ⟨k + f.length, ?_, by omega, by omega⟩
      rw [e3, bnd_ret_l, grd_fits (by rw [List.length_map]; omega)]
      generalize c_law_10 _ = c10 at e4 ⊢
      have e5 : bnd (bnd (bnd (compM c10 (f.map PyData.int)) fun ds => DI.ret (PyData.list ds)) fun x106 => DI.ret [x106]) (fun x107 => biM .tuple x107) (St is k) = .ok (.tuple (vs.map PyData.int)) (St is (k + f.length)) := by
        rw [bnd_ok3 e4]
        rfl
      have e6 : bnd (bnd (bnd (bnd (bnd (compM c10 (f.map PyData.int)) fun ds => DI.ret (PyData.list ds)) fun x106 => DI.ret [x106]) (fun x107 => biM .tuple x107)) fun x108 => DI.ret [x108]) (fun ds109 => DI.ret (se S :: ds109)) (St is k) = .ok [se S, .tuple (vs.map PyData.int)] (St is (k + f.length)) := by
        rw [bnd_ok2 e5]
        rfl
      generalize bnd (bnd (bnd (bnd (bnd (compM c10 (f.map PyData.int)) fun ds => DI.ret (PyData.list ds)) fun x106 => DI.ret [x106]) (fun x107 => biM .tuple x107)) fun x108 => DI.ret [x108]) (fun ds109 => DI.ret (se S :: ds109)) = m at e6 ⊢
      have e7 : bnd m (fun x110 => guardM (decide (x110.length = 2)) (purely (m_with_waits x110))) (St is k) = .ok (pe (pln S vs)) (St is (k + f.length)) := by
        rw [bnd_ok e6, grd_dec (by rfl), l_with (S := S) (by intro z; rw [z] at hn1; simp at hn1) (by omega) vs (seq_t _), pure_r]
      have e8 : bnd (bnd (bnd m (fun x110 => guardM (decide (x110.length = 2)) (purely (m_with_waits x110)))) fun x111 => DI.ret [x111, kt [k0, k1, k2]]) (fun x112 => guardM (decide (x112.length = 2)) (purely (m_is_safe x112))) (St is k) = .ok (.bool true) (St is (k + f.length)) := by
        rw [bnd_ok2 e7, bnd_ret_l, grd_dec (by rfl), l_safe okV hk.k3, pure_r]
        exact congrArg (fun b => R.ok (PyData.bool b) (St is (k + f.length))) sf
      generalize bnd (bnd (bnd m (fun x110 => guardM (decide (x110.length = 2)) (purely (m_with_waits x110)))) fun x111 => DI.ret [x111, kt [k0, k1, k2]]) (fun x112 => guardM (decide (x112.length = 2)) (purely (m_is_safe x112))) = m' at e8 ⊢
      rw [bnd_ok2 e8]
      rfl
    · rw [decide_eq_false (by omega), if_f]
      exact ⟨k, rfl, by omega, by omega⟩
theorem j8_at {S : List Sx} (hn1 : 1 ≤ S.length) (hn : S.length ≤ 12) (hS : ∀ s ∈ S, S3 s) {k0 k1 k2 : Int} (hk : Kq k0 k1 k2) {ws : List Int} (hl : S.length = ws.length + 1) (hw : wOk ws) (W : Option (List Int)) (hW : ∀ f, W = some f → Wg S k0 k1 k2 f) {U : Nat} (hU : U < 100000)
    (v_script v_turn : D) (o_time o_held o_told o_old o_new o_due : Option SV) {k : Int} (h0 : 0 ≤ k) (h1 : k + 200 < 900000) :
    ∃ (k' : Int) (ρ' : DI.Env), j_law_8 Fl.nx [some (.sh v_script), some .stt, some (.sh v_turn), some (.sh (kt [k0, k1, k2])), some (.sh (se S)), some (.sh (wD W)), some (.sh (.list (ws.map PyData.int))), some (.sh (pe (pln S ws))), some (.sh (.int (U : Int))), some (.sh (bkD (pln S ws) (brk (pln S ws) k0 k1 k2))), some (.sh (fiD (pln S ws) (brk (pln S ws) k0 k1 k2))), o_time, o_held, o_told, o_old, o_new, o_due, none, none, none, none, none, none] (St is k) = .ok (.nx, ρ') (St is k') ∧ Sh v_script ρ' ∧ k ≤ k' ∧ k' ≤ k + 20 := by
  have hS' : ∀ s ∈ S, SOk s := fun s hs => (hS s hs).ok
  have okP := pln_ok hl (by omega) hS' hw
  have p3 := pln_p3 hl hn hS hw
  have lP := pln_len hl
  obtain ⟨t, et, t0, t1⟩ := nx_at hL (k := k) (m := (U : Int) + 1) (by omega) (by omega)
  have s1 : bnd (bnd (binM .Add (.int (U : Int)) (.int 1)) fun x68 => DI.ret [x68]) (fun x69 => guardM (decide (x69.length = 1)) (DI.m_law_next x69)) (St is k) = .ok (.int t) (St is (k + 1)) := by
    rw [add_ii, bnd_ret_l, bnd_ret_l, grd_dec (by rfl), et]
  have s2 := held_at8 v_script v_turn (se S) (wD W) (.list (ws.map PyData.int)) (.int (U : Int)) (bkD (pln S ws) (brk (pln S ws) k0 k1 k2)) (fiD (pln S ws) (brk (pln S ws) k0 k1 k2)) o_held o_told o_old o_new o_due okP k0 k1 k2 t
  have s3 := told8 hn1 hn hk.k3 okP t0 (show t ≤ 1000000 by omega)
  have s4 := due8 (pln S ws) (brk (pln S ws) k0 k1 k2) (heldD (pln S ws) k0 k1 k2 t) _ (ok8 p3 hk t _) rfl
  obtain ⟨k', s5, a, b⟩ := last8 hL v_script v_turn (.list (ws.map PyData.int)) (pe (pln S ws)) (.int (U : Int)) (bkD (pln S ws) (brk (pln S ws) k0 k1 k2)) (fiD (pln S ws) (brk (pln S ws) k0 k1 k2)) (.int t) (heldD (pln S ws) k0 k1 k2 t) (.list [toldD (pe (pln S ws)), toldD (.bool (brk (pln S ws) k0 k1 k2).isNone), fiD (pln S ws) (brk (pln S ws) k0 k1 k2), toldD (heldD (pln S ws) k0 k1 k2 t)]) o_old o_new o_due hn1 hn hS' hk W hW (k := k + 1) (by omega) (by omega)
  exact ⟨k', _, j8_abs _ _ _ _ _ _ _ _ _ _ _ _ _ _ _ _ s1 (pur s2 _) (pur s3 _) (pur s4 _) s5, ⟨_, _, _, _, _, _, _, _, _, _, _, _, _, _, _, rfl⟩, by omega, by omega⟩
end
end K32
end
section
set_option Elab.async false
set_option linter.all false
set_option autoImplicit false
set_option maxRecDepth 100000
set_option maxHeartbeats 2000000
/-! K32z2: a turn of the law from its own waits on. -/
namespace K32
open PySem DI
theorem u_at {P : Pt} (h : P ≠ []) (k0 k1 k2 : Int) :
    bnd (bnd (bnd (bnd (unM .USub (.int 1)) fun x60 => ixM (pe P) x60) fun x61 => ixM x61 (.int 0)) fun x62 => bnd (biM .max [kt [k0, k1, k2]]) fun x63 => binM .Add x62 x63) (fun x64 => binM .Add x64 (.int 2)) = DI.ret (.int (bt P (P.length - 1) + mk3 k0 k1 k2 + 2)) := by
  have e1 : (bnd (unM .USub (.int 1)) fun x60 => ixM (pe P) x60) = ixM (pe P) (.int (-1)) := rfl
  rw [e1, last_bt h, l_max, bnd_ret_l, bnd_ret_l, add_ii, bnd_ret_l, add_ii]
theorem brk_law {P : Pt} (hP : POk P) {k0 k1 k2 : Int} (hk : Kq k0 k1 k2) {U : Nat} (hU : U < 1000000) (eU : (U : Int) = bt P (P.length - 1) + mk3 k0 k1 k2 + 2) :
    m_law_break [pe P, kt [k0, k1, k2], .int (U : Int)] = DI.ret (bkD P (brk P k0 k1 k2)) := by
  have g := mk3_ge k0 k1 k2
  have e := law_first hP hk.a.1 hk.b.1 hk.c.1 U (fun i hi => by
    have := bt_le hP.ok.up (i := i) (j := P.length - 1) (by omega) (by omega)
    have := hk.a
    omega)
  rw [l_lbreak hP.ok k0 k1 k2 U hU, e]
  rfl
theorem fi_some (P : Pt) (q : Bk) : fiD P (some q) = .tuple [.str "told", bkD P (some q)] := rfl
theorem fi_none (P : Pt) : fiD P none = .tuple [.str "missing"] := rfl
section
variable {is : List Int} (hL : 0 < is.length ∧ is.length < 1073741824)
include hL
theorem j6_at {S : List Sx} (hn1 : 1 ≤ S.length) (hn : S.length ≤ 12) (hS : ∀ s ∈ S, S3 s) {k0 k1 k2 : Int} (hk : Kq k0 k1 k2) {ws : List Int} (hl : S.length = ws.length + 1) (hw : wOk ws) (W : Option (List Int)) (hW : ∀ f, W = some f → Wg S k0 k1 k2 f)
    (v_script v_turn : D) (o_plan o_until o_broken o_first o_time o_held o_told o_old o_new o_due : Option SV) {k : Int} (h0 : 0 ≤ k) (h1 : k + 200 < 900000) :
    ∃ (k' : Int) (ρ' : DI.Env), j_law_6 Fl.nx [some (.sh v_script), some .stt, some (.sh v_turn), some (.sh (kt [k0, k1, k2])), some (.sh (se S)), some (.sh (wD W)), some (.ow (.list (ws.map PyData.int))), o_plan, o_until, o_broken, o_first, o_time, o_held, o_told, o_old, o_new, o_due, none, none, none, none, none, none] (St is k) = .ok (.nx, ρ') (St is k') ∧ Sh v_script ρ' ∧ k ≤ k' ∧ k' ≤ k + 20 := by
  have hS' : ∀ s ∈ S, SOk s := fun s hs => (hS s hs).ok
  have okP := pln_ok hl (by omega) hS' hw
  have p3 := pln_p3 hl hn hS hw
  have lP := pln_len hl
  have g := mk3_ge k0 k1 k2
  have q1 := hk.a
  have q2 := hk.b
  have q3 := hk.c
  have bl := p3.bt ((pln S ws).length - 1)
  obtain ⟨U, eU⟩ : ∃ U : Nat, (U : Int) = bt (pln S ws) ((pln S ws).length - 1) + mk3 k0 k1 k2 + 2 := ⟨(bt (pln S ws) ((pln S ws).length - 1) + mk3 k0 k1 k2 + 2).toNat, by omega⟩
  have s1 : purely (m_law_plan [se S, .list (ws.map PyData.int)]) = DI.ret (pe (pln S ws)) := by
    rw [l_lplan hl (by omega), pure_r]
  have s2 := u_at (P := pln S ws) (by intro z; rw [z] at lP; simp at lP) k0 k1 k2
  rw [← eU] at s2
  have s3 : purely (m_law_break [pe (pln S ws), kt [k0, k1, k2], .int (U : Int)]) = DI.ret (bkD (pln S ws) (brk (pln S ws) k0 k1 k2)) := by
    rw [brk_law okP hk (by omega) eU, pure_r]
  have s4 := isnot_bk (pln S ws) (brk (pln S ws) k0 k1 k2)
  obtain ⟨k', ρ', e, a⟩ := j8_at hL hn1 hn hS hk hl hw W hW (U := U) (by omega) v_script v_turn o_time o_held o_told o_old o_new o_due h0 h1
  refine ⟨k', ρ', ?_, a⟩
  cases c : brk (pln S ws) k0 k1 k2 with
  | none =>
    rw [c] at s3 s4 e
    rw [fi_none] at e
    exact (j6_abs_e _ _ _ _ _ _ _ _ _ _ _ _ _ _ _ _ (pur s1 _) (pur s2 _) (pur s3 _) (pur s4 _)).trans e
  | some q =>
    rw [c] at s3 s4 e
    rw [fi_some] at e
    exact (j6_abs_t _ _ _ _ _ _ _ _ _ _ _ _ _ _ _ _ (pur s1 _) (pur s2 _) (pur s3 _) (pur s4 _)).trans e
end
end K32
end
section
set_option Elab.async false
set_option linter.all false
set_option autoImplicit false
set_option maxRecDepth 100000
set_option maxHeartbeats 2000000
/-! K32z3: a turn of the law from the least waits on. -/
namespace K32
open PySem DI
def gW (S : List Sx) (k0 k1 k2 : Int) : Option (List Int) := go (nxP S k0 k1 k2) (List.range' 0 (S.length - 1)) []
theorem gW_ok {S : List Sx} (hn1 : 1 ≤ S.length) {k0 k1 k2 : Int} (hk : Kq k0 k1 k2) (f : List Int) (e : gW S k0 k1 k2 = some f) : Wg S k0 k1 k2 f := by
  obtain ⟨a, b, c⟩ := go_ok hk (S.length - 1) 0 [] f (fun _ z => by cases z) e
  have b : f.length = 0 + (S.length - 1) := b
  refine ⟨a, by omega, fun h => ?_⟩
  have z := c (by omega)
  have e2 : 0 + (S.length - 1) + 1 = S.length := by omega
  rw [e2, List.take_length] at z
  exact z
theorem gW_told {S : List Sx} (hn1 : 1 ≤ S.length) (hn : S.length ≤ 12) (hS : ∀ s ∈ S, SOk s) {k0 k1 k2 : Int} (hk : Kq k0 k1 k2) : toldM (purely (m_least_waits [se S, kt [k0, k1, k2]])) = DI.ret (wD (gW S k0 k1 k2)) := by
  rw [l_least hn hS hk hn1]
  show toldM (purely (match gW S k0 k1 k2 with | some f' => DI.ret (.tuple (f'.map PyData.int)) | none => throwM ⟨"Missing"⟩)) = _
  cases gW S k0 k1 k2 with
  | none => exact told_m (pure_t _)
  | some f => exact told_r (pure_r _)
theorem gW_law {S : List Sx} (hn1 : 1 ≤ S.length) (hn : S.length ≤ 12) (hS : ∀ s ∈ S, SOk s) {k0 k1 k2 : Int} (hk : Kq k0 k1 k2) : purely (m_law_waits [se S, kt [k0, k1, k2]]) = DI.ret (wD (gW S k0 k1 k2)) := by
  rw [l_lwaits hn hS hk hn1, pure_r]
  show DI.ret (match gW S k0 k1 k2 with | some f' => PyData.tuple [.str "told", .tuple (f'.map PyData.int)] | none => .tuple [.str "missing"]) = _
  cases gW S k0 k1 k2 <;> rfl
theorem gW_sm {S : List Sx} (hn : S.length ≤ 12) {k0 k1 k2 : Int} {W : Option (List Int)} (hW : ∀ f, W = some f → Wg S k0 k1 k2 f) : okD (wD W) = true := by
  cases W with
  | none => decide +kernel
  | some f =>
    have w := hW f rfl
    have l := w.l
    have z : Sm 504 1 (.tuple (f.map PyData.int)) := sm_t (w := 41) (h := 0) (n := 12) (fun x hx => by
      obtain ⟨i, hi, rfl⟩ := List.mem_map.mp hx
      have := w.w i hi
      exact sm_i (by omega) (by omega)) (by rw [List.length_map]; omega)
    exact (sm_toldD z (by omega)).ok (by omega) (by omega)
theorem same4 {m : M D} {w : D} (h : m = DI.ret w) (ok : okD w = true) : bnd (bnd (bnd (bnd m fun x32 => DI.ret [x32, w]) fun x33 => guardM (decide (x33.length = 2)) (purely (DI.m_law_same x33))) fun x34 => truthM x34) (fun b35 => DI.ret (!b35)) = DI.ret false := by
  have e2 : bnd (bnd (DI.ret w) fun x32 => DI.ret [x32, w]) (fun x33 => guardM (decide (x33.length = 2)) (purely (DI.m_law_same x33))) = purely (DI.m_law_same [w, w]) := rfl
  rw [h, e2, same_true ok, pure_r, bnd_ret_l, tr_b, bnd_ret_l]
  rfl
section
variable {is : List Int} (hL : 0 < is.length ∧ is.length < 1073741824)
include hL
theorem c5_at (v_script v_turn v_keeps v_states v_waits : D) (o_own o_plan o_until o_broken o_first o_time o_held o_told o_old o_new o_due : Option SV) (a : Nat) (k : Int) (h0 : 0 ≤ k) (h1 : k < 900000) :
    ∃ v, c_law_5 [some (.sh v_script), some .stt, some (.sh v_turn), some (.sh v_keeps), some (.sh v_states), some (.sh v_waits), o_own, o_plan, o_until, o_broken, o_first, o_time, o_held, o_told, o_old, o_new, o_due, none, none, none, none, none, none] (PyData.int (0 + (a : Int))) (St is k) = .ok (some (.int v)) (St is (k + 1)) ∧ (1 ≤ v ∧ v ≤ 10) := by
  obtain ⟨v, e, v0, v1⟩ := nx_at hL (k := k) (m := 10) (by omega) (by omega)
  refine ⟨v + 1, ?_, by omega, by omega⟩
  rw [c_law_5_eq]
  refine noErr_ok ?_
  have e2 : bnd (DI.m_law_next [.int 10]) (fun x50 => binM .Add (.int 1) x50) (St is k) = .ok (.int (v + 1)) (St is (k + 1)) := by
    rw [bnd_ok e, add_ii, Int.add_comm]
  rw [bnd_ok e2]
theorem c7_at (v_script v_turn v_keeps v_states v_waits v_own : D) (o_plan o_until o_broken o_first o_time o_held o_told o_old o_new o_due : Option SV) (a : Int) (k : Int) (h0 : 0 ≤ k) (h1 : k < 900000) :
    ∃ v, c_law_7 [some (.sh v_script), some .stt, some (.sh v_turn), some (.sh v_keeps), some (.sh v_states), some (.sh v_waits), some (.ow v_own), o_plan, o_until, o_broken, o_first, o_time, o_held, o_told, o_old, o_new, o_due, none, none, none, none, none, none] (.int a) (St is k) = .ok (some (.int v)) (St is (k + 1)) ∧ (1 ≤ v ∧ (v ≤ 1 ∨ v ≤ a + 1)) := by
  obtain ⟨v, e, v0, v1⟩ := nx_at hL (k := k) (m := 3) (by omega) (by omega)
  refine ⟨if a + v - 1 > 1 then a + v - 1 else 1, ?_, by split <;> omega, by split <;> omega⟩
  rw [c_law_7_eq]
  refine noErr_ok ?_
  have e2 : bnd (DI.m_law_next [.int 3]) (fun x53 => binM .Add (.int a) x53) (St is k) = .ok (.int (a + v)) (St is (k + 1)) := by
    rw [bnd_ok e, add_ii]
  have e3 : bnd (bnd (bnd (bnd (DI.m_law_next [.int 3]) fun x53 => binM .Add (.int a) x53) fun x54 => binM .Sub x54 (.int 1)) fun x55 => DI.ret [x55]) (fun ds56 => DI.ret ((PyData.int 1) :: ds56)) (St is k) = .ok [.int 1, .int (a + v - 1)] (St is (k + 1)) := by
    have e4 : bnd (bnd (DI.m_law_next [.int 3]) fun x53 => binM .Add (.int a) x53) (fun x54 => binM .Sub x54 (.int 1)) (St is k) = .ok (.int (a + v - 1)) (St is (k + 1)) := by
      rw [bnd_ok e2, sub_ii]
    rw [bnd_ok2 e4]
    rfl
  have e5 : bnd (bnd (bnd (bnd (bnd (DI.m_law_next [.int 3]) fun x53 => binM .Add (.int a) x53) fun x54 => binM .Sub x54 (.int 1)) fun x55 => DI.ret [x55]) (fun ds56 => DI.ret ((PyData.int 1) :: ds56))) (fun x57 => biM .max x57) (St is k) = .ok (.int (if a + v - 1 > 1 then a + v - 1 else 1)) (St is (k + 1)) := by
    rw [bnd_ok e3, max_ii]
  rw [bnd_ok e5]
theorem rng0 {n : Nat} {i : Int} (h : i = n) : rangeD 0 i = (List.range n).map fun t : Nat => PyData.int (0 + (t : Int)) := by
  subst h
  unfold rangeD
  rw [Int.sub_zero, Int.toNat_natCast]
theorem own4 (v_script v_turn v_keeps v_waits : D) (o_own o_plan o_until o_broken o_first o_time o_held o_told o_old o_new o_due : Option SV) {S : List Sx} (hn1 : 1 ≤ S.length) (hn : S.length ≤ 12) {k : Int} (h0 : 0 ≤ k) (h1 : k + 200 < 900000) :
    ∃ ws : List Int, (bnd (bnd (bnd (biM .len [se S]) fun x37 => binM .Sub x37 (.int 1)) fun x38 => bnd (intM x38) fun j39 => guardM (rgOk 0 j39) (DI.ret (rangeD 0 j39))) fun xs40 => guardM (fits xs40.length) (bnd (compM (c_law_5 [some (.sh v_script), some .stt, some (.sh v_turn), some (.sh v_keeps), some (.sh (se S)), some (.sh v_waits), o_own, o_plan, o_until, o_broken, o_first, o_time, o_held, o_told, o_old, o_new, o_due, none, none, none, none, none, none]) xs40) fun ds => DI.ret (PyData.list ds))) (St is k) = .ok (.list (ws.map PyData.int)) (St is (k + (S.length - 1 : Nat))) ∧ S.length = ws.length + 1 ∧ wOk ws := by
  obtain ⟨ws, e, lw, r⟩ := rowD_at hL (mk := fun t : Nat => PyData.int (0 + (t : Int))) (R := fun _ v => 1 ≤ v ∧ v ≤ 10) (fun a k h0 h1 => c5_at hL v_script v_turn v_keeps (se S) v_waits o_own o_plan o_until o_broken o_first o_time o_held o_told o_old o_new o_due a k h0 h1) (List.range (S.length - 1)) k h0 (by rw [List.length_range]; omega)
  rw [List.length_range] at e lw
  refine ⟨ws, ?_, by omega, fun w hw => ?_⟩
  · have e1 : (bnd (bnd (biM .len [se S]) fun x37 => binM .Sub x37 (.int 1)) fun x38 => bnd (intM x38) fun j39 => guardM (rgOk 0 j39) (DI.ret (rangeD 0 j39))) = DI.ret ((List.range (S.length - 1)).map fun t : Nat => PyData.int (0 + (t : Int))) := by
      rw [len_se, bnd_ret_l, sub_ii, bnd_ret_l, int_i, bnd_ret_l, rng0 hL (n := S.length - 1) (by omega)]
      unfold rgOk
      rw [grd_dec (by omega)]
    rw [e1, bnd_ret_l, grd_fits (by rw [List.length_map, List.length_range]; omega), bnd_ok e]
  · obtain ⟨i, hi, rfl⟩ := List.getElem_of_mem hw
    have := r i (by rw [List.length_range]; omega) hi
    omega
theorem own7 (v_script v_turn v_keeps v_states v_own : D) (o_plan o_until o_broken o_first o_time o_held o_told o_old o_new o_due : Option SV) {S : List Sx} (hn : S.length ≤ 12) {k0 k1 k2 : Int} {f : List Int} (w : Wg S k0 k1 k2 f) {k : Int} (h0 : 0 ≤ k) (h1 : k + 200 < 900000) :
    ∃ ws : List Int, (bnd (bnd (ixM (wD (some f)) (.int 1)) fun x46 => optM (seqOf x46)) fun xs47 => guardM (fits xs47.length) (bnd (compM (c_law_7 [some (.sh v_script), some .stt, some (.sh v_turn), some (.sh v_keeps), some (.sh v_states), some (.sh (wD (some f))), some (.ow v_own), o_plan, o_until, o_broken, o_first, o_time, o_held, o_told, o_old, o_new, o_due, none, none, none, none, none, none]) xs47) fun ds => DI.ret (PyData.list ds))) (St is k) = .ok (.list (ws.map PyData.int)) (St is (k + f.length)) ∧ S.length = ws.length + 1 ∧ wOk ws := by
  have lf := w.l
  obtain ⟨ws, e, lw, r⟩ := rowD_at hL (mk := PyData.int) (R := fun a v => 1 ≤ v ∧ (v ≤ 1 ∨ v ≤ a + 1)) (fun a k h0 h1 => c7_at hL v_script v_turn v_keeps v_states (wD (some f)) v_own o_plan o_until o_broken o_first o_time o_held o_told o_old o_new o_due a k h0 h1) f k h0 (by omega)
  refine ⟨ws, ?_, by omega, fun v hv => ?_⟩
  · have e3 : (bnd (ixM (wD (some f)) (.int 1)) fun x104 => optM (seqOf x104)) = DI.ret (f.map PyData.int) := by
      show (bnd (ixM (.tuple [.str "told", .tuple (f.map PyData.int)]) (.int 1)) fun x104 => optM (seqOf x104)) = _
      rw [ix1, bnd_ret_l, seq_t, opt_some]
    rw [e3, bnd_ret_l, grd_fits (by rw [List.length_map]; omega), bnd_ok e]
  · obtain ⟨i, hi, rfl⟩ := List.getElem_of_mem hv
    have := r i (by omega) hi
    have := w.w _ (List.getElem_mem (show i < f.length by omega))
    omega
theorem j4_at {S : List Sx} (hn1 : 1 ≤ S.length) (hn : S.length ≤ 12) (hS : ∀ s ∈ S, S3 s) {k0 k1 k2 : Int} (hk : Kq k0 k1 k2)
    (v_script v_turn : D) (o_waits o_own o_plan o_until o_broken o_first o_time o_held o_told o_old o_new o_due : Option SV) {k : Int} (h0 : 0 ≤ k) (h1 : k + 500 < 900000) :
    ∃ (k' : Int) (ρ' : DI.Env), j_law_4 Fl.nx [some (.sh v_script), some .stt, some (.sh v_turn), some (.sh (kt [k0, k1, k2])), some (.sh (se S)), o_waits, o_own, o_plan, o_until, o_broken, o_first, o_time, o_held, o_told, o_old, o_new, o_due, none, none, none, none, none, none] (St is k) = .ok (.nx, ρ') (St is k') ∧ Sh v_script ρ' ∧ k ≤ k' ∧ k' ≤ k + 60 := by
  have hS' : ∀ s ∈ S, SOk s := fun s hs => (hS s hs).ok
  have s1 := gW_law hn1 hn hS' hk
  have hW := gW_ok (S := S) hn1 hk
  have s2 := same4 (gW_told hn1 hn hS' hk) (gW_sm hn hW)
  obtain ⟨ws, s3, lw, ww⟩ := own4 hL v_script v_turn (kt [k0, k1, k2]) (wD (gW S k0 k1 k2)) o_own o_plan o_until o_broken o_first o_time o_held o_told o_old o_new o_due hn1 hn h0 (show k + 200 < 900000 by omega)
  generalize hg : gW S k0 k1 k2 = W at *
  cases W with
  | none =>
    have s4 : (bnd (bnd (ixM (wD none) (.int 0)) fun x42 => cmpM .Eq x42 (.str "told")) fun b43 => if b43 = true then bnd (DI.m_law_next [.int 2]) fun x44 => cmpM .Eq x44 (.int 0) else DI.ret false) = DI.ret false := by
      show (bnd (bnd (ixM (.tuple [.str "missing"]) (.int 0)) fun x42 => cmpM .Eq x42 (.str "told")) fun b43 => if b43 = true then bnd (DI.m_law_next [.int 2]) fun x44 => cmpM .Eq x44 (.int 0) else DI.ret false) = DI.ret false
      rw [ix0, bnd_ret_l, eq_miss, bnd_ret_l, if_f]
    obtain ⟨k', ρ', e, a, b, c⟩ := j6_at hL hn1 hn hS hk lw ww none hW v_script v_turn o_plan o_until o_broken o_first o_time o_held o_told o_old o_new o_due (k := k + (S.length - 1 : Nat)) (by omega) (by omega)
    exact ⟨k', ρ', (j4_abs_e _ _ _ _ _ _ _ _ _ _ _ _ _ _ _ _ (pur s1 _) (pur s2 _) s3 (pur s4 _)).trans e, a, by omega, by omega⟩
  | some f =>
    obtain ⟨v, ev, v0, v1⟩ := nx_at hL (k := k + (S.length - 1 : Nat)) (m := 2) (by omega) (by omega)
    have s4 : (bnd (bnd (ixM (wD (some f)) (.int 0)) fun x42 => cmpM .Eq x42 (.str "told")) fun b43 => if b43 = true then bnd (DI.m_law_next [.int 2]) fun x44 => cmpM .Eq x44 (.int 0) else DI.ret false) (St is (k + (S.length - 1 : Nat))) = .ok (decide (v = 0)) (St is (k + (S.length - 1 : Nat) + 1)) := by
      have e1 : (bnd (ixM (wD (some f)) (.int 0)) fun x42 => cmpM .Eq x42 (.str "told")) = DI.ret true := by
        show (bnd (ixM (.tuple [.str "told", .tuple (f.map PyData.int)]) (.int 0)) fun x42 => cmpM .Eq x42 (.str "told")) = DI.ret true
        rw [ix0, bnd_ret_l, eq_told]
      rw [e1, bnd_ret_l, if_t, bnd_ok ev, eq_ii]
    by_cases c : v = 0
    · rw [decide_eq_true c] at s4
      obtain ⟨ws2, s5, lw2, ww2⟩ := own7 hL v_script v_turn (kt [k0, k1, k2]) (se S) (.list (ws.map PyData.int)) o_plan o_until o_broken o_first o_time o_held o_told o_old o_new o_due hn (hW f rfl) (k := k + (S.length - 1 : Nat) + 1) (by omega) (by omega)
      have lf := (hW f rfl).l
      obtain ⟨k', ρ', e, a, b, c⟩ := j6_at hL hn1 hn hS hk lw2 ww2 (some f) hW v_script v_turn o_plan o_until o_broken o_first o_time o_held o_told o_old o_new o_due (k := k + (S.length - 1 : Nat) + 1 + f.length) (by omega) (by omega)
      exact ⟨k', ρ', (j4_abs_t _ _ _ _ _ _ _ _ _ _ _ _ _ _ _ _ (pur s1 _) (pur s2 _) s3 s4 s5).trans e, a, by omega, by omega⟩
    · rw [decide_eq_false c] at s4
      obtain ⟨k', ρ', e, a, b, c⟩ := j6_at hL hn1 hn hS hk lw ww (some f) hW v_script v_turn o_plan o_until o_broken o_first o_time o_held o_told o_old o_new o_due (k := k + (S.length - 1 : Nat) + 1) (by omega) (by omega)
      exact ⟨k', ρ', (j4_abs_e _ _ _ _ _ _ _ _ _ _ _ _ _ _ _ _ (pur s1 _) (pur s2 _) s3 s4).trans e, a, by omega, by omega⟩
end
end K32
end
section
set_option Elab.async false
set_option linter.all false
set_option autoImplicit false
set_option maxRecDepth 100000
set_option maxHeartbeats 2000000
/-! K32z4: one turn of the law. -/
namespace K32
open PySem DI
section
variable {is : List Int} (hL : 0 < is.length ∧ is.length < 1073741824)
include hL
theorem rowS_at {α : Type} {f : D → M (Option D)} {mk : α → D} (hf : ∀ (a : α) (k : Int), 0 ≤ k → k + 100 < 900000 → ∃ (s : Sx) (k' : Int), f (mk a) (St is k) = .ok (some s.e) (St is k') ∧ S3 s ∧ k ≤ k' ∧ k' ≤ k + 12) :
    ∀ (as : List α) (k : Int), 0 ≤ k → k + as.length * 12 + 100 < 900000 → ∃ (S : List Sx) (k' : Int), compM f (as.map mk) (St is k) = .ok (S.map Sx.e) (St is k') ∧ S.length = as.length ∧ (∀ s ∈ S, S3 s) ∧ k ≤ k' ∧ k' ≤ k + as.length * 12
  | [], k, _, _ => ⟨[], k, rfl, rfl, fun s h => (by cases h), by omega, by simp⟩
  | a :: as, k, h0, h1 => by
    have h1 : k + ((as.length : Int) + 1) * 12 + 100 < 900000 := by simpa using h1
    obtain ⟨s, k1, e1, z1, a1, b1⟩ := hf a k h0 (by omega)
    obtain ⟨S, k2, e2, l2, z2, a2, b2⟩ := rowS_at hf as k1 (by omega) (by omega)
    have ek : ((a :: as).length : Int) = (as.length : Int) + 1 := by simp
    refine ⟨s :: S, k2, ?_, by simp [l2], fun x hx => ?_, by omega, by rw [ek]; omega⟩
    · show bnd (f (mk a)) _ (St is k) = _
      rw [bnd_ok e1]
      show bnd (compM _ _) _ _ = _
      rw [bnd_ok e2]
      rfl
    · rcases List.mem_cons.mp hx with rfl | hx
      · exact z1
      · exact z2 x hx
theorem c2_at (v_script v_turn : D) (o_keeps o_states o_waits o_own o_plan o_until o_broken o_first o_time o_held o_told o_old o_new o_due : Option SV) (a : Nat) (k : Int) (h0 : 0 ≤ k) (h1 : k < 900000) :
    ∃ v, c_law_2 [some (.sh v_script), some .stt, some (.sh v_turn), o_keeps, o_states, o_waits, o_own, o_plan, o_until, o_broken, o_first, o_time, o_held, o_told, o_old, o_new, o_due, none, none, none, none, none, none] (PyData.int (0 + (a : Int))) (St is k) = .ok (some (.int v)) (St is (k + 1)) ∧ (0 ≤ v ∧ v ≤ 7) := by
  obtain ⟨v, e, v0, v1⟩ := nx_at hL (k := k) (m := 8) (by omega) (by omega)
  refine ⟨v, ?_, by omega, by omega⟩
  rw [c_law_2_eq]
  refine noErr_ok ?_
  rw [bnd_ok e]
theorem c3_at (v_script v_turn v_keeps : D) (o_states o_waits o_own o_plan o_until o_broken o_first o_time o_held o_told o_old o_new o_due : Option SV) (a : Nat) (k : Int) (h0 : 0 ≤ k) (h1 : k + 100 < 900000) :
    ∃ (s : Sx) (k' : Int), c_law_3 [some (.sh v_script), some .stt, some (.sh v_turn), some (.sh v_keeps), o_states, o_waits, o_own, o_plan, o_until, o_broken, o_first, o_time, o_held, o_told, o_old, o_new, o_due, none, none, none, none, none, none] (PyData.int (0 + (a : Int))) (St is k) = .ok (some s.e) (St is k') ∧ S3 s ∧ k ≤ k' ∧ k' ≤ k + 12 := by
  obtain ⟨s, k', e, ⟨a1, a2, a3, a4, a5⟩, b1, b2⟩ := lstate_at hL (k := k) (by omega) (by omega)
  refine ⟨s, k', ?_, ⟨a1, a2, a3, a4, a5⟩, b1, b2⟩
  rw [c_law_3_eq]
  refine noErr_ok ?_
  rw [bnd_ok e]
theorem keeps_at (v_script v_turn : D) (o_keeps o_states o_waits o_own o_plan o_until o_broken o_first o_time o_held o_told o_old o_new o_due : Option SV) {k : Int} (h0 : 0 ≤ k) (h1 : k + 100 < 900000) :
    ∃ k0 k1 k2 : Int, bnd (bnd (guardM (fits (rangeD 0 3).length) (bnd (compM (c_law_2 [some (.sh v_script), some .stt, some (.sh v_turn), o_keeps, o_states, o_waits, o_own, o_plan, o_until, o_broken, o_first, o_time, o_held, o_told, o_old, o_new, o_due, none, none, none, none, none, none]) (rangeD 0 3)) fun ds => DI.ret (PyData.list ds))) fun x6 => DI.ret [x6]) (fun x7 => biM .tuple x7) (St is k) = .ok (kt [k0, k1, k2]) (St is (k + 3)) ∧ Kq k0 k1 k2 := by
  obtain ⟨vs, e, l, r⟩ := rowD_at hL (mk := fun t : Nat => PyData.int (0 + (t : Int))) (R := fun _ v => 0 ≤ v ∧ v ≤ 7) (fun a k h0 h1 => c2_at hL v_script v_turn o_keeps o_states o_waits o_own o_plan o_until o_broken o_first o_time o_held o_told o_old o_new o_due a k h0 h1) (List.range 3) k h0 (by rw [List.length_range]; omega)
  rw [List.length_range] at e l
  match vs, l, r, e with
  | [a, b, c], _, r, e =>
    refine ⟨a, b, c, ?_, ⟨r 0 (by simp) (by simp), r 1 (by simp) (by simp), r 2 (by simp) (by simp)⟩⟩
    rw [rng0 hL (n := 3) (by rfl), grd_fits (by rw [List.length_map, List.length_range]; omega), bnd_ok3 e]
    rfl
theorem states_at (v_script v_turn v_keeps : D) (o_states o_waits o_own o_plan o_until o_broken o_first o_time o_held o_told o_old o_new o_due : Option SV) {k : Int} (h0 : 0 ≤ k) (h1 : k + 200 < 900000) :
    ∃ (S : List Sx) (k' : Int), bnd (bnd (bnd (bnd (bnd (DI.m_law_next [.int 4]) fun x9 => binM .Add (.int 1) x9) fun x10 => bnd (intM x10) fun j11 => guardM (rgOk 0 j11) (DI.ret (rangeD 0 j11))) fun xs12 => guardM (fits xs12.length) (bnd (compM (c_law_3 [some (.sh v_script), some .stt, some (.sh v_turn), some (.sh v_keeps), o_states, o_waits, o_own, o_plan, o_until, o_broken, o_first, o_time, o_held, o_told, o_old, o_new, o_due, none, none, none, none, none, none]) xs12) fun ds => DI.ret (PyData.list ds))) fun x13 => DI.ret [x13]) (fun x14 => biM .tuple x14) (St is k) = .ok (se S) (St is k') ∧ 1 ≤ S.length ∧ S.length ≤ 12 ∧ (∀ s ∈ S, S3 s) ∧ k ≤ k' ∧ k' ≤ k + 60 := by
  obtain ⟨v, e0, v0, v1⟩ := nx_at hL (k := k) (m := 4) (by omega) (by omega)
  obtain ⟨n, en⟩ : ∃ n : Nat, (n : Int) = 1 + v := ⟨(1 + v).toNat, by omega⟩
  obtain ⟨S, k', e, l, z, a, b⟩ := rowS_at hL (mk := fun t : Nat => PyData.int (0 + (t : Int))) (fun a k h0 h1 => c3_at hL v_script v_turn v_keeps o_states o_waits o_own o_plan o_until o_broken o_first o_time o_held o_told o_old o_new o_due a k h0 h1) (List.range n) (k + 1) (by omega) (by rw [List.length_range]; omega)
  rw [List.length_range] at l b
  refine ⟨S, k', ?_, by omega, by omega, z, by omega, by omega⟩
  have e1 : bnd (bnd (DI.m_law_next [.int 4]) fun x9 => binM .Add (.int 1) x9) (fun x10 => bnd (intM x10) fun j11 => guardM (rgOk 0 j11) (DI.ret (rangeD 0 j11))) (St is k) = .ok ((List.range n).map fun t : Nat => PyData.int (0 + (t : Int))) (St is (k + 1)) := by
    have g : decide (-(2 ^ 62) ≤ (0 : Int) ∧ (0 : Int) < 2 ^ 62 ∧ -(2 ^ 62) ≤ 1 + v ∧ 1 + v < 2 ^ 62) = true := decide_eq_true (by omega)
    rw [bnd_ok2 e0, add_ii, bnd_ret_l, int_i, bnd_ret_l, rng0 hL en.symm]
    unfold rgOk
    rw [g, grd_t]
  rw [bnd_ok (bnd_ok (f := fun ds => DI.ret [ds]) (a := .list (S.map Sx.e)) (st' := St is k') ?_)]
  · rfl
  · rw [bnd_ok e1, grd_fits (by rw [List.length_map, List.length_range]; omega), bnd_ok e]
end
end K32
end
section
set_option Elab.async false
set_option linter.all false
set_option autoImplicit false
set_option maxRecDepth 100000
set_option maxHeartbeats 2000000
/-! K32z5: one turn of the law, from its draws to its end. -/
namespace K32
open PySem DI
def ahD (o n : D) : D := .tuple [.tuple [.tuple [o], .tuple [o], .tuple [o], .tuple [o]], .tuple [.tuple [o], .tuple [o, n], .tuple [o], .tuple [o]], .tuple [.tuple [o, n], .tuple [o, n], .tuple [o, n], .tuple [n]], .tuple [.tuple [n], .tuple [o, n], .tuple [n], .tuple [n]], .tuple [.tuple [n], .tuple [n], .tuple [n], .tuple [n]]]
def stD (o n : D) : D := .tuple [.tuple [n], .tuple [o, n], .tuple [n], .tuple [n]]
theorem ah_sh (o n : Int) : SeqAt.shaped (ahD (.int o) (.int n)) = true := by
  unfold SeqAt.shaped ahD
  simp only [PyData.canLay0, PyData.canLayAll0, PyData.depth, PyData.depthAll]
  rfl
theorem st_sh (o n : Int) : SeqAt.shaped (stD (.int o) (.int n)) = true := by
  unfold SeqAt.shaped stD
  simp only [PyData.canLay0, PyData.canLayAll0, PyData.depth, PyData.depthAll]
  rfl
theorem eqv_i1 (o : Int) : PyData.eqv (.int o) (.int o) = true := by rw [eqv_ii]; simp
theorem ah_eqv (o n : Int) : PyData.eqv (ahD (.int o) (.int n)) (ahD (.int o) (.int n)) = true := by
  unfold ahD
  simp only [PyData.eqv, PyData.eqvAll, eqv_i1, Bool.and_self, beq_self_eq_true]
theorem st_eqv (o n : Int) : PyData.eqv (stD (.int o) (.int n)) (stD (.int o) (.int n)) = true := by
  unfold stD
  simp only [PyData.eqv, PyData.eqvAll, eqv_i1, Bool.and_self, beq_self_eq_true]
theorem ah_ne (o n : Int) : cmpM .NotEq (ahD (.int o) (.int n)) (ahD (.int o) (.int n)) = DI.ret false := by
  rw [ne_sh (ah_sh o n) (ah_sh o n), ah_eqv]
  rfl
theorem st_ne (o n : Int) : cmpM .NotEq (stD (.int o) (.int n)) (stD (.int o) (.int n)) = DI.ret false := by
  rw [ne_sh (st_sh o n) (st_sh o n), st_eqv]
  rfl
theorem ah_e {o n : Int} (h : o < n) : se (ahS o n) = ahD (.int o) (.int n) := by
  unfold ahS
  rw [sort2 h]
  rfl
theorem ah_e' {o n : Int} (h : o < n) : ixM (se (ahS n o)) (.int 1) = DI.ret (stD (.int o) (.int n)) := by
  unfold ahS
  rw [sort2' h]
  exact ix1 _ _ _
theorem ah_test {o n : Int} (o1 : 1 ≤ o) (n2 : n ≤ 999) (h : o < n) :
    (bnd (cmpM .NotEq (se (ahS o n)) (.tuple [.tuple [.tuple [.int o], .tuple [.int o], .tuple [.int o], .tuple [.int o]], .tuple [.tuple [.int o], .tuple [.int o, .int n], .tuple [.int o], .tuple [.int o]], .tuple [.tuple [.int o, .int n], .tuple [.int o, .int n], .tuple [.int o, .int n], .tuple [.int n]], .tuple [.tuple [.int n], .tuple [.int o, .int n], .tuple [.int n], .tuple [.int n]], .tuple [.tuple [.int n], .tuple [.int n], .tuple [.int n], .tuple [.int n]]])) fun b23 => if b23 = true then DI.ret true else bnd (bnd (purely (m_ahead_plan [.int n, .int o])) fun x24 => ixM x24 (.int 1)) fun x25 => cmpM .NotEq x25 (.tuple [.tuple [.int n], .tuple [.int o, .int n], .tuple [.int n], .tuple [.int n]])) = DI.ret false := by
  have e1 : cmpM .NotEq (se (ahS o n)) (.tuple [.tuple [.tuple [.int o], .tuple [.int o], .tuple [.int o], .tuple [.int o]], .tuple [.tuple [.int o], .tuple [.int o, .int n], .tuple [.int o], .tuple [.int o]], .tuple [.tuple [.int o, .int n], .tuple [.int o, .int n], .tuple [.int o, .int n], .tuple [.int n]], .tuple [.tuple [.int n], .tuple [.int o, .int n], .tuple [.int n], .tuple [.int n]], .tuple [.tuple [.int n], .tuple [.int n], .tuple [.int n], .tuple [.int n]]]) = DI.ret false := by
    rw [ah_e h]
    exact ah_ne o n
  rw [e1, bnd_ret_l, if_f, l_ahead (o := n) (n := o) (by omega) n2 o1 (by omega) (by omega), pure_r, bnd_ret_l, ah_e' h, bnd_ret_l]
  exact st_ne o n
theorem ah_s3 {o n : Int} (o1 : 1 ≤ o) (n2 : n ≤ 999) (h : o < n) : ∀ s ∈ ahS o n, S3 s := fun s hs => by
  have k := ah_ok o1 n2 h s hs
  unfold ahS at hs
  rw [sort2 h] at hs
  simp only [List.mem_cons, List.not_mem_nil, or_false] at hs
  rcases hs with rfl | rfl | rfl | rfl | rfl <;> exact ⟨k, by simp, by simp, by simp, by simp⟩
section
variable {is : List Int} (hL : 0 < is.length ∧ is.length < 1073741824)
include hL
theorem turn_at (v_script turn5 : D) (o_turn o_keeps o_states o_waits o_own o_plan o_until o_broken o_first o_time o_held o_told o_old o_new o_due : Option SV) {k : Int} (h0 : 0 ≤ k) (h1 : k + 1000 < 900000) :
    ∃ (k' : Int) (ρ' : DI.Env), f_law_1 turn5 [some (.sh v_script), some .stt, o_turn, o_keeps, o_states, o_waits, o_own, o_plan, o_until, o_broken, o_first, o_time, o_held, o_told, o_old, o_new, o_due, none, none, none, none, none, none] (St is k) = .ok (.nx, ρ') (St is k') ∧ Sh v_script ρ' ∧ k ≤ k' ∧ k' ≤ k + 200 := by
  obtain ⟨k0, k1, k2, s1, hk⟩ := keeps_at hL v_script turn5 o_keeps o_states o_waits o_own o_plan o_until o_broken o_first o_time o_held o_told o_old o_new o_due h0 (show k + 100 < 900000 by omega)
  obtain ⟨S, k', s2, hn1, hn, hS, a2, b2⟩ := states_at hL v_script turn5 (kt [k0, k1, k2]) o_states o_waits o_own o_plan o_until o_broken o_first o_time o_held o_told o_old o_new o_due (k := k + 3) (by omega) (by omega)
  obtain ⟨v, ev, v0, v1⟩ := nx_at hL (k := k') (m := 2) (by omega) (by omega)
  have s3 : (bnd (DI.m_law_next [.int 2]) fun x16 => cmpM .Eq x16 (.int 0)) (St is k') = .ok (decide (v = 0)) (St is (k' + 1)) := by
    rw [bnd_ok ev, eq_ii]
  by_cases c : v = 0
  · rw [decide_eq_true c] at s3
    obtain ⟨o, eo, o0, o1⟩ := nx_at hL (k := k' + 1) (m := 5) (by omega) (by omega)
    obtain ⟨n, en, n0, n1⟩ := nx_at hL (k := k' + 1 + 1) (m := 5) (by omega) (by omega)
    have s4 : (bnd (DI.m_law_next [.int 5]) fun x18 => binM .Add (.int 1) x18) (St is (k' + 1)) = .ok (.int (1 + o)) (St is (k' + 1 + 1)) := by
      rw [bnd_ok eo, add_ii]
    have s5 : (bnd (DI.m_law_next [.int 5]) fun x18 => binM .Add (.int 6) x18) (St is (k' + 1 + 1)) = .ok (.int (6 + n)) (St is (k' + 1 + 1 + 1)) := by
      rw [bnd_ok en, add_ii]
    have s6 : purely (m_ahead_plan [.int (1 + o), .int (6 + n)]) = DI.ret (se (ahS (1 + o) (6 + n))) := by
      rw [l_ahead (by omega) (by omega) (by omega) (by omega) (by omega), pure_r]
    have s7 := ah_test (o := 1 + o) (n := 6 + n) (by omega) (by omega) (by omega)
    obtain ⟨k2', ρ', e, a, b, d⟩ := j4_at hL (S := ahS (1 + o) (6 + n)) (by simp [ahS]) (by simp [ahS]) (ah_s3 (by omega) (by omega) (by omega)) hk v_script turn5 o_waits o_own o_plan o_until o_broken o_first o_time o_held o_told (some (.sh (.int (1 + o)))) (some (.sh (.int (6 + n)))) (some (.sh (ahD (.int (1 + o)) (.int (6 + n))))) (k := k' + 1 + 1 + 1) (by omega) (by omega)
    exact ⟨k2', ρ', (f1_abs_t _ _ _ _ _ _ _ _ _ _ _ _ _ _ _ _ _ s1 s2 s3 s4 s5 (pur s6 _) (pur s7 _)).trans e, a, by omega, by omega⟩
  · rw [decide_eq_false c] at s3
    obtain ⟨k2', ρ', e, a, b, d⟩ := j4_at hL hn1 hn hS hk v_script turn5 o_waits o_own o_plan o_until o_broken o_first o_time o_held o_told o_old o_new o_due (k := k' + 1) (by omega) (by omega)
    exact ⟨k2', ρ', (f1_abs_e _ _ _ _ _ _ _ _ _ _ _ _ _ _ _ _ _ s1 s2 s3).trans e, a, by omega, by omega⟩
theorem turns_at (v_script : D) : ∃ (st : Stt) (ρ' : DI.Env), loopM f_law_1 (rangeD 0 3) [some (.sh v_script), some .stt, none, none, none, none, none, none, none, none, none, none, none, none, none, none, none, none, none, none, none, none, none] (St is 0) = .ok (.nx, ρ') st ∧ Sh v_script ρ' := by
  obtain ⟨k1, ρ1, e1, ⟨_, _, _, _, _, _, _, _, _, _, _, _, _, _, _, rfl⟩, a1, b1⟩ := turn_at hL v_script (.int 0) none none none none none none none none none none none none none none none (k := 0) (by omega) (by omega)
  obtain ⟨k2, ρ2, e2, ⟨_, _, _, _, _, _, _, _, _, _, _, _, _, _, _, rfl⟩, a2, b2⟩ := turn_at hL v_script (.int 1) _ _ _ _ _ _ _ _ _ _ _ _ _ _ _ (k := k1) (by omega) (by omega)
  obtain ⟨k3, ρ3, e3, z, a3, b3⟩ := turn_at hL v_script (.int 2) _ _ _ _ _ _ _ _ _ _ _ _ _ _ _ (k := k2) (by omega) (by omega)
  refine ⟨St is k3, ρ3, ?_, z⟩
  have er : rangeD 0 3 = [.int 0, .int 1, .int 2] := by rfl
  have lc : ∀ (x : D) (xs : List D) (ρ ρ' : DI.Env) (st st' : Stt), f_law_1 x ρ st = .ok (.nx, ρ') st' → loopM f_law_1 (x :: xs) ρ st = loopM f_law_1 xs ρ' st' := fun x xs ρ ρ' st st' h => by
    show bnd (f_law_1 x ρ) _ st = _
    rw [bnd_ok h]
  rw [er, lc _ _ _ _ _ _ e1, lc _ _ _ _ _ _ e2, lc _ _ _ _ _ _ e3]
  rfl
end
end K32
end
section
set_option Elab.async false
set_option linter.all false
set_option autoImplicit false
set_option maxRecDepth 100000
set_option maxHeartbeats 0
/-! K32z6: the law is kept. -/
namespace K32
open PySem DI
theorem law_raw (xs : List D) : m_law [.list xs] [] = R.next (R.next (purely (DI.m_law_stream [.list xs]) []) (fun d => DI.ret [d, .int 0])) (fun ds _ => guardM (fits ds.length && !ds.isEmpty) (fun _ => kSs 99 C_law (d0_law.body.drop 1) [some (.sh (.list xs)), some .stt, none, none, none, none, none, none, none, none, none, none, none, none, none, none, none, none, none, none, none, none, none] outK ds) []) := by
  unfold m_law
  rw [runB_eq]
  kernel_rfl
theorem consts_ne : cmpM .NotEq (.tuple [.int 12, .int 5000]) (.tuple [.int 12, .int 5000]) = DI.ret false := by kernel_rfl
theorem pure_law (ns : List Int) : ∃ st, Z.sem ns = .ok (.bool true) st := by
  have hl := strm_len ns
  have hL : 0 < (strm ns).length ∧ (strm ns).length < 1073741824 := by omega
  have e0 : purely (DI.m_law_stream [.list (ns.map PyData.int)]) [] = .ok (.list ((strm ns).map PyData.int)) [] := by
    have : DI.m_law_stream [.list (ns.map PyData.int)] = DI.ret (.list ((strm ns).map PyData.int)) := by
      show (match intsOf (ns.map PyData.int) with
        | some ns => _
        | none => _) = _
      rw [ints_of]
    rw [this]
    rfl
  show ∃ st, m_law [.list (ns.map PyData.int)] [] = .ok (.bool true) st
  rw [law_raw, e0]
  show ∃ st, kSs 99 C_law (d0_law.body.drop 1) [some (.sh (.list (ns.map PyData.int))), some .stt, none, none, none, none, none, none, none, none, none, none, none, none, none, none, none, none, none, none, none, none, none] outK (St (strm ns) 0) = _
  have er : ∀ st : Stt, purely (m_law_refuses []) st = .ok (.bool true) st := fun st => by
    unfold purely
    rw [refuses]
  have e1 : ∀ st : Stt, (bnd (cmpM .NotEq (.tuple [.int 12, .int 5000]) (.tuple [.int 12, .int 5000])) fun b1 => if b1 = true then DI.ret true else bnd (bnd (purely (m_law_refuses [])) fun x2 => truthM x2) fun b3 => DI.ret (!b3)) st = .ok false st := fun st => by
    rw [consts_ne, bnd_ret_l, if_f, bnd_ok2 (er st)]
    rfl
  rw [law_rest_eq, bnd_ok (e1 _), if_f]
  obtain ⟨st, ρ', e2, o2, o3, o4, o5, o6, o7, o8, o9, o10, o11, o12, o13, o14, o15, o16, rfl⟩ := turns_at hL (.list (ns.map PyData.int))
  rw [bnd_ok e2, k_law_1_eq]
  exact ⟨_, rfl⟩
end K32
end
section
set_option Elab.async false
set_option linter.all false
set_option maxRecDepth 100000
set_option maxHeartbeats 0
/-! K32E: the end theorem. -/
namespace K32
open PySem DI
theorem told_sc : ToldSc Z.tsg Z.tcsc := ⟨⟨rfl, rfl, rfl, by decide +kernel, rfl, by decide +kernel, by decide +kernel⟩, by decide +kernel, by decide +kernel, by decide +kernel, by decide +kernel, by decide +kernel, by decide +kernel, by decide +kernel, by decide +kernel, by decide +kernel, .inr (.inl (by decide +kernel)), by decide +kernel⟩
theorem law_at {w : World} {K : PySem.W.Frag} {h : Heap} {mg : Str → Option Value} {fa : Addr} (KX : K.In h) (G : h.Ns mainGlobals mg) (c : He.SaysX Z.fa Z.fn [] Z.tf Z.ex w h K) (hfa : mg ("law" : Str) = some (.ref fa)) :
    LawAtG PySem.Challenge.rw_handeddown_k32_whole_keys_turned_over w K (L2N.CX PySem.Challenge.rw_handeddown_k32_whole_keys_turned_over.prog w) (lv Z.all) 63 "script" mg fa h :=
  row_law Z KX G c statics refs rfl rfl rfl told_sc rfl (fun _ _ _ _ _ _ us hl => match us, hl with | [_], _ => rfl) hfa fun ns _ _ => pure_law ns
end K32
open PySem PySem.W PyProof.Rows
theorem PySem.Challenge.cw_handeddown_k32_whole_keys_turned_over_holds : PySem.Challenge.rw_handeddown_k32_whole_keys_turned_over.Holds := by
  w_on; o_law
  refine HandSHeadRun.head_any (r := OpenLaw.row PySem.Challenge.rw_handeddown_k32_whole_keys_turned_over) (q := view (OpenLaw.row PySem.Challenge.rw_handeddown_k32_whole_keys_turned_over).prog [45]) (H := K32.Z.hk 4) (ob := K32.ob) (M := 4000) (loose := K32.names) (d := HandSHeadRun.topDef (OpenLaw.row PySem.Challenge.rw_handeddown_k32_whole_keys_turned_over).prog 45) (kwd := []) K32.ob_eq
    (by kernel_rfl) (fun s => by kernel_rfl) K32.run (by kernel_rfl) (by kernel_rfl) (by kernel_rfl) (by rfl) (by first | assumption | decide +kernel) (by decide +kernel) ⟨rfl, rfl, rfl, rfl, rfl, by decide +kernel⟩ ?hw ?hc
  case hw => w_witness2
  case hc =>
    refine DI.walk_G (l := PySem.Challenge.rw_handeddown_k32_whole_keys_turned_over) (n := 63) (k := DI.lv K32.Z.all) (x := "script") (CX := fun w => L2N.CX PySem.Challenge.rw_handeddown_k32_whole_keys_turned_over.prog w) rfl (by decide) (by kernel_rfl) ⟨rfl, by decide, by decide⟩ ?F ?X
    case X =>
      intro w H s e s' z
      obtain ⟨_, _, _, _, _, _, _, _, _, _, _, _, z⟩ := z
      exact z
    case F =>
      intro w mg fa h Y G hmg0
      obtain ⟨K, KX, c⟩ := Y
      have hmg : mg ("law" : PySem.Str) = some (.ref fa) := by
        have e : (HandSHeadRun.topDef (OpenLaw.row PySem.Challenge.rw_handeddown_k32_whole_keys_turned_over).prog 45).name = ("law" : PySem.Str) := by kernel_rfl
        rw [← e]
        exact hmg0
      exact ⟨K, KX, K32.law_at KX G c hmg⟩
end
