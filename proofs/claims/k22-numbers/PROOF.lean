import PyProof.Rows.All
import Wide.All
import OpenK.AllK
import Wide.FinOn
import HandS.ForMost
import HandS.ForExc
import HandS.Flow
import HandS.TupAny
import HandS.Deep
import HandS.IsInst
import HandS.Style
import HandS.Rev
import HandS.Zip
import HandS.Conv
import HandS.TupMul
import KE.SortData
import PyProof.ReprRoads
import HandS.Lambda
import HandS.EndTab
import HandS.Defaults
import HandS.ExcCtx
import HandS.HotCalls
import HandS.SuiteRaise
import HandS.ExcIs
import HandS.HeadHook2
import HandS.HeadWalk
import HandS.HeadHook4
import HandS.Head0
import HandS.Head1
import HandS.Head2
import PyProof.ReprLen
import PySem.Challenge.RW_handeddown_k22_whole_numbers_that_go_rou
section
set_option linter.all false
set_option maxRecDepth 100000
/-! D1: what the pure part of Python means, over plain data (PyData), by fuel. -/
namespace DI
open PySem L2

abbrev D := PyData
/-- a slot of a def: shared data; a list that the def alone holds; the state cell -/
inductive SV where
  | sh (d : D) | ow (ds : List D) | stt
abbrev Env := List (Option SV)
/-- what the state cell holds -/
abbrev Stt := List D
structure Exn where
  cls : Str
inductive R (α : Type) where
  | ok (a : α) (st : Stt) | err (e : Exn) (st : Stt) | stuck
def M (α : Type) : Type := Stt → R α
@[reducible] def ret {α : Type} (a : α) : M α := fun st => .ok a st
@[reducible] def stuckM {α : Type} : M α := fun _ => .stuck
@[reducible] def throwM {α : Type} (e : Exn) : M α := fun st => .err e st
def R.next {α β : Type} (r : R α) (f : α → M β) : R β := match r with
  | .ok a st => f a st
  | .err e st => .err e st
  | .stuck => .stuck
@[reducible] def bnd {α β : Type} (m : M α) (f : α → M β) : M β := fun st => (m st).next f
/-- an error here has no road -/
def R.noErr {α : Type} (r : R α) : R α := match r with
  | .ok a st => .ok a st
  | _ => .stuck
def guardM {α : Type} (b : Bool) (m : M α) : M α := fun st => if b = true then m st else .stuck
def optM {α : Type} : Option α → M α
  | some a => ret a
  | none => stuckM
instance : Monad M where
  pure := ret
  bind := bnd

/-! ### operators -/
def fits (n : Nat) : Bool := decide (n ≤ sizeLine)
def mulOk (i j : Int) : Bool := decide ((-(2 ^ 64) < i ∧ i < 2 ^ 64) ∨ (-(2 ^ 64) < j ∧ j < 2 ^ 64))
def binM : Operator → D → D → M D
  | .Add, .int i, .int j => ret (.int (i + j))
  | .Add, .str i, .str j => guardM (fits (i.length + j.length)) (ret (.str (i ++ j)))
  | .Add, .list xs, .list ys => guardM (fits (xs.length + ys.length)) (ret (.list (xs ++ ys)))
  | .Add, .tuple xs, .tuple ys => guardM (fits (xs.length + ys.length)) (ret (.tuple (xs ++ ys)))
  | .Sub, .int i, .int j => ret (.int (i - j))
  | .Mult, .int i, .int j => guardM (mulOk i j) (ret (.int (i * j)))
  | .Mult, .list xs, .int k => guardM (decide (-(2 ^ 63) ≤ k ∧ k < 2 ^ 63) && fits (xs.length * k.toNat)) (ret (.list (List.replicate k.toNat xs).flatten))
  | .FloorDiv, .int i, .int j => guardM (decide (0 < j ∧ j < 1073741824)) (ret (.int (i / j)))
  | .Mod, .int i, .int j => guardM (decide (0 < j)) (ret (.int (i % j)))
  | .Pow, .int i, .int j => guardM (decide (0 ≤ j ∧ j ≤ 1000000 ∧ i.natAbs < 2 ^ 64)) (ret (.int (i ^ j.toNat)))
  | _, _, _ => stuckM
def unM : UnaryOp → D → M D
  | .USub, .int i => ret (.int (-i))
  | _, _ => stuckM
def scalD : D → Bool
  | .none | .bool _ | .int _ | .str _ => true
  | _ => false
/-- x == y of data of any depth -/
def eqM (d e : D) : M Bool := guardM (SeqAt.shaped d && SeqAt.shaped e) (ret (PyData.eqv d e))
def memM (d : D) (ds : List D) : M Bool := guardM (SeqAt.shaped d && SeqAt.shaped (.list ds)) (ret (ds.any fun z => PyData.eqv z d))
def notM (m : M Bool) : M Bool := bnd m fun b => ret (!b)
def cmpM : CmpOp → D → D → M Bool
  | .Eq, d, e => eqM d e
  | .NotEq, d, e => notM (eqM d e)
  | .Lt, .int i, .int j => ret (decide (i < j))
  | .LtE, .int i, .int j => ret (decide (i ≤ j))
  | .Gt, .int i, .int j => ret (decide (j < i))
  | .GtE, .int i, .int j => ret (decide (j ≤ i))
  | .Lt, .str i, .str j => ret (decide (i.cps.toList < j.cps.toList))
  | .In, d, .list ds => memM d ds
  | .NotIn, d, .list ds => notM (memM d ds)
  | .In, .str i, .str j => ret (!(Builtin.Str.occurrences j i 0 j.length 1).isEmpty)
  | .NotIn, .str i, .str j => ret (!(!(Builtin.Str.occurrences j i 0 j.length 1).isEmpty))
  | .Is, d, .none => ret (match d with | .none => true | _ => false)
  | .IsNot, d, .none => ret (!(match d with | .none => true | _ => false))
  | _, _, _ => stuckM
def truthM : D → M Bool
  | .none => ret false
  | .bool b => ret b
  | .int i => ret (i != 0)
  | .str x => guardM (fits x.length) (ret ((x.length : Int) != 0))
  | .list xs => ret (!xs.isEmpty)
  | .tuple xs => ret (!xs.isEmpty)
  | .dict _ => stuckM
def ixM : D → D → M D
  | .list xs, .int i => optM (atI xs i)
  | .tuple xs, .int i => optM (atI xs i)
  | .str x, .int i => guardM (fits x.length) (optM ((atI x.cps.toList i).map fun c => .str ⟨#[c]⟩))
  | _, _ => stuckM
def cutD (xs : List D) (lo hi : Option Int) : List D := (xs.drop (HT.sIx xs.length 0 lo)).take (HT.sIx xs.length xs.length hi - HT.sIx xs.length 0 lo)
def sliceM : D → Option Int → Option Int → M D
  | .list xs, lo, hi => ret (.list (cutD xs lo hi))
  | .tuple xs, lo, hi => ret (.tuple (cutD xs lo hi))
  | _, _, _ => stuckM
def intM : D → M Int
  | .int i => ret i
  | _ => stuckM

/-! ### built-in functions -/
inductive BI where
  | len | abs | int | all | any | sum | max | min | tuple | list | repr
def biOf (f : Str) : Option BI := ([("len", .len), ("abs", .abs), ("int", .int), ("all", .all), ("any", .any), ("sum", .sum), ("max", .max), ("min", .min), ("tuple", .tuple), ("list", .list), ("repr", .repr)] : List (Str × BI)).lookup f
def boolsOf : List D → Option (List Bool)
  | [] => some []
  | .bool b :: r => (boolsOf r).map (b :: ·)
  | _ :: _ => none
def intsOf : List D → Option (List Int)
  | [] => some []
  | .int i :: r => (intsOf r).map (i :: ·)
  | _ :: _ => none
def maxI : List Int → Option Int
  | [] => none
  | x :: xs => some (xs.foldl (fun a b => if b > a then b else a) x)
def minI : List Int → Option Int
  | [] => none
  | x :: xs => some (xs.foldl (fun a b => if b < a then b else a) x)
def seqOf : D → Option (List D)
  | .list xs => some xs
  | .tuple xs => some xs
  | _ => none
def biM : BI → List D → M D
  | .len, [.list xs] => ret (.int xs.length)
  | .len, [.tuple xs] => ret (.int xs.length)
  | .len, [.str x] => guardM (fits x.length) (ret (.int x.length))
  | .abs, [.int i] => ret (.int (if i < 0 then -i else i))
  | .int, [.int i] => ret (.int i)
  | .int, [.bool b] => ret (.int (if b then 1 else 0))
  | .all, [.list xs] => bnd (optM (boolsOf xs)) fun bs => ret (.bool (bs.all id))
  | .any, [.list xs] => bnd (optM (boolsOf xs)) fun bs => ret (.bool (bs.any id))
  | .sum, [.list xs] => bnd (optM (intsOf xs)) fun ns => ret (.int ns.sum)
  | .max, [.list xs] => bnd (optM (intsOf xs)) fun ns => bnd (optM (maxI ns)) fun m => ret (.int m)
  | .min, [.list xs] => bnd (optM (intsOf xs)) fun ns => bnd (optM (minI ns)) fun m => ret (.int m)
  | .max, [.int i, .int j] => ret (.int (if j > i then j else i))
  | .min, [.int i, .int j] => ret (.int (if j < i then j else i))
  | .tuple, [.list xs] => ret (.tuple xs)
  | .tuple, [.tuple xs] => ret (.tuple xs)
  | .list, [.list xs] => ret (.list xs)
  | .list, [.tuple xs] => ret (.list xs)
  | .repr, [.list xs] => guardM ((PyData.list xs).showable && !(PyData.list xs).hasDict && decide ((PyData.list xs).depth ≤ 100) && fits (PyData.list xs).shown.length) (ret (.str (PyData.list xs).shown))
  | _, _ => stuckM
def tyName : D → Option String
  | .none => some "NoneType"
  | .bool _ => some "bool"
  | .int _ => some "int"
  | .str _ => some "str"
  | .list _ => some "list"
  | .tuple _ => some "tuple"
  | .dict _ => none
def tyOk (T : Str) : Bool := decide (T = "int") || decide (T = "str") || decide (T = "tuple") || decide (T = "list")
/-- isinstance(d, T) -/
def isT (T : Str) (d : D) : Option Bool :=
  if T = "int" then (tyName d).bind fun t => kitB t "int" else if T = "str" then (tyName d).bind fun t => kitB t "str" else if T = "tuple" then (tyName d).bind fun t => kitB t "tuple" else if T = "list" then (tyName d).bind fun t => kitB t "list" else none
end DI
end
section
set_option linter.all false
set_option maxRecDepth 100000
/-! D2: the evaluator, by fuel. -/
namespace DI
open PySem L2

/-- a def as it is called: how many arguments (behind the state, where it has one), whether its first parameter is the state -/
structure FnI where
  arity : Nat
  st : Bool
  sem : List D → M D
structure Ctx where
  N : List Str
  sc : Scope
  con : Str → Option D
  fn : Str → Option FnI
  /-- lambdas may be made here -/
  lam : Bool
  /-- the name that is the state (in the law alone), classes of errors, turns of a while at most -/
  mkst : Option Str
  exc : List Str
  turns : Nat

def ixOf : List Str → Str → Option Nat
  | [], _ => none
  | y :: r, x => if x = y then some 0 else (ixOf r x).map (· + 1)
def badName (x : Str) : Bool := decide (x = "__debug__") || decide (x = "__classdict__") || decide (x = "__name__")
def visB (sc : Scope) (x : Str) : Bool := match sc.names.lookup x with
  | some .local | some .cell | some .free => true
  | _ => false
def locB (sc : Scope) (x : Str) : Bool := match sc.names.lookup x with
  | some .local | some .cell => true
  | _ => false
def globB (sc : Scope) (x : Str) : Bool := match sc.names.lookup x with
  | some .globalImplicit => true
  | _ => false
def slotOf (C : Ctx) (ρ : Env) (x : Str) : Option SV := if badName x = true then none else if visB C.sc x = true then (match ixOf C.N x with
  | some i => (match ρ[i]? with
    | some o => o
    | none => none)
  | none => none) else none
def nameM (C : Ctx) (x : Str) (ρ : Env) : M D := match slotOf C ρ x with
  | some (.sh d) => ret d
  | some _ => stuckM
  | none => guardM (!badName x && globB C.sc x) (optM (C.con x))
/-- read in passing -/
def nameB (C : Ctx) (x : Str) (ρ : Env) : M D := match slotOf C ρ x with
  | some (.sh d) => ret d
  | some (.ow ds) => ret (.list ds)
  | some .stt => stuckM
  | none => guardM (!badName x && globB C.sc x) (optM (C.con x))
def constM : Const → M D
  | .none => ret .none
  | .bool b => ret (.bool b)
  | .int i => ret (.int i)
  | .str x => ret (.str x)
  | _ => stuckM
def isStar : Expr → Bool
  | .Starred .. => true
  | _ => false
/-- a global or built-in name that nothing in the def hides -/
def gl (C : Ctx) (x : Str) : Bool := globB C.sc x && !badName x
def bi (C : Ctx) (x : Str) : Bool := gl C x && (C.fn x).isNone && (C.con x).isNone

def relSc (scope sc : Scope) : Scope := relS scope sc
def ownOf (N : List Str) (scope : Scope) : List (Str × Nat) := scope.names.filterMap fun y => match y.2 with
  | .local => (ixOf N y.1).map fun i => (y.1, i)
  | .cell => (ixOf N y.1).map fun i => (y.1, i)
  | _ => none
def ownIx (N : List Str) (scope : Scope) : List Nat := (ownOf N scope).map fun p => p.2
def wipeE (ρ : Env) : List Nat → Env
  | [] => ρ
  | v :: vs => (wipeE ρ vs).set v none
def Ctx.into (C : Ctx) (sc : Scope) : Ctx := { C with sc := sc }
/-- within a lambda -/
def Ctx.lamIn (C : Ctx) (sc : Scope) : Ctx := { C with sc := sc, lam := false }

/-! ### targets -/
def asgName (C : Ctx) (x : Str) (sv : SV) (ρ : Env) : Option Env := if badName x = false ∧ locB C.sc x = true then (ixOf C.N x).map fun i => ρ.set i (some sv) else none
mutual
def asg : Nat → Ctx → Expr → D → Env → Option Env
  | 0, _, _, _, _ => none
  | n + 1, C, e, d, ρ => match e with
    | .Name x _ => asgName C x (.sh d) ρ
    | .Tuple es _ _ => if es.any isStar = true then none else (match d with
      | .tuple ds => if ds.length = es.length then asgs n C es ds ρ else none
      | .list ds => if ds.length = es.length then asgs n C es ds ρ else none
      | _ => none)
    | _ => none
def asgs : Nat → Ctx → List Expr → List D → Env → Option Env
  | 0, _, _, _, _ => none
  | _ + 1, _, [], [], ρ => some ρ
  | n + 1, C, e :: es, d :: ds, ρ => (asg n C e d ρ).bind fun ρ' => asgs n C es ds ρ'
  | _ + 1, _, _, _, _ => none
end

/-! ### loops over data -/
def compM (f : D → M (Option D)) : List D → M (List D)
  | [] => ret []
  | x :: xs => bnd (f x) fun o => bnd (compM f xs) fun r => ret (match o with
    | some y => y :: r
    | none => r)
inductive Fl where
  | nx | bk | ct | rt (d : D)
def loopM (f : D → Env → M (Fl × Env)) : List D → Env → M (Fl × Env)
  | [], ρ => ret (.nx, ρ)
  | x :: xs, ρ => bnd (f x ρ) fun q => match q.1 with
    | .nx => loopM f xs q.2
    | .ct => loopM f xs q.2
    | .bk => ret (.nx, q.2)
    | .rt d => ret (.rt d, q.2)
def rangeD (i j : Int) : List D := (List.range (j - i).toNat).map fun k => .int (i + (k : Nat))
def rgOk (i j : Int) : Bool := decide (-(2 ^ 62) ≤ i ∧ i < 2 ^ 62 ∧ -(2 ^ 62) ≤ j ∧ j < 2 ^ 62)
def zipD (xs ys : List D) : List D := (xs.zip ys).map fun p => .tuple [p.1, p.2]

/-! ### told -/
def kindOfErr (c : Str) : Option Str := ([("NotAllowed", "refused"), ("TooLarge", "large"), ("Missing", "missing"), ("BadForm", "form"), ("Broken", "broken")] : List (Str × Str)).lookup c
def toldM (m : M D) : M D := fun st => match m st with
  | .ok d st' => .ok (.tuple [.str "told", d]) st'
  | .err e st' => (match kindOfErr e.cls with
    | some k => .ok (.tuple [.str k]) st'
    | none => .stuck)
  | .stuck => .stuck
/-- a def that has no state is run with none -/
def purely {α : Type} (m : M α) : M α := fun st => match m [] with
  | .ok a _ => .ok a st
  | .err e _ => .err e st
  | .stuck => .stuck
/-- a lambda without parameters, or with one that has a written number as its default -/
def lamNames (sc scope : Scope) (ps : List Str) : Bool :=
  decide (scope.kind = .function) && !scope.isCoroutine && !scope.isGenerator && (scope.names.all fun y => match y.2 with
    | .local => decide (y.1 ∈ ps)
    | .cell => false
    | .free => decide (y.1 ∉ ps) && (match sc.names.lookup y.1 with | some .cell => true | some .free => true | _ => false)
    | _ => decide (y.1 ∉ ps)) && (ps.all fun p => decide (scope.names.lookup p = some .local))
def lamOk (C : Ctx) (a : Arguments) (scope : Scope) : Bool := match a with
  | ⟨[], [], none, [], [], none, []⟩ => lamNames C.sc scope []
  | ⟨[], [⟨p, none, _⟩], none, [], [], none, [.Constant (.int _) _ _]⟩ => lamNames C.sc scope [p]
  | _ => false
def isSetE : Expr → Bool
  | .Set .. => true
  | _ => false
def isTup : Expr → Bool
  | .Tuple .. => true
  | _ => false
def isStt : Option SV → Bool
  | some .stt => true
  | _ => false
def stCell (C : Ctx) (e : Expr) (ρ : Env) : Bool := match e with
  | .Name x _ => isStt (slotOf C ρ x)
  | _ => false

mutual
def evE : Nat → Ctx → Expr → Env → M D
  | 0, _, _, _ => stuckM
  | n + 1, C, e, ρ => match e with
    | .Constant c _ _ => constM c
    | .Name x _ => nameM C x ρ
    | .BinOp a op b _ => bnd (evB n C a ρ) fun x => bnd (evB n C b ρ) fun y => binM op x y
    | .UnaryOp .Not a _ => bnd (evB n C a ρ) fun x => bnd (truthM x) fun b => ret (.bool (!b))
    | .UnaryOp op a _ => bnd (evB n C a ρ) fun x => unM op x
    | .BoolOp op vs _ => evBool n C op vs ρ
    | .Compare a [op] [b] _ => guardM (!isSetE b) (bnd (evB n C a ρ) fun x => bnd (evB n C b ρ) fun y => bnd (cmpM op x y) fun c => ret (.bool c))
    | .Compare a [op, op'] [b, c] _ => guardM (!isSetE c) (bnd (evB n C a ρ) fun x => bnd (evB n C b ρ) fun y => bnd (cmpM op x y) fun k =>
        if k = true then bnd (evB n C c ρ) fun z => bnd (cmpM op' y z) fun k' => ret (.bool k') else ret (.bool false))
    | .IfExp t a b _ => bnd (evT n C t ρ) fun c => if c = true then evE n C a ρ else evE n C b ρ
    | .Tuple es _ _ => bnd (evEs n C es ρ) fun ds => guardM (fits ds.length) (ret (.tuple ds))
    | .Subscript a (.Slice lo hi none _) _ => bnd (evB n C a ρ) fun x => bnd (evO n C lo ρ) fun l => bnd (evO n C hi ρ) fun h => sliceM x l h
    | .Subscript a i _ => (match stCell C a ρ with
      | true => bnd (evE n C i ρ) fun y => fun st => ixM (.list st) y st
      | false => bnd (evB n C a ρ) fun x => bnd (evE n C i ρ) fun y => ixM x y)
    | .Call (.Name f _) args [] _ => evCall n C f args ρ
    | e => bnd (evF n C e ρ) fun ds => ret (.list ds)
/-- a new list -/
def evF : Nat → Ctx → Expr → Env → M (List D)
  | 0, _, _, _ => stuckM
  | n + 1, C, e, ρ => match e with
    | .List es _ => bnd (evEs n C es ρ) fun ds => guardM (fits ds.length) (ret ds)
    | .ListComp elt [⟨tg, iter, ifs, 0⟩] scope _ => guardM (blkC C.N C.sc scope (ownOf C.N scope) && !isSetE iter) (bnd (evI n C true (isTup tg) iter ρ) fun xs =>
        guardM (fits xs.length) (compM (fun x st => (match asg n (C.into scope) tg x (wipeE ρ (ownIx C.N scope)) with
          | some ρ' => (bnd (evIfs n (C.into (relSc scope C.sc)) ifs ρ') fun b => if b = true then bnd (evE n (C.into (relSc scope C.sc)) elt ρ') fun y => ret (some y) else ret none) st
          | none => R.stuck).noErr) xs))
    | .BinOp a op b _ => bnd (evB n C a ρ) fun x => bnd (evB n C b ρ) fun y => bnd (binM op x y) fun d => (match d with
      | .list ds => ret ds
      | _ => stuckM)
    | _ => stuckM
def evIfs : Nat → Ctx → List Expr → Env → M Bool
  | 0, _, _, _ => stuckM
  | _ + 1, _, [], _ => ret true
  | n + 1, C, [c], ρ => evT n C c ρ
  | _ + 1, _, _, _ => stuckM
/-- read in passing: an owned list may be looked at -/
def evB : Nat → Ctx → Expr → Env → M D
  | 0, _, _, _ => stuckM
  | n + 1, C, e, ρ => match e with
    | .Name x _ => nameB C x ρ
    | e => evE n C e ρ
def evEs : Nat → Ctx → List Expr → Env → M (List D)
  | 0, _, _, _ => stuckM
  | _ + 1, _, [], _ => ret []
  | n + 1, C, e :: es, ρ => guardM (!isStar e) (bnd (evE n C e ρ) fun d => bnd (evEs n C es ρ) fun ds => ret (d :: ds))
def evBs : Nat → Ctx → List Expr → Env → M (List D)
  | 0, _, _, _ => stuckM
  | _ + 1, _, [], _ => ret []
  | n + 1, C, e :: es, ρ => guardM (!isStar e) (bnd (evB n C e ρ) fun d => bnd (evBs n C es ρ) fun ds => ret (d :: ds))
def evO : Nat → Ctx → Option Expr → Env → M (Option Int)
  | 0, _, _, _ => stuckM
  | _ + 1, _, none, _ => ret none
  | n + 1, C, some e, ρ => bnd (evE n C e ρ) fun d => bnd (intM d) fun i => ret (some i)
/-- x and y, x or y: a value -/
def evBool : Nat → Ctx → BoolOp → List Expr → Env → M D
  | 0, _, _, _, _ => stuckM
  | _ + 1, _, _, [], _ => stuckM
  | n + 1, C, _, [e], ρ => evE n C e ρ
  | n + 1, C, .And, e :: e2 :: r, ρ => bnd (evE n C e ρ) fun d => bnd (truthM d) fun b => if b = true then evBool n C .And (e2 :: r) ρ else ret d
  | n + 1, C, .Or, e :: e2 :: r, ρ => bnd (evE n C e ρ) fun d => bnd (truthM d) fun b => if b = true then ret d else evBool n C .Or (e2 :: r) ρ
/-- a test -/
def evT : Nat → Ctx → Expr → Env → M Bool
  | 0, _, _, _ => stuckM
  | n + 1, C, e, ρ => match e with
    | .UnaryOp .Not a _ => bnd (evT n C a ρ) fun b => ret (!b)
    | .BoolOp op vs _ => evTs n C op vs ρ
    | .IfExp _ _ _ _ => stuckM
    | .Compare a [op] [b] _ => guardM (!isSetE b) (bnd (evB n C a ρ) fun x => bnd (evB n C b ρ) fun y => cmpM op x y)
    | .Compare a [op, op'] [b, c] _ => guardM (!isSetE c) (bnd (evB n C a ρ) fun x => bnd (evB n C b ρ) fun y => bnd (cmpM op x y) fun k =>
        if k = true then bnd (evB n C c ρ) fun z => cmpM op' y z else ret false)
    | .Compare _ _ _ _ => stuckM
    | e => bnd (evB n C e ρ) fun d => truthM d
def evTs : Nat → Ctx → BoolOp → List Expr → Env → M Bool
  | 0, _, _, _, _ => stuckM
  | _ + 1, _, _, [], _ => stuckM
  | n + 1, C, _, [e], ρ => evT n C e ρ
  | n + 1, C, .And, e :: e2 :: r, ρ => bnd (evT n C e ρ) fun b => if b = true then evTs n C .And (e2 :: r) ρ else ret false
  | n + 1, C, .Or, e :: e2 :: r, ρ => bnd (evT n C e ρ) fun b => if b = true then ret true else evTs n C .Or (e2 :: r) ρ
/-- what a loop walks (br: an owned list may be looked at; tp: the target is a display) -/
def evI : Nat → Ctx → Bool → Bool → Expr → Env → M (List D)
  | 0, _, _, _, _, _ => stuckM
  | n + 1, C, br, tp, e, ρ => match e with
    | .Call (.Name f _) [a] [] _ => if bi C f = true ∧ f = "range" then guardM (!isStar a) (bnd (evE n C a ρ) fun x => bnd (intM x) fun j => guardM (rgOk 0 j) (ret (rangeD 0 j)))
        else bnd (evW n C br e ρ) fun d => optM (seqOf d)
    | .Call (.Name f _) [a, b] [] _ => if bi C f = true ∧ f = "range" then guardM (!isStar a && !isStar b) (bnd (evE n C a ρ) fun x => bnd (evE n C b ρ) fun y => bnd (intM x) fun i => bnd (intM y) fun j => guardM (rgOk i j) (ret (rangeD i j)))
        else if bi C f = true ∧ f = "zip" then guardM (tp && !isStar a && !isStar b) (bnd (evW n C br a ρ) fun x => bnd (evW n C br b ρ) fun y => (match x, y with
          | .list xs, .list ys => ret (zipD xs ys)
          | .tuple xs, .tuple ys => ret (zipD xs ys)
          | _, _ => stuckM))
        else bnd (evW n C br e ρ) fun d => optM (seqOf d)
    | e => bnd (evW n C br e ρ) fun d => optM (seqOf d)
def evW : Nat → Ctx → Bool → Expr → Env → M D
  | 0, _, _, _, _ => stuckM
  | n + 1, C, true, e, ρ => evB n C e ρ
  | n + 1, C, false, e, ρ => evE n C e ρ
def evCall : Nat → Ctx → Str → List Expr → Env → M D
  | 0, _, _, _, _ => stuckM
  | n + 1, C, f, args, ρ => guardM (gl C f && !args.any isStar) (match C.fn f with
    | some fi => (match fi.st, args with
      | false, args => bnd (evEs n C args ρ) fun ds => guardM (decide (ds.length = fi.arity)) (purely (fi.sem ds))
      | true, .Name s _ :: args => guardM (isStt (slotOf C ρ s)) (bnd (evEs n C args ρ) fun ds => guardM (decide (ds.length = fi.arity)) (fi.sem ds))
      | true, _ => stuckM)
    | none => guardM (C.con f).isNone (if f = "_law_told" then (match args with
        | [.Lambda a body scope _] => guardM (C.lam && lamOk C a scope) (toldM (evE n (C.lamIn scope) body (wipeE ρ (ownIx C.N scope))))
        | _ => stuckM)
      else if f = "isinstance" then (match args with
        | [e, .Name T _] => guardM (bi C T && !isStar e && tyOk T) (bnd (evB n C e ρ) fun d => bnd (optM (isT T d)) fun b => ret (.bool b))
        | _ => stuckM)
      else (match biOf f, args with
        | some b, e :: es => bnd (evBs n C (e :: es) ρ) fun ds => biM b ds
        | _, _ => stuckM)))
end
end DI
end
section
set_option linter.all false
set_option maxRecDepth 100000
/-! D3: statements, defs, the run of a call by depth. -/
namespace DI
open PySem L2

/-! names of owned lists that leave by an expression (what is told here only helps; nothing rests on it) -/
mutual
def esc : Nat → Expr → List Str
  | 0, _ => []
  | n + 1, e => match e with
    | .Name x _ => [x]
    | .BinOp a _ b _ => escB n a ++ escB n b
    | .UnaryOp _ a _ => escB n a
    | .BoolOp _ vs _ => escs n vs
    | .Compare a _ bs _ => escB n a ++ escBs n bs
    | .IfExp t a b _ => escB n t ++ esc n a ++ esc n b
    | .Tuple es _ _ => escs n es
    | .List es _ => escs n es
    | .Subscript a i _ => escB n a ++ esc n i
    | .ListComp elt gs _ _ => esc n elt ++ escG n gs
    | .Lambda _ b _ _ => esc n b
    | .Call (.Name f _) args _ _ => if (biOf f).isSome = true ∨ f = "isinstance" ∨ f = "zip" then escBs n args else escs n args
    | _ => []
def escB : Nat → Expr → List Str
  | 0, _ => []
  | n + 1, e => match e with
    | .Name _ _ => []
    | e => esc n e
def escs : Nat → List Expr → List Str
  | 0, _ => []
  | _ + 1, [] => []
  | n + 1, e :: es => esc n e ++ escs n es
def escBs : Nat → List Expr → List Str
  | 0, _ => []
  | _ + 1, [] => []
  | n + 1, e :: es => escB n e ++ escBs n es
def escG : Nat → List Comprehension → List Str
  | 0, _ => []
  | _ + 1, [] => []
  | n + 1, ⟨_, i, fs, _⟩ :: r => escB n i ++ escs n fs ++ escG n r
end
def shareV : SV → SV
  | .ow ds => .sh (.list ds)
  | sv => sv
def shareAt (ρ : Env) (i : Nat) : Env := match ρ[i]? with
  | some (some sv) => ρ.set i (some (shareV sv))
  | _ => ρ
def share (C : Ctx) : List Str → Env → Env
  | [], ρ => ρ
  | x :: xs, ρ => share C xs (match ixOf C.N x with
    | some i => shareAt ρ i
    | none => ρ)

def isFresh : Expr → Bool
  | .List .. => true
  | .ListComp .. => true
  | .BinOp a op b _ => (match a, b with
    | .List .., _ => true
    | _, .List .. => true
    | .ListComp .., _ => true
    | _, .ListComp .. => true
    | _, _ => false)
  | _ => false
def isComp : Expr → Bool
  | .ListComp .. | .SetComp .. | .DictComp .. | .GeneratorExp .. => true
  | _ => false
def setD (ds : List D) (i : D) (d : D) : Option (List D) := match i with
  | .int k => (ixN ds.length k).map fun j => ds.set j d
  | _ => none
def escsAll (e : Expr) : List Str := match e with
  | .Call _ args _ _ => args.filterMap fun a => (match a with
    | .Name x _ => some x
    | _ => none)
  | _ => []
def isSl : Expr → Bool
  | .Slice _ _ _ _ => true
  | _ => false
def nmOk (C : Ctx) (x : Str) : Bool := !badName x && locB C.sc x && (ixOf C.N x).isSome
def whileM (t : Env → M (Bool × Env)) (b : Env → M (Fl × Env)) : Nat → Env → M (Fl × Env)
  | 0, _ => stuckM
  | k + 1, ρ => bnd (t ρ) fun c => if c.1 = true then bnd (b c.2) fun q => (match q.1 with
      | .nx => whileM t b k q.2
      | .ct => whileM t b k q.2
      | .bk => ret (.nx, q.2)
      | .rt d => ret (.rt d, q.2)) else ret (.nx, c.2)
def evV (n : Nat) (C : Ctx) (e : Expr) (ρ : Env) : M SV := if isFresh e = true then bnd (evF n C e ρ) fun ds => ret (.ow ds) else bnd (evE n C e ρ) fun d => ret (.sh d)

mutual
def evS : Nat → Ctx → Stmt → Env → M (Fl × Env)
  | 0, _, _, _ => stuckM
  | n + 1, C, s, ρ => match s with
    | .Pass _ => ret (.nx, ρ)
    | .Break _ => ret (.bk, ρ)
    | .Continue _ => ret (.ct, ρ)
    | .Return none _ => ret (.rt .none, ρ)
    | .Return (some e) _ => let ρ := share C (esc n e) ρ
        bnd (evE n C e ρ) fun d => ret (.rt d, ρ)
    | .Raise (some (.Call (.Name c _) [.Constant (.str _) _ _] [] _)) none _ => guardM (gl C c && decide (c ∈ C.exc)) (throwM ⟨c⟩)
    | .Expr (.Constant (.str _) _ _) _ => ret (.nx, ρ)
    | .Expr (.Call (.Attribute (.Name x _) m ap) [a] [] cp) _ =>
        let ρ := share C (esc n a) ρ
        (match slotOf C ρ x, ixOf C.N x with
        | some (.ow ds), some i => guardM (decide (m = "append") && !isStar a && visB C.sc x && (ap.endLine == cp.line)) (bnd (evE n C a ρ) fun d => guardM (fits (ds.length + 1)) (ret (.nx, ρ.set i (some (.ow (ds ++ [d]))))))
        | _, _ => stuckM)
    | .Expr e _ => let ρ := share C (esc n e) ρ
        guardM (!isComp e) (bnd (evE n C e ρ) fun _ => ret (.nx, ρ))
    | .Assign [.Name x _] e _ => let ρ := share C (esc n e) ρ
        guardM (nmOk C x) (if C.mkst = some x then (match e with
          | .List es _ => fun st => (match st with
            | [] => (bnd (evEs n C es ρ) fun ds => guardM (fits ds.length && !ds.isEmpty) fun _ => (match asgName C x .stt ρ with
              | some ρ' => R.ok (Fl.nx, ρ') ds
              | none => R.stuck)) []
            | _ => R.stuck)
          | _ => stuckM)
        else bnd (evV n C e ρ) fun sv => bnd (optM (asgName C x sv ρ)) fun ρ' => ret (.nx, ρ'))
    | .Assign [.Subscript (.Name x _) i _] e _ => let ρ := share C (esc n e ++ esc n i) ρ
        guardM (!isSl i) <| bnd (evE n C e ρ) fun d => (match slotOf C ρ x, ixOf C.N x with
        | some (.ow ds), some k => bnd (evE n C i ρ) fun j => bnd (optM (setD ds j d)) fun ds' => ret (.nx, ρ.set k (some (.ow ds')))
        | some .stt, _ => bnd (evE n C i ρ) fun j => fun st => (match setD st j d with
          | some st' => R.ok (Fl.nx, ρ) st'
          | none => R.stuck)
        | _, _ => stuckM)
    | .Assign [tg] e _ => let ρ := share C (esc n e) ρ
        guardM (match tg, e with
          | .Tuple .., .Tuple .. => false
          | .Tuple .., _ => true
          | _, _ => false) (bnd (evE n C e ρ) fun d => bnd (optM (asg n C tg d ρ)) fun ρ' => ret (.nx, ρ'))
    | .If t a b _ => let ρ := share C (escB n t) ρ
        bnd (evT n C t ρ) fun c => if c = true then evSs n C a ρ else evSs n C b ρ
    | .For tg iter body [] _ => let ρ := share C (esc n iter ++ escsAll iter) ρ
        guardM (!isSetE iter) <| bnd (evI n C false (isTup tg) iter ρ) fun xs => loopM (fun x ρ => bnd (optM (asg n C tg x ρ)) fun ρ' => evSs n C body ρ') xs ρ
    | .While t body [] _ => whileM (fun ρ => let ρ := share C (escB n t) ρ
        bnd (evT n C t ρ) fun c => ret (c, ρ)) (fun ρ => evSs n C body ρ) C.turns ρ
    | _ => stuckM
def evSs : Nat → Ctx → List Stmt → Env → M (Fl × Env)
  | 0, _, _, _ => stuckM
  | _ + 1, _, [], ρ => ret (.nx, ρ)
  | n + 1, C, s :: r, ρ => bnd (evS n C s ρ) fun q => (match q.1 with
    | .nx => evSs n C r q.2
    | f => ret (f, q.2))
end
end DI
end
section
set_option linter.all false
set_option autoImplicit false
set_option maxRecDepth 100000
/-! D4: how plain data lie in the heap; worlds; what is wanted behind a computation. -/
namespace DI
open PySem L2

open Classical in
/-- the heap without what is hidden -/
noncomputable def hide (Hid : Addr → Prop) (H : Hp) : Hp := fun a => if Hid a then none else H a
theorem hide_in {Hid : Addr → Prop} {H : Hp} {a : Addr} {o : HO} (h : hide Hid H a = some o) : H a = some o ∧ ¬ Hid a := by
  unfold hide at h
  split at h
  · cases h
  · exact ⟨h, by assumption⟩
theorem in_hide {Hid : Addr → Prop} {H : Hp} {a : Addr} {o : HO} (h : H a = some o) (n : ¬ Hid a) : hide Hid H a = some o := by
  unfold hide
  rw [if_neg n]
  exact h
/-- kept, tables aside -/
def Kp (H H' : Hp) : Prop := ∀ b o, H b = some o → (∀ ps, o ≠ .tbl ps) → H' b = some o
theorem Kp.rfl' {H : Hp} : Kp H H := fun _ _ h _ => h
theorem Kp.tr {H H1 H2 : Hp} (a : Kp H H1) (b : Kp H1 H2) : Kp H H2 := fun c o h n => b c o (a c o h n) n
theorem Kp.of {H H' : Hp} (h : ∀ b o, H b = some o → H' b = some o) : Kp H H' := fun b o e _ => h b o e
theorem kp_hide {Hid : Addr → Prop} {H : Hp} : Kp (hide Hid H) H := fun _ _ h _ => (hide_in h).1
mutual
/-- the value v in the heap H is the datum d -/
inductive Rp (K : PySem.W.Frag) (H : Hp) : V → PyData → Prop
  | non : Rp K H .non .none
  | bl (b : Bool) : Rp K H (.bl b) (.bool b)
  | int (i : Int) : Rp K H (.int i) (.int i)
  | str (x : Str) : Rp K H (.str x) (.str x)
  | lst {a : Addr} {xs : List V} {ds : List PyData} : Rd H a (.lst xs) → RpAll K H xs ds → Rp K H (.ref a) (.list ds)
  | tup {a : Addr} {xs : List V} {ds : List PyData} : SqT K H a xs → RpAll K H xs ds → Rp K H (.ref a) (.tuple ds)
inductive RpAll (K : PySem.W.Frag) (H : Hp) : List V → List PyData → Prop
  | nil : RpAll K H [] []
  | cons {v : V} {vs : List V} {d : PyData} {ds : List PyData} : Rp K H v d → RpAll K H vs ds → RpAll K H (v :: vs) (d :: ds)
end
section
variable {K : PySem.W.Frag} {H H' : Hp}
mutual
theorem Rp.dp : ∀ (d : PyData) (v : V), Rp K H v d → Dp K H v d
  | .none, _, h => by cases h; exact .non
  | .bool _, _, h => by cases h; exact .bl _
  | .int _, _, h => by cases h; exact .int _
  | .str _, _, h => by cases h; exact .str _
  | .list ds, _, h => by
    cases h with
    | lst hs ha => exact .lst (.inl hs) (Rp.dps ds _ ha)
  | .tuple ds, _, h => by
    cases h with
    | tup hs ha => exact .tup hs (Rp.dps ds _ ha)
  | .dict _, _, h => by cases h
theorem Rp.dps : ∀ (ds : List PyData) (vs : List V), RpAll K H vs ds → DpAll K H vs ds
  | [], _, h => by cases h; exact .nil
  | d :: ds, _, h => by
    cases h with
    | cons h1 h2 => exact .cons (Rp.dp d _ h1) (Rp.dps ds _ h2)
end
theorem Kp.rd (k : Kp H H') {a : Addr} {xs : List V} (h : Rd H a (.lst xs)) : Rd H' a (.lst xs) := by
  rcases h with h | ⟨o, h⟩
  · exact .inl (k _ _ h (by intro ps z; cases z))
  · exact .inr ⟨o, k _ _ h (by intro ps z; cases z)⟩
theorem Kp.sqL (k : Kp H H') {a : Addr} {xs : List V} (h : SqL K H a xs) : SqL K H' a xs := by
  rcases h with (h | ⟨o, h⟩) | h
  · exact .inl (.inl (k _ _ h (by intro ps z; cases z)))
  · exact .inl (.inr ⟨o, k _ _ h (by intro ps z; cases z)⟩)
  · exact .inr h
theorem Kp.sqT (k : Kp H H') {a : Addr} {xs : List V} (h : SqT K H a xs) : SqT K H' a xs := by
  rcases h with (h | ⟨o, h⟩) | h
  · exact .inl (.inl (k _ _ h (by intro ps z; cases z)))
  · exact .inl (.inr ⟨o, k _ _ h (by intro ps z; cases z)⟩)
  · exact .inr h
mutual
theorem Kp.dp (k : Kp H H') : ∀ (d : PyData) (v : V), Rp K H v d → Rp K H' v d
  | .none, _, h => by cases h; exact .non
  | .bool _, _, h => by cases h; exact .bl _
  | .int _, _, h => by cases h; exact .int _
  | .str _, _, h => by cases h; exact .str _
  | .list ds, _, h => by
    cases h with
    | lst hs ha => exact .lst (k.rd hs) (Kp.dps k ds _ ha)
  | .tuple ds, _, h => by
    cases h with
    | tup hs ha => exact .tup (k.sqT hs) (Kp.dps k ds _ ha)
  | .dict _, _, h => by cases h
theorem Kp.dps (k : Kp H H') : ∀ (ds : List PyData) (vs : List V), RpAll K H vs ds → RpAll K H' vs ds
  | [], _, h => by cases h; exact .nil
  | d :: ds, _, h => by
    cases h with
    | cons h1 h2 => exact .cons (Kp.dp k d _ h1) (Kp.dps k ds _ h2)
end
end
theorem RpAll.len {K : PySem.W.Frag} {H : Hp} : ∀ {ds : List PyData} {vs : List V}, RpAll K H vs ds → vs.length = ds.length
  | [], _, h => by cases h; rfl
  | d :: ds, _, h => by
    cases h with
    | cons h1 h2 => simp [RpAll.len h2]
theorem RpAll.at_ {K : PySem.W.Frag} {H : Hp} : ∀ {ds : List PyData} {vs : List V} {i : Nat} {d : PyData}, RpAll K H vs ds → ds[i]? = some d → ∃ v, vs[i]? = some v ∧ Rp K H v d
  | [], _, _, _, _, e => by simp at e
  | d :: ds, _, i, d', h, e => by
    cases h with
    | cons h1 h2 =>
      cases i with
      | zero => simp at e; subst e; exact ⟨_, rfl, h1⟩
      | succ i =>
        obtain ⟨v, a, b⟩ := RpAll.at_ (i := i) h2 (by simpa using e)
        exact ⟨v, by simpa using a, b⟩
theorem RpAll.app {K : PySem.W.Frag} {H : Hp} : ∀ {ds es : List PyData} {vs us : List V}, RpAll K H vs ds → RpAll K H us es → RpAll K H (vs ++ us) (ds ++ es)
  | [], _, _, _, h, g => by cases h; exact g
  | d :: ds, _, _, _, h, g => by
    cases h with
    | cons h1 h2 => exact .cons h1 (RpAll.app h2 g)
theorem RpAll.drop {K : PySem.W.Frag} {H : Hp} : ∀ {ds : List PyData} {vs : List V} (n : Nat), RpAll K H vs ds → RpAll K H (vs.drop n) (ds.drop n)
  | _, _, 0, h => by simpa using h
  | [], _, n + 1, h => by cases h; simpa using RpAll.nil
  | d :: ds, _, n + 1, h => by
    cases h with
    | cons h1 h2 => simpa using RpAll.drop n h2
theorem RpAll.take {K : PySem.W.Frag} {H : Hp} : ∀ {ds : List PyData} {vs : List V} (n : Nat), RpAll K H vs ds → RpAll K H (vs.take n) (ds.take n)
  | _, _, 0, h => by simpa using RpAll.nil
  | [], _, n + 1, h => by cases h; simpa using RpAll.nil
  | d :: ds, _, n + 1, h => by
    cases h with
    | cons h1 h2 => simpa using RpAll.cons h1 (RpAll.take n h2)
theorem RpAll.set {K : PySem.W.Frag} {H : Hp} {v : V} {d : PyData} (hv : Rp K H v d) : ∀ {ds : List PyData} {vs : List V} (n : Nat), RpAll K H vs ds → RpAll K H (vs.set n v) (ds.set n d)
  | [], _, n, h => by cases h; simpa using RpAll.nil
  | d :: ds, _, 0, h => by
    cases h with
    | cons h1 h2 => simpa using RpAll.cons hv h2
  | d :: ds, _, n + 1, h => by
    cases h with
    | cons h1 h2 => simpa using RpAll.cons h1 (RpAll.set hv n h2)
theorem RpAll.rep {K : PySem.W.Frag} {H : Hp} {ds : List PyData} {vs : List V} (h : RpAll K H vs ds) : ∀ k : Nat, RpAll K H (List.replicate k vs).flatten (List.replicate k ds).flatten
  | 0 => by simpa using RpAll.nil
  | k + 1 => by simpa [List.replicate_succ] using RpAll.app h (RpAll.rep h k)

/-! ### worlds -/
/-- the ground: the written part, the tables of code objects -/
structure Gd where
  K : PySem.W.Frag
  T : List (Addr × Str)
/-- what is wanted of an error -/
abbrev EW := Exn → Hp → Prop
/-- a world of a def: what is hidden, the state cell, the slots, their data -/
structure Wd where
  Hid : Addr → Prop
  p : Option Addr
  σ : St
  ρ : Env
  /-- a heap that was before -/
  H0 : Hp
structure Evo (p : Option Addr) (H H' : Hp) : Prop where
  kp : ∀ b o, p ≠ some b → H b = some o → (∀ ps, o ≠ .tbl ps) → H' b = some o
  dom : ∀ b, H b ≠ none → H' b ≠ none
theorem Evo.rfl' {p : Option Addr} {H : Hp} : Evo p H H := ⟨fun _ _ _ h _ => h, fun _ h => h⟩
theorem Evo.tr {p : Option Addr} {H H1 H2 : Hp} (a : Evo p H H1) (b : Evo p H1 H2) : Evo p H H2 := ⟨fun c o n h t => b.kp c o n (a.kp c o n h t) t, fun c h => b.dom c (a.dom c h)⟩
theorem Evo.of {p : Option Addr} {H H' : Hp} (h : ∀ b o, H b = some o → H' b = some o) : Evo p H H' := ⟨fun b o _ e _ => h b o e, fun b e => by
  cases q : H b with
  | none => exact absurd q e
  | some o => rw [h b o q]; simp⟩
theorem Evo.new {p : Option Addr} {H : Hp} {a : Addr} {o : HO} (n : H a = none) : Evo p H (upd H a o) := .of fun b u e => by rw [upd_ne (ne_of_none e n)]; exact e
theorem Evo.none_any {p : Option Addr} {H H' : Hp} (h : Evo none H H') : Evo p H H' := ⟨fun b o _ e t => h.kp b o (by simp) e t, h.dom⟩
def StRep (K : PySem.W.Frag) (Hid : Addr → Prop) (p : Option Addr) (H : Hp) (st : Stt) : Prop := match p with
  | none => st = []
  | some a => Hid a ∧ st ≠ [] ∧ ∃ vs, H a = some (.lst vs) ∧ RpAll K (hide Hid H) vs st
def SRep (K : PySem.W.Frag) (Hid : Addr → Prop) (p : Option Addr) (H : Hp) (v : V) : SV → Prop
  | .sh d => Rp K (hide Hid H) v d
  | .ow ds => ∃ a vs, v = .ref a ∧ Hid a ∧ p ≠ some a ∧ H a = some (.lst vs) ∧ RpAll K (hide Hid H) vs ds
  | .stt => ∃ a, v = .ref a ∧ p = some a
structure ERep (g : Gd) (w : Wd) (H : Hp) (st : Stt) : Prop where
  len : w.ρ.length = w.σ.length
  slot : ∀ (i : Nat) (sv : SV), w.ρ[i]? = some (some sv) → ∃ v, w.σ[i]? = some (some v) ∧ SRep g.K w.Hid w.p H v sv
  own : ∀ (i j : Nat) (ds es : List D) (a : Addr), w.ρ[i]? = some (some (.ow ds)) → w.ρ[j]? = some (some (.ow es)) → w.σ[i]? = some (some (.ref a)) → w.σ[j]? = some (some (.ref a)) → i = j
  stt : StRep g.K w.Hid w.p H st
  tabs : LamX.Tabs g.T H
  dom : ∀ a, w.Hid a → H a ≠ none
  old : ∀ a, w.H0 a ≠ none → H a ≠ none
section
variable {g : Gd} {w : Wd} {H H' : Hp} {st st' : Stt}
/-- what is not hidden is kept -/
theorem Evo.hid (e : Evo w.p H H') (hp : ∀ a, w.p = some a → w.Hid a) : Kp (hide w.Hid H) (hide w.Hid H') := fun b o h n => by
  obtain ⟨h1, h2⟩ := hide_in h
  exact in_hide (e.kp b o (fun z => h2 (hp b z)) h1 n) h2
theorem StRep.hid {K : PySem.W.Frag} {Hid : Addr → Prop} {p : Option Addr} (h : StRep K Hid p H st) : ∀ a, p = some a → Hid a := fun a e => by
  subst e
  exact h.1
theorem ERep.kph (E : ERep g w H st) (e : Evo w.p H H') : Kp (hide w.Hid H) (hide w.Hid H') := e.hid E.stt.hid
theorem SRep.evo {v : V} {sv : SV} (s : SRep g.K w.Hid w.p H v sv) (E : ERep g w H st) (e : Evo w.p H H') : SRep g.K w.Hid w.p H' v sv := by
  cases sv with
  | sh d => exact (E.kph e).dp d v s
  | ow ds =>
    obtain ⟨a, vs, h1, h2, h3, h4, h5⟩ := s
    exact ⟨a, vs, h1, h2, h3, e.kp a _ h3 h4 (by intro ps z; cases z), (E.kph e).dps ds vs h5⟩
  | stt => exact s
theorem ERep.evo (E : ERep g w H st) (e : Evo w.p H H') (s : StRep g.K w.Hid w.p H' st') (t : LamX.Tabs g.T H') : ERep g w H' st' :=
  ⟨E.len, fun i sv h => by
    obtain ⟨v, a, b⟩ := E.slot i sv h
    exact ⟨v, a, b.evo E e⟩, E.own, s, t, fun a h => e.dom a (E.dom a h), fun a h => e.dom a (E.old a h)⟩
theorem StRep.kp {K : PySem.W.Frag} {Hid : Addr → Prop} {p : Option Addr} (s : StRep K Hid p H st) (k : ∀ b o, H b = some o → H' b = some o) : StRep K Hid p H' st := by
  cases p with
  | none => exact s
  | some a =>
    obtain ⟨h1, h2, vs, h3, h4⟩ := s
    exact ⟨h1, h2, vs, k _ _ h3, Kp.dps (fun b o e n => by obtain ⟨q1, q2⟩ := hide_in e; exact in_hide (k _ _ q1) q2) st vs h4⟩
theorem tabs_kp {T : List (Addr × Str)} (t : LamX.Tabs T H) (k : ∀ b o, H b = some o → H' b = some o) : LamX.Tabs T H' := t.ext k
theorem ERep.kp (E : ERep g w H st) (k : ∀ b o, H b = some o → H' b = some o) : ERep g w H' st := E.evo (.of k) (E.stt.kp k) (E.tabs.ext k)
theorem upd_kp {a : Addr} {o : HO} (n : H a = none) : ∀ b u, H b = some u → upd H a o b = some u := fun b u e => by rw [upd_ne (ne_of_none e n)]; exact e
theorem ERep.new (E : ERep g w H st) {a : Addr} {o : HO} (n : H a = none) : ERep g w (upd H a o) st := E.kp (upd_kp n)
end
/-- what is wanted behind a computation: of its value, of its error -/
def Post {α β : Type} (g : Gd) (W : EW) (w : Wd) (rp : Hp → β → α → Prop) (H : Hp) (r : R α) (Q : β → Hp → Prop) : Prop := match r with
  | .ok a st' => ∀ b H', Evo w.p H H' → ERep g w H' st' → rp H' b a → Q b H'
  | .err e st' => ∀ H', Evo w.p H H' → ERep g w H' st' → W e H'
  | .stuck => False
section
variable {g : Gd} {w : Wd} {H H' : Hp} {st : Stt} {α β γ δ : Type} {rp : Hp → β → α → Prop} {rq : Hp → δ → γ → Prop} {r : R α} {W : EW} {Q : β → Hp → Prop} {Q' : δ → Hp → Prop}
theorem Post.later (h : Post g W w rp H r Q) (e : Evo w.p H H') : Post g W w rp H' r Q := by
  cases r with
  | ok a st' => exact fun b H2 e2 E2 r2 => h b H2 (e.tr e2) E2 r2
  | err x st' => exact fun H2 e2 E2 => h H2 (e.tr e2) E2
  | stuck => exact h
theorem Post.bind {f : α → M γ} (h : Post g W w rq H (r.next f) Q') (k : ∀ a st1 b H1, Evo w.p H H1 → ERep g w H1 st1 → rp H1 b a → Post g W w rq H1 (f a st1) Q' → Q b H1) : Post g W w rp H r Q := by
  cases r with
  | ok a st' => exact fun b H1 e1 E1 r1 => k a st' b H1 e1 E1 r1 (Post.later h e1)
  | err x st' => exact h
  | stuck => exact h
theorem Post.grd {b : Bool} {m : M α} (h : Post g W w rp H (guardM b m st) Q) : b = true ∧ Post g W w rp H (m st) Q := by
  unfold guardM at h
  split at h
  · exact ⟨by assumption, h⟩
  · exact h.elim
theorem Post.opt {o : Option α} (h : Post g W w rp H (optM o st) Q) : ∃ a, o = some a ∧ Post g W w rp H (.ok a st) Q := by
  cases o with
  | none => exact h.elim
  | some a => exact ⟨a, rfl, h⟩
theorem Post.now {a : α} {b : β} (h : Post g W w rp H (.ok a st) Q) (E : ERep g w H st) (r : rp H b a) : Q b H := h b H Evo.rfl' E r
theorem Post.at_ {a : α} {b : β} (h : Post g W w rp H (.ok a st) Q) (E : ERep g w H st) (k : ∀ b o, H b = some o → H' b = some o) (r : rp H' b a) : Q b H' := h b H' (.of k) (E.kp k) r
theorem Post.ends {rp' : Hp → β → α → Prop} {Q2 : β → Hp → Prop} (h : Post g W w rp H r Q) (k : ∀ a st1 b H1, Evo w.p H H1 → ERep g w H1 st1 → rp' H1 b a → Q2 b H1 ∨ (rp H1 b a ∧ (Q b H1 → Q2 b H1))) : Post g W w rp' H r Q2 := by
  cases r with
  | ok a st' => exact fun b H1 e1 E1 r1 => (k a st' b H1 e1 E1 r1).elim id fun z => z.2 (h b H1 e1 E1 z.1)
  | err x st' => exact h
  | stuck => exact h
end
/-- the reading of an evaluator -/
def tD {α β : Type} (g : Gd) (W : EW) (rp : Wd → Hp → β → α → Prop) (m : Env → M α) : St → Hp → (β → Hp → Prop) → Prop := fun σ H Q =>
  ∃ (w : Wd) (st : Stt), w.σ = σ ∧ ERep g w H st ∧ Post g W w (rp w) H (m w.ρ st) Q
def rpD (g : Gd) : Wd → Hp → V → D → Prop := fun w H v d => Rp g.K (hide w.Hid H) v d
def rpDs (g : Gd) : Wd → Hp → List V → List D → Prop := fun w H v d => RpAll g.K (hide w.Hid H) v d
/-- read in passing -/
def rpB (g : Gd) : Wd → Hp → V → D → Prop := fun w H v d => Rp g.K (hide w.Hid H) v d ∨ ∃ a vs ds, v = .ref a ∧ d = .list ds ∧ w.p ≠ some a ∧ H a = some (.lst vs) ∧ RpAll g.K (hide w.Hid H) vs ds
inductive BAll (g : Gd) (w : Wd) (H : Hp) : List V → List D → Prop where
  | nil : BAll g w H [] []
  | cons {v : V} {d : D} {vs : List V} {ds : List D} : rpB g w H v d → BAll g w H vs ds → BAll g w H (v :: vs) (d :: ds)
def rpBs (g : Gd) : Wd → Hp → List V → List D → Prop := fun w H v d => BAll g w H v d
def rpT : Wd → Hp → Bool → Bool → Prop := fun _ _ a b => a = b
def rpO : Wd → Hp → Option Int → Option Int → Prop := fun _ _ a b => a = b
section
variable {g : Gd} {w : Wd} {H H' : Hp} {st : Stt} {v : V} {d : D}
theorem rpD.evo (r : rpD g w H v d) (E : ERep g w H st) (e : Evo w.p H H') : rpD g w H' v d := (E.kph e).dp d v r
theorem rpB.evo (r : rpB g w H v d) (E : ERep g w H st) (e : Evo w.p H H') : rpB g w H' v d := by
  rcases r with r | ⟨a, vs, ds, h1, h2, h3, h4, h5⟩
  · exact .inl ((E.kph e).dp d v r)
  · exact .inr ⟨a, vs, ds, h1, h2, h3, e.kp a _ h3 h4 (by intro ps z; cases z), (E.kph e).dps ds vs h5⟩
theorem rpDs.evo {vs : List V} {ds : List D} (r : rpDs g w H vs ds) (E : ERep g w H st) (e : Evo w.p H H') : rpDs g w H' vs ds := (E.kph e).dps ds vs r
theorem rpB.ofD (r : rpD g w H v d) : rpB g w H v d := .inl r
/-- read in the whole heap -/
theorem rpB.dp (r : rpB g w H v d) : Rp g.K H v d := by
  rcases r with r | ⟨a, vs, ds, h1, h2, h3, h4, h5⟩
  · exact kp_hide.dp d v r
  · subst h1 h2
    exact .lst (.inl h4) (kp_hide.dps ds vs h5)
theorem rpB.int {i : Int} (r : rpB g w H v (.int i)) : v = .int i := by
  rcases r with r | ⟨a, vs, ds, h1, h2, h3, h4, h5⟩
  · cases r; rfl
  · cases h2
theorem rpB.bool {b : Bool} (r : rpB g w H v (.bool b)) : v = .bl b := by
  rcases r with r | ⟨a, vs, ds, h1, h2, h3, h4, h5⟩
  · cases r; rfl
  · cases h2
theorem rpB.str {x : Str} (r : rpB g w H v (.str x)) : v = .str x := by
  rcases r with r | ⟨a, vs, ds, h1, h2, h3, h4, h5⟩
  · cases r; rfl
  · cases h2
theorem rpB.none' (r : rpB g w H v .none) : v = .non := by
  rcases r with r | ⟨a, vs, ds, h1, h2, h3, h4, h5⟩
  · cases r; rfl
  · cases h2
/-- a list, by its items -/
theorem rpB.list {ds : List D} (r : rpB g w H v (.list ds)) : ∃ a vs, v = .ref a ∧ Rd H a (.lst vs) ∧ RpAll g.K (hide w.Hid H) vs ds := by
  rcases r with r | ⟨a, vs, ds', h1, h2, h3, h4, h5⟩
  · cases r with
    | lst hs ha => exact ⟨_, _, rfl, kp_hide.rd hs, ha⟩
  · cases h2
    exact ⟨a, vs, h1, .inl h4, h5⟩
theorem rpB.tuple {ds : List D} (r : rpB g w H v (.tuple ds)) : ∃ a vs, v = .ref a ∧ SqT g.K H a vs ∧ RpAll g.K (hide w.Hid H) vs ds ∧ rpD g w H v (.tuple ds) := by
  rcases r with r | ⟨a, vs, ds', h1, h2, h3, h4, h5⟩
  · have r' := r
    cases r with
    | tup hs ha => exact ⟨_, _, rfl, kp_hide.sqT hs, ha, r'⟩
  · cases h2
theorem rpD.int {i : Int} (r : rpD g w H v (.int i)) : v = .int i := by cases r; rfl
theorem rpD.bool {b : Bool} (r : rpD g w H v (.bool b)) : v = .bl b := by cases r; rfl
theorem rpD.str {x : Str} (r : rpD g w H v (.str x)) : v = .str x := by cases r; rfl
/-- a new list, shared -/
theorem new_list (E : ERep g w H st) {a : Addr} {vs : List V} {ds : List D} (n : H a = none) (h : RpAll g.K (hide w.Hid H) vs ds) : rpD g w (upd H a (.lst vs)) (.ref a) (.list ds) := by
  have nh : ¬ w.Hid a := fun z => E.dom a z n
  exact .lst (.inl (in_hide upd_same nh)) ((E.kph (Evo.new n)).dps ds vs h)
theorem new_tuple (E : ERep g w H st) {a : Addr} {vs : List V} {ds : List D} (n : H a = none) (h : RpAll g.K (hide w.Hid H) vs ds) : rpD g w (upd H a (.tup vs)) (.ref a) (.tuple ds) := by
  have nh : ¬ w.Hid a := fun z => E.dom a z n
  exact .tup (SqT.of (in_hide upd_same nh)) ((E.kph (Evo.new n)).dps ds vs h)
end
/-- a list just laid, as the last thing: nothing else knows it yet -/
def rpF (g : Gd) : Wd → Hp → V → List D → Prop := fun w H v ds => ∃ a vs H1 st, v = .ref a ∧ H1 a = none ∧ H = upd H1 a (.lst vs) ∧ ERep g w H1 st ∧ ERep g w H st ∧ RpAll g.K (hide w.Hid H1) vs ds
theorem rpF.toD {g : Gd} {w : Wd} {H : Hp} {v : V} {ds : List D} (r : rpF g w H v ds) : rpD g w H v (.list ds) := by
  obtain ⟨a, vs, H1, st, rfl, n, rfl, E, _, h⟩ := r
  exact new_list E n h
theorem _root_.L2.PE.mono {X : Cx} {e : Expr} {t t' : TE} (h : PE X e t) (k : ∀ σ H Q, t' σ H Q → t σ H Q) : PE X e t' := ⟨fun pins s σ H Q I q => h.run pins s σ H Q I (k σ H Q q)⟩
theorem _root_.L2.PT.mono {X : Cx} {e : Expr} {t t' : TT} (h : PT X e t) (k : ∀ σ H Q, t' σ H Q → t σ H Q) : PT X e t' := ⟨fun pins s σ H Q I q => h.run pins s σ H Q I (k σ H Q q)⟩
end DI
end
section
set_option linter.all false
set_option autoImplicit false
set_option maxRecDepth 100000
/-! D5: the operators and built-in functions keep what the plain ones say. -/
namespace DI
open PySem PySem.Spec L2
open PyProof.Rows hiding St
variable {X : Cx} {T : List (Addr × Str)} {W : EW}

/-- a value: a list is new -/
def rpX (g : Gd) (w : Wd) (H : Hp) (v : V) : D → Prop
  | .list ds => rpF g w H v ds
  | .none => rpD g w H v .none
  | .bool b => rpD g w H v (.bool b)
  | .int i => rpD g w H v (.int i)
  | .str x => rpD g w H v (.str x)
  | .tuple ds => rpD g w H v (.tuple ds)
  | .dict kvs => rpD g w H v (.dict kvs)
theorem rpX.toD {g : Gd} {w : Wd} {H : Hp} {v : V} {d : D} (r : rpX g w H v d) : rpD g w H v d := by
  cases d with
  | list ds => exact rpF.toD r
  | _ => exact r
theorem Post.weak {α β : Type} {g : Gd} {w : Wd} {H : Hp} {rp rp' : Hp → β → α → Prop} {r : R α} {Q : β → Hp → Prop} (h : Post g W w rp H r Q) (k : ∀ H b a, rp' H b a → rp H b a) : Post g W w rp' H r Q := by
  cases r with
  | ok a st' => exact fun b H1 e1 E1 r1 => h b H1 e1 E1 (k _ _ _ r1)
  | err x st' => exact h
  | stuck => exact h
abbrev gX (X : Cx) (T : List (Addr × Str)) : Gd := ⟨X.K, T⟩

theorem fresh_F {g : Gd} {w : Wd} {H : Hp} {st : Stt} (E : ERep g w H st) {a : Addr} {vs : List V} {ds : List D} (n : H a = none) (h : RpAll g.K (hide w.Hid H) vs ds) : rpF g w (upd H a (.lst vs)) (.ref a) ds :=
  ⟨a, vs, H, st, rfl, n, rfl, E, E.new n, h⟩
theorem len_le {g : Gd} {w : Wd} {H : Hp} {vs : List V} {ds : List D} (h : RpAll g.K (hide w.Hid H) vs ds) : vs.length = ds.length := RpAll.len h

/-! ### + and * of lists, whatever holds them -/
theorem rd_at {pins : List (Addr × Obj)} {s : Shared} {σ : L2.St} {H : Hp} {a : Addr} {xs : List V} (I : Inv X pins σ H s) (h : Rd H a (.lst xs)) :
    xs.length ≤ sizeLine ∧ ∃ (its : List Value) (n : Nat), Vals xs its ∧ xs.length = its.length ∧ s.heap.get? a = some { cls := .type "list", data := .seq its.toArray n } := by
  obtain ⟨z, its, n, r, e⟩ := h.ok I.hok
  exact ⟨z, its, n, r, r.length, e⟩
def rCatR : R2 := fun x y H Q => ∃ l b xs zs, x = .ref l ∧ y = .ref b ∧ Rd H l (.lst xs) ∧ Rd H b (.lst zs) ∧ xs.length + zs.length ≤ sizeLine ∧ ∀ p, H p = none → Q (.ref p) (upd H p (.lst (xs ++ zs)))
theorem op_catR : OpR X (binaryOp .Add) rCatR := by
  intro pins s σ H x y v u Q I rx ry ⟨l, b, xs, zs, e1, e2, h1, h2, hz, q⟩
  subst e1 e2
  cases rx
  cases ry
  obtain ⟨_, is1, n1, r1, l1, g1⟩ := rd_at I h1
  obtain ⟨_, is2, n2, r2, l2, g2⟩ := rd_at I h2
  have hs : (is1.toArray ++ is2.toArray).size ≤ sizeLine := by simp; omega
  refine PySem.P.add_list g1 g2 ?_ (by simpa using hs)
  have ea : is1.toArray ++ is2.toArray = (is1 ++ is2).toArray := by simp
  rw [ea]
  exact ⟨.ref _, _, I.lnew (t' := s.toks) (r1.append r2) (by rw [List.length_append]; omega), rfl, q _ I.fresh⟩
def rRepR : R2 := fun x y H Q => ∃ l k xs, x = .ref l ∧ y = .int k ∧ Rd H l (.lst xs) ∧ -(2 ^ 63) ≤ k ∧ k < 2 ^ 63 ∧ xs.length * k.toNat ≤ sizeLine ∧ ∀ p, H p = none → Q (.ref p) (upd H p (.lst (List.replicate k.toNat xs).flatten))
theorem op_repR : OpR X (binaryOp .Mult) rRepR := by
  intro pins s σ H x y v u Q I rx ry ⟨l, k, xs, e1, e2, h1, k1, k2, hz, q⟩
  subst e1 e2
  cases rx
  obtain ⟨t, rfl⟩ := ry
  obtain ⟨_, its, n, r, hl, g⟩ := rd_at I h1
  have hsz : its.toArray.size * k.toNat ≤ sizeLine := by rw [List.size_toArray, ← hl]; exact hz
  have hline := sizeLine_eq
  have c1 : ¬ (!Builtin.List.listFitsIndex k) = true := by rw [fitsIndex_both k1 k2]; simp
  have c2 : ¬ its.toArray.size * k.toNat > (2 ^ 63 - 1) / 8 := by omega
  have c3 : ¬ Builtin.List.listTooLong (its.toArray.size * k.toNat) = true := by rw [notLongL hsz]; simp
  have flat : ∀ m : Nat, List.foldl (fun a b => a ++ b) #[] (List.replicate m its.toArray) = (List.replicate m its).flatten.toArray := fun m => by
    have z := foldl_rep its m []
    rwa [List.nil_append] at z
  have new : List.foldl (fun a b => a ++ b) #[] (List.replicate (if its.toArray.isEmpty = true then 0 else k.toNat) its.toArray) = (List.replicate k.toNat its).flatten.toArray := by
    rw [flat]
    by_cases h0 : its = []
    · subst h0; simp
    · rw [if_neg (by simpa using h0)]
  have Tl : s.TypeIs (.ref l) "list" := ⟨_, g, rfl⟩
  have Ti : s.TypeIs (.int k t) "int" := typeIs_int s k t
  refine wpAny_binaryOp_repeat_ref (T := "list") (U := "int") (by decide) Tl (fun s' => typeIs_int s' k t) noFill_list_mul F.fills_int_mul F.slot_int_rmul repeat_list F.slot_int_index.lookup ?_
  refine call_meets F.slot_int_rmul Ti F.entry_int_rmul (F.args_int_rmul_2 _ _) (int___rmul___int_list k t l its.toArray n) ⟨g, rfl, Tl, ?_⟩
  refine call_meets F.slot_list_mul Tl F.entry_list_mul (F.args_list_mul_2 _ _) (AutoListH.list___mul___list_int_3 l its.toArray n k t c1 c2 c3) ⟨g, ?_⟩
  rw [new]
  refine ⟨.ref _, _, I.lnew (t' := s.toks) (r.rep k.toNat) ?_, rfl, q _ I.fresh⟩
  rw [lm_len_rep_flat, Nat.mul_comm]
  exact hz
theorem cutV_cutD (g : Gd) (w : Wd) (H : Hp) {vs : List V} {ds : List D} (h : RpAll g.K (hide w.Hid H) vs ds) (lo hi : Option Int) : RpAll g.K (hide w.Hid H) (cutV vs lo hi) (cutD ds lo hi) := by
  unfold cutV cutD
  rw [len_le h]
  exact RpAll.take _ (RpAll.drop _ h)

/-! ### binary operators -/
def BinOk (X : Cx) (T : List (Addr × Str)) (W : EW) (op : Operator) : Prop := ∃ r : R2, OpR X (binaryOp op) r ∧ ∀ (w : Wd) (st : Stt) (H : Hp) (x y : V) (dx dy : D) (Q : VK),
  ERep (gX X T) w H st → rpB (gX X T) w H x dx → rpB (gX X T) w H y dy → Post (gX X T) W w (rpX (gX X T) w) H (binM op dx dy st) Q → r x y H Q
theorem op_never {f : Value → Value → Sem Value} : OpR X f (fun _ _ _ _ => False) := fun _ _ _ _ _ _ _ _ _ _ _ _ h => h.elim
theorem bin_no {op : Operator} (h : ∀ dx dy, binM op dx dy = stuckM) : BinOk X T W op := ⟨_, op_never, fun w st H x y dx dy Q E rx ry h1 => by
  rw [h] at h1
  exact h1.elim⟩
theorem fits_le {n : Nat} (h : fits n = true) : n ≤ sizeLine := of_decide_eq_true h
theorem bin_add : BinOk X T W .Add := by
  refine ⟨_, op_add.or (op_add_str.or (op_catR.or op_catA)), fun w st H x y dx dy Q E rx ry h => ?_⟩
  cases dx <;> cases dy <;> try exact h.elim
  · have ex := rx.int
    have ey := ry.int
    exact .inl ⟨_, _, ex, ey, h.now E (rp := rpX _ w) (show rpD _ w H _ _ from Rp.int _)⟩
  · have ex := rx.str
    have ey := ry.str
    obtain ⟨hb, h⟩ := Post.grd h
    exact .inr (.inl ⟨_, _, ex, ey, fits_le hb, h.now E (rp := rpX _ w) (show rpD _ w H _ _ from Rp.str _)⟩)
  · obtain ⟨hb, h⟩ := Post.grd h
    obtain ⟨a, vs, rfl, ha, hs⟩ := rx.list
    obtain ⟨b, us, rfl, hb2, hu⟩ := ry.list
    refine .inr (.inr (.inl ⟨a, b, vs, us, rfl, rfl, ha, hb2, ?_, fun p hp => ?_⟩))
    · rw [len_le hs, len_le hu]
      exact fits_le hb
    · exact h _ _ (Evo.new hp) (E.new hp) (fresh_F E hp (RpAll.app hs hu))
  · obtain ⟨hb, h⟩ := Post.grd h
    obtain ⟨a, vs, rfl, ha, hs, hr⟩ := rx.tuple
    obtain ⟨b, us, rfl, hb2, hu, hr2⟩ := ry.tuple
    refine .inr (.inr (.inr ⟨a, b, vs, us, rfl, rfl, ha, hb2, ?_, fun e => ?_, fun _ e => ?_, fun _ _ p hp => ?_⟩))
    · rw [len_le hs, len_le hu]
      exact fits_le hb
    · subst e
      cases hs
      exact h.now E (rp := rpX _ w) hr2
    · subst e
      cases hu
      refine h.now E (rp := rpX _ w) (show rpD _ w H _ _ from ?_)
      rw [List.append_nil]
      exact hr
    · exact h.at_ E (upd_kp hp) (rp := rpX _ w) (new_tuple E hp (RpAll.app hs hu))
theorem bin_sub : BinOk X T W .Sub := by
  refine ⟨_, op_sub, fun w st H x y dx dy Q E rx ry h => ?_⟩
  cases dx <;> cases dy <;> try exact h.elim
  exact ⟨_, _, rx.int, ry.int, h.now E (rp := rpX _ w) (show rpD _ w H _ _ from Rp.int _)⟩
theorem bin_mul : BinOk X T W .Mult := by
  refine ⟨_, op_mul.or op_repR, fun w st H x y dx dy Q E rx ry h => ?_⟩
  cases dx <;> cases dy <;> try exact h.elim
  · obtain ⟨hb, h⟩ := Post.grd h
    have h2 := of_decide_eq_true hb
    exact .inl ⟨_, _, rx.int, ry.int, h2, h.now E (rp := rpX _ w) (show rpD _ w H _ _ from Rp.int _)⟩
  · obtain ⟨hb, h⟩ := Post.grd h
    obtain ⟨a, vs, rfl, ha, hs⟩ := rx.list
    obtain ⟨h1, h2⟩ := Bool.and_eq_true_iff.mp hb
    have h3 := of_decide_eq_true h1
    refine .inr ⟨a, _, vs, rfl, ry.int, ha, h3.1, h3.2, ?_, fun p hp => ?_⟩
    · rw [len_le hs]
      exact fits_le h2
    · exact h _ _ (Evo.new hp) (E.new hp) (fresh_F E hp (RpAll.rep hs _))
theorem bin_fdiv : BinOk X T W .FloorDiv := by
  refine ⟨_, op_fdiv, fun w st H x y dx dy Q E rx ry h => ?_⟩
  cases dx <;> cases dy <;> try exact h.elim
  obtain ⟨hb, h⟩ := Post.grd h
  have h2 := of_decide_eq_true hb
  exact ⟨_, _, rx.int, ry.int, h2, h.now E (rp := rpX _ w) (show rpD _ w H _ _ from Rp.int _)⟩
theorem bin_mod : BinOk X T W .Mod := by
  refine ⟨_, op_mod, fun w st H x y dx dy Q E rx ry h => ?_⟩
  cases dx <;> cases dy <;> try exact h.elim
  obtain ⟨hb, h⟩ := Post.grd h
  have h2 := of_decide_eq_true hb
  exact ⟨_, _, rx.int, ry.int, h2, h.now E (rp := rpX _ w) (show rpD _ w H _ _ from Rp.int _)⟩
theorem bin_pow : BinOk X T W .Pow := by
  refine ⟨_, op_pow, fun w st H x y dx dy Q E rx ry h => ?_⟩
  cases dx <;> cases dy <;> try exact h.elim
  obtain ⟨hb, h⟩ := Post.grd h
  have h2 := of_decide_eq_true hb
  exact ⟨_, _, rx.int, ry.int, h2, h.now E (rp := rpX _ w) (show rpD _ w H _ _ from Rp.int _)⟩
theorem bin_ok (op : Operator) : BinOk X T W op := by
  cases op with
  | Add => exact bin_add
  | Sub => exact bin_sub
  | Mult => exact bin_mul
  | FloorDiv => exact bin_fdiv
  | Mod => exact bin_mod
  | Pow => exact bin_pow
  | _ => exact bin_no fun dx dy => by cases dx <;> cases dy <;> rfl

/-! ### comparisons -/
def rpV : Wd → Hp → V → Bool → Prop := fun _ _ v b => v = .bl b
def CmpOk (X : Cx) (T : List (Addr × Str)) (W : EW) (op : CmpOp) : Prop := ∃ r : R2, OpR X (compareOp op) r ∧ ∀ (w : Wd) (st : Stt) (H : Hp) (x y : V) (dx dy : D) (Q : VK),
  ERep (gX X T) w H st → rpB (gX X T) w H x dx → rpB (gX X T) w H y dy → Post (gX X T) W w (rpV w) H (cmpM op dx dy st) Q → r x y H Q
theorem cmp_int {op : CmpOp} {f : Int → Int → Bool} (o : OpR X (compareOp op) (rI0 fun i j => .bl (f i j))) (h1 : ∀ i j, cmpM op (.int i) (.int j) = ret (f i j)) (h2 : ∀ dx dy, (∀ i j, ¬ (dx = .int i ∧ dy = .int j)) → cmpM op dx dy = stuckM) : CmpOk X T W op := by
  refine ⟨_, o, fun w st H x y dx dy Q E rx ry h => ?_⟩
  by_cases c : ∃ i j, dx = .int i ∧ dy = .int j
  · obtain ⟨i, j, rfl, rfl⟩ := c
    rw [h1] at h
    exact ⟨_, _, rx.int, ry.int, h.now E (rp := rpV w) rfl⟩
  · rw [h2 dx dy fun i j z => c ⟨i, j, z⟩] at h
    exact h.elim
theorem cmp_eq (hu : X.A.units + 64 < cLine) : CmpOk X T W .Eq := by
  refine ⟨_, op_eqD hu, fun w st H x y dx dy Q E rx ry h => ?_⟩
  obtain ⟨hb, h⟩ := Post.grd h
  obtain ⟨h1, h2⟩ := Bool.and_eq_true_iff.mp hb
  exact ⟨dx, dy, Rp.dp _ _ rx.dp, Rp.dp _ _ ry.dp, h1, h2, h.now E (rp := rpV w) rfl⟩
theorem Post.not' {g : Gd} {w : Wd} {H : Hp} {m : M Bool} {st : Stt} {Q : VK} (h : Post g W w (rpV w) H (notM m st) Q) : Post g W w (rpV w) H (m st) (fun v H' => ∀ b, v = .bl b → Q (.bl (!b)) H') := by
  refine Post.bind (rq := rpV w) h fun a st1 b H1 e1 E1 r1 h1 => ?_
  intro c hc
  have e : b = .bl a := r1
  rw [e] at hc
  cases hc
  exact h1.now E1 (rp := rpV w) rfl
theorem cmp_ne (hu : X.A.units + 64 < cLine) : CmpOk X T W .NotEq := by
  refine ⟨_, op_neD hu, fun w st H x y dx dy Q E rx ry h => ?_⟩
  obtain ⟨hb, h⟩ := Post.grd (Post.not' h)
  obtain ⟨h1, h2⟩ := Bool.and_eq_true_iff.mp hb
  exact ⟨dx, dy, Rp.dp _ _ rx.dp, Rp.dp _ _ ry.dp, h1, h2, (h.now E (rp := rpV w) rfl) _ rfl⟩
theorem cmp_in (hu : X.A.units + 65 < cLine) : CmpOk X T W .In := by
  refine ⟨_, (op_inD hu).or op_in_str, fun w st H x y dx dy Q E rx ry h => ?_⟩
  have key : ∀ ds, dy = .list ds → Post (gX X T) W w (rpV w) H (memM dx ds st) Q → rInD X.K x y H Q := fun ds e h => by
    subst e
    obtain ⟨hb, h⟩ := Post.grd h
    obtain ⟨h1, h2⟩ := Bool.and_eq_true_iff.mp hb
    exact ⟨dx, ds, Rp.dp _ _ rx.dp, Rp.dp _ _ ry.dp, h1, h2, h.now E (rp := rpV w) rfl⟩
  cases dy with
  | list ds => cases dx <;> exact .inl (key ds rfl h)
  | str j =>
    cases dx with
    | str i => exact .inr ⟨i, j, rx.str, ry.str, h.now E (rp := rpV w) rfl⟩
    | _ => exact h.elim
  | _ => cases dx <;> exact h.elim
theorem cmp_notin (hu : X.A.units + 65 < cLine) : CmpOk X T W .NotIn := by
  refine ⟨_, (op_notInD hu).or op_notin_str, fun w st H x y dx dy Q E rx ry h => ?_⟩
  have key : ∀ ds, dy = .list ds → Post (gX X T) W w (rpV w) H (notM (memM dx ds) st) Q → rNotInD X.K x y H Q := fun ds e h => by
    subst e
    obtain ⟨hb, h⟩ := Post.grd (Post.not' h)
    obtain ⟨h1, h2⟩ := Bool.and_eq_true_iff.mp hb
    exact ⟨dx, ds, Rp.dp _ _ rx.dp, Rp.dp _ _ ry.dp, h1, h2, (h.now E (rp := rpV w) rfl) _ rfl⟩
  cases dy with
  | list ds => cases dx <;> exact .inl (key ds rfl h)
  | str j =>
    cases dx with
    | str i => exact .inr ⟨i, j, rx.str, ry.str, h.now E (rp := rpV w) rfl⟩
    | _ => exact h.elim
  | _ => cases dx <;> exact h.elim
theorem non_iff {g : Gd} {w : Wd} {H : Hp} {v : V} {d : D} (r : rpB g w H v d) : decide (v = .non) = (match d with | .none => true | _ => false) := by
  have z := r.dp
  cases z <;> simp
theorem cmp_is : CmpOk X T W .Is := by
  refine ⟨_, op_isN, fun w st H x y dx dy Q E rx ry h => ?_⟩
  cases dy with
  | none =>
    have e := non_iff rx
    refine ⟨ry.none', ?_⟩
    rw [e]
    cases dx <;> exact h.now E (rp := rpV w) rfl
  | _ => cases dx <;> exact h.elim
theorem cmp_isnot : CmpOk X T W .IsNot := by
  refine ⟨_, op_notN, fun w st H x y dx dy Q E rx ry h => ?_⟩
  cases dy with
  | none =>
    have e := non_iff rx
    refine ⟨ry.none', ?_⟩
    rw [e]
    cases dx <;> exact h.now E (rp := rpV w) rfl
  | _ => cases dx <;> exact h.elim
theorem cmp_lt : CmpOk X T W .Lt := by
  refine ⟨_, op_lt.or op_lt_str, fun w st H x y dx dy Q E rx ry h => ?_⟩
  cases dx <;> cases dy <;> try exact h.elim
  · exact .inl ⟨_, _, rx.int, ry.int, h.now E (rp := rpV w) rfl⟩
  · exact .inr ⟨_, _, rx.str, ry.str, h.now E (rp := rpV w) rfl⟩
theorem cmp_ok (op : CmpOp) (hu : X.A.units + 65 < cLine) : CmpOk X T W op := by
  cases op with
  | Eq => exact cmp_eq (by omega)
  | NotEq => exact cmp_ne (by omega)
  | In => exact cmp_in hu
  | NotIn => exact cmp_notin hu
  | Is => exact cmp_is
  | IsNot => exact cmp_isnot
  | Lt => exact cmp_lt
  | LtE => exact cmp_int op_le (fun _ _ => rfl) fun dx dy h => by cases dx <;> cases dy <;> first | rfl | exact (h _ _ ⟨rfl, rfl⟩).elim
  | Gt => exact cmp_int op_gt (fun _ _ => rfl) fun dx dy h => by cases dx <;> cases dy <;> first | rfl | exact (h _ _ ⟨rfl, rfl⟩).elim
  | GtE => exact cmp_int op_ge (fun _ _ => rfl) fun dx dy h => by cases dx <;> cases dy <;> first | rfl | exact (h _ _ ⟨rfl, rfl⟩).elim
end DI
end
section
set_option linter.all false
set_option autoImplicit false
set_option maxRecDepth 100000
/-! D6: calls of built-in functions; argument lists. -/
namespace DI
open PySem PySem.Spec L2
open PyProof.Rows hiding St
variable {X : Cx} {T : List (Addr × Str)} {W : EW}

theorem star_no {e : Expr} {es : List Expr} {env : PySem.Env} (h : isStar e = false) : starEach (e :: es) env = (false, eval e env) :: starEach es env := by
  cases e <;> first | rfl | cases h
theorem stars_no {env : PySem.Env} {pos : Pos} : ∀ {es : List Expr}, es.any isStar = false → (backTo pos (starEach es env)).any (·.1) = false
  | [], _ => rfl
  | e :: es, h => by
    simp only [List.any_cons, Bool.or_eq_false_iff] at h
    rw [star_no h.1]
    have ih := stars_no (env := env) (pos := pos) h.2
    simp only [backTo, List.map_cons, List.any_cons, Bool.or_eq_false_iff] at ih ⊢
    exact ⟨trivial, ih⟩
theorem BAll.one {g : Gd} {w : Wd} {H : Hp} {vs : List V} {d : D} (h : BAll g w H vs [d]) : ∃ v, vs = [v] ∧ rpB g w H v d := by
  cases h with
  | cons h1 h2 => cases h2; exact ⟨_, rfl, h1⟩
theorem BAll.two {g : Gd} {w : Wd} {H : Hp} {vs : List V} {d e : D} (h : BAll g w H vs [d, e]) : ∃ v u, vs = [v, u] ∧ rpB g w H v d ∧ rpB g w H u e := by
  cases h with
  | cons h1 h2 =>
    obtain ⟨u, rfl, h3⟩ := h2.one
    exact ⟨_, _, rfl, h1, h3⟩
theorem bools_v {K : PySem.W.Frag} {H : Hp} : ∀ {ds : List D} {vs : List V} {bs : List Bool}, boolsOf ds = some bs → RpAll K H vs ds → vs = bs.map V.bl
  | [], _, _, h, r => by cases h; cases r; rfl
  | d :: ds, _, _, h, r => by
    cases d with
    | bool b =>
      simp only [boolsOf, Option.map_eq_some_iff] at h
      obtain ⟨bs, h1, rfl⟩ := h
      cases r with
      | cons r1 r2 => cases r1; simp [bools_v h1 r2]
    | _ => cases h
theorem ints_v {K : PySem.W.Frag} {H : Hp} : ∀ {ds : List D} {vs : List V} {ns : List Int}, intsOf ds = some ns → RpAll K H vs ds → vs = ns.map V.int
  | [], _, _, h, r => by cases h; cases r; rfl
  | d :: ds, _, _, h, r => by
    cases d with
    | int b =>
      simp only [intsOf, Option.map_eq_some_iff] at h
      obtain ⟨bs, h1, rfl⟩ := h
      cases r with
      | cons r1 r2 => cases r1; simp [ints_v h1 r2]
    | _ => cases h
theorem maxI_go : ∀ (xs : List Int) (x : Int), (xs.foldl (fun a b => if b > a then b else a) x ∈ x :: xs) ∧ ∀ y ∈ x :: xs, y ≤ xs.foldl (fun a b => if b > a then b else a) x
  | [], x => ⟨by simp, fun y hy => by simp at hy; simp [hy]⟩
  | z :: xs, x => by
    obtain ⟨h1, h2⟩ := maxI_go xs (if z > x then z else x)
    have hm := h2 _ List.mem_cons_self
    have hz : z ≤ (if z > x then z else x) := by split <;> omega
    have hx : x ≤ (if z > x then z else x) := by split <;> omega
    simp only [List.foldl_cons]
    refine ⟨?_, fun y hy => ?_⟩
    · rcases List.mem_cons.mp h1 with h | h
      · rw [h]
        split <;> simp
      · simp [h]
    · rcases List.mem_cons.mp hy with h | h
      · subst h
        omega
      · rcases List.mem_cons.mp h with h | h
        · subst h
          omega
        · exact h2 y (List.mem_cons_of_mem _ h)
theorem minI_go : ∀ (xs : List Int) (x : Int), (xs.foldl (fun a b => if b < a then b else a) x ∈ x :: xs) ∧ ∀ y ∈ x :: xs, xs.foldl (fun a b => if b < a then b else a) x ≤ y
  | [], x => ⟨by simp, fun y hy => by simp at hy; simp [hy]⟩
  | z :: xs, x => by
    obtain ⟨h1, h2⟩ := minI_go xs (if z < x then z else x)
    have hm := h2 _ List.mem_cons_self
    have hz : (if z < x then z else x) ≤ z := by split <;> omega
    have hx : (if z < x then z else x) ≤ x := by split <;> omega
    simp only [List.foldl_cons]
    refine ⟨?_, fun y hy => ?_⟩
    · rcases List.mem_cons.mp h1 with h | h
      · rw [h]
        split <;> simp
      · simp [h]
    · rcases List.mem_cons.mp hy with h | h
      · subst h
        omega
      · rcases List.mem_cons.mp h with h | h
        · subst h
          omega
        · exact h2 y (List.mem_cons_of_mem _ h)
theorem maxI_is {ns : List Int} {m : Int} (h : maxI ns = some m) : 0 < ns.length ∧ ∀ k, k ∈ ns → (∀ y, y ∈ ns → y ≤ k) → k = m := by
  cases ns with
  | nil => cases h
  | cons x xs =>
    simp only [maxI, Option.some.injEq] at h
    obtain ⟨h1, h2⟩ := maxI_go xs x
    rw [h] at h1 h2
    refine ⟨by simp, fun k hk hy => ?_⟩
    have a := h2 k hk
    have b := hy m h1
    omega
theorem minI_is {ns : List Int} {m : Int} (h : minI ns = some m) : 0 < ns.length ∧ ∀ k, k ∈ ns → (∀ y, y ∈ ns → k ≤ y) → k = m := by
  cases ns with
  | nil => cases h
  | cons x xs =>
    simp only [minI, Option.some.injEq] at h
    obtain ⟨h1, h2⟩ := minI_go xs x
    rw [h] at h1 h2
    refine ⟨by simp, fun k hk hy => ?_⟩
    have a := h2 k hk
    have b := hy m h1
    omega

/-- what a call of b by the arguments' values asks -/
def BiOk (X : Cx) (T : List (Addr × Str)) (W : EW) (f : Str) (b : BI) : Prop := ∃ r : List V → Hp → VK → Prop,
  (∀ (p pos : Pos) (e : Expr) (es : List Expr) (t : TA), Gl X f → X.mg f = none → isStar e = false → es.any isStar = false → PA X (e :: es) t → PE X (.Call (.Name f p) (e :: es) [] pos) (tCB r t)) ∧
  ∀ (w : Wd) (st : Stt) (H : Hp) (vs : List V) (ds : List D) (Q : VK), ERep (gX X T) w H st → BAll (gX X T) w H vs ds → Post (gX X T) W w (rpD (gX X T) w) H (biM b ds st) Q → r vs H Q
theorem biB {f : Str} {b : BI} {id : String} {r : List V → Hp → VK → Prop} (hc : CallR X (.builtin id) r) (hv : bootBuiltins f = some (.builtin id)) (hn : f ≠ "__name__") (hd : (f == ("__debug__" : Str)) = false)
    (h : ∀ (w : Wd) (st : Stt) (H : Hp) (vs : List V) (ds : List D) (Q : VK), ERep (gX X T) w H st → BAll (gX X T) w H vs ds → Post (gX X T) W w (rpD (gX X T) w) H (biM b ds st) Q → r vs H Q) : BiOk X T W f b :=
  ⟨r, fun p pos e es t hg hm s1 s2 ha => pe_callB hc hg hm hv ha hn hd (star_no s1) (stars_no s2), h⟩
theorem biT {f : Str} {b : BI} {id : String} {r : List V → Hp → VK → Prop} (hc : CallR X (.type id) r) (hv : bootBuiltins f = some (.type id)) (hn : f ≠ "__name__") (hd : (f == ("__debug__" : Str)) = false)
    (h : ∀ (w : Wd) (st : Stt) (H : Hp) (vs : List V) (ds : List D) (Q : VK), ERep (gX X T) w H st → BAll (gX X T) w H vs ds → Post (gX X T) W w (rpD (gX X T) w) H (biM b ds st) Q → r vs H Q) : BiOk X T W f b :=
  ⟨r, fun p pos e es t hg hm s1 s2 ha => pe_callTy hc hg hm hv ha hn hd (star_no s1) (stars_no s2), h⟩
def BI.one : BI → Bool
  | .max | .min => false
  | _ => true
theorem one_arg (b : BI) (hb : b.one = true) {d e : D} {ds : List D} : biM b (d :: e :: ds) = stuckM := by
  cases b <;> first | (cases d <;> rfl) | cases hb
theorem two_args (b : BI) (hb : b.one = false) {d e f : D} {ds : List D} : biM b (d :: e :: f :: ds) = stuckM := by
  cases b <;> first | (cases d <;> cases e <;> rfl) | cases hb
theorem bi_len : BiOk X T W "len" .len := by
  refine biB (call_len_seq.or call_len_str) (by decide +kernel) (by decide) (by decide) fun w st H vs ds Q E r h => ?_
  cases r with
  | nil => exact h.elim
  | cons r1 r2 =>
    cases r2 with
    | cons _ _ => rw [one_arg _ (by decide)] at h; exact h.elim
    | nil =>
      rename_i v d
      cases d with
      | list xs =>
        obtain ⟨a, us, rfl, ha, hs⟩ := r1.list
        refine .inl ⟨a, us, rfl, .inl (.inl ha), ?_⟩
        rw [len_le hs]
        exact h.now E (rp := rpD _ w) (Rp.int _)
      | tuple xs =>
        obtain ⟨a, us, rfl, ha, hs, _⟩ := r1.tuple
        refine .inl ⟨a, us, rfl, .inr ha, ?_⟩
        rw [len_le hs]
        exact h.now E (rp := rpD _ w) (Rp.int _)
      | str x =>
        have e := r1.str
        subst e
        obtain ⟨hb, h⟩ := Post.grd h
        exact .inr ⟨x, rfl, fits_le hb, h.now E (rp := rpD _ w) (Rp.int _)⟩
      | _ => exact h.elim

theorem bi_abs : BiOk X T W "abs" .abs := by
  refine biB call_abs (by decide +kernel) (by decide) (by decide) fun w st H vs ds Q E r h => ?_
  cases r with
  | nil => exact h.elim
  | cons r1 r2 =>
    cases r2 with
    | cons _ _ => rw [one_arg _ (by decide)] at h; exact h.elim
    | nil =>
      rename_i v d
      cases d with
      | int i => exact ⟨i, by rw [r1.int], h.now E (rp := rpD _ w) (Rp.int _)⟩
      | _ => exact h.elim
theorem bi_int : BiOk X T W "int" .int := by
  refine biT call_int1 (by decide +kernel) (by decide) (by decide) fun w st H vs ds Q E r h => ?_
  cases r with
  | nil => exact h.elim
  | cons r1 r2 =>
    cases r2 with
    | cons _ _ => rw [one_arg _ (by decide)] at h; exact h.elim
    | nil =>
      rename_i v d
      cases d with
      | int i => exact .inl ⟨i, by rw [r1.int], h.now E (rp := rpD _ w) (Rp.int _)⟩
      | bool i => exact .inr ⟨i, by rw [r1.bool], h.now E (rp := rpD _ w) (Rp.int _)⟩
      | _ => exact h.elim
theorem bi_all (hc : X.calm = true) : BiOk X T W "all" .all := by
  refine biB (cr_all hc) (by decide +kernel) (by decide) (by decide) fun w st H vs ds Q E r h => ?_
  cases r with
  | nil => exact h.elim
  | cons r1 r2 =>
    cases r2 with
    | cons _ _ => rw [one_arg _ (by decide)] at h; exact h.elim
    | nil =>
      rename_i v d
      cases d with
      | list xs =>
        obtain ⟨a, us, rfl, ha, hs⟩ := r1.list
        refine ⟨a, ?_⟩
        cases hb : boolsOf xs with
        | none => simp only [biM, hb] at h; exact h.elim
        | some bs =>
          simp only [biM, hb] at h
          have e := bools_v hb hs
          subst e
          exact ⟨bs, rfl, .inl ha, h.now E (rp := rpD _ w) (Rp.bl _)⟩
      | _ => exact h.elim
theorem bi_any (hc : X.calm = true) : BiOk X T W "any" .any := by
  refine biB (cr_any hc) (by decide +kernel) (by decide) (by decide) fun w st H vs ds Q E r h => ?_
  cases r with
  | nil => exact h.elim
  | cons r1 r2 =>
    cases r2 with
    | cons _ _ => rw [one_arg _ (by decide)] at h; exact h.elim
    | nil =>
      rename_i v d
      cases d with
      | list xs =>
        obtain ⟨a, us, rfl, ha, hs⟩ := r1.list
        refine ⟨a, ?_⟩
        cases hb : boolsOf xs with
        | none => simp only [biM, hb] at h; exact h.elim
        | some bs =>
          simp only [biM, hb] at h
          have e := bools_v hb hs
          subst e
          exact ⟨bs, rfl, .inl ha, h.now E (rp := rpD _ w) (Rp.bl _)⟩
      | _ => exact h.elim
theorem bi_sum (hc : X.calm = true) : BiOk X T W "sum" .sum := by
  refine biB (cr_sum hc) (by decide +kernel) (by decide) (by decide) fun w st H vs ds Q E r h => ?_
  cases r with
  | nil => exact h.elim
  | cons r1 r2 =>
    cases r2 with
    | cons _ _ => rw [one_arg _ (by decide)] at h; exact h.elim
    | nil =>
      rename_i v d
      cases d with
      | list xs =>
        obtain ⟨a, us, rfl, ha, hs⟩ := r1.list
        refine ⟨a, ?_⟩
        cases hb : intsOf xs with
        | none => simp only [biM, hb] at h; exact h.elim
        | some ns =>
          simp only [biM, hb] at h
          have e := ints_v hb hs
          subst e
          exact ⟨ns, rfl, .inl ha, h.now E (rp := rpD _ w) (Rp.int _)⟩
      | _ => exact h.elim
theorem bi_max (hc : X.calm = true) : BiOk X T W "max" .max := by
  refine biB ((cr_max hc).or (call_max2 hc)) (by decide +kernel) (by decide) (by decide) fun w st H vs ds Q E r h => ?_
  cases r with
  | nil => exact h.elim
  | cons r1 r2 =>
    rename_i v d us es
    cases r2 with
    | cons r2 r3 =>
      rename_i v2 d2 us2 es2
      cases r3 with
      | cons _ _ => rw [two_args _ (by decide)] at h; exact h.elim
      | nil =>
        cases d with
        | int i =>
          cases d2 with
          | int j => exact .inr ⟨i, j, by rw [r1.int, r2.int], h.now E (rp := rpD _ w) (Rp.int _)⟩
          | _ => exact h.elim
        | _ => exact h.elim
    | nil =>
      cases d with
      | list xs =>
        obtain ⟨a, us, rfl, ha, hs⟩ := r1.list
        refine .inl ⟨a, ?_⟩
        cases hb : intsOf xs with
        | none => simp only [biM, hb] at h; exact h.elim
        | some ns =>
          simp only [biM, hb] at h
          change Post _ _ _ _ _ ((bnd (optM (maxI ns)) fun m => ret (PyData.int m)) st) _ at h
          cases hm : maxI ns with
          | none => rw [hm] at h; exact h.elim
          | some m =>
            rw [hm] at h
            have e := ints_v hb hs
            subst e
            obtain ⟨m1, m2⟩ := maxI_is hm
            refine ⟨ns, rfl, .inl ha, m1, fun k hk hy => ?_⟩
            rw [m2 k hk hy]
            exact h.now E (rp := rpD _ w) (Rp.int _)
      | _ => exact h.elim
theorem bi_min (hc : X.calm = true) : BiOk X T W "min" .min := by
  refine biB ((cr_min hc).or (call_min2 hc)) (by decide +kernel) (by decide) (by decide) fun w st H vs ds Q E r h => ?_
  cases r with
  | nil => exact h.elim
  | cons r1 r2 =>
    rename_i v d us es
    cases r2 with
    | cons r2 r3 =>
      rename_i v2 d2 us2 es2
      cases r3 with
      | cons _ _ => rw [two_args _ (by decide)] at h; exact h.elim
      | nil =>
        cases d with
        | int i =>
          cases d2 with
          | int j => exact .inr ⟨i, j, by rw [r1.int, r2.int], h.now E (rp := rpD _ w) (Rp.int _)⟩
          | _ => exact h.elim
        | _ => exact h.elim
    | nil =>
      cases d with
      | list xs =>
        obtain ⟨a, us, rfl, ha, hs⟩ := r1.list
        refine .inl ⟨a, ?_⟩
        cases hb : intsOf xs with
        | none => simp only [biM, hb] at h; exact h.elim
        | some ns =>
          simp only [biM, hb] at h
          change Post _ _ _ _ _ ((bnd (optM (minI ns)) fun m => ret (PyData.int m)) st) _ at h
          cases hm : minI ns with
          | none => rw [hm] at h; exact h.elim
          | some m =>
            rw [hm] at h
            have e := ints_v hb hs
            subst e
            obtain ⟨m1, m2⟩ := minI_is hm
            refine ⟨ns, rfl, .inl ha, m1, fun k hk hy => ?_⟩
            rw [m2 k hk hy]
            exact h.now E (rp := rpD _ w) (Rp.int _)
      | _ => exact h.elim
theorem bi_tuple : BiOk X T W "tuple" .tuple := by
  refine biT call_tuple_of (by decide +kernel) (by decide) (by decide) fun w st H vs ds Q E r h => ?_
  cases r with
  | nil => exact h.elim
  | cons r1 r2 =>
    cases r2 with
    | cons _ _ => rw [one_arg _ (by decide)] at h; exact h.elim
    | nil =>
      rename_i v d
      cases d with
      | list xs =>
        obtain ⟨a, us, rfl, ha, hs⟩ := r1.list
        exact ⟨a, us, rfl, .inl ⟨.inl ha, fun p hp => h.at_ E (upd_kp hp) (rp := rpD _ w) (new_tuple E hp hs)⟩⟩
      | tuple xs =>
        obtain ⟨a, us, rfl, ha, hs, hr⟩ := r1.tuple
        exact ⟨a, us, rfl, .inr ⟨ha, h.now E (rp := rpD _ w) hr⟩⟩
      | _ => exact h.elim
theorem bi_list : BiOk X T W "list" .list := by
  refine biT call_list_of (by decide +kernel) (by decide) (by decide) fun w st H vs ds Q E r h => ?_
  cases r with
  | nil => exact h.elim
  | cons r1 r2 =>
    cases r2 with
    | cons _ _ => rw [one_arg _ (by decide)] at h; exact h.elim
    | nil =>
      rename_i v d
      cases d with
      | list xs =>
        obtain ⟨a, us, rfl, ha, hs⟩ := r1.list
        exact ⟨a, us, rfl, .inl (.inl ha), fun p hp => h.at_ E (upd_kp hp) (rp := rpD _ w) (new_list E hp hs)⟩
      | tuple xs =>
        obtain ⟨a, us, rfl, ha, hs, hr⟩ := r1.tuple
        exact ⟨a, us, rfl, .inr ha, fun p hp => h.at_ E (upd_kp hp) (rp := rpD _ w) (new_list E hp hs)⟩
      | _ => exact h.elim
end DI
end
section
set_option linter.all false
set_option autoImplicit false
set_option maxRecDepth 100000
/-! D6g: calls of defs where no guard stands around; repr. -/
namespace DI
open PySem PySem.Spec L2
open PyProof.Rows hiding St
/-- FnOk where no guard (of repr, of a comparison) stands around the call -/
structure FnOkG (P : Program) (w : World) (K : PySem.W.Frag) (mg : Str → Option Value) (base : Heap) (CX : CXT) (k : Nat) (f : Addr) (fd : FuncData) (ps : List Str) (sp : Sp) : Prop where
  len : ∀ vs H Q E, sp vs H Q E → vs.length = ps.length
  run : ∀ (A : Around) (outer : List PySem.Env) (s : Shared) (H : Hp) (args : Args) (us : List Value) (vs : List V) (Q : VK) (E : XK), A.guards = some [] → Room k A → Env0 P w K mg base A outer s H → BindsTo s fd args (ps.zip us) → Vals vs us → sp vs H Q E →
    codeAny (model P w) A (.call (.ref f) args) (CR CX outer P w H s Q E) s
theorem FnOkG.mono {P : Program} {w : World} {K : PySem.W.Frag} {mg : Str → Option Value} {base : Heap} {CX : CXT} {j k : Nat} {f : Addr} {fd : FuncData} {ps : List Str} {sp : Sp} (F : FnOkG P w K mg base CX j f fd ps sp) (h : j ≤ k) : FnOkG P w K mg base CX k f fd ps sp :=
  ⟨F.len, fun A outer s H args us vs Q E hg hr => F.run A outer s H args us vs Q E hg (hr.mono h)⟩
theorem guards_deeper {A : Around} {env : PySem.Env} (h : A.guards = some []) : (A.deeper env).guards = some [] := h
/-- a def of the text by its body -/
theorem fn_ofG {CX : CXT} {P : Program} {w : World} {K : PySem.W.Frag} {mg : Str → Option Value} {base : Heap} {k : Nat} {f : Addr} {x qual : Str} {params : Arguments} {body : List Stmt} {scope : Scope} {dvs : List V} {kws : List (Str × V)} {fd : FuncData} {N ps : List Str} {sp : Sp}
    (F : FunD K x qual params body scope dvs kws f fd) (S : FnScope N ps scope) (len : ∀ vs H Q E, sp vs H Q E → vs.length = ps.length)
    (hbody : ∀ (cdv : Value) (A : Around) (outer : List PySem.Env) (s : Shared) (H : Hp) (vs : List V) (Q : VK) (E : XK), PySem.W.codeIn K cdv qual = true → fd.code = cdv → (A.deeper (envOfC qual scope s.heap.objs.size f cdv)).guards = some [] → Room k (A.deeper (envOfC qual scope s.heap.objs.size f cdv)) → sp vs H Q E →
      ∃ t, PSs (cxOf CX P w K mg base N qual scope f cdv A outer s H E) body t ∧ t { nx := fun _ H' => Q .non H', rt := Q } (L2.start N vs) H) : FnOkG P w K mg base CX (k + 1) f fd ps sp := by
  obtain ⟨oc, od, dV, kV, doc, pm, an, cdv, ct, osl, rfl, lk, hcd, _, _⟩ := F.ex
  exact ⟨len, fun A outer s H args us vs Q E hg hr e0 hb r hsp => LamX.run_ofS lk hcd S hr e0 hb r (len _ _ _ _ hsp) fun hr' => hbody cdv A outer s H vs Q E hcd rfl (guards_deeper hg) hr' hsp⟩
section
variable {X : Cx} {CX : CXT} {k : Nat} {f : Addr} {fd : FuncData} {ps : List Str} {sp : Sp} {dvs : List V} {ds : List Value} {E : XK} {x : Str} {p pos : Pos} {e : Expr} {es : List Expr} {t : TA}
theorem run_fnG {pins : List (Addr × Obj)} {σ : L2.St} {H : Hp} {s : Shared} {Q : VK} {us : List Value} {vs : List V} (hgd : X.A.guards = some []) (F : FnOkG X.prog X.w X.K X.mg X.base CX k f fd ps sp) (hr : Room k X.A) (hb : L2.Binds X.K fd ps ds) (hd : Vals dvs ds) (hx : Passes CX X E)
    (I : Inv X pins σ H s) (r : Vals vs us) (h : sp (vs ++ dvs) H Q E) : wpAny (model X.prog X.w) X.A (call (.ref f) us) (EP X pins σ Q) X.xe s := by
  have r2 : Vals (vs ++ dvs) (us ++ ds) := r.append hd
  have hl : (us ++ ds).length = ps.length := r2.length.symm.trans (F.len _ _ _ _ h)
  refine wpAny_call (codeAny_mono (F.run X.A X.stack s H ⟨us, []⟩ (us ++ ds) (vs ++ dvs) Q E hgd hr I.env0 (hb s us I.kIn hl) r2 h) fun r s' hq => ?_)
  match r, hq with
  | .error e, hq => exact hx pins σ H s e s' I hq
  | .ok (.ret u), hq => exact I.after hq
theorem pe_callG (hgd : X.A.guards = some []) (F : FnOkG X.prog X.w X.K X.mg X.base CX k f fd ps sp) (hr : Room k X.A) (hg : Gl X x) (hm : X.mg x = some (.ref f)) (hk : PySem.W.keepIn X.K (.ref f) = true) (hb : L2.Binds X.K fd ps ds) (hd : Vals dvs ds) (hx : Passes CX X E)
    (ha : PA X (e :: es) t) (hdb : (x == ("__debug__" : Str)) = false) (he : starEach (e :: es) X.env = (false, eval e X.env) :: starEach es X.env) (hpl : (backTo pos (starEach es X.env)).any (·.1) = false) :
    PE X (.Call (.Name x p) (e :: es) [] pos) (tCall sp dvs E t) :=
  ⟨fun pins s σ H Q I h => wpAny_Call_Name_kw (ld_glob I hg hm (PySem.W.callWith_K (h₀ := X.base) I.ok.mod.kin hk (thn (ha.run pos pins s σ H _ I h) fun us s1 ⟨vs, H1, I1, r, q⟩ => ⟨I1.kIn, run_fnG hgd F hr hb hd hx I1 r q⟩) he hpl) hdb)⟩
theorem pe_call0G (hgd : X.A.guards = some []) (F : FnOkG X.prog X.w X.K X.mg X.base CX k f fd ps sp) (hr : Room k X.A) (hg : Gl X x) (hm : X.mg x = some (.ref f)) (hk : PySem.W.keepIn X.K (.ref f) = true) (hb : L2.Binds X.K fd ps ds) (hd : Vals dvs ds) (hx : Passes CX X E)
    (hdb : (x == ("__debug__" : Str)) = false) : PE X (.Call (.Name x p) [] [] pos) (tCall sp dvs E tNil) :=
  ⟨fun pins s σ H Q I h => wpAny_Call_Name_kw (ld_glob I hg hm (PySem.W.callWith_K0 I.kIn hk (run_fnG (us := []) hgd F hr hb hd hx I .nil h)) hdb)⟩
/-! ### repr -/
theorem call_reprD (hgd : X.A.guards = some []) (hu : X.A.units + 102 < cLine) : CallR X (.builtin "repr") (fun vs H Q => ∃ a d, vs = [.ref a] ∧ Dp X.K H (.ref a) d ∧ d.showable = true ∧ d.hasDict = false ∧ d.depth ≤ 100 ∧ d.shown.length ≤ sizeLine ∧ Q (.str d.shown) H) := by
  intro pins s σ H vs us Q I r h
  obtain ⟨a, d, rfl, hd, h1, h2, h3, h4, q⟩ := h
  obtain ⟨u, rfl, ru⟩ := r.one
  cases ru
  obtain ⟨as, hr⟩ := Dp.reads I d (.ref a) (.ref a) hd rfl
  exact repr_of_reads' hr h1 (PyData.noDict_hsm h2) hgd (by omega) (fun _ _ e => e) (fun h' u tk hk => ⟨.str d.shown, H, I.kept (t' := tk) hk, ⟨u, rfl⟩, q⟩) h4
end
end DI
end
section
set_option linter.all false
set_option autoImplicit false
set_option maxRecDepth 100000
set_option maxHeartbeats 2000000
/-! D19: a lambda without parameters, or with one that has a written number: made, called. -/
namespace DI
open PySem PySem.Spec L2
open PyProof.Rows hiding St
open LamX
/-- its parameters; the number -/
inductive LamDef : Arguments → List Str → List Int → Prop
  | none : LamDef ⟨[], [], none, [], [], none, []⟩ [] []
  | one (p : Str) (i : Int) (j : Nat) (q q2 : Pos) : LamDef ⟨[], [⟨p, none, q⟩], none, [], [], none, [.Constant (.int i) j q2]⟩ [p] [i]
/-- its defaults as they stand -/
def DflAt (h : Heap) (H : Hp) (fs : List Addr) (dV : Value) : List Int → Prop
  | [] => dV = .none
  | i :: _ => ∃ (t : Addr) (tok : Tok), dV = .ref t ∧ h.get? t = some (PySem.W.kdv_tup [.int i tok]) ∧ H t = none ∧ t ∉ fs
section
variable {X : Cx} {pins : List (Addr × Obj)} {σ : L2.St} {H : Hp} {s : Shared}
theorem nofr (I : Inv X pins σ H s) : ∀ f, s.heap.objs.size ≤ f → f ∉ frs X.stack := fun f hf z => by
  rcases List.mem_cons.mp (I.stkSub _ z) with e | e
  · have h1 := I.lt
    rw [← e] at h1
    exact Nat.lt_irrefl _ (Nat.lt_of_lt_of_le h1 hf)
  · exact I.nofs hf e
/-- what is known behind the making -/
structure Made (X : Cx) (T : List (Addr × Str)) (params : Arguments) (body : Expr) (scope : Scope) (ds : List Int) (H H1 : Hp) (s' : Shared) (f c' : Addr) : Prop where
  ext : ExtN H H1
  dom : ∀ b, H b ≠ none → H1 b ≠ none
  tabs : Tabs T H1
  obj : ∃ (dV doc pm ctv : Value), s'.heap.get? f = some (PySem.W.kdv_obj "<lambda>" (X.env.qual ++ "<lambda>") params (.expr body) scope (cloFrom X.env.cells scope.names []) dV doc pm c' ctv) ∧ DflAt s'.heap H1 (frs X.stack) dV ds
  free : H1 f = none
  nofr : f ∉ frs X.stack
  code : H1 c' = some (CodeO c' (X.env.qual ++ "<lambda>"))
theorem lam_tail {T : List (Addr × Str)} {c P : Addr} {params : Arguments} {body : Expr} {scope : Scope} {pos : Pos} {ds : List Int} {dV : Value} {E : Value → Shared → Prop} {Q : Value → Shared → Prop} {Hb : Hp} (I : Inv X pins σ H s) (TB : TabB X.base X.mg c P) (hcode : X.env.code = .ref c)
    (hm : (P, X.env.qual ++ "<lambda>") ∈ T) (hu : ∀ p ∈ T, p.1 = P → p.2 = X.env.qual ++ "<lambda>") (hT : Tabs T H) (hfree : ∀ y ∈ scope.names, y.2 = .free → ∃ c, X.env.cells.lookup y.1 = some c)
    (hd : DflAt s.heap H (frs X.stack) dV ds)
    (h : ∀ (f c' : Addr) (H1 : Hp) (s' : Shared), Inv X pins σ H1 s' → Made X T params body scope ds H H1 s' f c' → Q (.ref f) s') :
    wpAny (model X.prog X.w) X.A (makeTail "<lambda>" (X.env.qual ++ "<lambda>") params (.expr body) scope X.env dV .none none pos pos.line) Q E s := by
  obtain ⟨ps, hP, ht, ha⟩ := hT _ hm
  have bP : s.heap.BuiltinsAt X.mg P := TB.bm.keeps I.bk
  have hP' : s.heap.get? P = some { cls := .none, data := .fields ps } := I.hok P _ hP
  have dfl : ∀ {h' : Heap} {H1 : Hp}, (∀ b o, s.heap.get? b = some o → H b = none → h'.get? b = some o) → (∀ b o, s.heap.get? b = some o → H b = none → H1 b = none) → DflAt h' H1 (frs X.stack) dV ds := fun {h' H1} k1 k2 => by
    cases ds with
    | nil => exact hd
    | cons i r =>
      obtain ⟨t, tok, e, h1, h2, h3⟩ := hd
      exact ⟨t, tok, e, k1 _ _ h1 h2, k2 _ _ h1 h2, h3⟩
  have nP : ∀ b, H b = none → b ≠ P := fun b e z => by rw [z, hP] at e; cases e
  cases hc : codeAmong pos ps.toList with
  | none =>
    refine PySem.W.kdv_makeTail (mg := X.mg) (c := c) (P := P) (ps := ps) (closure_ok hfree) I.ok.glob (I.mod.glob.keeps I.bk) hcode (TB.code.keeps I.bk) hP' ht hc TB.gP bP fun c' ctv doc h' tk hx hge hlt hrec htb => ?_
    obtain ⟨c2, oc, vs, t, e2, hoc, hdo, hv⟩ := hrec
    cases e2
    have hsz : s.heap.objs.size ≤ h'.objs.size := Nat.le_trans hge (Nat.le_of_lt hlt)
    have nC : H c' = none := I.hok.fresh hge
    have I1 := inv_table (t' := tk) (more := #[rawInt pos.line, rawInt pos.col, .ref c']) (h' := h'.push (PySem.W.kdv_obj "<lambda>" (X.env.qual ++ "<lambda>") params (.expr body) scope (cloFrom X.env.cells scope.names []) dV doc ((X.mg "__name__").getD .none) c' ctv)) I hP
      (fun b o hb e => Heap.get?_push_of_some _ (hx b o hb e)) (Heap.get?_push_of_some _ htb) hge ⟨oc, vs, t, Heap.get?_push_of_some _ hoc, hdo, hv⟩
    have hE : ExtN H (upd (upd H P (.tbl (ps ++ #[rawInt pos.line, rawInt pos.col, .ref c']))) c' (CodeO c' (X.env.qual ++ "<lambda>"))) := fun b o e n => by
      rw [upd_ne (ne_of_none e nC), upd_ne (fun z => n ps (Option.some.inj (e.symm.trans (by rw [z]; exact hP))))]
      exact e
    have eL : (ps ++ #[rawInt pos.line, rawInt pos.col, .ref c']).toList = ps.toList ++ [rawInt pos.line, rawInt pos.col, .ref c'] := by simp
    refine h h'.objs.size c' _ _ I1 ⟨hE, fun b hb => ?_, fun p hp => ?_, ⟨dV, doc, (X.mg "__name__").getD .none, ctv, Heap.get?_push_size _ rfl, dfl (fun b o e n => Heap.get?_push_of_some _ (hx b o (nP b n) e)) fun b o e n => ?_⟩, ?_, nofr I _ hsz, upd_same⟩
    · by_cases z : b = c'
      · subst z; rw [upd_same]; simp
      · rw [upd_ne z]
        by_cases z2 : b = P
        · subst z2; rw [upd_same]; simp
        · rw [upd_ne z2]; exact hb
    · by_cases hb : p.1 = P
      · rw [hu p hp hb, hb]
        refine ⟨_, by rw [upd_ne (ne_of_none hP nC), upd_same], by rw [eL]; exact PySem.TriplesOk_snoc _ _ _ _ ht, fun p' cv hcv => ?_⟩
        rw [eL] at hcv
        rcases among_app _ ht hcv with z | z
        · obtain ⟨c0, e1, e2⟩ := ha p' cv z
          exact ⟨c0, e1, hE _ _ e2 codeO_ne⟩
        · exact ⟨c', z, upd_same⟩
      · obtain ⟨ps', a1, a2, a3⟩ := hT p hp
        refine ⟨ps', by rw [upd_ne (ne_of_none a1 nC), upd_ne hb]; exact a1, a2, fun p' cv hcv => ?_⟩
        obtain ⟨c0, e1, e2⟩ := a3 p' cv hcv
        exact ⟨c0, e1, hE _ _ e2 codeO_ne⟩
    · rw [upd_ne (show b ≠ c' from fun z => Nat.lt_irrefl _ (Nat.lt_of_lt_of_le (Heap.lt_size e) (z ▸ hge))), upd_ne (nP b n)]
      exact n
    · have nf : h'.objs.size ≠ c' := Nat.ne_of_gt hlt
      have nf2 : h'.objs.size ≠ P := fun z => Nat.lt_irrefl _ (Nat.lt_of_lt_of_le (Heap.lt_size hP') (z ▸ hsz))
      rw [upd_ne nf, upd_ne nf2]
      exact I.hok.fresh hsz
  | some cv =>
    obtain ⟨c', e, hco⟩ := ha pos cv hc
    subst e
    refine PySem.W.kdv_makeTailHit (mg := X.mg) (c := c) (P := P) (ps := ps) (closure_ok hfree) I.ok.glob (I.mod.glob.keeps I.bk) hcode (TB.code.keeps I.bk) hP' ht hc bP fun ctv doc h' tk hx hsz => ?_
    have I1 : Inv X pins σ H { s with heap := h'.push (PySem.W.kdv_obj "<lambda>" (X.env.qual ++ "<lambda>") params (.expr body) scope (cloFrom X.env.cells scope.names []) dV doc ((X.mg "__name__").getD .none) c' ctv), toks := tk } := I.kept fun b o e => Heap.get?_push_of_some _ (hx b o e)
    exact h h'.objs.size c' H _ I1 ⟨ExtN.refl H, fun _ hb => hb, hT, ⟨dV, doc, (X.mg "__name__").getD .none, ctv, Heap.get?_push_size _ rfl, dfl (fun b o e n => Heap.get?_push_of_some _ (hx b o e)) fun b o e n => n⟩, I.hok.fresh hsz, nofr I _ hsz, hco⟩
theorem lam_make3 {T : List (Addr × Str)} {c P : Addr} {params : Arguments} {body : Expr} {scope : Scope} {pos : Pos} {pl : List Str} {ds : List Int} {E : Value → Shared → Prop} {Q : Value → Shared → Prop} (I : Inv X pins σ H s) (TB : TabB X.base X.mg c P) (hcode : X.env.code = .ref c)
    (hm : (P, X.env.qual ++ "<lambda>") ∈ T) (hu : ∀ p ∈ T, p.1 = P → p.2 = X.env.qual ++ "<lambda>") (hT : Tabs T H) (hfree : ∀ y ∈ scope.names, y.2 = .free → ∃ c, X.env.cells.lookup y.1 = some c) (hd : LamDef params pl ds)
    (h : ∀ (f c' : Addr) (H1 : Hp) (s' : Shared), Inv X pins σ H1 s' → Made X T params body scope ds H H1 s' f c' → Q (.ref f) s') :
    wpAny (model X.prog X.w) X.A (eval (.Lambda params body scope pos) X.env) Q E s := by
  cases hd with
  | none =>
    refine PySem.W.kla_eval rfl ?_
    rw [makeFunction_eq]
    simp only [List.zip_nil_right, List.filterMap_nil, List.isEmpty_nil, if_true, pure_bind]
    exact lam_tail (Hb := H) I TB hcode hm hu hT hfree (dV := .none) (ds := []) rfl h
  | one p i j q q2 =>
    refine PySem.W.kdv_lam rfl rfl (PySem.W.kdv_all1 (wpAny_Constant_int (PySem.W.kdv_all0 ?_)))
    rw [makeFunction_eq]
    simp only [List.zip_nil_right, List.filterMap_nil, List.isEmpty_nil, List.isEmpty_cons, Bool.false_eq_true, if_false, if_true, pure_bind]
    refine wpAny_bind (wpAny_newTextTuple ?_)
    have I1 := (I.tok (s.toks + 1))
    have I2 : Inv X pins σ H { s with heap := s.heap.push (PySem.W.kdv_tup [.int i s.toks]), toks := s.toks + 1 } := I.kept (t' := s.toks + 1) fun b o e => Heap.get?_push_of_some _ e
    exact lam_tail (Hb := H) I2 TB hcode hm hu hT hfree (dV := .ref s.heap.objs.size) (ds := [i]) ⟨_, s.toks, rfl, Heap.get?_push_size _ rfl, I.hok.fresh (Nat.le_refl _), nofr I _ (Nat.le_refl _)⟩ h
end
/-! ### its body -/
structure LamS3 (sc scope : Scope) (pl : List Str) : Prop where
  kind : scope.kind = .function
  co : scope.isCoroutine = false
  gen : scope.isGenerator = false
  own : ∀ y ∈ scope.names, y.2 ≠ .cell
  loc : ∀ p ∈ pl, scope.names.lookup p = some .local
  free : ∀ y ∈ scope.names, y.2 = .free → sc.names.lookup y.1 = some .cell ∨ sc.names.lookup y.1 = some .free
theorem LamS3.has {X : Cx} {scope : Scope} {pl : List Str} (L : LamS3 X.env.scope scope pl) (ok : X.Ok) : ∀ y ∈ scope.names, y.2 = .free → ∃ c, X.env.cells.lookup y.1 = some c := fun y hy e => by
  rcases L.free y hy e with k | k
  · exact ok.has _ (.inl k)
  · exact ok.has _ (.inr k)
/-- the context of its body: an exception's context is told, too -/
def lamCxN (X : Cx) (A : Around) (outer : List PySem.Env) (s : Shared) (H : Hp) (E : XK) (scope : Scope) (f c' : Addr) : Cx :=
  { lamCx X A outer s H E scope f c' with
    xe := fun e s' => wpAny (model X.prog X.w) (A.deeper (lamEnv X scope s.heap.objs.size f c')) (leaving (lamEnv X scope s.heap.objs.size f c') e) (fun _ s'' => L2N.CX X.prog X.w outer H s E e s'') (fun e' s'' => L2N.CX X.prog X.w outer H s E e' s'') s' }
section
variable {X : Cx} {pins : List (Addr × Obj)} {σ : L2.St} {H HZ : Hp} {s s1 : Shared}
theorem lam_start3 {A : Around} {outer : List PySem.Env} {E : XK} {scope : Scope} {pl : List Str} {f c' : Addr} {h₁ : Heap} {tk : Nat} {mm : Str → Option Value} {vs : List Nat} (I : Inv X pins σ H s) (hN : X.N.Nodup) (L : LamS3 X.env.scope scope pl) (e0 : Env0 X.prog X.w X.K X.mg X.base A outer s1 HZ) (hd : A.handled = none)
    (hvs : ∀ i y, X.N[i]? = some y → scope.names.lookup y = some .local → i ∈ vs)
    (un : Un (frs X.stack) [] H HZ s.heap s1.heap) (hns : h₁.Ns s1.heap.objs.size mm) (kp : ∀ b o, s1.heap.get? b = some o → h₁.get? b = some o) :
    Inv (lamCxN X A outer s1 HZ E scope f c') [] (wipe σ vs) HZ { s1 with heap := h₁, toks := tk } := by
  have hfree := L.has I.ok
  have cm : ∀ {y c}, (cloFrom X.env.cells scope.names []).lookup y = some c → X.env.cells.lookup y = some c := fun {y c} e => by
    rcases cloFrom_mem (PySem.mem_of_lookup e) with hm | ⟨h1, h2⟩
    · cases hm
    · obtain ⟨c1, hc⟩ := hfree _ h1 rfl
      have hc : X.env.cells.lookup y = some c1 := hc
      have e2 : c = c1 := by
        rw [h2, hc] <;> rfl
      rw [e2]
      exact hc
  have look : ∀ {y}, scope.names.lookup y = some .free → ∃ c, (cloFrom X.env.cells scope.names []).lookup y = some c := fun {y} hl => by
    have hy : (y, NameKind.free) ∈ scope.names := PySem.mem_of_lookup hl
    exact mem_lookup (cloFrom_has (cells := X.env.cells) (acc := []) hy)
  have cellK : ∀ {c : Addr} {v : Option Value}, H c = none → s.heap.IsCell c v → h₁.IsCell c v := fun {c v} n ⟨o, ho, hd⟩ => by
    obtain ⟨sl, q⟩ := un.any ho n (by simp)
    exact ⟨_, kp _ _ q, hd⟩
  have noA : ∀ b : Addr, b ∉ (lamCxN X A outer s1 HZ E scope f c').ex := fun b z => absurd (show b ∈ ([] : List Addr) from z) (by simp)
  refine ⟨⟨e0.mod, L.kind, rfl, rfl, Nat.le_refl _, fun y z c e1 e2 => I.ok.inj y z c (cm e1) (cm e2), fun y hy => ?_, fun y c z _ => ?_, fun _ => hd, Around.frames_deeper e0.frames, .inr ⟨rfl, rfl⟩, fun b z => absurd z (noA b), e0.bs, e0.bsz, fun b _ _ => noA b,
      fun b z => absurd z (noA b), e0.funs, e0.frf⟩,
    rfl, e0.bare, Un.kept kp, ⟨_, hns, fun i y v e1 e2 e3 => ?_⟩, fun y c e => ?_, e0.hok.fresh (Nat.le_refl _), fun y c e => ?_, fun q hq => absurd (show q ∈ ([] : List (Addr × Obj)) ++ [] from hq) (by simp), e0.hok.kept kp, by rw [wipe_length]; exact I.len⟩
  · have hy : scope.names.lookup y = some .cell ∨ scope.names.lookup y = some .free := hy
    rcases hy with hy | hy
    · exact absurd rfl (L.own _ (PySem.mem_of_lookup hy))
    · exact look hy
  · have z : false = true := z
    cases z
  · obtain ⟨e2, ni⟩ := wipe_some e2
    have e3 : Vis scope y := e3
    rcases e3 with k | k | k
    · exact absurd (hvs i y e1 k) ni
    · exact absurd rfl (L.own _ (PySem.mem_of_lookup k))
    · obtain ⟨m, hn, hl⟩ := I.loc
      have hvis : Vis X.env.scope y := (L.free _ (PySem.mem_of_lookup k) rfl).elim (fun k => .inr (.inl k)) (fun k => .inr (.inr k))
      obtain ⟨w', r, q⟩ := hl i y v e1 e2 hvis
      obtain ⟨c2, h2⟩ := look k
      refine ⟨w', r, .inr ⟨.inr k, c2, h2, ?_⟩⟩
      have c1 := cm h2
      rcases q with ⟨k', _⟩ | ⟨_, c3, e', z⟩
      · have k' : X.env.scope.names.lookup y = some .local := k'
        rcases L.free _ (PySem.mem_of_lookup k) rfl with k2 | k2 <;> rw [show X.env.scope.names.lookup y = _ from k2] at k' <;> cases k'
      · rw [c1] at e'
        cases e'
        exact cellK (I.freeC y _ c1) z
  · obtain ⟨w', z⟩ := I.cell y c (cm e)
    exact ⟨w', cellK (I.freeC y c (cm e)) z⟩
  · obtain ⟨v, o, ho, hd⟩ := I.cell y c (cm e)
    exact un.free c o ho (I.freeC y c (cm e)) (by simp)
theorem lam_binds {Hq : Hp} {fs : List Addr} {q : Str} {params : Arguments} {pl : List Str} {ds : List Int} {body : Expr} {scope : Scope} {cl : List (Str × Addr)} {dV doc pm cv ctv : Value} (hd : LamDef params pl ds) (s : Shared) (hh : DflAt s.heap Hq fs dV ds) :
    ∃ binds : List (Str × Value), BindsTo s (PySem.W.kdv_fn "<lambda>" q params (.expr body) scope cl dV doc pm cv ctv) ⟨[], []⟩ binds ∧ ∀ y ∈ binds, y.1 ∈ pl := by
  cases hd with
  | none =>
    have e : dV = .none := hh
    subst e
    exact ⟨[], BindsTo.of_eq rfl, fun y hy => by cases hy⟩
  | one p i j q1 q2 =>
    obtain ⟨t, tok, rfl, h1, _⟩ := hh
    refine ⟨[(p, .int i tok)], BindsTo.of_defaults (T := t) rfl h1 rfl rfl ?_, fun y hy => by simp at hy; rw [hy]; simp⟩
    simp
end
end DI
end
section
set_option linter.all false
set_option autoImplicit false
set_option maxRecDepth 100000
set_option maxHeartbeats 2000000
/-! D20: the lambda called by the def that got it. -/
namespace DI
open PySem PySem.Spec L2
open PyProof.Rows hiding St
open LamX
section
variable {X : Cx} {pins : List (Addr × Obj)} {σ : L2.St} {H : Hp} {s : Shared}
theorem pe_act3 {CXg : CXT} {Eg : XK} {Ng : List Str} {qg : Str} {sg : Scope} {g f c' : Addr} {cdg : Value} {T : List (Addr × Str)} {params : Arguments} {pl : List Str} {ds : List Int} {body : Expr} {scope : Scope} {k i : Nat} {a : Str} {pn : List (Addr × Obj)} {xe : Value → Shared → Prop} {W : WX} {E : XK} {tb : TE} {p1 p2 : Pos} {H0 : Hp} {vs : List Nat}
    (I : Inv X pins σ H s) (hNd : X.N.Nodup) (hgd : X.A.guards = some []) (L : LamS3 X.env.scope scope pl) (LD : LamDef params pl ds) (Md : Made X T params body scope ds H0 H s f c') (hvs : ∀ i y, X.N[i]? = some y → scope.names.lookup y = some .local → i ∈ vs)
    (tk : L2N.Takes ((cxOf CXg X.prog X.w X.K X.mg X.base Ng qg sg g cdg X.A X.stack s H Eg).tr pn xe) W) {σ0 : L2.St} (hW : ∀ cls d H', E cls d H' → W cls d σ0 H') (hr : Room (k + 1) (X.A.deeper (envOfC qg sg s.heap.objs.size g cdg)))
    (hbody : ∀ (A : Around) (outer : List PySem.Env) (s : Shared) (H : Hp), A.guards = some [] → Room k (A.deeper (lamEnv X scope s.heap.objs.size f c')) → PE (lamCxN X A outer s H E scope f c') body tb)
    (hN : Ng[i]? = some a) (hv : Vis sg a) (hd : (a == ("__debug__" : Str)) = false) (hcd : (a == ("__classdict__" : Str)) = false) :
    PE ((cxOf CXg X.prog X.w X.K X.mg X.base Ng qg sg g cdg X.A X.stack s H Eg).tr pn xe) (.Call (.Name a p1) [] [] p2)
      (fun σZ HZ Q => σZ = σ0 ∧ σZ[i]? = some (some (.ref f)) ∧ HZ c' = some (CodeO c' (X.env.qual ++ "<lambda>")) ∧ tb (wipe σ vs) HZ Q) := by
  obtain ⟨dV, doc, pm, ctv, hf, hdf⟩ := Md.obj
  have hfn := Md.free
  have hfr := Md.nofr
  refine ⟨fun pinsZ sZ σZ HZ Q IZ h => ?_⟩
  obtain ⟨h0, hs, hc, ht⟩ := h
  refine wpAny_Call_Name_kw (thn ((pe_var (pos := p1) (i := i) hN hv hd hcd).run pinsZ sZ σZ HZ (fun v H1 => v = .ref f ∧ H1 = HZ) IZ ⟨.ref f, hs, rfl, rfl⟩) fun u s1 ⟨v, H1, I1, r1, q1⟩ => ?_)
  obtain ⟨ev, eH⟩ := q1
  subst ev
  rw [eH] at I1
  obtain rfl : u = Value.ref f := r1
  have keep : ∀ b o, s.heap.get? b = some o → H b = none → b ∉ frs X.stack → s1.heap.get? b = some o := fun b o e n nf => I1.base.keep b o e n nf (fun z => nomatch (show b ∈ ([] : List Addr) from z))
  have of1 := keep f _ hf hfn hfr
  have hdf1 : DflAt s1.heap H (frs X.stack) dV ds := by
    cases ds with
    | nil => exact hdf
    | cons d r =>
      obtain ⟨t, tok, e, h1, h2, h3⟩ := hdf
      exact ⟨t, tok, e, keep _ _ h1 h2 h3, h2, h3⟩
  refine PySem.W.callWith_F0 ⟨_, _, _, _, of1⟩ ?_
  have un : Un (frs X.stack) [] H HZ s.heap s1.heap := I1.base
  obtain ⟨⟨oc, vs', t, hoc, hdc, hvc⟩, _, _⟩ := I1.hok c' _ hc
  obtain ⟨binds, hb, hbl⟩ := lam_binds (q := X.env.qual ++ "<lambda>") (body := body) (scope := scope) (cl := cloFrom X.env.cells scope.names []) (doc := doc) (pm := pm) (cv := .ref c') (ctv := ctv) LD s1 hdf1
  have rc : codeAny (model X.prog X.w) (X.A.deeper (envOfC qg sg s.heap.objs.size g cdg)) (.call (.ref f) ⟨[], []⟩) (CR (L2N.CX X.prog X.w) (envOfC qg sg s.heap.objs.size g cdg :: X.stack) X.prog X.w HZ s1 Q E) s1 := by
    refine PySem.W.kla_callFunE hr.depth of1 rfl L.co L.gen rfl ⟨c', oc, vs', t, rfl, hoc, hdc, hvc⟩ ?_
    refine hb _ _ _ _ ?_
    refine wpAny_newFunctionEnv L.own (fun y hy => L.loc _ (hbl y hy)) (fun h₁ hns hsb => ⟨I1.nolimit.fresh _ hsb, ?_⟩) L.kind
    show codeAny _ _ (.expr body (lamEnv X scope s1.heap.objs.size f c')) _ _
    have kp : ∀ b o, s1.heap.get? b = some o → h₁.get? b = some o := fun b o e => hsb.extBut b o (Nat.ne_of_lt (Heap.lt_size e)) (Heap.get?_push_of_some _ e)
    have J : Inv (lamCxN X (X.A.deeper (envOfC qg sg s.heap.objs.size g cdg)) (envOfC qg sg s.heap.objs.size g cdg :: X.stack) s1 HZ E scope f c') [] (wipe σ vs) HZ { s1 with heap := h₁, toks := s1.toks + binds.length } :=
      lam_start3 I hNd L I1.env0 hr.hd hvs un hns kp
    refine PySem.W.kla_codeExpr (wpAny_mono ((hbody _ _ s1 HZ (guards_deeper hgd) (hr.deeper _)).run [] _ _ HZ Q J ht) (fun v s' hq => ?_) fun e s' hq => hq)
    obtain ⟨w', H', J', rv, q⟩ := hq
    exact ⟨w', H', J'.os, J'.bare, J'.base, J'.hok, rv, q⟩
  refine wpAny_call (codeAny_mono rc fun r s' hq => ?_)
  match r, hq with
  | .error e, hq => exact tk e s' (L2N.XE.of_call I1 (fun cls d H' h => h0 ▸ hW cls d H' h) hq)
  | .ok (.ret u), hq => exact I1.after hq
end
/-! ### a comprehension in an except suite -/
/-- the block's context there: the pins stay -/
abbrev _root_.L2.Cx.blkH (X : Cx) (s : Shared) (H : Hp) (scope : Scope) (cenv : PySem.Env) (fp : List Addr) (pins : List (Addr × Obj)) : Cx := { X.blk s H scope cenv fp with pn := X.pn ++ pins }
section
variable {X : Cx} {pins : List (Addr × Obj)} {σ : L2.St} {H : Hp} {s : Shared}
theorem inv_pn {pl : List (Addr × Obj)} (I : Inv X [] σ H s) (h0 : X.pn = []) (h : ∀ p ∈ pl, s.heap.get? p.1 = some p.2 ∧ H p.1 = none ∧ p.1 ≠ X.env.locals ∧ p.1 ∉ X.fs ∧ ∀ v, p.2.data ≠ .cell v) : Inv { X with pn := pl } [] σ H s :=
  ⟨⟨I.ok.mod, I.ok.kind, I.ok.glob, I.ok.blt, I.ok.above, I.ok.inj, I.ok.has, I.ok.cab, I.ok.hd, I.ok.frames, I.ok.stk, I.ok.exf, I.ok.bs, I.ok.bsz, I.ok.noex, I.ok.exfs, I.ok.funs, I.ok.frf⟩, I.os, I.bare, I.base, I.loc, I.cell, I.free, I.freeC, fun p hp => h p (by simpa using hp), I.hok, I.len⟩
theorem lc_coreH {Q : VK} {elt tg iter : Expr} {ifs : List Expr} {scope : Scope} {own : List (Str × Nat)} {pos pos' : Pos} {wi : TI} {g : TG} {tt : TT} {te : TE} {use : Option (Value → Sem Unit)} {Qf : Value → Shared → Prop}
    (hc : L2H.HotC X) (hN : X.N.Nodup) (I : Inv X pins σ H s) (hi : L2H.PIH X tg iter wi) (ok : BlkOk X.N X.env.scope scope own)
    (hg : ∀ (s : Shared) (H : Hp) (C : Addr) (cl : List (Str × Addr)) (fp : List Addr) (pl : List (Addr × Obj)), PG (X.blkH s H scope (compEnvC scope cl C X.env) fp pl) tg g) (ht : ∀ (s : Shared) (H : Hp) (C : Addr) (cl : List (Str × Addr)) (fp : List Addr) (pl : List (Addr × Obj)), PTs (X.blkH s H scope (compEnvC scope cl C X.env) fp pl) ifs tt)
    (he : ∀ (s : Shared) (H : Hp) (C : Addr) (cl : List (Str × Addr)) (fp : List Addr) (pl : List (Addr × Obj)), PE (X.blkH s H scope (compEnvC scope cl C X.env) fp pl) elt te) (hs : ∀ x, foldedSetIterable iter X.env x = pure x)
    (h : tLc wi g tt te (own.map (·.2)) σ H Q)
    (hRR : ∀ D C s' m H', Inv X pins σ H' s' → Q (.ref D) H' → s'.heap.Ns C m → FpOk X pins H' C → compPost (model X.prog X.w) X.A X.xe use Qf (.ref D) C (.ok .next) s') :
    wpAny (model X.prog X.w) X.A (comprehension (.ListComp elt [⟨tg, iter, ifs, 0⟩] scope pos) scope X.env pos' (newList []) false (eval iter X.env) use) Qf X.xe s := by
  have hfree : ∀ y ∈ scope.names, y.2 = .free → ∃ c, X.env.cells.lookup y.1 = some c := fun y hy e => (ok.free y hy e).elim (fun k => I.ok.has _ (.inl k)) fun k => I.ok.has _ (.inr k)
  refine wpAny_comprehension_free (use := use) rfl hs (closure_ok hfree) ok.kind (fun y hy e => by rw [ok.uniq y hy, e])
    (thn (hi.run pins s σ H _ I h) fun xv s1 hx => thn hx fun itv s2 h2 => ?_)
  obtain ⟨it, fp, tn, J, H2, rfl, I2, T, st2, f2, q⟩ := h2
  refine wpAny_newObj_type (newEnv_comp ?_) (by show 0 ≤ sizeLine; decide)
  generalize hD : s2.heap.objs.size = D
  have hDn : H2 D = none := I2.hok.fresh (Nat.le_of_eq hD)
  obtain ⟨W, ⟨m0, w0⟩, turn⟩ := q D hDn
  generalize hs3 : ({ s2 with heap := s2.heap.push { cls := .type "list", data := .seq ([] : List Value).toArray } } : Shared) = s3
  have h3 : s3.heap = s2.heap.push { cls := .type "list", data := .seq ([] : List Value).toArray } := by rw [← hs3]
  have I3 : Inv X pins σ (upd H2 D (.lst [])) s3 := by
    rw [← hs3]
    refine I2.laid (t' := s2.toks) (fun b o e => Heap.get?_push_of_some _ e) (Nat.le_of_eq hD) ⟨Nat.zero_le _, [], 0, .nil, ?_⟩
    rw [← hD]
    exact Heap.get?_push_size _ rfl
  have sz : ∀ b ∈ fp, b < s2.heap.objs.size := fun b hb => by
    obtain ⟨o, e, _⟩ := T.obj _ _ st2 b hb
    exact Heap.lt_size e
  have f3 : ∀ b ∈ fp, FpOk X pins (upd H2 D (.lst [])) b ∧ b < s3.heap.objs.size := fun b hb => by
    have hlt := sz b hb
    refine ⟨⟨?_, (f2 b hb).2⟩, by rw [h3, Heap.size_push]; exact Nat.lt_succ_of_lt hlt⟩
    rw [upd_ne (by rw [← hD]; exact Nat.ne_of_lt hlt)]
    exact (f2 b hb).1
  have st3 : tn 0 s3.heap := T.keep _ _ _ st2 fun b _ o e => by rw [h3]; exact Heap.get?_push_of_some _ e
  have I4' := block_start I3 ok hN f3
  have hpins : ∀ p ∈ X.pn ++ pins, s3.heap.get? p.1 = some p.2 ∧ (upd H2 D (.lst [])) p.1 = none ∧ p.1 ∉ frs X.stack ∧ p.1 ≠ s3.heap.objs.size ∧ ∀ v, p.2.data ≠ .cell v := fun p hp => by
    obtain ⟨a1, a2, a3, a4, a5⟩ := I3.pin p hp
    exact ⟨a1, a2, fun hm => (List.mem_cons.mp (I3.stkSub p.1 hm)).elim a3 a4, Nat.ne_of_lt (Heap.lt_size a1), a5⟩
  have pg := hg s3 (upd H2 D (.lst [])) s3.heap.objs.size (cellsFrom (s3.heap.objs.size + 1) scope.names (cloFrom X.env.cells scope.names [])) fp pins
  have pt := ht s3 (upd H2 D (.lst [])) s3.heap.objs.size (cellsFrom (s3.heap.objs.size + 1) scope.names (cloFrom X.env.cells scope.names [])) fp pins
  have pe := he s3 (upd H2 D (.lst [])) s3.heap.objs.size (cellsFrom (s3.heap.objs.size + 1) scope.names (cloFrom X.env.cells scope.names [])) fp pins
  show codeAny _ _ (.compStart (.ListComp elt [⟨tg, iter, ifs, 0⟩] scope pos) 0 (.ref it) (.ref D) (compEnvC scope (cellsFrom (s3.heap.objs.size + 1) scope.names (cloFrom X.env.cells scope.names [])) s3.heap.objs.size X.env)) (compPost (model X.prog X.w) X.A X.xe use Qf (.ref D) s3.heap.objs.size) { s3 with heap := pushCells (s3.heap.push { cls := .type "dict", data := .dict #[] }) scope.names }
  have nfp : ∀ b ∈ fp, (upd H2 D (.lst [])) b = none := fun b hb => (f3 b hb).1.1
  generalize hce : compEnvC scope (cellsFrom (s3.heap.objs.size + 1) scope.names (cloFrom X.env.cells scope.names [])) s3.heap.objs.size X.env = ce at I4' pg pt pe ⊢
  have cL : ce.locals = s3.heap.objs.size := by subst hce; rfl
  generalize hH3 : upd H2 D (.lst []) = H3 at I3 I4' pg pt pe w0 nfp f3 hpins
  have kp4 : ∀ b o, s3.heap.get? b = some o → (pushCells (s3.heap.push { cls := .type "dict", data := .dict #[] }) scope.names).get? b = some o := fun b o e => pushCells_keeps _ _ _ _ (Heap.get?_push_of_some _ e)
  generalize hs4 : ({ s3 with heap := pushCells (s3.heap.push { cls := .type "dict", data := .dict #[] }) scope.names } : Shared) = s4 at I4' ⊢
  have I4 : Inv (X.blkH s3 H3 scope ce fp pins) [] (wipe σ (own.map (·.2))) H3 s4 := inv_pn (X := X.blk s3 H3 scope ce fp) I4' rfl fun p hp => by
    obtain ⟨a1, a2, a3, a4, a5⟩ := hpins p hp
    exact ⟨by rw [← hs4]; exact kp4 _ _ a1, a2, by show p.1 ≠ ce.locals; rw [cL]; exact a4, a3, a5⟩
  have st4 : tn 0 s4.heap := T.keep _ _ _ st3 fun b _ o e => by rw [← hs4]; exact kp4 _ _ e
  have hcB : L2H.HotC (X.blkH s3 H3 scope ce fp pins) := by
    obtain ⟨p, h1, h2⟩ := hc
    exact ⟨p, h1, List.mem_append_left _ h2⟩
  have stat : ∀ {σ' : L2.St} {H' : Hp} {s' : Shared}, Inv (X.blkH s3 H3 scope ce fp pins) [] σ' H' s' → (∀ b ∈ fp, H' b = none) → ∀ b ∈ fp, FpOk (X.blkH s3 H3 scope ce fp pins) [] H' b := fun {σ' H' s'} I' hn b hb =>
    ⟨hn b hb, (I'.ok.exf b hb).1, I'.ok.exfs b hb, .inl hb, fun x c e => (I'.ok.exf b hb).2 x c e, fun p hp => (f3 b hb).1.2.2.2.2.2 p (by simpa using (show p ∈ (X.pn ++ pins) ++ [] from hp))⟩
  have loop : codeAny (model X.prog X.w) X.A (.compLoop (.ListComp elt [⟨tg, iter, ifs, 0⟩] scope pos) 0 (.ref it) (.ref D) ce) (compPost (model X.prog X.w) X.A X.xe use Qf (.ref D) s3.heap.objs.size) s4 := by
    refine compLoop_any (fun n s' => ∃ i H', Inv (X.blkH s3 H3 scope ce fp pins) [] (wipe σ (own.map (·.2))) H' s' ∧ tn i s'.heap ∧ (∀ b ∈ fp, H' b = none) ∧ W i n H') ?_ m0 ⟨0, H3, I4, st4, nfp, w0⟩
    rintro n s5 ⟨i, H5, I5, st5, n5, w5⟩
    rcases turn i n H5 w5 with ⟨stop, qq⟩ | ⟨go, Nx, hNx, step⟩
    · refine thnF (T.done (X.blkH s3 H3 scope ce fp pins) rfl rfl rfl hcB i [] s5 _ H5 (fun _ _ => False) I5 (stat I5 n5) st5 stop) fun r s6 ⟨hr, I6⟩ => ?_
      subst hr
      have I7 : Inv X pins σ H5 s6 := I3.call' (ch := fp) I6.os I6.base I6.hok I6.bare fun b hb => ⟨(f3 b hb).1.2.2.2.1, (f3 b hb).1.2.1, (f3 b hb).1.2.2.2.2.1, (f3 b hb).1.2.2.2.2.2⟩
      have nC : H5 s3.heap.objs.size = none := by
        have z : H5 ce.locals = none := I6.free
        rw [cL] at z
        exact z
      obtain ⟨m, hn, _⟩ := I6.loc
      have hn : s6.heap.Ns ce.locals m := hn
      rw [cL] at hn
      exact hRR D s3.heap.objs.size s6 m H5 I7 qq hn (I3.fpOk (Nat.le_refl _) nC)
    · refine thnF (T.item (X.blkH s3 H3 scope ce fp pins) rfl rfl rfl hcB i [] s5 _ H5 (fun _ _ => False) I5 (stat I5 n5) st5 go) fun r s6 ⟨u, hr, h6⟩ => ?_
      subst hr
      refine thnF h6 fun _ s7 ⟨x, H7, I7, r7, y7, st7, n7⟩ => ?_
      have I7' := I7.pinned (stat I7 n7) (T.obj _ _ st7)
      refine thnF (pg.run _ s7 _ H7 x u _ I7' r7 (step x H7 y7)) fun _ s8 ⟨σ8, H8, I8, hw8, q8⟩ => ?_
      refine thnF (pt.run _ s8 σ8 H8 _ I8 q8) fun b s9 ⟨H9, I9, q9⟩ => ?_
      have fin : ∀ {s' : Shared} {H' : Hp}, Inv (X.blkH s3 H3 scope ce fp pins) ([] ++ pinsAt fp s7.heap) σ8 H' s' → Nx H' → ∃ m, m < n ∧ ∃ i H', Inv (X.blkH s3 H3 scope ce fp pins) [] (wipe σ (own.map (·.2))) H' s' ∧ tn i s'.heap ∧ (∀ b ∈ fp, H' b = none) ∧ W i m H' := fun {s' H'} I' nx => by
        obtain ⟨m', hm, w'⟩ := hNx H' nx
        have pin' : ∀ b ∈ fp, ∀ o, s7.heap.get? b = some o → s'.heap.get? b = some o ∧ H' b = none := fun b hb o e =>
          let z := I'.pin (b, o) (List.mem_append_right _ (List.mem_append_right _ (mem_pinsAt hb e)))
          ⟨z.1, z.2.1⟩
        have hl : (wipe σ (own.map (·.2))).length = σ8.length := by rw [← hw8, wipe_length]
        refine ⟨m', hm, i + 1, H', (I'.unpinned (pins := [])).weak hl (fun j v e => ?_), T.keep _ _ _ st7 fun b hb o e => (pin' b hb o e).1, fun b hb => ?_, w'⟩
        · rw [← hw8] at e
          exact (wipe_some e).1
        · obtain ⟨o, e, _⟩ := T.obj _ _ st7 b hb
          exact (pin' b hb o e).2
      cases b with
      | false =>
        simp only [Bool.false_eq_true, if_false] at q9 ⊢
        exact fin I9 q9
      | true =>
        simp only [if_true] at q9 ⊢
        refine thnF (pe.run _ s9 σ8 H9 _ I9 q9) fun z s10 ⟨yv, H10, I10, r10, acc, hD10, hz10, nx⟩ => ?_
        exact app_ok (X := X.blkH s3 H3 scope ce fp pins) I10 hD10 hz10 r10 fun s11 I11 => fin I11 nx
  exact codeAny_compStart_list loop (T.self X.A 0 _ _ _ st4 loop)
end
end DI
end
section
set_option linter.all false
set_option autoImplicit false
set_option maxRecDepth 100000
set_option maxHeartbeats 2000000
/-! D21: what a law tells of a call (_law_told): its text, its except suite. -/
namespace DI
open PySem PySem.Spec L2
open PyProof.Rows hiding St
open LamX
def toldKinds : List Str := ["NotAllowed", "TooLarge", "Missing", "BadForm", "Broken"]
def toldWords : List Str := ["refused", "large", "missing", "form", "broken"]
/-- its suite, the places told by p -/
def toldAsk (p : Nat → Pos) (i : Nat) (c : Str) : Expr := .Call (.Name "isinstance" (p i)) [.Name "e" (p (i + 1)), .Name c (p (i + 2))] [] (p (i + 3))
def toldS1 (p : Nat → Pos) : Stmt := .Assign [.Name "kinds" (p 6)] (.List [toldAsk p 7 "NotAllowed", toldAsk p 11 "TooLarge", toldAsk p 15 "Missing", toldAsk p 19 "BadForm", toldAsk p 23 "Broken"] (p 27)) (p 28)
def toldElt (p : Nat → Pos) : Expr := .Subscript (.List [.Constant (.str "refused") 0 (p 30), .Constant (.str "large") 0 (p 31), .Constant (.str "missing") 0 (p 32), .Constant (.str "form") 0 (p 33), .Constant (.str "broken") 0 (p 34)] (p 35)) (.Name "k" (p 36)) (p 37)
def toldIter (p : Nat → Pos) : Expr := .Call (.Name "range" (p 39)) [.Constant (.int 5) 0 (p 40)] [] (p 41)
def toldIf (p : Nat → Pos) : Expr := .Subscript (.Name "kinds" (p 42)) (.Name "k" (p 43)) (p 44)
def toldS2 (p : Nat → Pos) (csc : Scope) : Stmt := .Assign [.Name "names" (p 29)] (.ListComp (toldElt p) [⟨.Name "k" (p 38), toldIter p, [toldIf p], 0⟩] csc (p 45)) (p 46)
def toldS3 (p : Nat → Pos) : Stmt := .Return (some (.Tuple [.Subscript (.List [.Constant (.str "odd") 0 (p 47), .Subscript (.BinOp (.Name "names" (p 48)) .Add (.List [.Constant (.str "") 0 (p 49)] (p 50)) (p 51)) (.Constant (.int 0) 0 (p 52)) (p 53)] (p 54))
          (.Call (.Name "int" (p 55)) [.Compare (.Call (.Name "len" (p 56)) [.Name "names" (p 57)] [] (p 58)) [.Eq] [.Constant (.int 1) 0 (p 59)] (p 60)] [] (p 61)) (p 62)] 0 (p 63))) (p 64)
def toldTry (p : Nat → Pos) : Stmt := .Return (some (.Tuple [.Constant (.str "told") 0 (p 0), .Call (.Name "call" (p 1)) [] [] (p 2)] 0 (p 3))) (p 4)
def toldBody (p : Nat → Pos) (csc : Scope) : List Stmt :=
  [.Try [toldTry p] [.ExceptHandler (some (.Name "HandError" (p 5))) (some "e") [toldS1 p, toldS2 p csc, toldS3 p] (p 65)] [] [] (p 66)]
def toldN : List Str := ["call", "e", "kinds", "names", "k"]
/-- the classes -/
structure ToldCls (K : PySem.W.Frag) (mg : Str → Option Value) (ga : Str → Addr) : Prop where
  err : ∃ CS : Addr, mg "HandError" = some (.ref CS) ∧ ∀ c ∈ toldKinds, PySem.W.exmOne K (.ref (ga c)) (.ref CS) = some true
  glob : ∀ c ∈ toldKinds, mg c = some (.ref (ga c))
  exc : ∀ c ∈ toldKinds, ExcC K (ga c)
  kit : ∀ c ∈ toldKinds, ∀ d ∈ toldKinds, PySem.W.kitOne K (.ref (ga c)) (.ref (ga d)) = some (decide (c = d))
/-- the names of its scopes -/
structure ToldSc (sg csc : Scope) : Prop where
  S : FnScope toldN ["call"] sg
  call : sg.names.lookup ("call" : Str) = some .local
  e : sg.names.lookup ("e" : Str) = some .local
  kinds : sg.names.lookup ("kinds" : Str) = some .cell
  names : sg.names.lookup ("names" : Str) = some .local
  gl : ∀ x ∈ (["HandError", "isinstance", "NotAllowed", "TooLarge", "Missing", "BadForm", "Broken", "range", "int", "len"] : List Str), sg.names.lookup x = some .globalImplicit
  blk : blkC toldN sg csc [(("k" : Str), 4)] = true
  k : csc.names.lookup ("k" : Str) = some .local
  kf : csc.names.lookup ("kinds" : Str) = some .free
  sw : (csc.names.any fun (n, k) => n == ("names" : Str) && (k == .local || k == .cell)) = false
  kv : Vis (relS csc sg) "kinds"
  kd : sg.kind = .function
/-- _law_told as it stands behind the top -/
structure ToldFn (K : PySem.W.Frag) (mg : Str → Option Value) (ga : Str → Addr) : Prop where
  C : ToldCls K mg ga
  bi : ∀ x ∈ (["isinstance", "range", "int", "len"] : List Str), mg x = none
  fn : ∃ (g : Addr) (fd : FuncData) (params : Arguments) (p : Nat → Pos) (sg csc : Scope), ToldSc sg csc ∧ (p 29).line = (p 45).line ∧ mg "_law_told" = some (.ref g) ∧ PySem.W.keepIn K (.ref g) = true ∧ FunD K "_law_told" "_law_told" params (toldBody p csc) sg [] [] g fd ∧ L2.Binds K fd ["call"] []
/-! ### the suite -/
section
variable {X : Cx} {pins : List (Addr × Obj)} {σ : L2.St} {H : Hp} {s : Shared}
/-- name = [..] on one line, in an except suite -/
theorem ps_setLcH {i : Nat} {y : Str} {py : Pos} {elt tg iter : Expr} {ifs : List Expr} {scope : Scope} {own : List (Str × Nat)} {pos spos : Pos} {wi : TI} {g : TG} {tt : TT} {te : TE} (hc : L2H.HotC X) (hN : X.N.Nodup) (hy : X.N[i]? = some y) (hyl : X.env.scope.names.lookup y = some .local)
    (hsw : swapsWith (.ListComp elt [⟨tg, iter, ifs, 0⟩] scope pos) (some (.Name y py)) spos.line X.env = pure true) (hi : L2H.PIH X tg iter wi) (ok : BlkOk X.N X.env.scope scope own)
    (hg : ∀ (s : Shared) (H : Hp) (C : Addr) (cl : List (Str × Addr)) (fp : List Addr) (pl : List (Addr × Obj)), PG (X.blkH s H scope (compEnvC scope cl C X.env) fp pl) tg g) (ht : ∀ (s : Shared) (H : Hp) (C : Addr) (cl : List (Str × Addr)) (fp : List Addr) (pl : List (Addr × Obj)), PTs (X.blkH s H scope (compEnvC scope cl C X.env) fp pl) ifs tt)
    (he : ∀ (s : Shared) (H : Hp) (C : Addr) (cl : List (Str × Addr)) (fp : List Addr) (pl : List (Addr × Obj)), PE (X.blkH s H scope (compEnvC scope cl C X.env) fp pl) elt te) (hs : ∀ x, foldedSetIterable iter X.env x = pure x) :
    PS X (.Assign [.Name y py] (.ListComp elt [⟨tg, iter, ifs, 0⟩] scope pos) spos) (tAsg (tLc wi g tt te (own.map (·.2))) (gName i)) := by
  refine ⟨fun pins s σ H D I h => ?_⟩
  rw [exec_Assign_Name_used _ _ _ _ hsw]
  refine wpAny_bind (wpAny_standAt (wpAny_bind ?_))
  show wpAny _ X.A (do let _ ← comprehension (.ListComp elt [⟨tg, iter, ifs, 0⟩] scope pos) scope X.env (firstIterPos [⟨tg, iter, ifs, 0⟩] pos) (newList []) false (eval iter X.env) (some (assign (.Name y py) X.env))) _ _ s
  have h : tLc wi g tt te (own.map (·.2)) σ H (fun x H1 => gName i x σ H1 D.nx) := h
  refine wpAny_bind (thn (lc_coreH (Qf := fun _ s' => SP X pins D .next s') hc hN I hi ok hg ht he hs h fun L C s' m H' I' q hn f => ?_) fun _ s' hq => wpAny_pure (wpAny_pure hq))
  show wpAny _ _ (assign (.Name y py) X.env (.ref L)) _ _ _
  refine wpAny_assign_Name (store_ok2 (v := V.ref L) I' hN hy (.inl hyl) rfl (fun s2 I2 ⟨a, sb, ha⟩ => ?_) (.inr hyl))
  obtain ⟨f0, f1, f2, f3, f4, f5⟩ := f
  have haC : C ≠ a := by
    rcases ha with z | z
    · rw [z]; exact f1
    · exact fun e => f4 y a z e.symm
  refine ⟨m, hn.sameBut sb haC, fun h3 sb3 => ?_⟩
  exact ⟨_, H', I2.turned (t' := s2.toks) (fun b o hb e => (sb3.2 b hb).trans e) f0 f1 f3 f4 f5, q⟩
end
/-- what the suite is to reach -/
def toldTs (ga : Str → Addr) : Addr → Value → Option Addr → TS := fun a cls d D σ H => ∃ (c w : Str) (i : Nat), toldKinds[i]? = some c ∧ toldWords[i]? = some w ∧ cls = .ref (ga c) ∧ d = none ∧ σ[1]? = some (some (.ref a)) ∧ σ.length = 5 ∧
  ∀ (p : Addr) (H' : Hp), (∀ x o, H x = some o → H' x = some o) → H p = none → H' p = some (.tup [.str w]) → D.rt (.ref p) H'
theorem kinds_mem {i : Nat} {c : Str} (h : toldKinds[i]? = some c) : c ∈ toldKinds := List.mem_of_getElem? h
theorem words_of {i : Nat} {c : Str} (h : toldKinds[i]? = some c) : i < 5 := by
  obtain ⟨h, _⟩ := List.getElem?_eq_some_iff.mp h
  exact h
end DI
end
section
set_option linter.all false
set_option autoImplicit false
set_option maxRecDepth 100000
set_option maxHeartbeats 2000000
/-! D22: the except suite of _law_told. -/
namespace DI
open PySem PySem.Spec L2
open PyProof.Rows hiding St
open LamX
def bsOf (m : Nat) : List V := (List.range 5).map fun i => V.bl (decide (m = i))
def wsOf : List V := toldWords.map V.str
def accOf (w : Str) (m i : Nat) : List V := if m < i then [V.str w] else []
theorem five {i : Nat} (h : i < 5) : i = 0 ∨ i = 1 ∨ i = 2 ∨ i = 3 ∨ i = 4 := by omega
theorem bs_at {m i : Nat} (hi : i < 5) : atI (bsOf m) (0 + (i : Int)) = some (V.bl (decide (m = i))) := by
  rcases five hi with rfl | rfl | rfl | rfl | rfl <;> rfl
theorem ws_at {m : Nat} {w : Str} (h : toldWords[m]? = some w) : atI wsOf (0 + (m : Int)) = some (V.str w) := by
  have hm : m < 5 := by
    obtain ⟨h, _⟩ := List.getElem?_eq_some_iff.mp h
    exact h
  rcases five hm with rfl | rfl | rfl | rfl | rfl <;> (cases h; rfl)
theorem plain_nm {x : Str} {q : Pos} : PlainIx (.Name x q) := fun _ _ => rfl
theorem plain_int {i : Int} {j : Nat} {q : Pos} : PlainIx (.Constant (.int i) j q) := fun _ _ => rfl
theorem plain_call {f : Expr} {es : List Expr} {ks : List Keyword} {q : Pos} : PlainIx (.Call f es ks q) := fun _ _ => rfl
theorem sz5 : 5 ≤ sizeLine := by decide
theorem sz1 : 1 ≤ sizeLine := by decide
theorem sz2 : 2 ≤ sizeLine := by decide
section
variable {X : Cx} {ga : Str → Addr} {sg csc : Scope} {p : Nat → Pos}
theorem suite_ok (hN : X.N = toldN) (hsc : X.env.scope = sg) (SC : ToldSc sg csc) (hfn : ∀ x, X.fn x = true) (TC : ToldCls X.K X.mg ga) (hbi : ∀ x ∈ (["isinstance", "range", "int", "len"] : List Str), X.mg x = none) (hl : (p 29).line = (p 45).line)
    {a : Addr} {oe : Obj} {cls : Value} {d : Option Addr} {pn : List (Addr × Obj)} (hz : L2N.Zn cls d oe) (hf : ∃ vs, oe.data = .fields vs) : PSs (X.suite a ((a, oe) :: pn)) [toldS1 p, toldS2 p csc, toldS3 p] (toldTs ga a cls d) := by
  refine ⟨fun pins s σ H D I hts => ?_⟩
  obtain ⟨c, w, m, hm, hw, rfl, rfl, hσ, hlen, hend⟩ := hts
  have hm5 : m < 5 := words_of hm
  have hcm : c ∈ toldKinds := kinds_mem hm
  have nd : (X.suite a ((a, oe) :: pn)).N.Nodup := by show X.N.Nodup; rw [hN]; decide
  have at_ : ∀ (i : Nat) (x : Str), toldN[i]? = some x → (X.suite a ((a, oe) :: pn)).N[i]? = some x := fun i x h => by show X.N[i]? = _; rw [hN]; exact h
  have gl : ∀ x, x ∈ (["HandError", "isinstance", "NotAllowed", "TooLarge", "Missing", "BadForm", "Broken", "range", "int", "len"] : List Str) → Gl (X.suite a ((a, oe) :: pn)) x := fun x h => by
    show X.env.scope.names.lookup x = _
    rw [hsc]
    exact SC.gl x h
  have vis : ∀ {x : Str} {k : NameKind}, sg.names.lookup x = some k → (k = .local ∨ k = .cell ∨ k = .free) → Vis (X.suite a ((a, oe) :: pn)).env.scope x := fun {x k} h hk => by
    show Vis X.env.scope x
    rw [hsc]
    unfold Vis
    rw [h]
    rcases hk with rfl | rfl | rfl <;> simp
  have hot : L2H.HotC (X.suite a ((a, oe) :: pn)) := by
    obtain ⟨vs, hv⟩ := hf
    exact ⟨(a, oe), ⟨rfl, vs, hv, hz.2.2 vs hv⟩, List.mem_cons_self⟩
  -- the first statement
  have ask : ∀ (i : Nat) (x : Str), x ∈ toldKinds → (x == ("__debug__" : Str)) = false → PE (X.suite a ((a, oe) :: pn)) (toldAsk p i x) (tCB (rIsE X.K (ga c) a) (tCons (tVar 1) (tCons (tC (.ref (ga x))) tNil))) := fun i x hx hd =>
    pe_callB (call_isE (TC.exc c hcm) hz.zc hf) (gl "isinstance" (by simp)) (hbi "isinstance" (by simp)) (by decide +kernel) (pa_cons (pe_var (i := 1) (at_ 1 "e" rfl) (vis SC.e (.inl rfl))) (pa_cons (pe_glob (gl x (by
      simp only [toldKinds, List.mem_cons, List.not_mem_nil, or_false] at hx
      rcases hx with rfl | rfl | rfl | rfl | rfl <;> simp)) (TC.glob x hx) rfl hd) pa_nil))
  have S1 : PS (X.suite a ((a, oe) :: pn)) (toldS1 p) _ := ps_set (i := 2) nd (at_ 2 "kinds" rfl) (.inr (by show X.env.scope.names.lookup _ = _; rw [hsc]; exact SC.kinds))
    (pe_lst (pa_cons (ask 7 "NotAllowed" (by decide) (by decide)) (pa_cons (ask 11 "TooLarge" (by decide) (by decide)) (pa_cons (ask 15 "Missing" (by decide) (by decide)) (pa_cons (ask 19 "BadForm" (by decide) (by decide)) (pa_cons (ask 23 "Broken" (by decide) (by decide)) pa_nil)))))) rfl (.inl (hfn _))
  -- the second
  have lk : ∀ {x : Str} {k : NameKind}, k ≠ .free → csc.names.lookup x = some k → (relS csc X.env.scope).names.lookup x = some k := fun {x k} h1 h2 => lookup_relS_keep h1 h2
  have S2 : PS (X.suite a ((a, oe) :: pn)) (toldS2 p csc) _ := ps_setLcH (own := [("k", 4)]) (i := 3) (g := gName 4) (te := tOp (rIx X.K) (tLst (tCons (tC (.str "refused")) (tCons (tC (.str "large")) (tCons (tC (.str "missing")) (tCons (tC (.str "form")) (tCons (tC (.str "broken")) tNil)))))) (tVar 4)) (tt := fun σ H Q => tOp (rIx X.K) (tVar 2) (tVar 4) σ H fun x H' => ∃ k, TruV X.K x H' k ∧ Q k H')
    hot nd (at_ 3 "names" rfl) (by show X.env.scope.names.lookup _ = _; rw [hsc]; exact SC.names)
    (sw_true (by show X.env.scope.kind = _; rw [hsc]; exact SC.kd) (by show X.env.scope.names.lookup _ = _; rw [hsc]; exact SC.names) (by rw [hl]; simp) SC.sw)
    (L2H.pi_range1H (gl "range" (by simp)) (hbi "range" (by simp)) (pa_cons pe_int pa_nil))
    (by show BlkOk X.N X.env.scope csc _; rw [hN, hsc]; exact blkOk_by SC.blk)
    (fun s H C cl fp pl => pg_name (i := 4) nd (at_ 4 "k" rfl) (.inl (lk (by simp) SC.k)) (.inr (lk (by simp) SC.k)))
    (fun s H C cl fp pl => pts_one (pt_truth (pe_ix ix_seq (pe_var (i := 2) (at_ 2 "kinds" rfl) (by show Vis (relS csc X.env.scope) _; rw [hsc]; exact SC.kv)) (pe_var (i := 4) (at_ 4 "k" rfl) (.inl (lk (by simp) SC.k))) plain_nm) fun _ => rfl))
    (fun s H C cl fp pl => pe_ix ix_seq (pe_lst (pa_cons pe_str (pa_cons pe_str (pa_cons pe_str (pa_cons pe_str (pa_cons pe_str pa_nil)))))) (pe_var (i := 4) (at_ 4 "k" rfl) (.inl (lk (by simp) SC.k))) plain_nm)
    (fun _ => rfl)
  -- the third
  have nm3 : ∀ q : Pos, PE (X.suite a ((a, oe) :: pn)) (.Name "names" q) (tVar 3) := fun q => pe_var (i := 3) (at_ 3 "names" rfl) (vis SC.names (.inl rfl))
  have S3 : PS (X.suite a ((a, oe) :: pn)) (toldS3 p) _ := ps_ret (pe_tup (pa_cons (pe_ix ix_seq (pe_lst (pa_cons pe_str (pa_cons (pe_ix ix_seq (pe_op op_catR (nm3 _) (pe_lst (pa_cons pe_str pa_nil))) pe_int plain_int) pa_nil)))
    (pe_callTy call_int1 (gl "int" (by simp)) (hbi "int" (by simp)) (by decide +kernel) (pa_cons (pe_cmpR op_eq (pe_callB call_len_seq (gl "len" (by simp)) (hbi "len" (by simp)) (by decide +kernel) (pa_cons (nm3 _) pa_nil)) pe_int rfl) pa_nil)) plain_call) pa_nil))
  refine (pss_cons S1 (pss_cons S2 (pss_one S3))).run pins s σ H D I ?_
  -- what they do
  have kit : ∀ x, x ∈ toldKinds → PySem.W.kitOne X.K (.ref (ga c)) (.ref (ga x)) = some (decide (c = x)) := fun x hx => TC.kit c hcm x hx
  have go : ∀ (x : Str) (H1 : Hp) (Q : VK), x ∈ toldKinds → Q (.bl (decide (c = x))) H1 → tCB (rIsE X.K (ga c) a) (tCons (tVar 1) (tCons (tC (.ref (ga x))) tNil)) σ H1 Q := fun x H1 Q hx q =>
    ⟨.ref a, hσ, .ref (ga x), .ref (ga x), decide (c = x), rfl, fun u r => r, kit x hx, q⟩
  refine go _ _ _ (by decide) (go _ _ _ (by decide) (go _ _ _ (by decide) (go _ _ _ (by decide) (go _ _ _ (by decide) ⟨sz5, fun K1 hK1 => ?_⟩))))
  have hbs : [V.bl (decide (c = "NotAllowed")), .bl (decide (c = "TooLarge")), .bl (decide (c = "Missing")), .bl (decide (c = "BadForm")), .bl (decide (c = "Broken"))] = bsOf m := by
    rcases five hm5 with rfl | rfl | rfl | rfl | rfl <;> (cases hm; rfl)
  show tSeq _ _ _ (σ.set 2 (some (.ref K1))) (upd H K1 (.lst [V.bl (decide (c = "NotAllowed")), .bl (decide (c = "TooLarge")), .bl (decide (c = "Missing")), .bl (decide (c = "BadForm")), .bl (decide (c = "Broken"))]))
  rw [hbs]
  have k1 : ∀ x o, H x = some o → upd H K1 (.lst (bsOf m)) x = some o := fun x o e => by rw [upd_ne (ne_of_none e hK1)]; exact e
  generalize hH1 : upd H K1 (.lst (bsOf m)) = H1 at k1
  have a1 : H1 K1 = some (.lst (bsOf m)) := by rw [← hH1]; exact upd_same
  refine ⟨5, rfl, by decide, by decide, fun N1 hN1 => ?_⟩
  have ne1 : K1 ≠ N1 := ne_of_none a1 hN1
  have k2 : ∀ x o, H x = some o → x ≠ N1 ∧ H1 x = some o := fun x o e => ⟨ne_of_none (k1 x o e) hN1, k1 x o e⟩
  refine lc_range (lo := 0) (n := Int.toNat 5) (g := gName 4) (vs := [4]) (σ := σ.set 2 (some (.ref K1))) (H1 := H1) (D := N1) (te := tOp (rIx X.K) (tLst (tCons (tC (.str "refused")) (tCons (tC (.str "large")) (tCons (tC (.str "missing")) (tCons (tC (.str "form")) (tCons (tC (.str "broken")) tNil)))))) (tVar 4)) (tt := fun σ H Q => tOp (rIx X.K) (tVar 2) (tVar 4) σ H fun x H' => ∃ k, TruV X.K x H' k ∧ Q k H') (fun i H' => H' N1 = some (.lst (accOf w m i)) ∧ H' K1 = some (.lst (bsOf m)) ∧ ∀ x o, H x = some o → H' x = some o) ⟨?_, ?_, fun x o e => ?_⟩ (fun i H' hi ⟨p1, p2, p3⟩ => ?_) (fun H' ⟨p1, p2, p3⟩ => ?_)
  · rw [upd_same]; unfold accOf; simp
  · rw [upd_ne ne1]; exact a1
  · rw [upd_ne (k2 x o e).1]; exact (k2 x o e).2
  · -- a turn
    have hi : i < 5 := hi
    have hs2 : ((wipe (σ.set 2 (some (.ref K1))) [4]).set 4 (some (V.int (0 + (i : Int)))))[2]? = some (some (.ref K1)) := by
      simp [wipe, hlen]
    have hs4 : ((wipe (σ.set 2 (some (.ref K1))) [4]).set 4 (some (V.int (0 + (i : Int)))))[4]? = some (some (.int (0 + (i : Int)))) := by
      simp [wipe, hlen]
    refine ⟨by simp [wipe], .ref K1, hs2, .int (0 + (i : Int)), hs4, .inl ⟨K1, bsOf m, 0 + (i : Int), _, rfl, rfl, .inl (.inl p2), bs_at hi, decide (m = i), rfl, ?_⟩⟩
    by_cases e : m = i
    · subst e
      show (if decide (m = m) = true then _ else _)
      rw [if_pos (by simp)]
      refine ⟨sz5, fun q hq => ⟨.int (0 + (m : Int)), hs4, .inl ⟨q, wsOf, 0 + (m : Int), _, rfl, rfl, .inl (.inl upd_same), ws_at hw, accOf w m m, ?_, ?_, ?_, ?_, fun x o e => ?_⟩⟩⟩
      · rw [upd_ne (ne_of_none p1 hq)]; exact p1
      · unfold accOf; simp; decide
      · rw [upd_same]; unfold accOf; simp
      · rw [upd_ne ne1, upd_ne (ne_of_none p2 hq)]; exact p2
      · rw [upd_ne (k2 x o e).1, upd_ne (ne_of_none (p3 x o e) hq)]; exact p3 x o e
    · show (if decide (m = i) = true then _ else _)
      rw [if_neg (by simp [e])]
      refine ⟨?_, p2, p3⟩
      rw [p1]
      unfold accOf
      by_cases h : m < i
      · rw [if_pos h, if_pos (by omega)]
      · rw [if_neg h, if_neg (by omega)]
  · -- the end
    have ha : accOf w m 5 = [V.str w] := by unfold accOf; rw [if_pos hm5]
    have p1 : H' N1 = some (.lst (accOf w m 5)) := p1
    rw [ha] at p1
    have h3 : ((σ.set 2 (some (.ref K1))).set 3 (some (V.ref N1)))[3]? = some (some (.ref N1)) := by simp [hlen]
    refine ⟨.ref N1, h3, sz1, fun q1 hq1 => ⟨N1, q1, [.str w], [.str ""], rfl, rfl, .inl ?_, .inl upd_same, sz2, fun q2 hq2 => .inl ⟨q2, [.str w, .str ""], 0, .str w, rfl, rfl, .inl (.inl upd_same), rfl, sz2, fun q3 hq3 => ⟨.ref N1, h3, N1, [.str w], rfl, .inl (.inl (.inl ?_)), rfl, .inr ⟨true, rfl, .inl ⟨q3, [.str "odd", .str w], 1, .str w, rfl, rfl, .inl (.inl upd_same), rfl, sz1, fun q4 hq4 => ?_⟩⟩⟩⟩⟩⟩
    · rw [upd_ne (ne_of_none p1 hq1)]; exact p1
    · have e1 : upd H' q1 (.lst [.str ""]) N1 = some (.lst [.str w]) := by rw [upd_ne (ne_of_none p1 hq1)]; exact p1
      have e2 : upd (upd H' q1 (.lst [.str ""])) q2 (.lst ([.str w] ++ [.str ""])) N1 = some (.lst [.str w]) := by rw [upd_ne (ne_of_none e1 hq2)]; exact e1
      rw [upd_ne (ne_of_none e2 hq3)]
      exact e2
    · have kk : ∀ x o, H x = some o → upd (upd (upd (upd H' q1 (.lst [.str ""])) q2 (.lst ([.str w] ++ [.str ""]))) q3 (.lst [.str "odd", .str w])) q4 (.tup [.str w]) x = some o := fun x o e => by
        have e0 := p3 x o e
        have e1 : upd H' q1 (.lst [.str ""]) x = some o := by rw [upd_ne (ne_of_none e0 hq1)]; exact e0
        have e2 : upd (upd H' q1 (.lst [.str ""])) q2 (.lst ([.str w] ++ [.str ""])) x = some o := by rw [upd_ne (ne_of_none e1 hq2)]; exact e1
        have e3 : upd (upd (upd H' q1 (.lst [.str ""])) q2 (.lst ([.str w] ++ [.str ""]))) q3 (.lst [.str "odd", .str w]) x = some o := by rw [upd_ne (ne_of_none e2 hq3)]; exact e2
        rw [upd_ne (ne_of_none e3 hq4)]
        exact e3
      refine hend q4 _ kk ?_ upd_same
      cases q : H q4 with
      | none => rfl
      | some o =>
        have e0 := p3 q4 o q
        have e1 : upd H' q1 (.lst [.str ""]) q4 = some o := by rw [upd_ne (ne_of_none e0 hq1)]; exact e0
        have e2 : upd (upd H' q1 (.lst [.str ""])) q2 (.lst ([.str w] ++ [.str ""])) q4 = some o := by rw [upd_ne (ne_of_none e1 hq2)]; exact e1
        have e3 : upd (upd (upd H' q1 (.lst [.str ""])) q2 (.lst ([.str w] ++ [.str ""]))) q3 (.lst [.str "odd", .str w]) q4 = some o := by rw [upd_ne (ne_of_none e2 hq3)]; exact e2
        rw [hq4] at e3
        cases e3
end
end DI
end
section
set_option linter.all false
set_option autoImplicit false
set_option maxRecDepth 100000
/-! D7: the evaluator of expressions is sound: the statement, names, operators, tests, displays. -/
namespace DI
open PySem PySem.Spec L2
open PyProof.Rows hiding St

/-- an error of a def: of one of the program's classes -/
def wx (X : Cx) (W : EW) : WX := fun cls d _ H => ∃ e : Exn, cls = .ref (He.ga X.K e.cls) ∧ d = none ∧ W e H
/-- the promise of a def without the state -/
def spP (K : PySem.W.Frag) (T : List (Addr × Str)) (n : Nat) (sem : List D → M D) : Sp := fun vs H Q E => vs.length = n ∧ ∃ (Hid : Addr → Prop) (ds : List D), (∀ a, Hid a → H a ≠ none) ∧ LamX.Tabs T H ∧ RpAll K (hide Hid H) vs ds ∧
  (match sem ds [] with
    | .ok d _ => ∀ v H', Evo none H H' → LamX.Tabs T H' → Rp K (hide Hid H') v d → Q v H'
    | .err e _ => ∀ H', Evo none H H' → LamX.Tabs T H' → E (.ref (He.ga K e.cls)) none H'
    | .stuck => False)
/-- .. of a def whose first parameter is the state -/
def spS (K : PySem.W.Frag) (T : List (Addr × Str)) (n : Nat) (sem : List D → M D) : Sp := fun vs H Q E => vs.length = n + 1 ∧ ∃ (Hid : Addr → Prop) (a : Addr) (us : List V) (ds : List D) (st : Stt), vs = .ref a :: us ∧ (∀ a, Hid a → H a ≠ none) ∧ LamX.Tabs T H ∧
  StRep K Hid (some a) H st ∧ RpAll K (hide Hid H) us ds ∧
  (match sem ds st with
    | .ok d st' => ∀ v H', Evo (some a) H H' → LamX.Tabs T H' → StRep K Hid (some a) H' st' → Rp K (hide Hid H') v d → Q v H'
    | .err e st' => ∀ H', Evo (some a) H H' → LamX.Tabs T H' → StRep K Hid (some a) H' st' → E (.ref (He.ga K e.cls)) none H'
    | .stuck => False)
def spF (K : PySem.W.Frag) (T : List (Addr × Str)) (fi : FnI) : Sp := if fi.st = true then spS K T fi.arity fi.sem else spP K T fi.arity fi.sem
def FnG (T : List (Addr × Str)) (X : Cx) (k : Nat) (f : Str) (fi : FnI) : Prop := ∃ (a : Addr) (fd : FuncData) (ps : List Str), FnOkG X.prog X.w X.K X.mg X.base (L2N.CX X.prog X.w) k a fd ps (spF X.K T fi) ∧
  X.mg f = some (.ref a) ∧ PySem.W.keepIn X.K (.ref a) = true ∧ Binds X.K fd ps []
def biNames : List Str := ["len", "abs", "int", "all", "any", "sum", "max", "min", "tuple", "list", "repr", "range", "zip", "isinstance", "str"]
/-- a place where lambdas are made for _law_told -/
structure LamHome (T : List (Addr × Str)) (X : Cx) : Prop where
  home : ∃ c P : Addr, X.env.code = .ref c ∧ LamX.TabB X.base X.mg c P ∧ (P, X.env.qual ++ "<lambda>") ∈ T ∧ ∀ p ∈ T, p.1 = P → p.2 = X.env.qual ++ "<lambda>"
  fn : ToldFn X.K X.mg (He.ga X.K)
/-- a context that the evaluator serves -/
structure Good (T : List (Addr × Str)) (W : EW) (X : Cx) (C : Ctx) (k : Nat) : Prop where
  N : X.N = C.N
  sc : X.env.scope = C.sc
  nd : X.N.Nodup
  calm : X.calm = true
  tk : L2N.Takes X (wx X W)
  gd : X.A.guards = some []
  room : Room (if C.lam = true then k + 2 else k) X.A
  told : C.lam = true → LamHome T X
  con : ∀ x d, C.con x = some d → ∃ v u, X.mg x = some u ∧ RelV v u ∧ ∀ H, Rp X.K H v d
  bi : ∀ x, C.fn x = none → C.con x = none → x ∈ biNames → X.mg x = none
  fn : ∀ f fi, C.fn f = some fi → FnG T X k f fi
/-- told of a lambda (shown apart) -/
def ToldOk (T : List (Addr × Str)) (n : Nat) : Prop := ∀ {W : EW} {X : Cx} {C : Ctx} {k : Nat}, Good T W X C k → ∀ (p lpos pos : Pos) (a : Arguments) (body : Expr) (scope : Scope), C.lam = true → lamOk C a scope = true → C.fn "_law_told" = none → C.con "_law_told" = none → gl C "_law_told" = true →
  PE X (.Call (.Name "_law_told" p) [.Lambda a body scope lpos] [] pos) (tD (gX X T) W (rpD (gX X T)) fun ρ => toldM (evE n (C.lamIn scope) body (wipeE ρ (ownIx C.N scope))))
/-- what is walked: Hd may change meanwhile -/
def rpI (g : Gd) (Hd : Wd → Addr → Prop) (w : Wd) (H1 : Hp) (J : It) (xs : List D) : Prop := ∀ H, Kp (hide (Hd w) H1) H → ∀ i : Nat,
  (i < xs.length → J.go i H ∧ ∀ x H', J.yld i H x H' → (∀ b o, H b = some o → H' b = some o) ∧ ∃ d, xs[i]? = some d ∧ ∀ Hid', (∀ b, Hid' b → H b ≠ none) → Kp (hide w.Hid H1) (hide Hid' H') → Rp g.K (hide Hid' H') x d) ∧ (xs.length ≤ i → J.stop i H)
/-- passing by: the state cell alone may change; else all that is hidden -/
def hd (br : Bool) (w : Wd) (a : Addr) : Prop := if br = true then w.p = some a else w.Hid a
def rpW (g : Gd) (br : Bool) : Wd → Hp → V → D → Prop := fun w H v d => if br = true then rpB g w H v d else rpD g w H v d
structure Snd (T : List (Addr × Str)) (n : Nat) : Prop where
  E : ∀ {W : EW} {X : Cx} {C : Ctx} {k : Nat}, Good T W X C k → ∀ e, PE X e (tD (gX X T) W (rpD (gX X T)) (evE n C e))
  F : ∀ {W : EW} {X : Cx} {C : Ctx} {k : Nat}, Good T W X C k → ∀ e, PE X e (tD (gX X T) W (rpF (gX X T)) (evF n C e))
  B : ∀ {W : EW} {X : Cx} {C : Ctx} {k : Nat}, Good T W X C k → ∀ e, PE X e (tD (gX X T) W (rpB (gX X T)) (evB n C e))
  Wk : ∀ {W : EW} {X : Cx} {C : Ctx} {k : Nat}, Good T W X C k → ∀ br e, PE X e (tD (gX X T) W (rpW (gX X T) br) (evW n C br e))
  Te : ∀ {W : EW} {X : Cx} {C : Ctx} {k : Nat}, Good T W X C k → ∀ e, PT X e (tD (gX X T) W rpT (evT n C e))
  Ts : ∀ {W : EW} {X : Cx} {C : Ctx} {k : Nat}, Good T W X C k → ∀ op vs pos, PW X (.BoolOp op vs pos) (tD (gX X T) W rpT (evTs n C op vs))
  Bo : ∀ {W : EW} {X : Cx} {C : Ctx} {k : Nat}, Good T W X C k → ∀ op vs pos, PE X (.BoolOp op vs pos) (tD (gX X T) W (rpD (gX X T)) (evBool n C op vs))
  Es : ∀ {W : EW} {X : Cx} {C : Ctx} {k : Nat}, Good T W X C k → ∀ es, PA X es (tD (gX X T) W (rpDs (gX X T)) (evEs n C es))
  Bs : ∀ {W : EW} {X : Cx} {C : Ctx} {k : Nat}, Good T W X C k → ∀ es, PA X es (tD (gX X T) W (rpBs (gX X T)) (evBs n C es))
  O : ∀ {W : EW} {X : Cx} {C : Ctx} {k : Nat}, Good T W X C k → ∀ o, PO X o (tD (gX X T) W rpO (evO n C o))
  I : ∀ {W : EW} {X : Cx} {C : Ctx} {k : Nat}, Good T W X C k → ∀ br tg e, PI X tg e (tD (gX X T) W (rpI (gX X T) (hd br)) (evI n C br (isTup tg) e))
  If : ∀ {W : EW} {X : Cx} {C : Ctx} {k : Nat}, Good T W X C k → ∀ es, PTs X es (tD (gX X T) W rpT (evIfs n C es))
  Ca : ∀ {W : EW} {X : Cx} {C : Ctx} {k : Nat}, Good T W X C k → ∀ f p args pos, PE X (.Call (.Name f p) args [] pos) (tD (gX X T) W (rpD (gX X T)) (evCall n C f args))

section
variable {T : List (Addr × Str)} {W : EW} {X : Cx} {C : Ctx} {k n : Nat} {α β : Type}
theorem PE.void {e : Expr} {t : TE} (h : ∀ σ H Q, ¬ t σ H Q) : PE X e t := ⟨fun _ _ σ H Q _ q => (h σ H Q q).elim⟩
theorem PT.void {e : Expr} {t : TT} (h : ∀ σ H Q, ¬ t σ H Q) : PT X e t := ⟨fun _ _ σ H Q _ q => (h σ H Q q).elim⟩
theorem tD.stuck {g : Gd} {rp : Wd → Hp → β → α → Prop} {m : DI.Env → M α} (h : ∀ ρ st, m ρ st = .stuck) (σ : L2.St) (H : Hp) (Q : β → Hp → Prop) : ¬ tD g W rp m σ H Q := fun ⟨w, st, _, _, p⟩ => by
  rw [h] at p
  exact p
theorem ixOf_get : ∀ {N : List Str} {x : Str} {i : Nat}, ixOf N x = some i → N[i]? = some x
  | [], _, _, h => by cases h
  | y :: r, x, i, h => by
    unfold ixOf at h
    split at h
    · cases h; rename_i e; simp [e]
    · simp only [Option.map_eq_some_iff] at h
      obtain ⟨j, h1, rfl⟩ := h
      simpa using ixOf_get h1
theorem bad_no {x : Str} (h : badName x = false) : (x == ("__debug__" : Str)) = false ∧ (x == ("__classdict__" : Str)) = false ∧ x ≠ "__name__" := by
  unfold badName at h
  simp only [Bool.or_eq_false_iff, decide_eq_false_iff_not] at h
  exact ⟨by simpa using h.1.1, by simpa using h.1.2, h.2⟩
theorem visB_ok {sc : Scope} {x : Str} (h : visB sc x = true) : Vis sc x := by
  unfold visB at h
  unfold Vis
  split at h <;> simp_all
theorem locB_ok {sc : Scope} {x : Str} (h : locB sc x = true) : L2.Loc sc x := by
  unfold locB at h
  unfold L2.Loc
  split at h <;> simp_all
theorem globB_ok {sc : Scope} {x : Str} (h : globB sc x = true) : sc.names.lookup x = some .globalImplicit := by
  unfold globB at h
  split at h <;> simp_all
theorem Good.room0 (G : Good T W X C k) : Room k X.A := by
  have r := G.room
  split at r
  · exact r.mono (Nat.le_add_right k 2)
  · exact r
theorem Good.gl (G : Good T W X C k) {x : Str} (h : gl C x = true) : Gl X x ∧ badName x = false := by
  unfold DI.gl at h
  simp only [Bool.and_eq_true, Bool.not_eq_true'] at h
  refine ⟨?_, h.2⟩
  have z := globB_ok h.1
  show X.env.scope.names.lookup x = _
  rw [G.sc]
  exact z
theorem Good.vis (G : Good T W X C k) {x : Str} (h : visB C.sc x = true) : Vis X.env.scope x := by
  rw [G.sc]
  exact visB_ok h
/-- a name of the def -/
theorem slotOf_some {ρ : DI.Env} {x : Str} {sv : SV} (h : slotOf C ρ x = some sv) : badName x = false ∧ visB C.sc x = true ∧ ∃ i, ixOf C.N x = some i ∧ ρ[i]? = some (some sv) := by
  unfold slotOf at h
  split at h
  · cases h
  · rename_i hb
    split at h
    · rename_i hv
      refine ⟨by simpa using hb, hv, ?_⟩
      split at h
      · rename_i i hi
        refine ⟨i, hi, ?_⟩
        split at h
        · rename_i o ho
          rw [ho, h]
        · cases h
      · cases h
    · cases h
/-- a name as it is read: f tells what of a slot is taken -/
theorem snd_name {rp : Wd → Hp → V → D → Prop} {f : DI.Env → M D} (G : Good T W X C k) {x : Str} {pos : Pos}
    (hr : ∀ w H v d, rpD (gX X T) w H v d → rp w H v d)
    (h1 : ∀ ρ st, (slotOf C ρ x = none → f ρ st = guardM (!badName x && globB C.sc x) (optM (C.con x)) st) ∧ (∀ sv, slotOf C ρ x = some sv → f ρ st = .stuck ∨ ∃ d, f ρ st = .ok d st ∧ ∀ w H v, w.ρ = ρ → ERep (gX X T) w H st → SRep X.K w.Hid w.p H v sv → rp w H v d)) :
    PE X (.Name x pos) (tD (gX X T) W rp f) := by
  by_cases hv : visB C.sc x = true
  · have ng : globB C.sc x = false := by
      unfold visB at hv
      unfold globB
      split at hv <;> simp_all
    cases hi : ixOf C.N x with
    | none =>
      refine PE.void (tD.stuck fun ρ st => ?_)
      have z : slotOf C ρ x = none := by
        unfold slotOf
        rw [hi]
        simp
      rw [(h1 ρ st).1 z, ng]
      simp [guardM]
    | some i =>
      by_cases hb : badName x = true
      · refine PE.void (tD.stuck fun ρ st => ?_)
        have z : slotOf C ρ x = none := by
          unfold slotOf
          rw [if_pos hb]
        rw [(h1 ρ st).1 z, hb]
        simp [guardM]
      have hb' : badName x = false := by simpa using hb
      obtain ⟨b1, b2, b3⟩ := bad_no hb'
      refine (pe_var (i := i) (by rw [G.N]; exact ixOf_get hi) (G.vis hv) b1 b2).mono fun σ H Q ⟨w, st, hσ, E, h⟩ => ?_
      subst hσ
      cases hs : slotOf C w.ρ x with
      | none =>
        rw [(h1 w.ρ st).1 hs, ng] at h
        simp only [Bool.and_false, guardM] at h
        exact h.elim
      | some sv =>
        obtain ⟨_, _, j, hj, hρ⟩ := slotOf_some hs
        rw [hi] at hj
        cases hj
        obtain ⟨v, hv1, hv2⟩ := E.slot i sv hρ
        refine ⟨v, hv1, ?_⟩
        rcases (h1 w.ρ st).2 sv hs with z | ⟨d, z, hd⟩
        · rw [z] at h
          exact h.elim
        · rw [z] at h
          exact h.now E (hd w H v rfl E hv2)
  · have hv' : visB C.sc x = false := by simpa using hv
    have z : ∀ ρ, slotOf C ρ x = none := fun ρ => by
      unfold slotOf
      rw [hv']
      simp
    cases hc : C.con x with
    | none =>
      refine PE.void (tD.stuck fun ρ st => ?_)
      rw [(h1 ρ st).1 (z ρ), hc]
      simp [guardM, optM, stuckM]
    | some d =>
      by_cases hg : (!badName x && globB C.sc x) = true
      · have hg2 : DI.gl C x = true := by
          unfold DI.gl
          rw [Bool.and_comm]
          exact hg
        obtain ⟨g1, g2⟩ := G.gl hg2
        obtain ⟨b1, b2, b3⟩ := bad_no g2
        obtain ⟨v, u, m1, m2, m3⟩ := G.con x d hc
        refine (pe_glob g1 m1 m2 b1).mono fun σ H Q ⟨w, st, hσ, E, h⟩ => ?_
        rw [(h1 w.ρ st).1 (z _), hc] at h
        obtain ⟨_, h⟩ := Post.grd h
        exact h.now E (hr w H v d (m3 _))
      · refine PE.void (tD.stuck fun ρ st => ?_)
        rw [(h1 ρ st).1 (z ρ)]
        unfold guardM
        rw [if_neg hg]
theorem snd_nameM (G : Good T W X C k) {x : Str} {pos : Pos} : PE X (.Name x pos) (tD (gX X T) W (rpD (gX X T)) (nameM C x)) := by
  refine snd_name G (fun _ _ _ _ h => h) fun ρ st => ⟨fun h => by unfold nameM; rw [h], fun sv h => ?_⟩
  unfold nameM
  rw [h]
  cases sv with
  | sh d => exact .inr ⟨d, rfl, fun w H v _ _ s => s⟩
  | ow ds => exact .inl rfl
  | stt => exact .inl rfl
theorem snd_nameB (G : Good T W X C k) {x : Str} {pos : Pos} : PE X (.Name x pos) (tD (gX X T) W (rpB (gX X T)) (nameB C x)) := by
  refine snd_name G (fun _ _ _ _ h => rpB.ofD h) fun ρ st => ⟨fun h => by unfold nameB; rw [h], fun sv h => ?_⟩
  unfold nameB
  rw [h]
  cases sv with
  | sh d => exact .inr ⟨d, rfl, fun w H v _ _ s => .inl s⟩
  | ow ds => exact .inr ⟨.list ds, rfl, fun w H v _ _ ⟨a, vs, s1, s2, s3, s4, s5⟩ => .inr ⟨a, vs, ds, s1, rfl, s3, s4, s5⟩⟩
  | stt => exact .inl rfl
theorem snd_const {c : Const} {j : Nat} {pos : Pos} : PE X (.Constant c j pos) (tD (gX X T) W (rpD (gX X T)) fun _ => constM c) := by
  cases c with
  | none => exact pe_non.mono fun σ H Q ⟨w, st, _, E, h⟩ => h.now E (rp := rpD _ w) Rp.non
  | bool b => exact pe_bl.mono fun σ H Q ⟨w, st, _, E, h⟩ => h.now E (rp := rpD _ w) (Rp.bl b)
  | int i => exact pe_int.mono fun σ H Q ⟨w, st, _, E, h⟩ => h.now E (rp := rpD _ w) (Rp.int i)
  | str x => exact pe_str.mono fun σ H Q ⟨w, st, _, E, h⟩ => h.now E (rp := rpD _ w) (Rp.str x)
  | _ => exact PE.void (tD.stuck fun _ _ => rfl)
/-! ### operators -/
theorem bin_ev (ih : Snd T n) (G : Good T W X C k) (a b : Expr) (op : Operator) (pos : Pos) :
    PE X (.BinOp a op b pos) (tD (gX X T) W (rpX (gX X T)) fun ρ => bnd (evB n C a ρ) fun x => bnd (evB n C b ρ) fun y => binM op x y) := by
  obtain ⟨r, hr, hq⟩ := bin_ok (X := X) (T := T) (W := W) op
  refine (pe_op hr (ih.B G a) (ih.B G b)).mono fun σ H Q ⟨w, st, hσ, E, h⟩ => ?_
  subst hσ
  exact ⟨w, st, rfl, E, h.bind fun x st1 v H1 e1 E1 r1 h1 => ⟨w, st1, rfl, E1, h1.bind fun y st2 u H2 e2 E2 r2 h2 => hq w st2 H2 v u x y Q E2 (r1.evo E1 e2) r2 h2⟩⟩
theorem tD.weak {g : Gd} {rp rp' : Wd → Hp → β → α → Prop} {m : DI.Env → M α} {σ : L2.St} {H : Hp} {Q : β → Hp → Prop} (h : tD g W rp m σ H Q) (k : ∀ w H b a, rp' w H b a → rp w H b a) : tD g W rp' m σ H Q := by
  obtain ⟨w, st, h1, h2, h3⟩ := h
  exact ⟨w, st, h1, h2, h3.weak (k w)⟩
theorem rpT_v {g : Gd} {w : Wd} {H : Hp} {r : R Bool} {Q : Bool → Hp → Prop} (h : Post g W w (rpT w) H r Q) : Post g W w (rpV w) H r (fun x H' => ∃ b, x = .bl b ∧ Q b H') := by
  cases r with
  | ok a st' => exact fun b H1 e1 E1 r1 => ⟨a, r1, h a H1 e1 E1 rfl⟩
  | err x st' => exact h
  | stuck => exact h
theorem rpD_v {g : Gd} {w : Wd} {H : Hp} {m : M Bool} {st : Stt} {Q : VK} (h : Post g W w (rpD g w) H (bnd m (fun c => ret (PyData.bool c)) st) Q) : Post g W w (rpV w) H (m st) Q := by
  refine Post.bind (rq := rpD g w) h fun a st1 b H1 e1 E1 r1 h1 => ?_
  have e : b = .bl a := r1
  subst e
  exact h1.now E1 (rp := rpD g w) (Rp.bl a)
theorem units_ok (G : Good T W X C k) : X.A.units + 65 < cLine := by
  have := G.room0.un
  omega
theorem behind_no {op : CmpOp} {b : Expr} (h : isSetE b = false) : behindInMarks op b = false := by
  cases b <;> first | rfl | cases h
end
end DI
end
section
set_option linter.all false
set_option autoImplicit false
set_option maxRecDepth 100000
/-! D8: the step of the soundness of expressions, case by case. -/
namespace DI
open PySem PySem.Spec L2
open PyProof.Rows hiding St
section
variable {T : List (Addr × Str)} {W : EW} {X : Cx} {C : Ctx} {k n : Nat}

theorem truth_ok {w : Wd} {H : Hp} {st : Stt} {v : V} {d : D} {Q : Bool → Hp → Prop} (E : ERep (gX X T) w H st) (r : rpB (gX X T) w H v d) (h : Post (gX X T) W w (rpT w) H (truthM d st) Q) : ∃ b, TruV X.K v H b ∧ Q b H := by
  cases d with
  | none =>
    have e := r.none'
    subst e
    exact ⟨false, rfl, h.now E (rp := rpT w) rfl⟩
  | bool b =>
    have e := r.bool
    subst e
    exact ⟨b, rfl, h.now E (rp := rpT w) rfl⟩
  | int i =>
    have e := r.int
    subst e
    exact ⟨i != 0, rfl, h.now E (rp := rpT w) rfl⟩
  | str x =>
    have e := r.str
    subst e
    obtain ⟨hb, h⟩ := Post.grd h
    exact ⟨_, ⟨fits_le hb, rfl⟩, h.now E (rp := rpT w) rfl⟩
  | list ds =>
    obtain ⟨a, vs, rfl, ha, hs⟩ := r.list
    refine ⟨_, .inl ⟨vs, .inl ha, rfl⟩, ?_⟩
    have e : (!vs.isEmpty) = (!ds.isEmpty) := by cases hs <;> rfl
    rw [e]
    exact h.now E (rp := rpT w) rfl
  | tuple ds =>
    obtain ⟨a, vs, rfl, ha, hs, _⟩ := r.tuple
    refine ⟨_, .inr (.inl ⟨vs, ha, rfl⟩), ?_⟩
    have e : (!vs.isEmpty) = (!ds.isEmpty) := by cases hs <;> rfl
    rw [e]
    exact h.now E (rp := rpT w) rfl
  | dict _ => exact h.elim
/-- a truth that goes on -/
theorem truth_on {α β : Type} {rq : Hp → β → α → Prop} {w : Wd} {H : Hp} {st : Stt} {v : V} {d : D} {f : Bool → M α} {Q : β → Hp → Prop} (E : ERep (gX X T) w H st) (r : rpB (gX X T) w H v d) (h : Post (gX X T) W w rq H ((bnd (truthM d) f) st) Q) :
    ∃ b, TruV X.K v H b ∧ Post (gX X T) W w rq H (f b st) Q := by
  obtain ⟨b, h1, h2⟩ := truth_ok (Q := fun b H' => Post (gX X T) W w rq H (f b st) Q) E r (by
    cases hq : truthM d st with
    | ok b st' =>
      intro b' H' e1 E1 hb
      have z : st' = st := by
        cases d <;> simp only [truthM, ret, guardM, stuckM] at hq <;> first | (cases hq; rfl) | cases hq | (split at hq <;> first | (cases hq; rfl) | cases hq)
      subst z
      have e : b' = b := hb
      subst e
      have y : (bnd (truthM d) f) st' = f b' st' := by
        show R.next (truthM d st') f = _
        rw [hq] <;> rfl
      rwa [y] at h
    | err e st' =>
      have y : (bnd (truthM d) f) st = .err e st' := by
        show R.next (truthM d st) f = _
        rw [hq] <;> rfl
      rw [y] at h
      exact h
    | stuck =>
      have y : (bnd (truthM d) f) st = .stuck := by
        show R.next (truthM d st) f = _
        rw [hq] <;> rfl
      rw [y] at h
      exact h)
  exact ⟨b, h1, h2⟩
/-! ### evE -/
theorem s_not (ih : Snd T n) (G : Good T W X C k) (a : Expr) (pos : Pos) : PE X (.UnaryOp .Not a pos) (tD (gX X T) W (rpD (gX X T)) fun ρ => bnd (evB n C a ρ) fun x => bnd (truthM x) fun b => ret (.bool (!b))) := by
  refine (pe_notT (ih.B G a)).mono fun σ H Q ⟨w, st, hσ, E, h⟩ => ?_
  subst hσ
  refine ⟨w, st, rfl, E, h.bind fun x st1 v H1 e1 E1 r1 h1 => ?_⟩
  obtain ⟨b, t1, h2⟩ := truth_on E1 r1 h1
  exact ⟨b, t1, h2.now E1 (rp := rpD _ w) (Rp.bl _)⟩
theorem s_un (ih : Snd T n) (G : Good T W X C k) (op : UnaryOp) (hop : op ≠ .Not) (a : Expr) (pos : Pos) : PE X (.UnaryOp op a pos) (tD (gX X T) W (rpD (gX X T)) fun ρ => bnd (evB n C a ρ) fun x => unM op x) := by
  by_cases h0 : op = .USub
  · subst h0
    refine (pe_un un_neg (ih.B G a)).mono fun σ H Q ⟨w, st, hσ, E, h⟩ => ?_
    subst hσ
    refine ⟨w, st, rfl, E, h.bind fun x st1 v H1 e1 E1 r1 h1 => ?_⟩
    cases x with
    | int i => exact ⟨i, r1.int, h1.now E1 (rp := rpD _ w) (Rp.int _)⟩
    | _ => exact h1.elim
  · have z : ∀ x, unM op x = stuckM := fun x => by cases op <;> first | (exact absurd rfl h0) | (exact absurd rfl hop) | (cases x <;> rfl)
    refine (pe_un (op := op) (r := fun _ _ _ => False) (fun _ _ _ _ _ _ _ _ _ q => q.elim) (ih.B G a)).mono fun σ H Q ⟨w, st, hσ, E, h⟩ => ?_
    subst hσ
    refine ⟨w, st, rfl, E, h.bind fun x st1 v H1 e1 E1 r1 h1 => ?_⟩
    rw [z] at h1
    exact h1.elim
theorem two_ops {α β : Type} {rq : Wd → Hp → β → α → Prop} (ih : Snd T n) (G : Good T W X C k) {a b : Expr} {f : D → D → M α} {r : V → V → Hp → (β → Hp → Prop) → Prop}
    (hq : ∀ (w : Wd) (st : Stt) (H : Hp) (x y : V) (dx dy : D) (Q : β → Hp → Prop), ERep (gX X T) w H st → rpB (gX X T) w H x dx → rpB (gX X T) w H y dy → Post (gX X T) W w (rq w) H (f dx dy st) Q → r x y H Q) {σ : L2.St} {H : Hp} {Q : β → Hp → Prop}
    (h : tD (gX X T) W rq (fun ρ => bnd (evB n C a ρ) fun x => bnd (evB n C b ρ) fun y => f x y) σ H Q) :
    tD (gX X T) W (rpB (gX X T)) (evB n C a) σ H fun x H1 => tD (gX X T) W (rpB (gX X T)) (evB n C b) σ H1 fun y H2 => r x y H2 Q := by
  obtain ⟨w, st, hσ, E, h⟩ := h
  subst hσ
  exact ⟨w, st, rfl, E, h.bind fun x st1 v H1 e1 E1 r1 h1 => ⟨w, st1, rfl, E1, h1.bind fun y st2 u H2 e2 E2 r2 h2 => hq w st2 H2 v u x y Q E2 (r1.evo E1 e2) r2 h2⟩⟩
theorem tD.grd {α β : Type} {g : Gd} {rp : Wd → Hp → β → α → Prop} {b : Bool} {m : DI.Env → M α} {σ : L2.St} {H : Hp} {Q : β → Hp → Prop} (h : tD g W rp (fun ρ => guardM b (m ρ)) σ H Q) : b = true ∧ tD g W rp m σ H Q := by
  obtain ⟨w, st, h1, h2, h3⟩ := h
  obtain ⟨hb, h3⟩ := Post.grd h3
  exact ⟨hb, w, st, h1, h2, h3⟩
theorem s_cmp1 (ih : Snd T n) (G : Good T W X C k) (a b : Expr) (op : CmpOp) (pos : Pos) :
    PE X (.Compare a [op] [b] pos) (tD (gX X T) W (rpD (gX X T)) fun ρ => guardM (!isSetE b) (bnd (evB n C a ρ) fun x => bnd (evB n C b ρ) fun y => bnd (cmpM op x y) fun c => ret (.bool c))) := by
  by_cases hs : isSetE b = true
  · refine PE.void (tD.stuck fun ρ st => ?_)
    rw [hs]
    rfl
  obtain ⟨r, hr, hq⟩ := cmp_ok (X := X) (T := T) (W := W) op (units_ok G)
  refine (pe_cmpR hr (ih.B G a) (ih.B G b) (behind_no (by simpa using hs))).mono fun σ H Q h => ?_
  exact two_ops ih G (fun w st H x y dx dy Q E rx ry h => hq w st H x y dx dy Q E rx ry (rpD_v h)) (tD.grd h).2
theorem s_cmp1T (ih : Snd T n) (G : Good T W X C k) (a b : Expr) (op : CmpOp) (pos : Pos) :
    PT X (.Compare a [op] [b] pos) (tD (gX X T) W rpT fun ρ => guardM (!isSetE b) (bnd (evB n C a ρ) fun x => bnd (evB n C b ρ) fun y => cmpM op x y)) := by
  by_cases hs : isSetE b = true
  · refine PT.void (tD.stuck fun ρ st => ?_)
    rw [hs]
    rfl
  obtain ⟨r, hr, hq⟩ := cmp_ok (X := X) (T := T) (W := W) op (units_ok G)
  refine (pt_cmpR hr (ih.B G a) (ih.B G b) (behind_no (by simpa using hs))).mono fun σ H Q h => ?_
  exact two_ops (r := fun x y H2 Q => r x y H2 fun z H3 => ∃ b, z = .bl b ∧ Q b H3) ih G (fun w st H x y dx dy Q E rx ry h => hq w st H x y dx dy _ E rx ry (rpT_v h)) (tD.grd h).2
/-- a comparison's bool, then the rest -/
theorem cmp_on {α β : Type} {rq : Hp → β → α → Prop} {w : Wd} {H : Hp} {m : M Bool} {st : Stt} {f : Bool → M α} {Q : β → Hp → Prop} (h : Post (gX X T) W w rq H ((bnd m f) st) Q) :
    Post (gX X T) W w (rpV w) H (m st) (fun z H3 => ∃ b st3, z = .bl b ∧ ERep (gX X T) w H3 st3 ∧ Evo w.p H H3 ∧ Post (gX X T) W w rq H3 (f b st3) Q) := by
  refine Post.bind (rq := rq) h fun a st1 b H1 e1 E1 r1 h1 => ⟨a, st1, r1, E1, e1, h1⟩
theorem s_cmp2 (ih : Snd T n) (G : Good T W X C k) (a b c : Expr) (op op' : CmpOp) (pos : Pos) :
    PE X (.Compare a [op, op'] [b, c] pos) (tD (gX X T) W (rpD (gX X T)) fun ρ => guardM (!isSetE c) (bnd (evB n C a ρ) fun x => bnd (evB n C b ρ) fun y => bnd (cmpM op x y) fun k =>
        if k = true then bnd (evB n C c ρ) fun z => bnd (cmpM op' y z) fun k' => ret (.bool k') else ret (.bool false))) := by
  by_cases hs : isSetE c = true
  · refine PE.void (tD.stuck fun ρ st => ?_)
    rw [hs]
    rfl
  obtain ⟨r, hr, hq⟩ := cmp_ok (X := X) (T := T) (W := W) op (units_ok G)
  obtain ⟨r', hr', hq'⟩ := cmp_ok (X := X) (T := T) (W := W) op' (units_ok G)
  refine (pe_chain hr hr' (ih.B G a) (ih.B G b) (ih.B G c) (by show behindInMarks op' c = false; exact behind_no (by simpa using hs))).mono fun σ H Q h => ?_
  obtain ⟨w, st, hσ, E, h'⟩ := (tD.grd h).2
  subst hσ
  refine ⟨w, st, rfl, E, h'.bind fun x st1 v H1 e1 E1 r1 h1 => ⟨w, st1, rfl, E1, h1.bind fun y st2 u H2 e2 E2 r2 h2 => ?_⟩⟩
  refine hq w st2 H2 v u x y _ E2 (r1.evo E1 e2) r2 ((cmp_on h2).ends (rp' := rpV w) fun _ _ z H3 e3 E3 hz => .inr ⟨hz, fun ⟨b3, st3, hb, E3', e3', h3⟩ => ?_⟩)
  refine ⟨b3, hb, ?_⟩
  cases b3 with
  | false => exact h3.now E3' (rp := rpD _ w) (Rp.bl _)
  | true => exact ⟨w, st3, rfl, E3', Post.bind (rq := rpD _ w) h3 fun dz st4 vz H4 e4 E4 r4 h4 => hq' w st4 H4 u vz y dz Q E4 ((r2.evo E2 e3').evo E3' e4) r4 (rpD_v h4)⟩
theorem s_cmp2T (ih : Snd T n) (G : Good T W X C k) (a b c : Expr) (op op' : CmpOp) (pos : Pos) :
    PT X (.Compare a [op, op'] [b, c] pos) (tD (gX X T) W rpT fun ρ => guardM (!isSetE c) (bnd (evB n C a ρ) fun x => bnd (evB n C b ρ) fun y => bnd (cmpM op x y) fun k =>
        if k = true then bnd (evB n C c ρ) fun z => cmpM op' y z else ret false)) := by
  by_cases hs : isSetE c = true
  · refine PT.void (tD.stuck fun ρ st => ?_)
    rw [hs]
    rfl
  obtain ⟨r, hr, hq⟩ := cmp_ok (X := X) (T := T) (W := W) op (units_ok G)
  obtain ⟨r', hr', hq'⟩ := cmp_ok (X := X) (T := T) (W := W) op' (units_ok G)
  refine (pt_chain hr hr' (ih.B G a) (ih.B G b) (ih.B G c) (by show behindInMarks op' c = false; exact behind_no (by simpa using hs))).mono fun σ H Q h => ?_
  obtain ⟨w, st, hσ, E, h'⟩ := (tD.grd h).2
  subst hσ
  refine ⟨w, st, rfl, E, h'.bind fun x st1 v H1 e1 E1 r1 h1 => ⟨w, st1, rfl, E1, h1.bind fun y st2 u H2 e2 E2 r2 h2 => ?_⟩⟩
  refine hq w st2 H2 v u x y _ E2 (r1.evo E1 e2) r2 ((cmp_on h2).ends (rp' := rpV w) fun _ _ z H3 e3 E3 hz => .inr ⟨hz, fun ⟨b3, st3, hb, E3', e3', h3⟩ => ?_⟩)
  refine ⟨b3, hb, ?_⟩
  cases b3 with
  | false => exact ⟨false, rfl, h3.now E3' (rp := rpT w) rfl⟩
  | true => exact ⟨w, st3, rfl, E3', Post.bind (rq := rpT w) h3 fun dz st4 vz H4 e4 E4 r4 h4 => hq' w st4 H4 u vz y dz _ E4 ((r2.evo E2 e3').evo E3' e4) r4 (rpT_v h4)⟩
theorem s_if (ih : Snd T n) (G : Good T W X C k) (t a b : Expr) (pos : Pos) : PE X (.IfExp t a b pos) (tD (gX X T) W (rpD (gX X T)) fun ρ => bnd (evT n C t ρ) fun c => if c = true then evE n C a ρ else evE n C b ρ) := by
  refine (pe_ifExp (ih.Te G t) (ih.E G a) (ih.E G b)).mono fun σ H Q ⟨w, st, hσ, E, h⟩ => ?_
  subst hσ
  refine ⟨w, st, rfl, E, h.bind fun x st1 v H1 e1 E1 r1 h1 => ?_⟩
  have e : v = x := r1
  subst e
  cases v with
  | true => exact ⟨w, st1, rfl, E1, h1⟩
  | false => exact ⟨w, st1, rfl, E1, h1⟩
theorem s_tuple (ih : Snd T n) (G : Good T W X C k) (es : List Expr) (j : Nat) (pos : Pos) : PE X (.Tuple es j pos) (tD (gX X T) W (rpD (gX X T)) fun ρ => bnd (evEs n C es ρ) fun ds => guardM (fits ds.length) (ret (.tuple ds))) := by
  refine (pe_tup (ih.Es G es)).mono fun σ H Q ⟨w, st, hσ, E, h⟩ => ?_
  subst hσ
  refine ⟨w, st, rfl, E, h.bind fun ds st1 vs H1 e1 E1 r1 h1 => ?_⟩
  obtain ⟨hb, h1⟩ := Post.grd h1
  refine ⟨by rw [RpAll.len r1]; exact fits_le hb, fun p hp => ?_⟩
  exact h1.at_ E1 (upd_kp hp) (rp := rpD _ w) (new_tuple E1 hp r1)
theorem f_list (ih : Snd T n) (G : Good T W X C k) (es : List Expr) (pos : Pos) : PE X (.List es pos) (tD (gX X T) W (rpF (gX X T)) fun ρ => bnd (evEs n C es ρ) fun ds => guardM (fits ds.length) (ret ds)) := by
  refine (pe_lst (ih.Es G es)).mono fun σ H Q ⟨w, st, hσ, E, h⟩ => ?_
  subst hσ
  refine ⟨w, st, rfl, E, h.bind fun ds st1 vs H1 e1 E1 r1 h1 => ?_⟩
  obtain ⟨hb, h1⟩ := Post.grd h1
  refine ⟨by rw [RpAll.len r1]; exact fits_le hb, fun p hp => ?_⟩
  exact h1.at_ E1 (upd_kp hp) (rp := rpF _ w) (fresh_F E1 hp r1)
theorem next_next {α β γ : Type} (r : R α) (f : α → M β) (g : β → M γ) : (r.next f).next g = r.next fun x => bnd (f x) g := by
  cases r <;> rfl
theorem f_bin (ih : Snd T n) (G : Good T W X C k) (a b : Expr) (op : Operator) (pos : Pos) : PE X (.BinOp a op b pos) (tD (gX X T) W (rpF (gX X T)) fun ρ => bnd (evB n C a ρ) fun x => bnd (evB n C b ρ) fun y => bnd (binM op x y) fun d => (match d with
      | .list ds => ret ds
      | _ => stuckM)) := by
  refine (bin_ev ih G a b op pos).mono fun σ H Q ⟨w, st, hσ, E, h⟩ => ⟨w, st, hσ, E, ?_⟩
  have e : ((fun ρ => bnd (evB n C a ρ) fun x => bnd (evB n C b ρ) fun y => bnd (binM op x y) fun d => (match d with
      | .list ds => ret ds
      | _ => stuckM)) w.ρ st : R (List D)) = ((bnd (evB n C a w.ρ) fun x => bnd (evB n C b w.ρ) fun y => binM op x y) st).next fun d => (match d with
      | .list ds => ret ds
      | _ => stuckM) := by
    show R.next _ _ = R.next (R.next _ _) _
    rw [next_next]
    congr 1
    funext x st1
    show R.next _ _ = R.next (R.next _ _) _
    rw [next_next]
  rw [e] at h
  refine Post.bind (rq := rpF _ w) h fun d st1 v H1 e1 E1 r1 h1 => ?_
  cases d with
  | list ds => exact h1.now E1 (rp := rpF _ w) r1
  | _ => exact h1.elim
/-! ### subscripts -/
theorem plain_ix {i : Expr} (h : ∀ lo hi p, i ≠ .Slice lo hi none p) : PlainIx i := by
  intro o j
  cases i with
  | Slice lo hi st p =>
    cases st with
    | none => exact absurd rfl (h lo hi p)
    | some _ => rfl
  | _ => rfl
theorem atI_rel {K : PySem.W.Frag} {H : Hp} {vs : List V} {ds : List D} {i : Int} {d : D} (h : RpAll K H vs ds) (e : atI ds i = some d) : ∃ v, atI vs i = some v ∧ Rp K H v d := by
  unfold atI at e ⊢
  rw [RpAll.len h]
  cases hj : ixN ds.length i with
  | none => rw [hj] at e; cases e
  | some j =>
    rw [hj] at e
    obtain ⟨v, h1, h2⟩ := RpAll.at_ h (show ds[j]? = some d from e)
    exact ⟨v, h1, h2⟩
theorem ix_ok {w : Wd} {H : Hp} {st : Stt} {x y : V} {dx dy : D} {Q : VK} (E : ERep (gX X T) w H st) (rx : rpB (gX X T) w H x dx) (ry : rpB (gX X T) w H y dy) (h : Post (gX X T) W w (rpD (gX X T) w) H (ixM dx dy st) Q) : rIx X.K x y H Q := by
  cases dy with
  | int i =>
    have ey := ry.int
    subst ey
    cases dx with
    | list xs =>
      obtain ⟨a, vs, rfl, ha, hs⟩ := rx.list
      obtain ⟨d, hd, h⟩ := Post.opt h
      obtain ⟨v, h1, h2⟩ := atI_rel hs hd
      exact .inl ⟨a, vs, i, v, rfl, rfl, .inl ha, h1, h.now E (rp := rpD _ w) h2⟩
    | tuple xs =>
      obtain ⟨a, vs, rfl, ha, hs, _⟩ := rx.tuple
      obtain ⟨d, hd, h⟩ := Post.opt h
      obtain ⟨v, h1, h2⟩ := atI_rel hs hd
      exact .inr (.inl ⟨a, vs, i, v, rfl, rfl, ha, h1, h.now E (rp := rpD _ w) h2⟩)
    | str z =>
      have ex := rx.str
      subst ex
      obtain ⟨hb, h⟩ := Post.grd h
      obtain ⟨d, hd, h⟩ := Post.opt h
      simp only [Option.map_eq_some_iff] at hd
      obtain ⟨c, hc, rfl⟩ := hd
      exact .inr (.inr ⟨z, i, c, rfl, rfl, fits_le hb, hc, h.now E (rp := rpD _ w) (Rp.str _)⟩)
    | _ => exact h.elim
  | _ => cases dx <;> exact h.elim
theorem slice_ok {w : Wd} {H : Hp} {st : Stt} {x : V} {dx : D} {lo hi : Option Int} {Q : VK} (E : ERep (gX X T) w H st) (rx : rpB (gX X T) w H x dx) (h : Post (gX X T) W w (rpD (gX X T) w) H (sliceM dx lo hi st) Q) : rSlL X.K x lo hi H Q ∨ rSlA X.K x lo hi H Q := by
  cases dx with
  | list xs =>
    obtain ⟨a, vs, rfl, ha, hs⟩ := rx.list
    exact .inl ⟨a, vs, rfl, .inl ha, fun p hp => h.at_ E (upd_kp hp) (rp := rpD _ w) (new_list E hp (cutV_cutD (gX X T) w H hs lo hi))⟩
  | tuple xs =>
    obtain ⟨a, vs, rfl, ha, hs, hr⟩ := rx.tuple
    refine .inr ⟨a, vs, rfl, ha, fun hw => h.now E (rp := rpD _ w) ?_, fun _ p hp => h.at_ E (upd_kp hp) (rp := rpD _ w) (new_tuple E hp (cutV_cutD (gX X T) w H hs lo hi))⟩
    have e : cutD xs lo hi = xs := by
      rw [RpAll.len hs] at hw
      unfold cutD
      rw [hw.1, hw.2]
      simp
    rw [e]
    exact hr
  | _ => exact h.elim
theorem s_slice (ih : Snd T n) (G : Good T W X C k) (a : Expr) (lo hi : Option Expr) (p pos : Pos) : PE X (.Subscript a (.Slice lo hi none p) pos) (tD (gX X T) W (rpD (gX X T)) fun ρ => bnd (evB n C a ρ) fun x => bnd (evO n C lo ρ) fun l => bnd (evO n C hi ρ) fun h => sliceM x l h) := by
  refine (pe_slice (sl_list.or sl_tupA) (ih.B G a) (ih.O G lo) (ih.O G hi)).mono fun σ H Q ⟨w, st, hσ, E, h⟩ => ?_
  subst hσ
  refine ⟨w, st, rfl, E, h.bind fun x st1 v H1 e1 E1 r1 h1 => ⟨w, st1, rfl, E1, h1.bind fun l st2 l' H2 e2 E2 r2 h2 => ⟨w, st2, rfl, E2, h2.bind fun u st3 u' H3 e3 E3 r3 h3 => ?_⟩⟩⟩
  have q2 : l' = l := r2
  have q3 : u' = u := r3
  subst q2 q3
  exact slice_ok E3 ((r1.evo E1 e2).evo E2 e3) h3
theorem _root_.L2.PE.orE {X : Cx} {e : Expr} {t t' : TE} (h : PE X e t) (h' : PE X e t') : PE X e (fun σ H Q => t σ H Q ∨ t' σ H Q) := ⟨fun pins s σ H Q I q => q.elim (h.run pins s σ H Q I) (h'.run pins s σ H Q I)⟩
/-- the state cell's name -/
theorem pe_stt (G : Good T W X C k) (a : Expr) : PE X a (fun σ H Q => ∃ (w : Wd) (st : Stt), w.σ = σ ∧ ERep (gX X T) w H st ∧ stCell C a w.ρ = true ∧ ∀ p, w.p = some p → Q (.ref p) H) := by
  by_cases ha : ∃ x pos, a = .Name x pos
  · obtain ⟨x, pos, rfl⟩ := ha
    by_cases hs : badName x = false ∧ visB C.sc x = true ∧ ∃ i, ixOf C.N x = some i
    · obtain ⟨hb, hv, i, hi⟩ := hs
      obtain ⟨b1, b2, b3⟩ := bad_no hb
      refine (pe_var (i := i) (by rw [G.N]; exact ixOf_get hi) (G.vis hv) b1 b2).mono fun σ H Q ⟨w, st, hσ, E, h1, h2⟩ => ?_
      subst hσ
      have z : slotOf C w.ρ x = some .stt := by
        have z : isStt (slotOf C w.ρ x) = true := h1
        unfold isStt at z
        split at z
        · assumption
        · cases z
      obtain ⟨_, _, j, hj, hr⟩ := slotOf_some z
      rw [hi] at hj
      cases hj
      obtain ⟨v, e1, p, rfl, e3⟩ := E.slot i .stt hr
      exact ⟨_, e1, h2 p e3⟩
    · refine PE.void fun σ H Q ⟨w, st, hσ, E, h1, h2⟩ => hs ?_
      have z : isStt (slotOf C w.ρ x) = true := h1
      cases q : slotOf C w.ρ x with
      | none => rw [q] at z; cases z
      | some sv =>
        obtain ⟨a, b, j, c, d⟩ := slotOf_some q
        exact ⟨a, b, j, c⟩
  · refine PE.void fun σ H Q ⟨w, st, hσ, E, h1, h2⟩ => ?_
    cases a <;> first | (exact ha ⟨_, _, rfl⟩) | (cases h1)
theorem s_ix (ih : Snd T n) (G : Good T W X C k) (a i : Expr) (pos : Pos) (hi : ∀ lo hi p, i ≠ .Slice lo hi none p) : PE X (.Subscript a i pos) (tD (gX X T) W (rpD (gX X T)) fun ρ => (match stCell C a ρ with
      | true => bnd (evE n C i ρ) fun y => fun st => ixM (.list st) y st
      | false => bnd (evB n C a ρ) fun x => bnd (evE n C i ρ) fun y => ixM x y)) := by
  refine (pe_ix ix_seq ((pe_stt (T := T) G a).orE (ih.B G a)) (ih.E G i) (plain_ix hi)).mono fun σ H Q ⟨w, st, hσ, E, h⟩ => ?_
  subst hσ
  cases hc : stCell C a w.ρ with
  | true =>
    have h : Post (gX X T) W w (rpD (gX X T) w) H ((bnd (evE n C i w.ρ) fun y => fun st => ixM (.list st) y st) st) Q := by
      have e : (match stCell C a w.ρ with
        | true => bnd (evE n C i w.ρ) fun y => fun st => ixM (.list st) y st
        | false => bnd (evB n C a w.ρ) fun x => bnd (evE n C i w.ρ) fun y => ixM x y) = (bnd (evE n C i w.ρ) fun y => fun st => ixM (.list st) y st) := by rw [hc]
      rw [← e]
      exact h
    refine .inl ⟨w, st, rfl, E, hc, fun p hp => ⟨w, st, rfl, E, Post.bind (rq := rpD _ w) h fun y st1 v H1 e1 E1 r1 h1 => ?_⟩⟩
    have s := E1.stt
    rw [hp] at s
    obtain ⟨q1, q2, vs, q3, q4⟩ := s
    cases y with
    | int j =>
      have ey := rpD.int r1
      subst ey
      obtain ⟨d, hd, h1⟩ := Post.opt h1
      obtain ⟨v, g1, g2⟩ := atI_rel q4 hd
      exact .inl ⟨p, vs, j, v, rfl, rfl, .inl (.inl q3), g1, h1.now E1 (rp := rpD _ w) g2⟩
    | _ => exact h1.elim
  | false =>
    have h : Post (gX X T) W w (rpD (gX X T) w) H ((bnd (evB n C a w.ρ) fun x => bnd (evE n C i w.ρ) fun y => ixM x y) st) Q := by
      have e : (match stCell C a w.ρ with
        | true => bnd (evE n C i w.ρ) fun y => fun st => ixM (.list st) y st
        | false => bnd (evB n C a w.ρ) fun x => bnd (evE n C i w.ρ) fun y => ixM x y) = (bnd (evB n C a w.ρ) fun x => bnd (evE n C i w.ρ) fun y => ixM x y) := by rw [hc]
      rw [← e]
      exact h
    exact .inr ⟨w, st, rfl, E, Post.bind (rq := rpD _ w) h fun x st1 v H1 e1 E1 r1 h1 => ⟨w, st1, rfl, E1, h1.bind fun y st2 u H2 e2 E2 r2 h2 => ix_ok E2 (r1.evo E1 e2) (.inl r2) h2⟩⟩
end
end DI
end
section
set_option linter.all false
set_option autoImplicit false
set_option maxRecDepth 100000
/-! D9: lists of arguments, tests, what is walked. -/
namespace DI
open PySem PySem.Spec L2
open PyProof.Rows hiding St
theorem _root_.L2.PA.monoA {X : Cx} {es : List Expr} {t t' : TA} (h : PA X es t) (k : ∀ σ H Q, t' σ H Q → t σ H Q) : PA X es t' := ⟨fun pos pins s σ H Q I q => h.run pos pins s σ H Q I (k σ H Q q)⟩
theorem _root_.L2.PW.monoW {X : Cx} {e : Expr} {t t' : TT} (h : PW X e t) (k : ∀ σ H Q, t' σ H Q → t σ H Q) : PW X e t' := ⟨fun wh pins s σ H Q I q => h.run wh pins s σ H Q I (k σ H Q q)⟩
theorem _root_.L2.PO.monoO {X : Cx} {e : Option Expr} {t t' : TO} (h : PO X e t) (k : ∀ σ H Q, t' σ H Q → t σ H Q) : PO X e t' := ⟨fun pins s σ H Q I q => h.run pins s σ H Q I (k σ H Q q)⟩
theorem _root_.L2.PI.monoI {X : Cx} {tg e : Expr} {t t' : TI} (h : PI X tg e t) (k : ∀ σ H Q, t' σ H Q → t σ H Q) : PI X tg e t' := ⟨fun pins s σ H Q I q => h.run pins s σ H Q I (k σ H Q q)⟩
theorem _root_.L2.PTs.monoT {X : Cx} {e : List Expr} {t t' : TT} (h : PTs X e t) (k : ∀ σ H Q, t' σ H Q → t σ H Q) : PTs X e t' := ⟨fun pins s σ H Q I q => h.run pins s σ H Q I (k σ H Q q)⟩
theorem PA.void {X : Cx} {e : List Expr} {t : TA} (h : ∀ σ H Q, ¬ t σ H Q) : PA X e t := ⟨fun _ _ _ σ H Q _ q => (h σ H Q q).elim⟩
theorem PW.void {X : Cx} {e : Expr} {t : TT} (h : ∀ σ H Q, ¬ t σ H Q) : PW X e t := ⟨fun _ _ _ σ H Q _ q => (h σ H Q q).elim⟩
theorem PO.void {X : Cx} {e : Option Expr} {t : TO} (h : ∀ σ H Q, ¬ t σ H Q) : PO X e t := ⟨fun _ _ σ H Q _ q => (h σ H Q q).elim⟩
theorem PI.void {X : Cx} {tg e : Expr} {t : TI} (h : ∀ σ H Q, ¬ t σ H Q) : PI X tg e t := ⟨fun _ _ σ H Q _ q => (h σ H Q q).elim⟩
theorem PTs.void {X : Cx} {e : List Expr} {t : TT} (h : ∀ σ H Q, ¬ t σ H Q) : PTs X e t := ⟨fun _ _ σ H Q _ q => (h σ H Q q).elim⟩
section
variable {T : List (Addr × Str)} {W : EW} {X : Cx} {C : Ctx} {k n : Nat}
theorem s_Es (ih : Snd T n) (G : Good T W X C k) (es : List Expr) : PA X es (tD (gX X T) W (rpDs (gX X T)) (evEs (n + 1) C es)) := by
  cases es with
  | nil => exact pa_nil.monoA fun σ H Q ⟨w, st, hσ, E, h⟩ => h.now E (rp := rpDs _ w) RpAll.nil
  | cons e es =>
    by_cases hs : isStar e = true
    · refine PA.void (tD.stuck fun ρ st => ?_)
      show guardM (!isStar e) _ st = .stuck
      rw [hs]
      rfl
    refine (pa_cons (ih.E G e) (ih.Es G es) (star_no (by simpa using hs))).monoA fun σ H Q h => ?_
    obtain ⟨w, st, hσ, E, h'⟩ := (tD.grd h).2
    subst hσ
    refine ⟨w, st, rfl, E, h'.bind fun d st1 v H1 e1 E1 r1 h1 => ⟨w, st1, rfl, E1, h1.bind fun ds st2 vs H2 e2 E2 r2 h2 => ?_⟩⟩
    exact h2.now E2 (rp := rpDs _ w) (RpAll.cons (rpD.evo r1 E1 e2) r2)
theorem BAll.evo {g : Gd} {w : Wd} {H H' : Hp} {st : Stt} : ∀ {ds : List D} {vs : List V}, BAll g w H vs ds → ERep g w H st → Evo w.p H H' → BAll g w H' vs ds
  | _, _, .nil, _, _ => .nil
  | _, _, .cons r t, E, e => .cons (r.evo E e) (BAll.evo t E e)
theorem s_Bs (ih : Snd T n) (G : Good T W X C k) (es : List Expr) : PA X es (tD (gX X T) W (rpBs (gX X T)) (evBs (n + 1) C es)) := by
  cases es with
  | nil => exact pa_nil.monoA fun σ H Q ⟨w, st, hσ, E, h⟩ => h.now E (rp := rpBs _ w) BAll.nil
  | cons e es =>
    by_cases hs : isStar e = true
    · refine PA.void (tD.stuck fun ρ st => ?_)
      show guardM (!isStar e) _ st = .stuck
      rw [hs]
      rfl
    refine (pa_cons (ih.B G e) (ih.Bs G es) (star_no (by simpa using hs))).monoA fun σ H Q h => ?_
    obtain ⟨w, st, hσ, E, h'⟩ := (tD.grd h).2
    subst hσ
    refine ⟨w, st, rfl, E, h'.bind fun d st1 v H1 e1 E1 r1 h1 => ⟨w, st1, rfl, E1, h1.bind fun ds st2 vs H2 e2 E2 r2 h2 => ?_⟩⟩
    exact h2.now E2 (rp := rpBs _ w) (BAll.cons (rpB.evo r1 E1 e2) r2)
theorem s_O (ih : Snd T n) (G : Good T W X C k) (o : Option Expr) : PO X o (tD (gX X T) W rpO (evO (n + 1) C o)) := by
  cases o with
  | none => exact po_none.monoO fun σ H Q ⟨w, st, hσ, E, h⟩ => h.now E (rp := rpO w) rfl
  | some e =>
    refine (po_some (ih.E G e)).monoO fun σ H Q ⟨w, st, hσ, E, h⟩ => ?_
    subst hσ
    refine ⟨w, st, rfl, E, Post.bind (rq := rpO w) h fun d st1 v H1 e1 E1 r1 h1 => ?_⟩
    cases d with
    | int i => exact ⟨i, rpD.int r1, h1.now E1 (rp := rpO w) rfl⟩
    | _ => exact h1.elim
theorem s_Bo (ih : Snd T n) (G : Good T W X C k) (op : BoolOp) (vs : List Expr) (pos : Pos) : PE X (.BoolOp op vs pos) (tD (gX X T) W (rpD (gX X T)) (evBool (n + 1) C op vs)) := by
  cases vs with
  | nil => exact PE.void (tD.stuck fun _ _ => by cases op <;> rfl)
  | cons e vs =>
    cases vs with
    | nil =>
      refine (pe_one (ih.E G e)).mono fun σ H Q h => ?_
      cases op <;> exact h
    | cons e2 r =>
      cases op with
      | And =>
        refine (pe_andT (ih.E G e) (ih.Bo G .And (e2 :: r) pos)).mono fun σ H Q ⟨w, st, hσ, E, h⟩ => ?_
        subst hσ
        refine ⟨w, st, rfl, E, Post.bind (rq := rpD _ w) h fun d st1 v H1 e1 E1 r1 h1 => ?_⟩
        obtain ⟨b, t1, h2⟩ := truth_on E1 (.inl r1) h1
        refine ⟨b, t1, ?_⟩
        cases b with
        | true => exact ⟨w, st1, rfl, E1, h2⟩
        | false => exact h2.now E1 (rp := rpD _ w) r1
      | Or =>
        refine (pe_orT (ih.E G e) (ih.Bo G .Or (e2 :: r) pos)).mono fun σ H Q ⟨w, st, hσ, E, h⟩ => ?_
        subst hσ
        refine ⟨w, st, rfl, E, Post.bind (rq := rpD _ w) h fun d st1 v H1 e1 E1 r1 h1 => ?_⟩
        obtain ⟨b, t1, h2⟩ := truth_on E1 (.inl r1) h1
        refine ⟨b, t1, ?_⟩
        cases b with
        | true => exact h2.now E1 (rp := rpD _ w) r1
        | false => exact ⟨w, st1, rfl, E1, h2⟩
theorem s_Ts (ih : Snd T n) (G : Good T W X C k) (op : BoolOp) (vs : List Expr) (pos : Pos) : PW X (.BoolOp op vs pos) (tD (gX X T) W rpT (evTs (n + 1) C op vs)) := by
  cases vs with
  | nil => exact PW.void (tD.stuck fun _ _ => by cases op <;> rfl)
  | cons e vs =>
    cases vs with
    | nil =>
      cases op with
      | And => exact pw_and1 (ih.Te G e)
      | Or => exact pw_or1 (ih.Te G e)
    | cons e2 r =>
      cases op with
      | And =>
        refine (pw_and (ih.Te G e) (ih.Ts G .And (e2 :: r) pos)).monoW fun σ H Q ⟨w, st, hσ, E, h⟩ => ?_
        subst hσ
        refine ⟨w, st, rfl, E, Post.bind (rq := rpT w) h fun d st1 v H1 e1 E1 r1 h1 => ?_⟩
        have e : v = d := r1
        subst e
        cases v with
        | true => exact ⟨w, st1, rfl, E1, h1⟩
        | false => exact h1.now E1 (rp := rpT w) rfl
      | Or =>
        refine (pw_or (ih.Te G e) (ih.Ts G .Or (e2 :: r) pos)).monoW fun σ H Q ⟨w, st, hσ, E, h⟩ => ?_
        subst hσ
        refine ⟨w, st, rfl, E, Post.bind (rq := rpT w) h fun d st1 v H1 e1 E1 r1 h1 => ?_⟩
        have e : v = d := r1
        subst e
        cases v with
        | true => exact h1.now E1 (rp := rpT w) rfl
        | false => exact ⟨w, st1, rfl, E1, h1⟩
theorem t_val (ih : Snd T n) (G : Good T W X C k) (e : Expr) (he : ∀ whole, isTrue e X.env whole = (do let v ← whole; standAt e.pos; holding [v] (truthy v))) : PT X e (tD (gX X T) W rpT fun ρ => bnd (evB n C e ρ) fun d => truthM d) := by
  refine (pt_truth (ih.B G e) he).mono fun σ H Q ⟨w, st, hσ, E, h⟩ => ?_
  subst hσ
  refine ⟨w, st, rfl, E, Post.bind (rq := rpT w) h fun d st1 v H1 e1 E1 r1 h1 => ?_⟩
  exact truth_ok E1 r1 h1
theorem s_T (ih : Snd T n) (G : Good T W X C k) (e : Expr) : PT X e (tD (gX X T) W rpT (evT (n + 1) C e)) := by
  cases e with
  | UnaryOp op a pos =>
    cases op with
    | Not =>
      refine (pt_not (ih.Te G a)).mono fun σ H Q ⟨w, st, hσ, E, h⟩ => ?_
      subst hσ
      refine ⟨w, st, rfl, E, Post.bind (rq := rpT w) h fun d st1 v H1 e1 E1 r1 h1 => ?_⟩
      have e : v = d := r1
      subst e
      exact h1.now E1 (rp := rpT w) rfl
    | _ => exact t_val ih G _ fun _ => rfl
  | BoolOp op vs pos => exact (ih.Ts G op vs pos).pt
  | IfExp t a b pos => exact PT.void (tD.stuck fun _ _ => rfl)
  | Compare a ops bs pos =>
    cases ops with
    | nil => exact PT.void (tD.stuck fun _ _ => rfl)
    | cons op ops =>
      cases ops with
      | nil =>
        cases bs with
        | nil => exact PT.void (tD.stuck fun _ _ => rfl)
        | cons b bs =>
          cases bs with
          | nil => exact s_cmp1T ih G a b op pos
          | cons _ _ => exact PT.void (tD.stuck fun _ _ => rfl)
      | cons op' ops =>
        cases ops with
        | nil =>
          cases bs with
          | nil => exact PT.void (tD.stuck fun _ _ => rfl)
          | cons b bs =>
            cases bs with
            | nil => exact PT.void (tD.stuck fun _ _ => rfl)
            | cons c bs =>
              cases bs with
              | nil => exact s_cmp2T ih G a b c op op' pos
              | cons _ _ => exact PT.void (tD.stuck fun _ _ => rfl)
        | cons _ _ => exact PT.void (tD.stuck fun _ _ => by cases bs with
            | nil => rfl
            | cons b bs => cases bs <;> rfl)
  | _ => exact t_val ih G _ fun _ => rfl
theorem s_If (ih : Snd T n) (G : Good T W X C k) (es : List Expr) : PTs X es (tD (gX X T) W rpT (evIfs (n + 1) C es)) := by
  cases es with
  | nil => exact pts_nil.monoT fun σ H Q ⟨w, st, hσ, E, h⟩ => h.now E (rp := rpT w) rfl
  | cons c r =>
    cases r with
    | nil => exact pts_one (ih.Te G c)
    | cons _ _ => exact PTs.void (tD.stuck fun _ _ => rfl)
theorem s_B (ih : Snd T n) (G : Good T W X C k) (e : Expr) : PE X e (tD (gX X T) W (rpB (gX X T)) (evB (n + 1) C e)) := by
  cases e with
  | Name x pos => exact snd_nameB G
  | _ => exact (ih.E G _).mono fun σ H Q h => h.weak fun _ _ _ _ r => .inl r
theorem s_W (ih : Snd T n) (G : Good T W X C k) (br : Bool) (e : Expr) : PE X e (tD (gX X T) W (rpW (gX X T) br) (evW (n + 1) C br e)) := by
  cases br with
  | true => exact (ih.B G e).mono fun σ H Q h => h.weak fun w _ _ _ r => by simpa [rpW] using r
  | false => exact (ih.E G e).mono fun σ H Q h => h.weak fun w _ _ _ r => by simpa [rpW] using r
/-! ### what is walked -/
theorem pi_seq {tg e : Expr} {tl : TE} (hl : PE X e tl) : PI X tg e (fun σ H R => tl σ H fun x H1 => ∃ a, x = .ref a ∧ ((∃ xs, SqL X.K H1 a xs ∧ R (Itl X.K a) H1) ∨ ∃ xs, SqT X.K H1 a xs ∧ R (Itt X.K a) H1)) := by
  constructor
  intro pins s σ H R I h
  refine thn (hl.run pins s σ H _ I h) ?_
  rintro v s1 ⟨x, H1, I1, r1, a, rfl, q⟩
  cases r1
  have fp : ∀ b ∈ [s1.heap.objs.size], FpOk X pins H1 b := fun b hb => by
    obtain rfl : b = s1.heap.objs.size := by simpa using hb
    exact I1.fpOk (Nat.le_refl _) I1.fresh
  rcases q with ⟨xs, hq, q⟩ | ⟨xs, hq, q⟩
  · obtain ⟨its, rv, p, _⟩ := I1.list hq
    exact wpAny_pyIter_list p.isList ⟨_, _, _, _, H1, rfl, I1.kept (t' := s1.toks) (fun b o z => Heap.get?_push_of_some _ z), turn_list a _, ⟨_, Heap.get?_push_size _ rfl, rfl, rfl⟩, fp, q⟩
  · obtain ⟨its, rv, p, _⟩ := I1.tuple hq
    exact wpAny_pyIter_tuple (show s1.heap.IsTuple a its.toArray from p) ⟨_, _, _, _, H1, rfl, I1.kept (t' := s1.toks) (fun b o z => Heap.get?_push_of_some _ z), turn_tuple a _, ⟨_, Heap.get?_push_size _ rfl, rfl, rfl⟩, fp, q⟩
/-- the items of a list that stays -/
theorem it_list {g : Gd} {br : Bool} {w : Wd} {H1 : Hp} {a : Addr} {vs : List V} {ds : List D} (h : Rd (hide (hd br w) H1) a (.lst vs)) (hs : RpAll g.K (hide w.Hid H1) vs ds) : rpI g (hd br) w H1 (Itl g.K a) ds := by
  intro H k i
  have hq : SqL g.K H a vs := .inl (k.rd h)
  have hl := RpAll.len hs
  refine ⟨fun hi => ?_, fun hi => ⟨vs, hq, by omega⟩⟩
  have e : ds[i]? = some ds[i] := List.getElem?_eq_getElem hi
  obtain ⟨v, h1, h2⟩ := RpAll.at_ hs e
  refine ⟨⟨vs, v, hq, h1⟩, fun x H' ⟨e1, e2⟩ => ?_⟩
  subst e1
  have e3 := e2 vs hq
  rw [h1] at e3
  cases e3
  exact ⟨fun _ _ z => z, _, e, fun Hid' _ k' => k'.dp _ _ h2⟩
theorem it_tuple {g : Gd} {br : Bool} {w : Wd} {H1 : Hp} {a : Addr} {vs : List V} {ds : List D} (h : SqT g.K (hide (hd br w) H1) a vs) (hs : RpAll g.K (hide w.Hid H1) vs ds) : rpI g (hd br) w H1 (Itt g.K a) ds := by
  intro H k i
  have hq : SqT g.K H a vs := k.sqT h
  have hl := RpAll.len hs
  refine ⟨fun hi => ?_, fun hi => ⟨vs, hq, by omega⟩⟩
  have e : ds[i]? = some ds[i] := List.getElem?_eq_getElem hi
  obtain ⟨v, h1, h2⟩ := RpAll.at_ hs e
  refine ⟨⟨vs, v, hq, h1⟩, fun x H' ⟨e1, e2⟩ => ?_⟩
  subst e1
  have e3 := e2 vs hq
  rw [h1] at e3
  cases e3
  exact ⟨fun _ _ z => z, _, e, fun Hid' _ k' => k'.dp _ _ h2⟩
/-- a list, a tuple as it is walked -/
theorem hd_kp {g : Gd} {w : Wd} {H : Hp} {st : Stt} (E : ERep g w H st) (br : Bool) : Kp (hide w.Hid H) (hide (hd br w) H) := fun b o h n => by
  obtain ⟨h1, h2⟩ := hide_in h
  refine in_hide h1 fun z => h2 ?_
  unfold hd at z
  split at z
  · exact E.stt.hid b z
  · exact z
theorem rpW_seq {g : Gd} {br : Bool} {w : Wd} {H : Hp} {st : Stt} {v : V} {d : D} {xs : List D} (E : ERep g w H st) (r : rpW g br w H v d) (hx : seqOf d = some xs) : ∃ a vs, v = .ref a ∧ RpAll g.K (hide w.Hid H) vs xs ∧ ((d = .list xs ∧ Rd (hide (hd br w) H) a (.lst vs)) ∨ (d = .tuple xs ∧ SqT g.K (hide (hd br w) H) a vs)) := by
  have full : rpD g w H v d → ∃ a vs, v = .ref a ∧ RpAll g.K (hide w.Hid H) vs xs ∧ ((d = .list xs ∧ Rd (hide (hd br w) H) a (.lst vs)) ∨ (d = .tuple xs ∧ SqT g.K (hide (hd br w) H) a vs)) := fun r => by
    cases r with
    | lst hs ha => cases hx; exact ⟨_, _, rfl, ha, .inl ⟨rfl, (hd_kp E br).rd hs⟩⟩
    | tup hs ha => cases hx; exact ⟨_, _, rfl, ha, .inr ⟨rfl, (hd_kp E br).sqT hs⟩⟩
    | _ => cases hx
  unfold rpW at r
  split at r
  · rename_i hb
    rcases r with r | ⟨a, vs, ds, h1, h2, h3, h4, h5⟩
    · exact full r
    · subst h1 h2
      cases hx
      refine ⟨a, vs, rfl, h5, .inl ⟨rfl, .inl (in_hide h4 fun z => ?_)⟩⟩
      unfold hd at z
      rw [if_pos hb] at z
      exact h3 z
  · exact full r
theorem i_seq (ih : Snd T n) (G : Good T W X C k) (br : Bool) (tg e : Expr) : PI X tg e (tD (gX X T) W (rpI (gX X T) (hd br)) fun ρ => bnd (evW n C br e ρ) fun d => optM (seqOf d)) := by
  refine (pi_seq (ih.Wk G br e)).monoI fun σ H Q ⟨w, st, hσ, E, h⟩ => ?_
  subst hσ
  refine ⟨w, st, rfl, E, Post.bind (rq := rpI _ _ w) h fun d st1 v H1 e1 E1 r1 h1 => ?_⟩
  obtain ⟨xs, hx, h1⟩ := Post.opt h1
  obtain ⟨a, vs, rfl, hs, z | z⟩ := rpW_seq E1 r1 hx
  · exact ⟨a, rfl, .inl ⟨vs, .inl (kp_hide.rd z.2), h1.now E1 (rp := rpI _ _ w) (it_list z.2 hs)⟩⟩
  · exact ⟨a, rfl, .inr ⟨vs, kp_hide.sqT z.2, h1.now E1 (rp := rpI _ _ w) (it_tuple z.2 hs)⟩⟩
theorem it_range {g : Gd} {br : Bool} {w : Wd} {H1 : Hp} (i j : Int) : rpI g (hd br) w H1 (Itr i (j - i).toNat) (rangeD i j) := by
  intro H k m
  have hl : (rangeD i j).length = (j - i).toNat := by simp [rangeD]
  refine ⟨fun hi => ⟨by rw [hl] at hi; exact hi, fun x H' ⟨e1, e2⟩ => ?_⟩, fun hi => by rw [hl] at hi; exact hi⟩
  subst e1 e2
  refine ⟨fun _ _ z => z, .int (i + (m : Nat)), ?_, fun Hid' _ _ => Rp.int _⟩
  rw [hl] at hi
  simp [rangeD, hi]
theorem bi_none (G : Good T W X C k) {f : Str} (h : bi C f = true) (hb : f ∈ biNames) : Gl X f ∧ X.mg f = none := by
  unfold bi at h
  simp only [Bool.and_eq_true, Option.isNone_iff_eq_none] at h
  exact ⟨(G.gl h.1.1).1, G.bi f h.1.2 h.2 hb⟩
theorem i_range1 (ih : Snd T n) (G : Good T W X C k) (br : Bool) (tg a : Expr) (p pos : Pos) (hb : bi C "range" = true) : PI X tg (.Call (.Name "range" p) [a] [] pos) (tD (gX X T) W (rpI (gX X T) (hd br)) fun ρ => guardM (!isStar a) (bnd (evE n C a ρ) fun x => bnd (intM x) fun j => guardM (rgOk 0 j) (ret (rangeD 0 j)))) := by
  by_cases hs : isStar a = true
  · refine PI.void (tD.stuck fun ρ st => ?_)
    rw [hs]
    rfl
  have hs' : isStar a = false := by simpa using hs
  obtain ⟨g1, g2⟩ := bi_none G hb (by decide)
  refine (pi_range1 g1 g2 (pa_cons (ih.E G a) pa_nil (star_no hs')) (star_no hs')).monoI fun σ H Q h => ?_
  obtain ⟨w, st, hσ, E, h'⟩ := (tD.grd h).2
  subst hσ
  refine ⟨w, st, rfl, E, Post.bind (rq := rpI _ _ w) h' fun d st1 v H1 e1 E1 r1 h1 => ?_⟩
  cases d with
  | int j =>
    obtain ⟨hg, h1⟩ := Post.grd h1
    have hg' := of_decide_eq_true hg
    have z := h1.now E1 (rp := rpI _ _ w) (it_range (br := br) 0 j)
    rw [Int.sub_zero] at z
    exact ⟨j, by rw [rpD.int r1], hg'.2.2.1, hg'.2.2.2, z⟩
  | _ => exact h1.elim
theorem i_range2 (ih : Snd T n) (G : Good T W X C k) (br : Bool) (tg a b : Expr) (p pos : Pos) (hb : bi C "range" = true) : PI X tg (.Call (.Name "range" p) [a, b] [] pos) (tD (gX X T) W (rpI (gX X T) (hd br)) fun ρ => guardM (!isStar a && !isStar b) (bnd (evE n C a ρ) fun x => bnd (evE n C b ρ) fun y => bnd (intM x) fun i => bnd (intM y) fun j => guardM (rgOk i j) (ret (rangeD i j)))) := by
  by_cases hs : (!isStar a && !isStar b) = true
  · obtain ⟨s1, s2⟩ := Bool.and_eq_true_iff.mp hs
    have s1' : isStar a = false := by simpa using s1
    have s2' : isStar b = false := by simpa using s2
    obtain ⟨g1, g2⟩ := bi_none G hb (by decide)
    refine (pi_range2 g1 g2 (pa_cons (ih.E G a) (pa_cons (ih.E G b) pa_nil (star_no s2')) (star_no s1')) (by rw [star_no s1', star_no s2']; rfl) (by rw [star_no s2']; rfl)).monoI fun σ H Q h => ?_
    obtain ⟨w, st, hσ, E, h'⟩ := (tD.grd h).2
    subst hσ
    refine ⟨w, st, rfl, E, Post.bind (rq := rpI _ _ w) h' fun d st1 v H1 e1 E1 r1 h1 => ⟨w, st1, rfl, E1, Post.bind (rq := rpI _ _ w) h1 fun d' st2 u H2 e2 E2 r2 h2 => ?_⟩⟩
    cases d with
    | int i =>
      cases d' with
      | int j =>
        obtain ⟨hg, h2⟩ := Post.grd h2
        have hg' := of_decide_eq_true hg
        exact ⟨i, j, by rw [rpD.int r1, rpD.int r2], hg', h2.now E2 (rp := rpI _ _ w) (it_range (br := br) i j)⟩
      | _ => exact h2.elim
    | _ => exact h2.elim
  · refine PI.void (tD.stuck fun ρ st => ?_)
    unfold guardM
    rw [if_neg hs]
end
end DI
end
section
set_option linter.all false
set_option autoImplicit false
set_option maxRecDepth 100000
/-! D10: zip; what is walked, all; calls. -/
namespace DI
open PySem PySem.Spec L2
open PyProof.Rows hiding St
section
variable {T : List (Addr × Str)} {W : EW} {X : Cx} {C : Ctx} {k n : Nat}
theorem zipD_at {xs ys : List D} {i : Nat} (h : i < (zipD xs ys).length) : ∃ x y, xs[i]? = some x ∧ ys[i]? = some y ∧ (zipD xs ys)[i]? = some (.tuple [x, y]) := by
  have hl : (zipD xs ys).length = min xs.length ys.length := by simp [zipD]
  rw [hl] at h
  have h1 : i < xs.length := by omega
  have h2 : i < ys.length := by omega
  refine ⟨xs[i], ys[i], List.getElem?_eq_getElem h1, List.getElem?_eq_getElem h2, ?_⟩
  simp [zipD, List.getElem?_map, List.getElem?_zip_eq_some, h1, h2]
theorem pair_rp {g : Gd} {w : Wd} {H H1 : Hp} {Hid' : Addr → Prop} {t : Addr} {x y : V} {d e : D} (ht : H t = none) (hn : ∀ b, Hid' b → H b ≠ none) (k : Kp (hide w.Hid H1) (hide Hid' (upd H t (.tup [x, y])))) (h1 : Rp g.K (hide w.Hid H1) x d) (h2 : Rp g.K (hide w.Hid H1) y e) : Rp g.K (hide Hid' (upd H t (.tup [x, y]))) (.ref t) (.tuple [d, e]) := by
  have nh : ¬ Hid' t := fun z => hn t z ht
  exact .tup (SqT.of (in_hide upd_same nh)) (.cons (k.dp _ _ h1) (.cons (k.dp _ _ h2) .nil))
theorem it_zipL {g : Gd} {br : Bool} {w : Wd} {H1 : Hp} {a b : Addr} {vs us : List V} {xs ys : List D} (ha : Rd (hide (hd br w) H1) a (.lst vs)) (hb : Rd (hide (hd br w) H1) b (.lst us)) (h1 : RpAll g.K (hide w.Hid H1) vs xs) (h2 : RpAll g.K (hide w.Hid H1) us ys) : rpI g (hd br) w H1 (Itz g.K a b) (zipD xs ys) := by
  intro H k i
  have qa : SqL g.K H a vs := .inl (k.rd ha)
  have qb : SqL g.K H b us := .inl (k.rd hb)
  have l1 := RpAll.len h1
  have l2 := RpAll.len h2
  have hl : (zipD xs ys).length = min xs.length ys.length := by simp [zipD]
  refine ⟨fun hi => ?_, fun hi => ⟨vs, us, qa, qb, by omega⟩⟩
  obtain ⟨x, y, ex, ey, ez⟩ := zipD_at hi
  obtain ⟨v, v1, v2⟩ := RpAll.at_ h1 ex
  obtain ⟨u, u1, u2⟩ := RpAll.at_ h2 ey
  refine ⟨⟨vs, us, v, u, qa, qb, v1, u1⟩, fun z H' ⟨t, z1, z2, e1, e2, e3, e4, e5⟩ => ?_⟩
  subst e1 e3
  have q1 := e4 vs qa
  have q2 := e5 us qb
  rw [v1] at q1
  rw [u1] at q2
  cases q1
  cases q2
  exact ⟨upd_kp e2, _, ez, fun Hid' hn k' => pair_rp e2 hn k' v2 u2⟩
theorem it_zipT {g : Gd} {br : Bool} {w : Wd} {H1 : Hp} {a b : Addr} {vs us : List V} {xs ys : List D} (ha : SqT g.K (hide (hd br w) H1) a vs) (hb : SqT g.K (hide (hd br w) H1) b us) (h1 : RpAll g.K (hide w.Hid H1) vs xs) (h2 : RpAll g.K (hide w.Hid H1) us ys) : rpI g (hd br) w H1 (RZ.ItzT g.K a b) (zipD xs ys) := by
  intro H k i
  have qa : SqT g.K H a vs := k.sqT ha
  have qb : SqT g.K H b us := k.sqT hb
  have l1 := RpAll.len h1
  have l2 := RpAll.len h2
  have hl : (zipD xs ys).length = min xs.length ys.length := by simp [zipD]
  refine ⟨fun hi => ?_, fun hi => ⟨vs, us, qa, qb, by omega⟩⟩
  obtain ⟨x, y, ex, ey, ez⟩ := zipD_at hi
  obtain ⟨v, v1, v2⟩ := RpAll.at_ h1 ex
  obtain ⟨u, u1, u2⟩ := RpAll.at_ h2 ey
  refine ⟨⟨vs, us, v, u, qa, qb, v1, u1⟩, fun z H' ⟨t, z1, z2, e1, e2, e3, e4, e5⟩ => ?_⟩
  subst e1 e3
  have q1 := e4 vs qa
  have q2 := e5 us qb
  rw [v1] at q1
  rw [u1] at q2
  cases q1
  cases q2
  exact ⟨upd_kp e2, _, ez, fun Hid' hn k' => pair_rp e2 hn k' v2 u2⟩
theorem rpW.evo {g : Gd} {br : Bool} {w : Wd} {H H' : Hp} {st : Stt} {v : V} {d : D} (r : rpW g br w H v d) (E : ERep g w H st) (e : Evo w.p H H') : rpW g br w H' v d := by
  unfold rpW at r ⊢
  split at r
  · rename_i h
    rw [if_pos h]
    exact rpB.evo r E e
  · rename_i h
    rw [if_neg h]
    exact rpD.evo r E e
theorem i_zip (ih : Snd T n) (G : Good T W X C k) (br : Bool) (tg a b : Expr) (p pos : Pos) (hb : bi C "zip" = true) : PI X tg (.Call (.Name "zip" p) [a, b] [] pos) (tD (gX X T) W (rpI (gX X T) (hd br)) fun ρ => guardM (isTup tg && !isStar a && !isStar b) (bnd (evW n C br a ρ) fun x => bnd (evW n C br b ρ) fun y => (match x, y with
          | .list xs, .list ys => ret (zipD xs ys)
          | .tuple xs, .tuple ys => ret (zipD xs ys)
          | _, _ => stuckM))) := by
  by_cases hs : (isTup tg && !isStar a && !isStar b) = true
  · simp only [Bool.and_eq_true, Bool.not_eq_true'] at hs
    obtain ⟨⟨s0, s1⟩, s2⟩ := hs
    obtain ⟨es, kk, tpos, rfl⟩ : ∃ es kk tpos, tg = .Tuple es kk tpos := by
      cases tg <;> first | exact ⟨_, _, _, rfl⟩ | cases s0
    obtain ⟨g1, g2⟩ := bi_none G hb (by decide)
    refine (RZ.pi_zipA g1 g2 (pa_cons (ih.Wk G br a) (pa_cons (ih.Wk G br b) pa_nil (star_no s2)) (star_no s1)) (by rw [star_no s1]) (by rw [star_no s2]; rfl)).monoI fun σ H Q h => ?_
    obtain ⟨w, st, hσ, E, h'⟩ := (tD.grd h).2
    subst hσ
    refine ⟨w, st, rfl, E, Post.bind (rq := rpI _ _ w) h' fun d st1 v H1 e1 E1 r1 h1 => ⟨w, st1, rfl, E1, Post.bind (rq := rpI _ _ w) h1 fun d' st2 u H2 e2 E2 r2 h2 => ?_⟩⟩
    have r1' := rpW.evo r1 E1 e2
    cases d with
    | list xs =>
      cases d' with
      | list ys =>
        obtain ⟨a1, vs, rfl, hs1, z1 | z1⟩ := rpW_seq (xs := xs) E2 r1' rfl
        · obtain ⟨a2, us, rfl, hs2, z2 | z2⟩ := rpW_seq (xs := ys) E2 r2 rfl
          · exact ⟨a1, a2, vs, us, rfl, .inl ⟨.inl (kp_hide.rd z1.2), .inl (kp_hide.rd z2.2), h2.now E2 (rp := rpI _ _ w) (it_zipL z1.2 z2.2 hs1 hs2)⟩⟩
          · cases z2.1
        · cases z1.1
      | _ => exact h2.elim
    | tuple xs =>
      cases d' with
      | tuple ys =>
        obtain ⟨a1, vs, rfl, hs1, z1 | z1⟩ := rpW_seq (xs := xs) E2 r1' rfl
        · cases z1.1
        · obtain ⟨a2, us, rfl, hs2, z2 | z2⟩ := rpW_seq (xs := ys) E2 r2 rfl
          · cases z2.1
          · exact ⟨a1, a2, vs, us, rfl, .inr ⟨kp_hide.sqT z1.2, kp_hide.sqT z2.2, h2.now E2 (rp := rpI _ _ w) (it_zipT z1.2 z2.2 hs1 hs2)⟩⟩
      | _ => exact h2.elim
    | _ => cases d' <;> exact h2.elim
  · refine PI.void (tD.stuck fun ρ st => ?_)
    unfold guardM
    rw [if_neg hs]
theorem s_I (ih : Snd T n) (G : Good T W X C k) (br : Bool) (tg e : Expr) : PI X tg e (tD (gX X T) W (rpI (gX X T) (hd br)) (evI (n + 1) C br (isTup tg) e)) := by
  cases e with
  | Call func args kws pos =>
    cases func with
    | Name f p =>
      cases kws with
      | nil =>
        cases args with
        | nil => exact i_seq ih G br tg _
        | cons a args =>
          cases args with
          | nil =>
            by_cases hb : bi C f = true ∧ f = "range"
            · obtain ⟨hb1, rfl⟩ := hb
              refine (i_range1 ih G br tg a p pos hb1).monoI fun σ H Q h => ?_
              have e : evI (n + 1) C br (isTup tg) (.Call (.Name "range" p) [a] [] pos) = fun ρ => guardM (!isStar a) (bnd (evE n C a ρ) fun x => bnd (intM x) fun j => guardM (rgOk 0 j) (ret (rangeD 0 j))) := by
                funext ρ
                show (if _ then _ else _) = _
                rw [if_pos ⟨hb1, rfl⟩]
              rw [e] at h
              exact h
            · refine (i_seq ih G br tg _).monoI fun σ H Q h => ?_
              have e : evI (n + 1) C br (isTup tg) (.Call (.Name f p) [a] [] pos) = fun ρ => bnd (evW n C br (.Call (.Name f p) [a] [] pos) ρ) fun d => optM (seqOf d) := by
                funext ρ
                show (if _ then _ else _) = _
                rw [if_neg hb]
              rw [e] at h
              exact h
          | cons b args =>
            cases args with
            | nil =>
              by_cases hb : bi C f = true ∧ f = "range"
              · obtain ⟨hb1, rfl⟩ := hb
                refine (i_range2 ih G br tg a b p pos hb1).monoI fun σ H Q h => ?_
                have e : evI (n + 1) C br (isTup tg) (.Call (.Name "range" p) [a, b] [] pos) = fun ρ => guardM (!isStar a && !isStar b) (bnd (evE n C a ρ) fun x => bnd (evE n C b ρ) fun y => bnd (intM x) fun i => bnd (intM y) fun j => guardM (rgOk i j) (ret (rangeD i j))) := by
                  funext ρ
                  show (if _ then _ else _) = _
                  rw [if_pos ⟨hb1, rfl⟩]
                rw [e] at h
                exact h
              · by_cases hz : bi C f = true ∧ f = "zip"
                · have hz1 := hz.1
                  have hz2 := hz.2
                  subst hz2
                  refine (i_zip ih G br tg a b p pos hz1).monoI fun σ H Q h => ?_
                  have e : evI (n + 1) C br (isTup tg) (.Call (.Name "zip" p) [a, b] [] pos) = fun ρ => guardM (isTup tg && !isStar a && !isStar b) (bnd (evW n C br a ρ) fun x => bnd (evW n C br b ρ) fun y => (match x, y with
          | .list xs, .list ys => ret (zipD xs ys)
          | .tuple xs, .tuple ys => ret (zipD xs ys)
          | _, _ => stuckM)) := by
                    funext ρ
                    show (if _ then _ else if _ then _ else _) = _
                    rw [if_neg hb, if_pos ⟨hz1, rfl⟩]
                    all_goals rfl
                  rw [e] at h
                  exact h
                · refine (i_seq ih G br tg _).monoI fun σ H Q h => ?_
                  have e : evI (n + 1) C br (isTup tg) (.Call (.Name f p) [a, b] [] pos) = fun ρ => bnd (evW n C br (.Call (.Name f p) [a, b] [] pos) ρ) fun d => optM (seqOf d) := by
                    funext ρ
                    show (if _ then _ else if _ then _ else _) = _
                    rw [if_neg hb, if_neg hz]
                  rw [e] at h
                  exact h
            | cons _ _ => exact i_seq ih G br tg _
      | cons _ _ => cases args with
        | nil => exact i_seq ih G br tg _
        | cons a args => cases args with
          | nil => exact i_seq ih G br tg _
          | cons _ args => cases args <;> exact i_seq ih G br tg _
    | _ => exact i_seq ih G br tg _
  | _ => exact i_seq ih G br tg _
end
end DI
end
section
set_option linter.all false
set_option autoImplicit false
set_option maxRecDepth 100000
/-! D11: calls of defs, of isinstance, of built-in functions. -/
namespace DI
open PySem PySem.Spec L2
open PyProof.Rows hiding St
section
variable {T : List (Addr × Str)} {W : EW} {X : Cx} {C : Ctx} {k n : Nat}
theorem StRep.evoN {K : PySem.W.Frag} {Hid : Addr → Prop} {p : Option Addr} {H H' : Hp} {st : Stt} (s : StRep K Hid p H st) (e : Evo none H H') : StRep K Hid p H' st := by
  cases p with
  | none => exact s
  | some a =>
    obtain ⟨h1, h2, vs, h3, h4⟩ := s
    exact ⟨h1, h2, vs, e.kp a _ (by simp) h3 (by intro ps z; cases z), Kp.dps (fun b o q n => by obtain ⟨q1, q2⟩ := hide_in q; exact in_hide (e.kp b o (by simp) q1 n) q2) st vs h4⟩
/-- what a def without the state asks, from what is wanted behind it -/
theorem call_P {w : Wd} {H : Hp} {st : Stt} {vs : List V} {ds : List D} {Q : VK} {fi : FnI} (hst : fi.st = false) (E : ERep (gX X T) w H st) (r : rpDs (gX X T) w H vs ds) (h : Post (gX X T) W w (rpD (gX X T) w) H (guardM (decide (ds.length = fi.arity)) (purely (fi.sem ds)) st) Q) :
    spF X.K T fi vs H Q (fun cls d H => wx X W cls d [] H) := by
  obtain ⟨hb, h⟩ := Post.grd h
  have hl := of_decide_eq_true hb
  unfold spF
  rw [if_neg (by rw [hst]; simp)]
  refine ⟨by rw [RpAll.len r]; exact hl, w.Hid, ds, E.dom, E.tabs, r, ?_⟩
  unfold purely at h
  cases hr : fi.sem ds [] with
  | ok d st' =>
    rw [hr] at h
    exact fun v H' e t rv => h v H' e.none_any (E.evo e.none_any (E.stt.evoN e) t) rv
  | err x st' =>
    rw [hr] at h
    exact fun H' e t => ⟨x, rfl, rfl, h H' e.none_any (E.evo e.none_any (E.stt.evoN e) t)⟩
  | stuck =>
    rw [hr] at h
    exact h.elim
/-- .. with the state -/
theorem call_S {w : Wd} {H : Hp} {st : Stt} {p : Addr} {vs : List V} {ds : List D} {Q : VK} {fi : FnI} (hst : fi.st = true) (hp : w.p = some p) (E : ERep (gX X T) w H st) (r : rpDs (gX X T) w H vs ds) (h : Post (gX X T) W w (rpD (gX X T) w) H (guardM (decide (ds.length = fi.arity)) (fi.sem ds) st) Q) :
    spF X.K T fi (.ref p :: vs) H Q (fun cls d H => wx X W cls d [] H) := by
  obtain ⟨hb, h⟩ := Post.grd h
  have hl := of_decide_eq_true hb
  unfold spF
  rw [if_pos hst]
  have s := E.stt
  rw [hp] at s
  refine ⟨by rw [List.length_cons, RpAll.len r, hl], w.Hid, p, vs, ds, st, rfl, E.dom, E.tabs, s, r, ?_⟩
  cases hr : fi.sem ds st with
  | ok d st' =>
    rw [hr] at h
    exact fun v H' e t s' rv => h v H' (by rw [hp]; exact e) (E.evo (by rw [hp]; exact e) (by rw [hp]; exact s') t) rv
  | err x st' =>
    rw [hr] at h
    exact fun H' e t s' => ⟨x, rfl, rfl, h H' (by rw [hp]; exact e) (E.evo (by rw [hp]; exact e) (by rw [hp]; exact s') t)⟩
  | stuck =>
    rw [hr] at h
    exact h.elim
theorem evEs_nil {m : Nat} {ρ : DI.Env} {st : Stt} {ds : List D} {st' : Stt} (h : evEs m C [] ρ st = .ok ds st') : ds = [] ∧ st' = st := by
  cases m with
  | zero => cases h
  | succ m => cases h; exact ⟨rfl, rfl⟩
theorem evEs_nil_err {m : Nat} {ρ : DI.Env} {st : Stt} {e : Exn} {st' : Stt} : evEs m C [] ρ st ≠ .err e st' := fun h => by
  cases m <;> cases h
theorem grd2 {f : Str} {args : List Expr} (h : (gl C f && !args.any isStar) = true) : gl C f = true ∧ args.any isStar = false := by
  obtain ⟨h1, h2⟩ := Bool.and_eq_true_iff.mp h
  exact ⟨h1, by simpa using h2⟩
theorem c_fnP (ih : Snd T n) (G : Good T W X C k) {f : Str} {fi : FnI} (hf : C.fn f = some fi) (hst : fi.st = false) (p : Pos) (args : List Expr) (pos : Pos) (hg : gl C f = true) (hs : args.any isStar = false) :
    PE X (.Call (.Name f p) args [] pos) (tD (gX X T) W (rpD (gX X T)) fun ρ => (bnd (evEs n C args ρ) fun ds => guardM (decide (ds.length = fi.arity)) (purely (fi.sem ds)))) := by
  obtain ⟨g1, g2⟩ := G.gl hg
  obtain ⟨b1, b2, b3⟩ := bad_no g2
  obtain ⟨a, fd, ps, F, hm, hk, hb⟩ := G.fn f fi hf
  have hx : Passes (L2N.CX X.prog X.w) X (fun cls d H => wx X W cls d [] H) := L2N.passes_call G.tk fun cls d σ H h => h
  have fin : ∀ {σ : L2.St} {H : Hp} {Q : VK}, tD (gX X T) W (rpD (gX X T)) (fun ρ => (bnd (evEs n C args ρ) fun ds => guardM (decide (ds.length = fi.arity)) (purely (fi.sem ds)))) σ H Q →
      tD (gX X T) W (rpDs (gX X T)) (evEs n C args) σ H fun vs H1 => spF X.K T fi (vs ++ []) H1 Q (fun cls d H => wx X W cls d [] H) := fun {σ H Q} ⟨w, st, hσ, E, h⟩ => by
    subst hσ
    refine ⟨w, st, rfl, E, Post.bind (rq := rpD _ w) h fun ds st1 vs H1 e1 E1 r1 h1 => ?_⟩
    rw [List.append_nil]
    exact call_P hst E1 r1 h1
  cases args with
  | nil =>
    refine (pe_call0G G.gd F G.room0 g1 hm hk hb .nil hx b1).mono fun σ H Q h => ?_
    obtain ⟨w, st, hσ, E, h1⟩ := fin h
    cases hr : evEs n C [] w.ρ st with
    | ok ds st' =>
      rw [hr] at h1
      obtain ⟨rfl, rfl⟩ := evEs_nil hr
      exact h1.now E (rp := rpDs _ w) RpAll.nil
    | err e st' => exact absurd hr evEs_nil_err
    | stuck => rw [hr] at h1; exact h1.elim
  | cons e es =>
    have hs2 : isStar e = false ∧ es.any isStar = false := by simpa using hs
    exact (pe_callG G.gd F G.room0 g1 hm hk hb .nil hx (ih.Es G (e :: es)) b1 (star_no hs2.1) (stars_no hs2.2)).mono fun σ H Q h => fin h
theorem c_fnS (ih : Snd T n) (G : Good T W X C k) {f : Str} {fi : FnI} (hf : C.fn f = some fi) (hst : fi.st = true) (p q : Pos) (s : Str) (args : List Expr) (pos : Pos) (hg : gl C f = true) (hs : args.any isStar = false) :
    PE X (.Call (.Name f p) (.Name s q :: args) [] pos) (tD (gX X T) W (rpD (gX X T)) fun ρ => guardM (isStt (slotOf C ρ s)) (bnd (evEs n C args ρ) fun ds => guardM (decide (ds.length = fi.arity)) (fi.sem ds))) := by
  obtain ⟨g1, g2⟩ := G.gl hg
  obtain ⟨b1, b2, b3⟩ := bad_no g2
  obtain ⟨a, fd, ps, F, hm, hk, hb⟩ := G.fn f fi hf
  have hx : Passes (L2N.CX X.prog X.w) X (fun cls d H => wx X W cls d [] H) := L2N.passes_call G.tk fun cls d σ H h => h
  refine (pe_callG G.gd F G.room0 g1 hm hk hb .nil hx (pa_cons (pe_stt (T := T) G (.Name s q)) (ih.Es G args) (star_no rfl)) b1 (star_no rfl) (stars_no hs)).mono fun σ H Q ⟨w, st, hσ, E, h⟩ => ?_
  subst hσ
  obtain ⟨hb1, h⟩ := Post.grd h
  refine ⟨w, st, rfl, E, hb1, fun p hp => ⟨w, st, rfl, E, Post.bind (rq := rpD _ w) h fun ds st1 vs H1 e1 E1 r1 h1 => ?_⟩⟩
  show spF X.K T fi ((.ref p :: vs) ++ []) H1 Q _
  rw [List.append_nil]
  exact call_S hst hp E1 r1 h1
/-! ### isinstance -/
theorem ty_rp {g : Gd} {w : Wd} {H : Hp} {v : V} {d : D} {t : String} (r : rpB g w H v d) (h : tyName d = some t) : TyX g.K H v (.type t) := by
  cases d with
  | none => have e := r.none'; subst e; cases h; exact .base .non
  | bool b => have e := r.bool; subst e; cases h; exact .base (.bl b)
  | int b => have e := r.int; subst e; cases h; exact .base (.int b)
  | str b => have e := r.str; subst e; cases h; exact .base (.str b)
  | list xs =>
    obtain ⟨a, vs, rfl, ha, hs⟩ := r.list
    cases h
    rcases ha with ha | ⟨o, ha⟩
    · exact .base (.lst ha)
    · exact .base (.frz ha)
  | tuple xs =>
    obtain ⟨a, vs, rfl, ha, hs, _⟩ := r.tuple
    cases h
    rcases ha with (ha | ⟨o, ha⟩) | ⟨o, its, m, h1, h2, _⟩
    · exact .base (.tup ha)
    · exact .fTuple ha
    · exact .kTuple h1 h2
  | dict _ => cases h
theorem c_isi (ih : Snd T n) (G : Good T W X C k) (p q : Pos) (e : Expr) (Ty : Str) (pos : Pos) (hf : C.fn "isinstance" = none) (hc : C.con "isinstance" = none) (hg : gl C "isinstance" = true) :
    PE X (.Call (.Name "isinstance" p) [e, .Name Ty q] [] pos) (tD (gX X T) W (rpD (gX X T)) fun ρ => guardM (bi C Ty && !isStar e && tyOk Ty) (bnd (evB n C e ρ) fun d => bnd (optM (isT Ty d)) fun b => ret (.bool b))) := by
  by_cases hs : (bi C Ty && !isStar e && tyOk Ty) = true
  · obtain ⟨h12, h3⟩ := Bool.and_eq_true_iff.mp hs
    obtain ⟨h1, h2⟩ := Bool.and_eq_true_iff.mp h12
    have hs1 : isStar e = false := by simpa using h2
    have go : ∀ (t : String), Ty = Str.ofString t → Ty ∈ biNames → bootBuiltins Ty = some (.type t) → (∀ d b, isT Ty d = some b → ∃ u, tyName d = some u ∧ kitB u t = some b) →
        PE X (.Call (.Name "isinstance" p) [e, .Name Ty q] [] pos) (tD (gX X T) W (rpD (gX X T)) fun ρ => guardM (bi C Ty && !isStar e && tyOk Ty) (bnd (evB n C e ρ) fun d => bnd (optM (isT Ty d)) fun b => ret (.bool b))) := fun t e1 e2 e3 e4 => by
      obtain ⟨g1, g2⟩ := bi_none G h1 e2
      have hb := h1
      unfold bi at hb
      simp only [Bool.and_eq_true, Option.isNone_iff_eq_none] at hb
      obtain ⟨b1, b2, b3⟩ := bad_no (G.gl hb.1.1).2
      refine (pe_callB call_isi (G.gl hg).1 (G.bi _ hf hc (by decide)) (by decide +kernel) (pa_cons (ih.B G e) (pa_cons (pe_bltn (v := .ty t) g1 g2 e3 rfl b3 b1) pa_nil (star_no rfl)) (star_no hs1)) (by decide) (by decide) (star_no hs1) (by rw [star_no (env := X.env) (es := []) (e := .Name Ty q) rfl]; rfl)).mono fun σ H Q h => ?_
      obtain ⟨w, st, hσ, E, h'⟩ := (tD.grd h).2
      subst hσ
      refine ⟨w, st, rfl, E, Post.bind (rq := rpD _ w) h' fun d st1 v H1 e1 E1 r1 h1 => ?_⟩
      cases hd : isT Ty d with
      | none => rw [hd] at h1; exact h1.elim
      | some b =>
        rw [hd] at h1
        obtain ⟨u, hu, hk⟩ := e4 d b hd
        exact ⟨v, .ty t, .type u, .type t, b, rfl, .ty t, ty_rp r1 hu, kit_ty hk, h1.now E1 (rp := rpD _ w) (Rp.bl b)⟩
    have ex : ∀ (t : String) (d : D) (b : Bool), ((tyName d).bind fun u => kitB u t) = some b → ∃ u, tyName d = some u ∧ kitB u t = some b := fun t d b h => by
      simpa [Option.bind_eq_some_iff] using h
    by_cases t1 : Ty = "int"
    · exact go "int" t1 (by rw [t1]; decide) (by rw [t1]; decide +kernel) fun d b h => ex _ d b (by unfold isT at h; rw [if_pos t1] at h; exact h)
    by_cases t2 : Ty = "str"
    · exact go "str" t2 (by rw [t2]; decide) (by rw [t2]; decide +kernel) fun d b h => ex _ d b (by unfold isT at h; rw [if_neg t1, if_pos t2] at h; exact h)
    by_cases t3 : Ty = "tuple"
    · exact go "tuple" t3 (by rw [t3]; decide) (by rw [t3]; decide +kernel) fun d b h => ex _ d b (by unfold isT at h; rw [if_neg t1, if_neg t2, if_pos t3] at h; exact h)
    by_cases t4 : Ty = "list"
    · exact go "list" t4 (by rw [t4]; decide) (by rw [t4]; decide +kernel) fun d b h => ex _ d b (by unfold isT at h; rw [if_neg t1, if_neg t2, if_neg t3, if_pos t4] at h; exact h)
    unfold tyOk at h3
    simp [t1, t2, t3, t4] at h3
  · refine PE.void (tD.stuck fun ρ st => ?_)
    unfold guardM
    rw [if_neg hs]
/-! ### built-in functions by name -/
theorem biOf_ok (hc : X.calm = true) {f : Str} {b : BI} (h : biOf f = some b) (hr : b ≠ .repr) : f ∈ biNames ∧ BiOk X T W f b := by
  unfold biOf at h
  have key : ∀ {l : List (Str × BI)}, l.lookup f = some b → (f, b) ∈ l := fun {l} h => PySem.mem_of_lookup h
  have hm := key h
  simp only [List.mem_cons, Prod.mk.injEq, List.not_mem_nil, or_false] at hm
  rcases hm with ⟨rfl, rfl⟩ | ⟨rfl, rfl⟩ | ⟨rfl, rfl⟩ | ⟨rfl, rfl⟩ | ⟨rfl, rfl⟩ | ⟨rfl, rfl⟩ | ⟨rfl, rfl⟩ | ⟨rfl, rfl⟩ | ⟨rfl, rfl⟩ | ⟨rfl, rfl⟩ | ⟨rfl, rfl⟩
  · exact ⟨by decide, bi_len⟩
  · exact ⟨by decide, bi_abs⟩
  · exact ⟨by decide, bi_int⟩
  · exact ⟨by decide, bi_all hc⟩
  · exact ⟨by decide, bi_any hc⟩
  · exact ⟨by decide, bi_sum hc⟩
  · exact ⟨by decide, bi_max hc⟩
  · exact ⟨by decide, bi_min hc⟩
  · exact ⟨by decide, bi_tuple⟩
  · exact ⟨by decide, bi_list⟩
  · exact absurd rfl hr
end
end DI
end
section
set_option linter.all false
set_option autoImplicit false
set_option maxRecDepth 100000
/-! D12: targets; comprehensions. -/
namespace DI
open PySem PySem.Spec L2
open PyProof.Rows hiding St
/-! ### targets -/
def TgOk (X : Cx) (sc : Scope) : Prop := ∀ x, locB sc x = true → Loc X.env.scope x ∧ (X.fn x = true ∨ X.env.scope.names.lookup x = some .local)
def Same (C : Ctx) (σ σ' : L2.St) : Prop := σ'.length = σ.length ∧ ∀ i, (∀ x, locB C.sc x = true → ixOf C.N x ≠ some i) → σ'[i]? = σ[i]?
theorem Same.rfl' {C : Ctx} {σ : L2.St} : Same C σ σ := ⟨rfl, fun _ _ => rfl⟩
theorem Same.tr {C : Ctx} {σ σ1 σ2 : L2.St} (a : Same C σ σ1) (b : Same C σ1 σ2) : Same C σ σ2 := ⟨b.1.trans a.1, fun i h => (b.2 i h).trans (a.2 i h)⟩
/-- no owned slot is new -/
def OwnK (ρ ρ' : DI.Env) (σ σ' : L2.St) : Prop := ∀ (i : Nat) (ds : List D), ρ'[i]? = some (some (.ow ds)) → ρ[i]? = some (some (.ow ds)) ∧ σ'[i]? = σ[i]?
theorem OwnK.rfl' {ρ : DI.Env} {σ : L2.St} : OwnK ρ ρ σ σ := fun _ _ h => ⟨h, rfl⟩
theorem OwnK.tr {ρ ρ1 ρ2 : DI.Env} {σ σ1 σ2 : L2.St} (a : OwnK ρ ρ1 σ σ1) (b : OwnK ρ1 ρ2 σ1 σ2) : OwnK ρ ρ2 σ σ2 := fun i ds h =>
  let z := b i ds h
  let y := a i ds z.1
  ⟨y.1, z.2.trans y.2⟩
section
variable {T : List (Addr × Str)} {W : EW} {X : Cx} {C : Ctx} {k n : Nat}
theorem OwnK.set {ρ : DI.Env} {σ : L2.St} (i : Nat) {v : V} {sv : SV} (h : ∀ ds, sv ≠ .ow ds) : OwnK ρ (ρ.set i (some sv)) σ (σ.set i (some v)) := fun j ds e => by
  by_cases hij : i = j
  · subst hij
    rw [List.getElem?_set] at e
    rw [if_pos rfl] at e
    split at e
    · cases e; exact absurd rfl (h ds)
    · cases e
  · rw [List.getElem?_set_ne hij] at e ⊢
    exact ⟨e, rfl⟩
theorem ERep.set {g : Gd} {w : Wd} {H : Hp} {st : Stt} (E : ERep g w H st) (i : Nat) {v : V} {sv : SV} (s : SRep g.K w.Hid w.p H v sv)
    (ho : ∀ a ds, sv = .ow ds → v = .ref a → ∀ (j : Nat) es, j ≠ i → w.ρ[j]? = some (some (.ow es)) → w.σ[j]? ≠ some (some (.ref a))) : ERep g { w with σ := w.σ.set i (some v), ρ := w.ρ.set i (some sv) } H st := by
  refine ⟨by simpa using E.len, fun j u h0 => ?_, fun j1 j2 ds es a g1 g2 g3 g4 => ?_, E.stt, E.tabs, E.dom, E.old⟩
  · have h : (w.ρ.set i (some sv))[j]? = some (some u) := h0
    show ∃ v', (w.σ.set i (some v))[j]? = _ ∧ _
    rw [List.getElem?_set] at h ⊢
    by_cases e : i = j
    · subst e
      rw [if_pos rfl] at h ⊢
      by_cases hl : i < w.ρ.length
      · rw [if_pos hl] at h
        cases h
        rw [if_pos (by rw [← E.len]; exact hl)]
        exact ⟨v, rfl, s⟩
      · rw [if_neg hl] at h
        cases h
    · rw [if_neg e] at h ⊢
      exact E.slot j u h
  · have h1 : (w.ρ.set i (some sv))[j1]? = some (some (.ow ds)) := g1
    have h2 : (w.ρ.set i (some sv))[j2]? = some (some (.ow es)) := g2
    have h3 : (w.σ.set i (some v))[j1]? = some (some (.ref a)) := g3
    have h4 : (w.σ.set i (some v))[j2]? = some (some (.ref a)) := g4
    clear g1 g2 g3 g4
    rw [List.getElem?_set] at h1 h2 h3 h4
    by_cases e1 : i = j1
    · by_cases e2 : i = j2
      · rw [← e1, ← e2]
      · rw [if_pos e1] at h1 h3
        rw [if_neg e2] at h2 h4
        split at h1
        · cases h1
          split at h3
          · cases h3
            exact absurd h4 (ho a ds rfl rfl j2 es (fun z => e2 z.symm) h2)
          · cases h3
        · cases h1
    · rw [if_neg e1] at h1 h3
      by_cases e2 : i = j2
      · rw [if_pos e2] at h2 h4
        split at h2
        · cases h2
          split at h4
          · cases h4
            exact absurd h3 (ho a es rfl rfl j1 ds (fun z => e1 z.symm) h1)
          · cases h4
        · cases h2
      · rw [if_neg e2] at h2 h4
        exact E.own j1 j2 ds es a h1 h2 h3 h4
def gD (g : Gd) (n : Nat) (C : Ctx) (e : Expr) : TG := fun v σ H Q => ∃ (w : Wd) (st : Stt) (d : D) (ρ' : DI.Env), w.σ = σ ∧ ERep g w H st ∧ rpD g w H v d ∧ asg n C e d w.ρ = some ρ' ∧
  ∀ σ', ERep g { w with σ := σ', ρ := ρ' } H st → Same C σ σ' → OwnK w.ρ ρ' σ σ' → Q σ' H
def gDs (g : Gd) (n : Nat) (C : Ctx) (es : List Expr) : TGs := fun vs σ H Q => ∃ (w : Wd) (st : Stt) (ds : List D) (ρ' : DI.Env), w.σ = σ ∧ ERep g w H st ∧ rpDs g w H vs ds ∧ asgs n C es ds w.ρ = some ρ' ∧
  ∀ σ', ERep g { w with σ := σ', ρ := ρ' } H st → Same C σ σ' → OwnK w.ρ ρ' σ σ' → Q σ' H
theorem PG.void {e : Expr} {t : TG} (h : ∀ v σ H Q, ¬ t v σ H Q) : PG X e t := ⟨fun _ _ σ H v _ Q _ _ q => (h v σ H Q q).elim⟩
theorem PGs.void {e : List Expr} {t : TGs} (h : ∀ v σ H Q, ¬ t v σ H Q) : PGs X e t := ⟨fun _ _ σ H v _ Q _ _ q => (h v σ H Q q).elim⟩
theorem _root_.L2.PG.monoG {X : Cx} {e : Expr} {t t' : TG} (h : PG X e t) (k : ∀ v σ H Q, t' v σ H Q → t v σ H Q) : PG X e t' := ⟨fun pins s σ H v u Q I r q => h.run pins s σ H v u Q I r (k v σ H Q q)⟩
theorem _root_.L2.PGs.monoG {X : Cx} {e : List Expr} {t t' : TGs} (h : PGs X e t) (k : ∀ v σ H Q, t' v σ H Q → t v σ H Q) : PGs X e t' := ⟨fun pins s σ H v u Q I r q => h.run pins s σ H v u Q I r (k v σ H Q q)⟩
theorem _root_.L2.PG.orG {X : Cx} {e : Expr} {t t' : TG} (h : PG X e t) (h' : PG X e t') : PG X e (fun v σ H Q => t v σ H Q ∨ t' v σ H Q) := ⟨fun pins s σ H v u Q I r q => q.elim (h.run pins s σ H v u Q I r) (h'.run pins s σ H v u Q I r)⟩
theorem each_cons {env : PySem.Env} {e : Expr} {es : List Expr} (h : isStar e = false) : (assignEach (e :: es) env).map (·.2) = assign e env :: (assignEach es env).map (·.2) ∧ (assignEach (e :: es) env) = (false, assign e env) :: assignEach es env := by
  cases e <;> first | exact ⟨rfl, rfl⟩ | cases h
theorem each_len {env : PySem.Env} : ∀ {es : List Expr}, es.any isStar = false → (assignEach es env).length = es.length ∧ (assignEach es env).findIdx? (·.1) = none
  | [], _ => ⟨rfl, rfl⟩
  | e :: es, h => by
    have h2 : isStar e = false ∧ es.any isStar = false := by simpa using h
    obtain ⟨a, b⟩ := each_len (env := env) h2.2
    rw [(each_cons h2.1).2]
    refine ⟨by simp [a], ?_⟩
    rw [List.findIdx?_cons]
    simp [b]
theorem g_name (hN : C.N = X.N) (nd : X.N.Nodup) (tg : TgOk X C.sc) (x : Str) (pos : Pos) : PG X (.Name x pos) (gD (gX X T) (n + 1) C (.Name x pos)) := by
  by_cases hx : locB C.sc x = true
  · cases hi : ixOf C.N x with
    | none =>
      refine PG.void fun v σ H Q ⟨w, st, d, ρ', _, _, _, h, _⟩ => ?_
      have h : asgName C x (.sh d) w.ρ = some ρ' := h
      unfold asgName at h
      rw [hi] at h
      split at h <;> cases h
    | some i =>
      refine (pg_name nd (i := i) (by rw [← hN]; exact ixOf_get hi) (tg x hx).1 (tg x hx).2).monoG fun v σ H Q ⟨w, st, d, ρ', hσ, E, r, h, q⟩ => ?_
      have h : asgName C x (.sh d) w.ρ = some ρ' := h
      unfold asgName at h
      rw [hi] at h
      split at h
      · cases h
        subst hσ
        refine q _ (E.set i (sv := .sh d) r (fun a ds z => by cases z)) ⟨by simp, fun j hj => ?_⟩ (OwnK.set i fun ds z => by cases z)
        rw [List.getElem?_set_ne]
        exact fun e => hj x hx (by rw [hi, e])
      · cases h
  · refine PG.void fun v σ H Q ⟨w, st, d, ρ', _, _, _, h, _⟩ => ?_
    have h : asgName C x (.sh d) w.ρ = some ρ' := h
    unfold asgName at h
    rw [if_neg (fun z => hx z.2)] at h
    cases h
theorem asg_ok (hc : X.calm = true) (hN : C.N = X.N) (nd : X.N.Nodup) (tg : TgOk X C.sc) : ∀ n, (∀ e, PG X e (gD (gX X T) n C e)) ∧ (∀ es, es.any isStar = false → PGs X es (gDs (gX X T) n C es))
  | 0 => by
    refine ⟨fun e => PG.void fun v σ H Q ⟨w, st, d, ρ', _, _, _, h, _⟩ => ?_, fun es _ => PGs.void fun v σ H Q ⟨w, st, d, ρ', _, _, _, h, _⟩ => ?_⟩
    · cases h
    · cases h
  | n + 1 => by
    obtain ⟨ih1, ih2⟩ := asg_ok hc hN nd tg n
    refine ⟨fun e => ?_, fun es hs => ?_⟩
    · by_cases hn : ∃ x pos, e = .Name x pos
      · obtain ⟨x, pos, rfl⟩ := hn
        exact g_name hN nd tg x pos
      by_cases ht : ∃ es j pos, e = .Tuple es j pos
      · obtain ⟨es, j, pos, rfl⟩ := ht
        by_cases hs : es.any isStar = true
        · refine PG.void fun v σ H Q ⟨w, st, d, ρ', _, _, _, h, _⟩ => ?_
          have h : (if es.any isStar = true then none else _) = some ρ' := h
          rw [if_pos hs] at h
          cases h
        have hs' : es.any isStar = false := by simpa using hs
        obtain ⟨l1, l2⟩ := each_len (env := X.env) hs'
        refine ((pg_tup hc (ih2 es hs') l1 l2).orG (pg_lst hc (ih2 es hs') l1 l2)).monoG fun v σ H Q ⟨w, st, d, ρ', hσ, E, r, h, q⟩ => ?_
        have h : (if es.any isStar = true then none else (match d with
      | .tuple ds => if ds.length = es.length then asgs n C es ds w.ρ else none
      | .list ds => if ds.length = es.length then asgs n C es ds w.ρ else none
      | _ => none)) = some ρ' := h
        rw [if_neg hs] at h
        cases d with
        | tuple ds =>
          simp only at h
          split at h
          · rename_i hl
            obtain ⟨a, vs, rfl, ha, hr, _⟩ := rpB.tuple (.inl r)
            exact .inl ⟨a, vs, rfl, ha, by rw [RpAll.len hr, hl], w, st, ds, ρ', hσ, E, hr, h, q⟩
          · cases h
        | list ds =>
          simp only at h
          split at h
          · rename_i hl
            obtain ⟨a, vs, rfl, ha, hr⟩ := rpB.list (.inl r)
            exact .inr ⟨a, vs, rfl, .inl ha, by rw [RpAll.len hr, hl], w, st, ds, ρ', hσ, E, hr, h, q⟩
          · cases h
        | _ => cases h
      · refine PG.void fun v σ H Q ⟨w, st, d, ρ', _, _, _, h, _⟩ => ?_
        cases e <;> first | (exact hn ⟨_, _, rfl⟩) | (exact ht ⟨_, _, _, rfl⟩) | (cases h)
    · cases es with
      | nil =>
        refine pgs_nil.monoG fun v σ H Q ⟨w, st, ds, ρ', hσ, E, r, h, q⟩ => ?_
        cases ds with
        | nil =>
          cases r
          cases h
          subst hσ
          exact ⟨rfl, q w.σ E Same.rfl' OwnK.rfl'⟩
        | cons _ _ => cases h
      | cons e es =>
        have hs2 : isStar e = false ∧ es.any isStar = false := by simpa using hs
        refine (pgs_cons (ih1 e) (ih2 es hs2.2) (each_cons hs2.1).1).monoG fun v σ H Q ⟨w, st, ds, ρ', hσ, E, r, h, q⟩ => ?_
        cases ds with
        | nil => cases h
        | cons d ds =>
          cases r with
          | cons r1 r2 =>
            have h : (asg n C e d w.ρ).bind (fun ρ1 => asgs n C es ds ρ1) = some ρ' := h
            rw [Option.bind_eq_some_iff] at h
            obtain ⟨ρ1, h1, h2⟩ := h
            refine ⟨_, _, rfl, w, st, d, ρ1, hσ, E, r1, h1, fun σ1 E1 s1 o1 => ?_⟩
            exact ⟨_, st, ds, ρ', rfl, E1, r2, h2, fun σ2 E2 s2 o2 => q σ2 E2 (s1.tr s2) (o1.tr o2)⟩
end
end DI
end
section
set_option linter.all false
set_option autoImplicit false
set_option maxRecDepth 100000
/-! D13: list comprehensions. -/
namespace DI
open PySem PySem.Spec L2
open PyProof.Rows hiding St
open Classical in
/-- the heap without D -/
noncomputable def ers (D : Addr) (H : Hp) : Hp := fun a => if a = D then none else H a
theorem ers_ne {D a : Addr} {H : Hp} (h : a ≠ D) : ers D H a = H a := by unfold ers; rw [if_neg h]
theorem ers_eq {D : Addr} {H : Hp} : ers D H D = none := by unfold ers; rw [if_pos rfl]
theorem ers_in {D a : Addr} {H : Hp} {o : HO} (h : ers D H a = some o) : a ≠ D ∧ H a = some o := by
  by_cases e : a = D
  · subst e; rw [ers_eq] at h; cases h
  · rw [ers_ne e] at h; exact ⟨e, h⟩
theorem ers_upd {D : Addr} {H : Hp} {o : HO} (h : H D = none) : ers D (upd H D o) = H := by
  funext a
  by_cases e : a = D
  · subst e; rw [ers_eq, h]
  · rw [ers_ne e, upd_ne e]
theorem ers_upd2 {D : Addr} {H : Hp} {o : HO} : ers D (upd H D o) = ers D H := by
  funext a
  by_cases e : a = D
  · subst e; rw [ers_eq, ers_eq]
  · rw [ers_ne e, ers_ne e, upd_ne e]
theorem upd_ers {D : Addr} {H : Hp} {o : HO} (h : H D = some o) : H = upd (ers D H) D o := by
  funext a
  by_cases e : a = D
  · subst e; rw [h, upd_same]
  · rw [upd_ne e, ers_ne e]
def hid2 (Hid : Addr → Prop) (D : Addr) : Addr → Prop := fun a => Hid a ∨ a = D
theorem hide_ers (Hid : Addr → Prop) (D : Addr) (H : Hp) : hide (hid2 Hid D) H = hide Hid (ers D H) := by
  funext a
  by_cases e : a = D
  · subst e
    have h1 : hide (hid2 Hid a) H a = none := by unfold hide; exact if_pos (Or.inr rfl)
    rw [h1]
    unfold hide
    split
    · rfl
    · rw [ers_eq]
  · unfold hide hid2
    by_cases h : Hid a
    · rw [if_pos (Or.inl h), if_pos h]
    · rw [if_neg (fun z => z.elim h e), if_neg h, ers_ne e]
/-- the world of a block: its new list is hidden, its own names are forgotten -/
def Wd.blk (w : Wd) (D : Addr) (vs : List Nat) : Wd := ⟨hid2 w.Hid D, w.p, wipe w.σ vs, wipeE w.ρ vs, w.H0⟩
theorem wipeE_some {ρ : DI.Env} {i : Nat} {x : SV} : ∀ {vs : List Nat}, (wipeE ρ vs)[i]? = some (some x) → ρ[i]? = some (some x) ∧ i ∉ vs
  | [], h => ⟨h, by simp⟩
  | v :: vs, h => by
    unfold wipeE at h
    by_cases hi : v = i
    · subst hi
      by_cases hv : v < (wipeE ρ vs).length
      · rw [List.getElem?_set_self hv] at h; cases h
      · rw [List.getElem?_eq_none (by simpa using hv)] at h; cases h
    · rw [List.getElem?_set_ne hi] at h
      obtain ⟨h1, h2⟩ := wipeE_some h
      exact ⟨h1, by simp only [List.mem_cons, not_or]; exact ⟨fun e => hi e.symm, h2⟩⟩
theorem wipeE_length (ρ : DI.Env) : ∀ vs : List Nat, (wipeE ρ vs).length = ρ.length
  | [] => rfl
  | v :: vs => by unfold wipeE; rw [List.length_set, wipeE_length ρ vs]
theorem wipe_keep {σ : L2.St} {i : Nat} : ∀ {vs : List Nat}, i ∉ vs → (wipe σ vs)[i]? = σ[i]?
  | [], _ => rfl
  | v :: vs, h => by
    unfold wipe
    rw [List.getElem?_set_ne (by intro e; subst e; exact h List.mem_cons_self)]
    exact wipe_keep fun z => h (List.mem_cons_of_mem _ z)
theorem wipe_in {σ : L2.St} {i : Nat} : ∀ {vs : List Nat}, i ∈ vs → i < σ.length → (wipe σ vs)[i]? = some none
  | [], h, _ => by cases h
  | v :: vs, h, hl => by
    unfold wipe
    by_cases e : v = i
    · subst e
      rw [List.getElem?_set_self (by rw [wipe_length]; exact hl)]
    · rw [List.getElem?_set_ne e]
      exact wipe_in (by rcases List.mem_cons.mp h with z | z; exact absurd z.symm e; exact z) hl
theorem wipe_same {C : Ctx} {σ σ' : L2.St} {vs : List Nat} (s : Same C (wipe σ vs) σ') (h : ∀ x i, locB C.sc x = true → ixOf C.N x = some i → i ∈ vs) : wipe σ' vs = wipe σ vs := by
  have hl : σ'.length = σ.length := by rw [s.1, wipe_length]
  refine List.ext_getElem? fun i => ?_
  by_cases hi : i ∈ vs
  · by_cases hL : i < σ.length
    · rw [wipe_in hi (by rw [hl]; exact hL), wipe_in hi hL]
    · rw [List.getElem?_eq_none (by rw [wipe_length, hl]; omega), List.getElem?_eq_none (by rw [wipe_length]; omega)]
  · rw [wipe_keep hi, wipe_keep hi, s.2 i fun x hx e => hi (h x i hx e), wipe_keep hi]
section
variable {g : Gd} {w : Wd} {H H' : Hp} {st st' : Stt} {D : Addr} {vs : List Nat}
theorem Evo.ers {p : Option Addr} (e : Evo p H H') : Evo p (ers D H) (ers D H') := ⟨fun b o n h t => by
  obtain ⟨h1, h2⟩ := ers_in h
  rw [ers_ne h1]
  exact e.kp b o n h2 t, fun b h => by
  by_cases z : b = D
  · subst z; exact absurd ers_eq h
  · rw [ers_ne z] at h ⊢; exact e.dom b h⟩
theorem StRep.ers {K : PySem.W.Frag} {Hid : Addr → Prop} {p : Option Addr} (hp : p ≠ some D) : StRep K (hid2 Hid D) p H st ↔ StRep K Hid p (DI.ers D H) st := by
  unfold StRep
  rw [hide_ers]
  cases p with
  | none => exact Iff.rfl
  | some a =>
    have ha : a ≠ D := fun e => hp (by rw [e])
    simp only
    rw [ers_ne ha]
    constructor
    · rintro ⟨h1, h2⟩
      exact ⟨h1.elim id fun e => absurd e ha, h2⟩
    · rintro ⟨h1, h2⟩
      exact ⟨.inl h1, h2⟩
theorem Tabs.ers {T : List (Addr × Str)} (hD : ∀ ps, H D ≠ some (.tbl ps)) (hC : ∀ q, H D ≠ some (LamX.CodeO D q)) : LamX.Tabs T H ↔ LamX.Tabs T (DI.ers D H) := by
  constructor
  · intro h p hp
    obtain ⟨ps, h1, h2, h3⟩ := h p hp
    have e : p.1 ≠ D := fun e => hD ps (e ▸ h1)
    refine ⟨ps, by rw [ers_ne e]; exact h1, h2, fun pos cv hc => ?_⟩
    obtain ⟨c, e1, e2⟩ := h3 pos cv hc
    refine ⟨c, e1, ?_⟩
    rw [ers_ne fun z => hC p.2 (by rw [z] at e2; exact e2)]
    exact e2
  · intro h p hp
    obtain ⟨ps, h1, h2, h3⟩ := h p hp
    refine ⟨ps, (ers_in h1).2, h2, fun pos cv hc => ?_⟩
    obtain ⟨c, e1, e2⟩ := h3 pos cv hc
    exact ⟨c, e1, (ers_in e2).2⟩
theorem lst_tabs {T : List (Addr × Str)} {acc : List V} (hD : H D = some (.lst acc)) : LamX.Tabs T H ↔ LamX.Tabs T (DI.ers D H) := Tabs.ers (fun ps z => by rw [hD] at z; cases z) (fun q z => by rw [hD] at z; cases z)
/-- into the block -/
theorem ERep.blk (E : ERep g w (ers D H) st) {acc : List V} (hD : H D = some (.lst acc)) (nD : ¬ w.Hid D) : ERep g (w.blk D vs) H st := by
  have np : w.p ≠ some D := fun e => nD (E.stt.hid D e)
  refine ⟨by show (wipeE w.ρ vs).length = (wipe w.σ vs).length; rw [wipe_length, wipeE_length]; exact E.len, fun i sv h => ?_, fun i j ds es a h1 h2 h3 h4 => ?_, (StRep.ers np).mpr E.stt, (lst_tabs hD).mpr E.tabs, fun a h => ?_, fun a h => ?_⟩
  · obtain ⟨h1, h2⟩ := wipeE_some (show (wipeE w.ρ vs)[i]? = _ from h)
    obtain ⟨v, a, b⟩ := E.slot i sv h1
    refine ⟨v, (wipe_keep h2).trans a, ?_⟩
    cases sv with
    | sh d => show Rp g.K (hide (hid2 w.Hid D) H) v d; rw [hide_ers]; exact b
    | ow ds =>
      obtain ⟨x, us, q1, q2, q3, q4, q5⟩ := b
      refine ⟨x, us, q1, .inl q2, q3, (ers_in q4).2, ?_⟩
      show RpAll g.K (hide (hid2 w.Hid D) H) us ds
      rw [hide_ers]
      exact q5
    | stt => exact b
  · exact E.own i j ds es a (wipeE_some (show (wipeE w.ρ vs)[i]? = _ from h1)).1 (wipeE_some (show (wipeE w.ρ vs)[j]? = _ from h2)).1 (wipe_some (show (wipe w.σ vs)[i]? = _ from h3)).1 (wipe_some (show (wipe w.σ vs)[j]? = _ from h4)).1
  · rcases (show w.Hid a ∨ a = D from h) with h | h
    · intro z
      refine E.dom a h ?_
      unfold DI.ers
      split
      · rfl
      · exact z
    · subst h; rw [hD]; simp
  · intro z
    refine E.old a h ?_
    unfold DI.ers
    split
    · rfl
    · exact z
/-- out of it -/
theorem ERep.unblk {σ' : L2.St} {ρ' : DI.Env} (E : ERep g w (ers D H) st) {H0' : Hp} (E' : ERep g ⟨hid2 w.Hid D, w.p, σ', ρ', H0'⟩ H' st') (nD : ¬ w.Hid D) {acc : List V} (hD' : H' D = some (.lst acc)) (e : Evo w.p (ers D H) (ers D H')) : ERep g w (ers D H') st' := by
  have np : w.p ≠ some D := fun z => nD (E.stt.hid D z)
  exact E.evo e ((StRep.ers np).mp E'.stt) ((lst_tabs hD').mp E'.tabs)
end
theorem compM_ok {f : D → M (Option D)} (hf : ∀ x st, (f x st) = (f x st).noErr) : ∀ (xs : List D) (st : Stt), compM f xs st = .stuck ∨ ∃ ys st', compM f xs st = .ok ys st'
  | [], st => .inr ⟨[], st, rfl⟩
  | x :: xs, st => by
    have h := hf x st
    show R.next (f x st) _ = _ ∨ ∃ ys st', R.next (f x st) _ = _
    cases hx : f x st with
    | ok o st1 =>
      show R.next (compM f xs st1) _ = _ ∨ ∃ ys st', R.next (compM f xs st1) _ = _
      rcases compM_ok hf xs st1 with z | ⟨ys, st', z⟩
      · rw [z]; exact .inl rfl
      · rw [z]; exact .inr ⟨_, _, rfl⟩
    | err e st1 => rw [hx] at h; cases h
    | stuck => exact .inl rfl
/-- one more -/
theorem compM_cons {f : D → M (Option D)} {x : D} {xs ys : List D} {st st' : Stt} (h : compM f (x :: xs) st = .ok ys st') : ∃ o st1 r, f x st = .ok o st1 ∧ compM f xs st1 = .ok r st' ∧ ys = (match o with | some y => y :: r | none => r) := by
  have h : R.next (f x st) _ = _ := h
  cases hx : f x st with
  | ok o st1 =>
    rw [hx] at h
    have h : R.next (compM f xs st1) _ = _ := h
    cases hy : compM f xs st1 with
    | ok r st2 =>
      rw [hy] at h
      cases o with
      | none => cases h; exact ⟨none, st1, _, rfl, hy, rfl⟩
      | some y => cases h; exact ⟨some y, st1, r, rfl, hy, rfl⟩
    | err e st2 => rw [hy] at h; cases h
    | stuck => rw [hy] at h; cases h
  | err e st1 => rw [hx] at h; cases h
  | stuck => rw [hx] at h; cases h

section
variable {T : List (Addr × Str)} {W : EW} {X : Cx} {C : Ctx} {k n : Nat}
/-- a turn -/
def compF (n : Nat) (C : Ctx) (tg elt : Expr) (ifs : List Expr) (scope : Scope) (ρ : DI.Env) (x : D) : M (Option D) := fun st => (match asg n (C.into scope) tg x (wipeE ρ (ownIx C.N scope)) with
          | some ρ' => (bnd (evIfs n (C.into (relSc scope C.sc)) ifs ρ') fun b => if b = true then bnd (evE n (C.into (relSc scope C.sc)) elt ρ') fun y => ret (some y) else ret none) st
          | none => R.stuck).noErr
theorem noErr_id {α : Type} (r : R α) : r.noErr = r.noErr.noErr := by cases r <;> rfl
theorem compF_ok {tg elt : Expr} {ifs : List Expr} {scope : Scope} {ρ : DI.Env} {x : D} {st st' : Stt} {o : Option D} (h : compF n C tg elt ifs scope ρ x st = .ok o st') :
    ∃ ρ', asg n (C.into scope) tg x (wipeE ρ (ownIx C.N scope)) = some ρ' ∧ ∃ b st1, evIfs n (C.into (relSc scope C.sc)) ifs ρ' st = .ok b st1 ∧
      ((b = false ∧ o = none ∧ st' = st1) ∨ (b = true ∧ ∃ y, evE n (C.into (relSc scope C.sc)) elt ρ' st1 = .ok y st' ∧ o = some y)) := by
  unfold compF at h
  cases ha : asg n (C.into scope) tg x (wipeE ρ (ownIx C.N scope)) with
  | none => rw [ha] at h; cases h
  | some ρ' =>
    rw [ha] at h
    simp only at h
    refine ⟨ρ', rfl, ?_⟩
    cases hi : evIfs n (C.into (relSc scope C.sc)) ifs ρ' st with
    | ok b st1 =>
      refine ⟨b, st1, rfl, ?_⟩
      have h : R.noErr ((if b = true then bnd (evE n (C.into (relSc scope C.sc)) elt ρ') fun y => ret (some y) else ret none) st1) = R.ok o st' := by
        have z : bnd (evIfs n (C.into (relSc scope C.sc)) ifs ρ') (fun b => if b = true then bnd (evE n (C.into (relSc scope C.sc)) elt ρ') fun y => ret (some y) else ret none) st = (if b = true then bnd (evE n (C.into (relSc scope C.sc)) elt ρ') fun y => ret (some y) else ret none) st1 := by
          show R.next _ _ = _
          rw [hi]
          rfl
        rw [← z]
        exact h
      cases b with
      | false => cases h; exact .inl ⟨rfl, rfl, rfl⟩
      | true =>
        refine .inr ⟨rfl, ?_⟩
        have h : R.noErr (R.next (evE n (C.into (relSc scope C.sc)) elt ρ' st1) fun y => ret (some y)) = R.ok o st' := h
        cases hy : evE n (C.into (relSc scope C.sc)) elt ρ' st1 with
        | ok y st2 => rw [hy] at h; cases h; exact ⟨y, rfl, rfl⟩
        | err e st2 => rw [hy] at h; cases h
        | stuck => rw [hy] at h; cases h
    | err e st1 =>
      exfalso
      have z : bnd (evIfs n (C.into (relSc scope C.sc)) ifs ρ') (fun b => if b = true then bnd (evE n (C.into (relSc scope C.sc)) elt ρ') fun y => ret (some y) else ret none) st = .err e st1 := by
        show R.next _ _ = _
        rw [hi]
        rfl
      rw [z] at h
      cases h
    | stuck =>
      exfalso
      have z : bnd (evIfs n (C.into (relSc scope C.sc)) ifs ρ') (fun b => if b = true then bnd (evE n (C.into (relSc scope C.sc)) elt ρ') fun y => ret (some y) else ret none) st = .stuck := by
        show R.next _ _ = _
        rw [hi]
        rfl
      rw [z] at h
      cases h
/-- the block's context -/
theorem blk_good (G : Good T W X C k) (scope : Scope) (s : Shared) (H : Hp) (A : Addr) (cl : List (Str × Addr)) (fp : List Addr) : Good T (fun _ _ => False) (X.blk s H scope (compEnvC scope cl A X.env) fp) (C.into (relSc scope C.sc)) k :=
  ⟨G.N, by rw [← G.sc]; rfl, G.nd, G.calm, fun u s' ⟨a, B, sI, pins, σ, H, cls, d, e, I, nb, up, sky, na, os, ag, w⟩ => w.elim fun _ z => z.2.2.elim, G.gd, G.room, fun h => ⟨(G.told h).home, (G.told h).fn⟩, G.con, G.bi, G.fn⟩
theorem blk_tg (G : Good T W X C k) (scope : Scope) (s : Shared) (H : Hp) (A : Addr) (cl : List (Str × Addr)) (fp : List Addr) : TgOk (X.blk s H scope (compEnvC scope cl A X.env) fp) (C.into scope).sc := by
  intro x hx
  have hx : locB scope x = true := hx
  have keep : ∀ k, k ≠ .free → scope.names.lookup x = some k → (relS scope X.env.scope).names.lookup x = some k := fun k h1 h2 => lookup_relS_keep h1 h2
  unfold locB at hx
  split at hx
  · rename_i e
    exact ⟨.inl (keep _ (by simp) e), .inr (keep _ (by simp) e)⟩
  · rename_i e
    refine ⟨.inr (keep _ (by simp) e), .inl ?_⟩
    show (scope.names.lookup x == some .cell) = true
    rw [e]
    rfl
  · cases hx
theorem own_mem {C : Ctx} {scope : Scope} {x : Str} {i : Nat} (h : locB (C.into scope).sc x = true) (hi : ixOf (C.into scope).N x = some i) : i ∈ (ownOf C.N scope).map (·.2) := by
  have h : locB scope x = true := h
  have hi : ixOf C.N x = some i := hi
  unfold locB at h
  have hm : (x, i) ∈ ownOf C.N scope := by
    unfold ownOf
    rw [List.mem_filterMap]
    split at h
    · rename_i e
      exact ⟨(x, .local), PySem.mem_of_lookup e, by simp [hi]⟩
    · rename_i e
      exact ⟨(x, .cell), PySem.mem_of_lookup e, by simp [hi]⟩
    · cases h
  exact List.mem_map.mpr ⟨_, hm, rfl⟩
theorem ownIx_eq {N : List Str} {scope : Scope} : (ownOf N scope).map (·.2) = ownIx N scope := rfl
theorem folded_no {e : Expr} {env : PySem.Env} (h : isSetE e = false) : ∀ x, foldedSetIterable e env x = pure x := by
  intro x
  cases e <;> first | rfl | cases h
theorem comp_t (ih : Snd T n) (G : Good T W X C k) (elt tg iter : Expr) (ifs : List Expr) (scope : Scope) {σ : L2.St} {H : Hp} {Q : VK}
    (h : tD (gX X T) W (rpF (gX X T)) (fun ρ => guardM (blkC C.N C.sc scope (ownOf C.N scope) && !isSetE iter) (bnd (evI n C true (isTup tg) iter ρ) fun xs => guardM (fits xs.length) (compM (compF n C tg elt ifs scope ρ) xs))) σ H Q) :
    tLc (tD (gX X T) W (rpI (gX X T) (hd true)) (evI n C true (isTup tg) iter)) (gD (gX X T) n (C.into scope) tg) (tD (gX X T) (fun _ _ => False) rpT (evIfs n (C.into (relSc scope C.sc)) ifs)) (tD (gX X T) (fun _ _ => False) (rpD (gX X T)) (evE n (C.into (relSc scope C.sc)) elt)) ((ownOf C.N scope).map (·.2)) σ H Q := by
  obtain ⟨w, st, hσ, E, h'⟩ := (tD.grd h).2
  clear h
  subst hσ
  refine ⟨w, st, rfl, E, Post.bind (rq := rpF _ w) h' fun xs st1 J H1 e1 E1 r1 h1 => ?_⟩
  obtain ⟨hf, h1⟩ := Post.grd h1
  have hf := fits_le hf
  intro D hD
  have nD : ¬ w.Hid D := fun z => E1.dom D z hD
  have hrun : ∃ all stF, compM (compF n C tg elt ifs scope w.ρ) xs st1 = .ok all stF := by
    rcases compM_ok (f := compF n C tg elt ifs scope w.ρ) (fun x st => noErr_id _) xs st1 with z | z
    · rw [z] at h1
      exact h1.elim
    · exact z
  obtain ⟨all, stF, hrun⟩ := hrun
  rw [hrun] at h1
  let Pv : Nat → Hp → Prop := fun i H => ∃ (st : Stt) (acc : List V) (da rest : List DI.D), H D = some (.lst acc) ∧ Evo w.p H1 (ers D H) ∧ ERep (gX X T) w (ers D H) st ∧ RpAll X.K (hide w.Hid (ers D H)) acc da ∧ acc.length ≤ i ∧
    compM (compF n C tg elt ifs scope w.ρ) (xs.drop i) st = .ok rest stF ∧ all = da ++ rest
  refine ⟨fun i m H => m = xs.length - i ∧ i ≤ xs.length ∧ Pv i H, ⟨xs.length, by simp, Nat.zero_le _, st1, [], [], all, upd_same, ?_, ?_, .nil, Nat.le_refl _, by rw [List.drop_zero]; exact hrun, rfl⟩, ?_⟩
  · rw [ers_upd hD]; exact Evo.rfl'
  · rw [ers_upd hD]; exact E1
  rintro i m H2 ⟨rfl, hi, st2, acc, da, rest, hD2, e2, E2, ra, hl, hr, hall⟩
  have kp0 : ∀ {H3 : Hp}, Evo w.p H1 (ers D H3) → Kp (hide (hd true w) H1) H3 := fun {H3} e b o hb n => by
    obtain ⟨q1, q2⟩ := hide_in hb
    exact (ers_in (e.kp b o (fun z => q2 (by unfold hd; rw [if_pos rfl]; exact z)) q1 n)).2
  obtain ⟨go, stop⟩ := r1 H2 (kp0 e2) i
  by_cases hlt : i < xs.length
  · obtain ⟨jg, jy⟩ := go hlt
    refine .inr ⟨jg, Pv (i + 1), fun H' p' => ⟨xs.length - (i + 1), by omega, rfl, hlt, p'⟩, fun x H3 y => ?_⟩
    obtain ⟨kx, d, hd, rx⟩ := jy x H3 y
    have e3 : Evo w.p (ers D H2) (ers D H3) := (Evo.of kx).ers
    have hD3 := kx _ _ hD2
    have e13 := e2.tr e3
    have E3 : ERep (gX X T) w (ers D H3) st2 := E2.evo e3 (E2.stt.kp fun b o h => by
      obtain ⟨z1, z2⟩ := ers_in h
      rw [ers_ne z1]
      exact kx b o z2) (E2.tabs.ext fun b o h => by
      obtain ⟨z1, z2⟩ := ers_in h
      rw [ers_ne z1]
      exact kx b o z2)
    have rd : Rp X.K (hide (hid2 w.Hid D) H3) x d := rx (hid2 w.Hid D) (fun b hb => by
      rcases hb with hb | rfl
      · intro z
        exact e2.dom b (E1.dom b hb) (by unfold ers; split; rfl; exact z)
      · rw [hD2]; simp) (by rw [hide_ers]; exact E1.kph e13)
    have hdrop : xs.drop i = d :: xs.drop (i + 1) := by
      obtain ⟨hlt', e⟩ := List.getElem?_eq_some_iff.mp hd
      rw [List.drop_eq_getElem_cons hlt', e]
    rw [hdrop] at hr
    obtain ⟨o, st3, rest', hc1, hc2, hc3⟩ := compM_cons hr
    obtain ⟨ρ', ha, b, st4, hi4, hcase⟩ := compF_ok hc1
    refine ⟨w.blk D (ownIx C.N scope), st2, d, ρ', rfl, E3.blk hD3 nD, rd, ha, fun σ' E4 same _ => ⟨wipe_same same fun x i h1 h2 => own_mem h1 h2, ?_⟩⟩
    refine ⟨_, st2, rfl, E4, ?_⟩
    show Post _ _ _ _ _ (evIfs n (C.into (relSc scope C.sc)) ifs ρ' st2) _
    rw [hi4]
    intro b5 H5 e5 E5 hb5
    have hb5 : b5 = b := hb5
    subst hb5
    have hD5 : H5 D = some (.lst acc) := e5.kp D _ (fun z => nD (E1.stt.hid D z)) hD3 (by intro ps z; cases z)
    have e35 : Evo w.p (ers D H3) (ers D H5) := Evo.ers (p := w.p) e5
    have E5' : ERep (gX X T) w (ers D H5) st4 := E3.unblk E5 nD hD5 e35
    rcases hcase with ⟨rfl, rfl, rfl⟩ | ⟨rfl, y, hy, rfl⟩
    · simp only [Bool.false_eq_true, if_false]
      simp only at hc3
      exact ⟨st3, acc, da, rest', hD5, e13.tr e35, E5', (E2.kph (e3.tr e35)).dps da acc ra, by omega, hc2, by rw [hall, hc3]⟩
    · simp only [if_true]
      simp only at hc3
      refine ⟨_, st4, rfl, E5, ?_⟩
      show Post _ _ _ _ _ (evE n (C.into (relSc scope C.sc)) elt ρ' st4) _
      rw [hy]
      intro v6 H6 e6 E6 r6
      have hD6 : H6 D = some (.lst acc) := e6.kp D _ (fun z => nD (E1.stt.hid D z)) hD5 (by intro ps z; cases z)
      have e56 : Evo w.p (ers D H5) (ers D H6) := Evo.ers (p := w.p) e6
      have E6' : ERep (gX X T) w (ers D H6) st3 := E5'.unblk E6 nD hD6 e56
      have r6 : Rp X.K (hide (hid2 w.Hid D) H6) v6 y := r6
      rw [hide_ers] at r6
      refine ⟨acc, hD6, by omega, st3, acc ++ [v6], da ++ [y], rest', upd_same, ?_, ?_, ?_, by simp; omega, hc2, by rw [hall, hc3]; simp⟩
      · rw [ers_upd2]; exact (e13.tr e35).tr e56
      · rw [ers_upd2]; exact E6'
      · rw [ers_upd2]
        exact RpAll.app ((E2.kph ((e3.tr e35).tr e56)).dps da acc ra) (.cons r6 .nil)
  · have e : i = xs.length := by omega
    subst e
    refine .inl ⟨stop (Nat.le_refl _), ?_⟩
    rw [List.drop_length] at hr
    cases hr
    rw [List.append_nil] at hall
    subst hall
    refine h1 _ H2 ⟨fun b o n h t => (ers_in (e2.kp b o n h t)).2, fun b h => ?_⟩ (E2.kp fun b o h => (ers_in h).2) ⟨D, acc, ers D H2, stF, rfl, ers_eq, upd_ers hD2, E2, E2.kp fun b o h => (ers_in h).2, ra⟩
    have z := e2.dom b h
    cases q : ers D H2 b with
    | none => exact absurd q z
    | some o => rw [(ers_in q).2]; simp
theorem blk_ok (G : Good T W X C k) {scope : Scope} {iter : Expr} (hb : (blkC C.N C.sc scope (ownOf C.N scope) && !isSetE iter) = true) : BlkOk X.N X.env.scope scope (ownOf C.N scope) ∧ isSetE iter = false := by
  refine ⟨?_, by simpa using (Bool.and_eq_true_iff.mp hb).2⟩
  rw [G.N, G.sc]
  exact blkOk_by (Bool.and_eq_true_iff.mp hb).1
theorem f_comp (ih : Snd T n) (G : Good T W X C k) (elt tg iter : Expr) (ifs : List Expr) (scope : Scope) (pos : Pos) :
    PE X (.ListComp elt [⟨tg, iter, ifs, 0⟩] scope pos) (tD (gX X T) W (rpF (gX X T)) fun ρ => guardM (blkC C.N C.sc scope (ownOf C.N scope) && !isSetE iter) (bnd (evI n C true (isTup tg) iter ρ) fun xs => guardM (fits xs.length) (compM (compF n C tg elt ifs scope ρ) xs))) := by
  by_cases hb : (blkC C.N C.sc scope (ownOf C.N scope) && !isSetE iter) = true
  case neg =>
    refine PE.void (tD.stuck fun ρ st => ?_)
    unfold guardM
    rw [if_neg hb]
  obtain ⟨ok, hset⟩ := blk_ok G hb
  exact (pe_lc (g := gD (gX X T) n (C.into scope) tg) (tt := tD (gX X T) (fun _ _ => False) rpT (evIfs n (C.into (relSc scope C.sc)) ifs)) (te := tD (gX X T) (fun _ _ => False) (rpD (gX X T)) (evE n (C.into (relSc scope C.sc)) elt)) G.calm G.nd (ih.I G true tg iter) ok (fun s H A cl fp => (asg_ok (X := X.blk s H scope (compEnvC scope cl A X.env) fp) (T := T) (C := C.into scope) G.calm G.N.symm G.nd (blk_tg G scope s H A cl fp) n).1 tg)
    (fun s H A cl fp => ih.If (blk_good G scope s H A cl fp) ifs) (fun s H A cl fp => ih.E (blk_good G scope s H A cl fp) elt) (folded_no hset)).mono fun σ H Q h => comp_t ih G elt tg iter ifs scope h
/-- name = [..], as it is written in one line or not -/
theorem set_comp (ih : Snd T n) (G : Good T W X C k) (tgo : TgOk X C.sc) (elt tg iter : Expr) (ifs : List Expr) (scope : Scope) (pos spos py : Pos) (y : Str) (i : Nat) (hi : ixOf C.N y = some i) (hy : locB C.sc y = true) :
    PS X (.Assign [.Name y py] (.ListComp elt [⟨tg, iter, ifs, 0⟩] scope pos) spos) (tAsg (tD (gX X T) W (rpF (gX X T)) fun ρ => guardM (blkC C.N C.sc scope (ownOf C.N scope) && !isSetE iter) (bnd (evI n C true (isTup tg) iter ρ) fun xs => guardM (fits xs.length) (compM (compF n C tg elt ifs scope ρ) xs))) (gName i)) := by
  by_cases hb : (blkC C.N C.sc scope (ownOf C.N scope) && !isSetE iter) = true
  case neg =>
    refine ⟨fun pins s σ H D I h => ?_⟩
    exact (tD.stuck (fun ρ st => by unfold guardM; rw [if_neg hb]) σ H _ h).elim
  obtain ⟨ok, hset⟩ := blk_ok G hb
  have hN : X.N[i]? = some y := by rw [G.N]; exact ixOf_get hi
  cases hw : (X.env.blockKind == .function && X.env.kindOf y == some .local && py.line == pos.line && !(scope.names.any fun (n, k) => n == y && (k == .local || k == .cell))) with
  | false => exact ps_set G.nd hN (tgo y hy).1 (f_comp ih G elt tg iter ifs scope pos) (by show (pure _ : Sem Bool) = pure false; rw [show (X.env.blockKind == .function && X.env.kindOf y == some .local && py.line == (Expr.ListComp elt [⟨tg, iter, ifs, 0⟩] scope pos).pos.line && !(scope.names.any fun (n, k) => n == y && (k == .local || k == .cell))) = false from hw]) (tgo y hy).2
  | true =>
    have hl : X.env.scope.names.lookup y = some .local := by
      simp only [Bool.and_eq_true, beq_iff_eq] at hw
      exact hw.1.1.2
    have h := ps_setLc (spos := spos) (py := py) (g := gD (gX X T) n (C.into scope) tg) (tt := tD (gX X T) (fun _ _ => False) rpT (evIfs n (C.into (relSc scope C.sc)) ifs)) (te := tD (gX X T) (fun _ _ => False) (rpD (gX X T)) (evE n (C.into (relSc scope C.sc)) elt)) (pos := pos) G.calm G.nd hN hl
      (by show (pure _ : Sem Bool) = pure true; rw [show (X.env.blockKind == .function && X.env.kindOf y == some .local && py.line == (Expr.ListComp elt [⟨tg, iter, ifs, 0⟩] scope pos).pos.line && !(scope.names.any fun (n, k) => n == y && (k == .local || k == .cell))) = true from hw])
      (ih.I G true tg iter) ok (fun s H A cl fp => (asg_ok (X := X.blk s H scope (compEnvC scope cl A X.env) fp) (T := T) (C := C.into scope) G.calm G.N.symm G.nd (blk_tg G scope s H A cl fp) n).1 tg)
      (fun s H A cl fp => ih.If (blk_good G scope s H A cl fp) ifs) (fun s H A cl fp => ih.E (blk_good G scope s H A cl fp) elt) (folded_no hset)
    exact ⟨fun pins s σ H D I q => h.run pins s σ H D I (comp_t ih G elt tg iter ifs scope q)⟩
end
end DI
end
section
set_option linter.all false
set_option autoImplicit false
set_option maxRecDepth 100000
/-! D14: the evaluator of expressions is sound, by fuel. -/
namespace DI
open PySem PySem.Spec L2
open PyProof.Rows hiding St
section
variable {T : List (Addr × Str)} {W : EW} {X : Cx} {C : Ctx} {k n : Nat}
theorem bi_repr (hg : X.A.guards = some []) (hu : X.A.units + 102 < cLine) : BiOk X T W "repr" .repr := by
  refine biB (id := "repr") (call_reprD hg hu) (by decide +kernel) (by decide) (by decide) fun w st H vs ds Q E r h => ?_
  cases r with
  | nil => exact h.elim
  | cons r1 r2 =>
    cases r2 with
    | cons _ _ => rw [one_arg _ (by decide)] at h; exact h.elim
    | nil =>
      rename_i v d
      cases d with
      | list xs =>
        obtain ⟨hb, h⟩ := Post.grd h
        obtain ⟨hb1, h4⟩ := Bool.and_eq_true_iff.mp hb
        obtain ⟨hb2, h3⟩ := Bool.and_eq_true_iff.mp hb1
        obtain ⟨h1, h2⟩ := Bool.and_eq_true_iff.mp hb2
        obtain ⟨a, us, rfl, ha, hs⟩ := r1.list
        exact ⟨a, .list xs, rfl, Rp.dp _ _ r1.dp, h1, by simpa using h2, of_decide_eq_true h3, fits_le h4, h.now E (rp := rpD _ w) (Rp.str _)⟩
      | _ => exact h.elim
theorem biOf_all (hc : X.calm = true) (hgd : X.A.guards = some []) (hu : X.A.units + 102 < cLine) {f : Str} {b : BI} (h : biOf f = some b) : f ∈ biNames ∧ BiOk X T W f b := by
  by_cases hr : b = .repr
  · subst hr
    have hm : (f, BI.repr) ∈ _ := PySem.mem_of_lookup h
    simp only [List.mem_cons, Prod.mk.injEq, List.not_mem_nil, or_false] at hm
    rcases hm with ⟨rfl, e⟩ | ⟨rfl, e⟩ | ⟨rfl, e⟩ | ⟨rfl, e⟩ | ⟨rfl, e⟩ | ⟨rfl, e⟩ | ⟨rfl, e⟩ | ⟨rfl, e⟩ | ⟨rfl, e⟩ | ⟨rfl, e⟩ | ⟨rfl, e⟩
    all_goals first | (cases e; done) | skip
    exact ⟨by decide, bi_repr hgd hu⟩
  · exact biOf_ok hc h hr
theorem c_bi (ih : Snd T n) (G : Good T W X C k) {f : Str} {b : BI} (hf : C.fn f = none) (hc : C.con f = none) (hb : biOf f = some b) (hg : gl C f = true) (p pos : Pos) (e : Expr) (es : List Expr) (hs : (e :: es).any isStar = false) :
    PE X (.Call (.Name f p) (e :: es) [] pos) (tD (gX X T) W (rpD (gX X T)) fun ρ => bnd (evBs n C (e :: es) ρ) fun ds => biM b ds) := by
  obtain ⟨hm, r, h1, h2⟩ := biOf_all (X := X) (T := T) (W := W) G.calm G.gd (by have := G.room0.un; omega) hb
  have hs2 : isStar e = false ∧ es.any isStar = false := by simpa using hs
  refine (h1 p pos e es _ (G.gl hg).1 (G.bi f hf hc hm) hs2.1 hs2.2 (ih.Bs G (e :: es))).mono fun σ H Q ⟨w, st, hσ, E, h⟩ => ?_
  subst hσ
  exact ⟨w, st, rfl, E, Post.bind (rq := rpD _ w) h fun ds st1 vs H1 e1 E1 r1 h3 => h2 w st1 H1 vs ds Q E1 r1 h3⟩
theorem s_Ca (ih : Snd T n) (to : ToldOk T n) (G : Good T W X C k) (f : Str) (p : Pos) (args : List Expr) (pos : Pos) : PE X (.Call (.Name f p) args [] pos) (tD (gX X T) W (rpD (gX X T)) (evCall (n + 1) C f args)) := by
  by_cases hg : (gl C f && !args.any isStar) = true
  case neg =>
    refine PE.void (tD.stuck fun ρ st => ?_)
    show guardM _ _ st = _
    unfold guardM
    rw [if_neg hg]
  obtain ⟨hg1, hs⟩ := grd2 hg
  have cut : ∀ {m : DI.Env → M D}, (∀ ρ, evCall (n + 1) C f args ρ = guardM (gl C f && !args.any isStar) (m ρ)) → PE X (.Call (.Name f p) args [] pos) (tD (gX X T) W (rpD (gX X T)) m) → PE X (.Call (.Name f p) args [] pos) (tD (gX X T) W (rpD (gX X T)) (evCall (n + 1) C f args)) := fun {m} he h => h.mono fun σ H Q ⟨w, st, hσ, E, q⟩ => ⟨w, st, hσ, E, by
    rw [he] at q
    exact (Post.grd q).2⟩
  have none' : (∀ ρ st, evCall (n + 1) C f args ρ st = .stuck) → PE X (.Call (.Name f p) args [] pos) (tD (gX X T) W (rpD (gX X T)) (evCall (n + 1) C f args)) := fun h => PE.void (tD.stuck h)
  have dead : ∀ {m : DI.Env → M D}, (∀ ρ, evCall (n + 1) C f args ρ = guardM (gl C f && !args.any isStar) (m ρ)) → (∀ ρ st, m ρ st = .stuck) → ∀ ρ st, evCall (n + 1) C f args ρ st = .stuck := fun {m} he h ρ st => by
    rw [he]
    unfold guardM
    rw [if_pos hg, h]
  cases hf : C.fn f with
  | some fi =>
    cases hst : fi.st with
    | false =>
      refine cut (m := fun ρ => (bnd (evEs n C args ρ) fun ds => guardM (decide (ds.length = fi.arity)) (purely (fi.sem ds)))) (fun ρ => ?_) (c_fnP ih G hf hst p args pos hg1 hs)
      show guardM _ (match C.fn f with | some fi => _ | none => _) = _
      rw [hf]
      simp only [hst]
    | true =>
      cases args with
      | nil =>
        refine none' (dead (m := fun _ => stuckM) (fun ρ => ?_) fun _ _ => rfl)
        show guardM _ (match C.fn f with | some fi => _ | none => _) = _
        rw [hf]
        simp only [hst]
      | cons a args =>
        by_cases ha : ∃ s q, a = .Name s q
        · obtain ⟨s, q, rfl⟩ := ha
          have hs2 : args.any isStar = false := by
            have z : isStar (.Name s q) = false ∧ args.any isStar = false := by simpa using hs
            exact z.2
          refine cut (m := fun ρ => guardM (isStt (slotOf C ρ s)) (bnd (evEs n C args ρ) fun ds => guardM (decide (ds.length = fi.arity)) (fi.sem ds))) (fun ρ => ?_) (c_fnS ih G hf hst p q s args pos hg1 hs2)
          show guardM _ (match C.fn f with | some fi => _ | none => _) = _
          rw [hf]
          simp only [hst]
        · refine none' (dead (m := fun _ => stuckM) (fun ρ => ?_) fun _ _ => rfl)
          show guardM _ (match C.fn f with | some fi => _ | none => _) = _
          rw [hf]
          simp only [hst]
          cases a <;> first | rfl | exact absurd ⟨_, _, rfl⟩ ha
  | none =>
    cases hc : C.con f with
    | some d =>
      refine none' (dead (m := fun _ => stuckM) (fun ρ => ?_) fun _ _ => rfl)
      show guardM _ (match C.fn f with | some fi => _ | none => _) = _
      rw [hf]
      simp only [hc]
      rfl
    | none =>
      by_cases ht : f = "_law_told"
      · subst ht
        by_cases ha : ∃ a body scope lpos, args = [.Lambda a body scope lpos]
        · obtain ⟨a, body, scope, lpos, rfl⟩ := ha
          by_cases hl : (C.lam && lamOk C a scope) = true
          · obtain ⟨l1, l2⟩ := Bool.and_eq_true_iff.mp hl
            refine cut (m := fun ρ => toldM (evE n (C.lamIn scope) body (wipeE ρ (ownIx C.N scope)))) (fun ρ => ?_) (to G p lpos pos a body scope l1 l2 hf hc hg1)
            show guardM _ (match C.fn "_law_told" with | some fi => _ | none => _) = _
            rw [hf]
            simp only [hc]
            show guardM _ (guardM (C.lam && lamOk C a scope) _) = _
            rw [hl]
            rfl
          · refine none' (dead (m := fun _ => stuckM) (fun ρ => ?_) fun _ _ => rfl)
            show guardM _ (match C.fn "_law_told" with | some fi => _ | none => _) = _
            rw [hf]
            simp only [hc]
            show guardM _ (guardM (C.lam && lamOk C a scope) _) = _
            funext st
            unfold guardM
            rw [if_neg hl]
        · refine none' (dead (m := fun _ => stuckM) (fun ρ => ?_) fun _ _ => rfl)
          show guardM _ (match C.fn "_law_told" with | some fi => _ | none => _) = _
          rw [hf]
          simp only [hc]
          rw [if_pos True.intro]
          cases args with
          | nil => rfl
          | cons a r =>
            cases r with
            | nil => cases a <;> first | rfl | exact absurd ⟨_, _, _, _, rfl⟩ ha
            | cons _ _ => cases a <;> rfl
      by_cases hi : f = "isinstance"
      · subst hi
        by_cases ha : ∃ e Ty q, args = [e, .Name Ty q]
        · obtain ⟨e, Ty, q, rfl⟩ := ha
          refine cut (m := fun ρ => guardM (bi C Ty && !isStar e && tyOk Ty) (bnd (evB n C e ρ) fun d => bnd (optM (isT Ty d)) fun b => ret (.bool b))) (fun ρ => ?_) (c_isi ih G p q e Ty pos hf hc hg1)
          show guardM _ (match C.fn "isinstance" with | some fi => _ | none => _) = _
          rw [hf]
          simp only [hc]
          rfl
        · refine none' (dead (m := fun _ => stuckM) (fun ρ => ?_) fun _ _ => rfl)
          show guardM _ (match C.fn "isinstance" with | some fi => _ | none => _) = _
          rw [hf]
          simp only [hc]
          rw [if_neg ht, if_pos True.intro]
          cases args with
          | nil => rfl
          | cons a r =>
            cases r with
            | nil => rfl
            | cons b r =>
              cases r with
              | nil => cases b <;> first | rfl | exact absurd ⟨_, _, _, rfl⟩ ha
              | cons _ _ => cases b <;> rfl
      cases hb : biOf f with
      | none =>
        refine none' (dead (m := fun _ => stuckM) (fun ρ => ?_) fun _ _ => rfl)
        show guardM _ (match C.fn f with | some fi => _ | none => _) = _
        rw [hf]
        simp only [hc]
        rw [if_neg ht, if_neg hi, hb]
        rfl
      | some b =>
        cases args with
        | nil =>
          refine none' (dead (m := fun _ => stuckM) (fun ρ => ?_) fun _ _ => rfl)
          show guardM _ (match C.fn f with | some fi => _ | none => _) = _
          rw [hf]
          simp only [hc]
          rw [if_neg ht, if_neg hi, hb]
          rfl
        | cons e es =>
          refine cut (m := fun ρ => bnd (evBs n C (e :: es) ρ) fun ds => biM b ds) (fun ρ => ?_) (c_bi ih G hf hc hb hg1 p pos e es hs)
          show guardM _ (match C.fn f with | some fi => _ | none => _) = _
          rw [hf]
          simp only [hc]
          rw [if_neg ht, if_neg hi, hb]
          rfl
theorem s_F (ih : Snd T n) (G : Good T W X C k) (e : Expr) : PE X e (tD (gX X T) W (rpF (gX X T)) (evF (n + 1) C e)) := by
  cases e with
  | List es pos => exact f_list ih G es pos
  | BinOp a op b pos => exact f_bin ih G a b op pos
  | ListComp elt gs scope pos =>
    cases gs with
    | nil => exact PE.void (tD.stuck fun _ _ => rfl)
    | cons g gs =>
      cases gs with
      | nil =>
        obtain ⟨tg, iter, ifs, a⟩ := g
        by_cases ha : a = 0
        · subst ha
          exact f_comp ih G elt tg iter ifs scope pos
        · refine PE.void (tD.stuck fun _ _ => ?_)
          cases a with
          | ofNat a =>
            cases a with
            | zero => exact absurd rfl ha
            | succ a => rfl
          | negSucc a => rfl
      | cons _ _ =>
        refine PE.void (tD.stuck fun _ _ => ?_)
        obtain ⟨_, _, _, a⟩ := g
        cases a with
        | ofNat a => cases a <;> rfl
        | negSucc a => rfl
  | _ => exact PE.void (tD.stuck fun _ _ => rfl)
/-- a new list as a value -/
theorem s_Fv (ih : Snd T n) (G : Good T W X C k) (e : Expr) : PE X e (tD (gX X T) W (rpD (gX X T)) fun ρ => bnd (evF n C e ρ) fun ds => ret (.list ds)) :=
  (ih.F G e).mono fun σ H Q ⟨w, st, hσ, E, h⟩ => by
    subst hσ
    exact ⟨w, st, rfl, E, Post.bind (rq := rpD _ w) h fun ds st1 v H1 e1 E1 r1 h1 => h1.now E1 (rp := rpD _ w) (rpF.toD r1)⟩
theorem s_E (ih : Snd T n) (G : Good T W X C k) (e : Expr) : PE X e (tD (gX X T) W (rpD (gX X T)) (evE (n + 1) C e)) := by
  cases e with
  | Constant c j pos => exact snd_const
  | Name x pos => exact snd_nameM G
  | BinOp a op b pos =>
    refine (bin_ev ih G a b op pos).mono fun σ H Q h => ?_
    obtain ⟨w, st, h1, h2, h3⟩ := h
    exact ⟨w, st, h1, h2, h3.weak fun H v d r => rpX.toD r⟩
  | UnaryOp op a pos =>
    cases op with
    | Not => exact s_not ih G a pos
    | _ => exact s_un ih G _ (by simp) a pos
  | BoolOp op vs pos => exact ih.Bo G op vs pos
  | IfExp t a b pos => exact s_if ih G t a b pos
  | Tuple es j pos => exact s_tuple ih G es j pos
  | Compare a ops bs pos =>
    cases ops with
    | nil => exact s_Fv ih G _
    | cons op ops =>
      cases ops with
      | nil =>
        cases bs with
        | nil => exact s_Fv ih G _
        | cons b bs =>
          cases bs with
          | nil => exact s_cmp1 ih G a b op pos
          | cons _ _ => exact s_Fv ih G _
      | cons op' ops =>
        cases ops with
        | nil =>
          cases bs with
          | nil => exact s_Fv ih G _
          | cons b bs =>
            cases bs with
            | nil => exact s_Fv ih G _
            | cons c bs =>
              cases bs with
              | nil => exact s_cmp2 ih G a b c op op' pos
              | cons _ _ => exact s_Fv ih G _
        | cons _ _ => cases bs with
            | nil => exact s_Fv ih G _
            | cons b bs => cases bs <;> exact s_Fv ih G _
  | Subscript a i pos =>
    by_cases hi : ∃ lo hi p, i = .Slice lo hi none p
    · obtain ⟨lo, hi, p, rfl⟩ := hi
      exact s_slice ih G a lo hi p pos
    · have hi' : ∀ lo hi p, i ≠ .Slice lo hi none p := fun lo h p e => hi ⟨lo, h, p, e⟩
      refine (s_ix ih G a i pos hi').mono fun σ H Q h => ?_
      have e : evE (n + 1) C (.Subscript a i pos) = fun ρ => (match stCell C a ρ with
      | true => bnd (evE n C i ρ) fun y => fun st => ixM (.list st) y st
      | false => bnd (evB n C a ρ) fun x => bnd (evE n C i ρ) fun y => ixM x y) := by
        funext ρ
        cases i with
        | Slice lo h2 st p =>
          cases st with
          | none => exact absurd rfl (hi' lo h2 p)
          | some _ => rfl
        | _ => rfl
      rw [e] at h
      exact h
  | Call func args kws pos =>
    cases func with
    | Name f p =>
      cases kws with
      | nil => exact ih.Ca G f p args pos
      | cons _ _ => exact s_Fv ih G _
    | _ => exact s_Fv ih G _
  | _ => exact s_Fv ih G _
theorem snd_step (ih : Snd T n) (to : ToldOk T n) : Snd T (n + 1) where
  E G e := s_E ih G e
  F G e := s_F ih G e
  B G e := s_B ih G e
  Wk G br e := s_W ih G br e
  Te G e := s_T ih G e
  Ts G op vs pos := s_Ts ih G op vs pos
  Bo G op vs pos := s_Bo ih G op vs pos
  Es G es := s_Es ih G es
  Bs G es := s_Bs ih G es
  O G o := s_O ih G o
  I G br tg e := s_I ih G br tg e
  If G es := s_If ih G es
  Ca G f p args pos := s_Ca ih to G f p args pos
theorem snd_zero : Snd T 0 where
  E G e := PE.void (tD.stuck fun _ _ => rfl)
  F G e := PE.void (tD.stuck fun _ _ => rfl)
  B G e := PE.void (tD.stuck fun _ _ => rfl)
  Wk G br e := PE.void (tD.stuck fun _ _ => rfl)
  Te G e := PT.void (tD.stuck fun _ _ => rfl)
  Ts G op vs pos := PW.void (tD.stuck fun _ _ => rfl)
  Bo G op vs pos := PE.void (tD.stuck fun _ _ => rfl)
  Es G es := PA.void (tD.stuck fun _ _ => rfl)
  Bs G es := PA.void (tD.stuck fun _ _ => rfl)
  O G o := PO.void (tD.stuck fun _ _ => rfl)
  I G br tg e := PI.void (tD.stuck fun _ _ => rfl)
  If G es := PTs.void (tD.stuck fun _ _ => rfl)
  Ca G f p args pos := PE.void (tD.stuck fun _ _ => rfl)
end
end DI
end
section
set_option linter.all false
set_option autoImplicit false
set_option maxRecDepth 100000
set_option maxHeartbeats 2000000
/-! D23: _law_told(lambda ..) is sound. -/
namespace DI
open PySem PySem.Spec L2
open PyProof.Rows hiding St
open LamX
section
variable {T : List (Addr × Str)} {W : EW} {X : Cx} {C : Ctx} {k n : Nat}
/-- the lambda's parameters, as lamOk has them -/
theorem lam_shape {a : Arguments} {scope : Scope} (h : lamOk C a scope = true) : ∃ pl ds, LamDef a pl ds ∧ lamNames C.sc scope pl = true := by
  unfold lamOk at h
  split at h
  · exact ⟨[], [], .none, h⟩
  · exact ⟨_, _, .one _ _ _ _ _, h⟩
  · cases h
theorem lam_names {sc scope : Scope} {pl : List Str} (h : lamNames sc scope pl = true) : LamS3 sc scope pl := by
  unfold lamNames at h
  simp only [Bool.and_eq_true, decide_eq_true_eq, Bool.not_eq_true', List.all_eq_true] at h
  obtain ⟨⟨⟨⟨h1, h2⟩, h3⟩, h4⟩, h5⟩ := h
  refine ⟨h1, h2, h3, fun y hy e => ?_, h5, fun y hy e => ?_⟩
  · have z := h4 y hy
    rw [e] at z
    cases z
  · have z := h4 y hy
    rw [e] at z
    simp only [Bool.and_eq_true] at z
    have z2 := z.2
    split at z2
    · exact .inl (by assumption)
    · exact .inr (by assumption)
    · cases z2
theorem ix_has : ∀ {N : List Str} {i : Nat} {y : Str}, N[i]? = some y → ∃ j, ixOf N y = some j
  | [], _, _, h => by simp at h
  | z :: r, i, y, h => by
    unfold ixOf
    by_cases e : y = z
    · rw [if_pos e]; exact ⟨0, rfl⟩
    · rw [if_neg e]
      cases i with
      | zero => simp at h; exact absurd h.symm e
      | succ i =>
        obtain ⟨j, hj⟩ := ix_has (i := i) (by simpa using h)
        exact ⟨j + 1, by rw [hj]; rfl⟩
theorem own_all {C : Ctx} {scope : Scope} (nd : C.N.Nodup) : ∀ i y, C.N[i]? = some y → scope.names.lookup y = some .local → i ∈ ownIx C.N scope := fun i y h1 h2 => by
  obtain ⟨j, hj⟩ := ix_has h1
  have e : j = i := nodup_ix nd (ixOf_get hj) h1
  subst e
  exact own_mem (C := C) (scope := scope) (x := y) (by show locB scope y = true; unfold locB; rw [h2]) hj
/-- the world in the lambda -/
def Wd.lam (w : Wd) (vs : List Nat) : Wd := ⟨w.Hid, w.p, wipe w.σ vs, wipeE w.ρ vs, w.H0⟩
theorem ERep.lam {g : Gd} {w : Wd} {H : Hp} {st : Stt} (E : ERep g w H st) (vs : List Nat) : ERep g (w.lam vs) H st := by
  refine ⟨by show (wipeE w.ρ vs).length = (wipe w.σ vs).length; rw [wipe_length, wipeE_length]; exact E.len, fun i sv h => ?_, fun i j ds es a h1 h2 h3 h4 => ?_, E.stt, E.tabs, E.dom, E.old⟩
  · obtain ⟨h1, h2⟩ := wipeE_some (show (wipeE w.ρ vs)[i]? = _ from h)
    obtain ⟨v, a, b⟩ := E.slot i sv h1
    exact ⟨v, (wipe_keep h2).trans a, b⟩
  · exact E.own i j ds es a (wipeE_some (show (wipeE w.ρ vs)[i]? = _ from h1)).1 (wipeE_some (show (wipeE w.ρ vs)[j]? = _ from h2)).1 (wipe_some (show (wipe w.σ vs)[i]? = _ from h3)).1 (wipe_some (show (wipe w.σ vs)[j]? = _ from h4)).1
/-- behind the making of the lambda -/
theorem made_evo {p : Option Addr} {H H1 : Hp} (e : ExtN H H1) (d : ∀ b, H b ≠ none → H1 b ≠ none) : Evo p H H1 := ⟨fun b o _ h t => e b o h t, d⟩
theorem StRep.ext {K : PySem.W.Frag} {Hid : Addr → Prop} {p : Option Addr} {H H' : Hp} {st : Stt} (s : StRep K Hid p H st) (e : ExtN H H') : StRep K Hid p H' st := by
  cases p with
  | none => exact s
  | some a =>
    obtain ⟨h1, h2, vs, h3, h4⟩ := s
    exact ⟨h1, h2, vs, e _ _ h3 (by intro ps z; cases z), Kp.dps (fun b o h n => by obtain ⟨q1, q2⟩ := hide_in h; exact in_hide (e _ _ q1 n) q2) st vs h4⟩
theorem kindOf_ix {c w : Str} (h : kindOfErr c = some w) : ∃ i : Nat, toldKinds[i]? = some c ∧ toldWords[i]? = some w := by
  unfold kindOfErr at h
  have hm := PySem.mem_of_lookup h
  simp only [List.mem_cons, Prod.mk.injEq, List.not_mem_nil, or_false] at hm
  rcases hm with ⟨rfl, rfl⟩ | ⟨rfl, rfl⟩ | ⟨rfl, rfl⟩ | ⟨rfl, rfl⟩ | ⟨rfl, rfl⟩
  · exact ⟨0, rfl, rfl⟩
  · exact ⟨1, rfl, rfl⟩
  · exact ⟨2, rfl, rfl⟩
  · exact ⟨3, rfl, rfl⟩
  · exact ⟨4, rfl, rfl⟩
theorem told_ok (ih : Snd T n) : ToldOk T n := by
  intro W X C k G p lpos pos a body scope hl hok hf hc hg
  obtain ⟨⟨c, P, hcode, TB, hmT, hu⟩, TF⟩ := G.told hl
  obtain ⟨gt, fd, params, q, sg, csc, SC, hline, hmt, hkt, FD, hbt⟩ := TF.fn
  obtain ⟨oc, od, dV, kV, doc, pm, an, cdv, ct, osl, rfl, lk, hcd, _, _⟩ := FD.ex
  obtain ⟨pl, ds, LD, LN⟩ := lam_shape hok
  have L : LamS3 X.env.scope scope pl := by rw [G.sc]; exact lam_names LN
  have hr2 : Room (k + 2) X.A := by
    have r := G.room
    rw [if_pos hl] at r
    exact r
  obtain ⟨g1, g2⟩ := G.gl hg
  refine ⟨fun pins s σ H Q I h => ?_⟩
  obtain ⟨w, st, hσ, E, h⟩ := h
  subst hσ
  refine wpAny_Call_Name_kw (ld_glob I g1 hmt ?_ (by decide))
  refine PySem.W.callWith_K (h₀ := X.base) I.ok.mod.kin hkt ?_ (by rfl) (by rfl)
  show wpAny _ _ (spliced ((false, eval (.Lambda a body scope lpos) X.env) :: backTo pos (starEach [] X.env))) _ _ s
  refine Calls.spliced_cons (lam_make3 I TB hcode hmT hu E.tabs (L.has I.ok) LD fun f c' H1 s' I1 Md => ?_)
  refine Calls.spliced_nil ⟨I1.kIn, ?_⟩
  have ev1 : Evo w.p H H1 := made_evo Md.ext Md.dom
  have E1 : ERep (gX X T) w H1 st := E.evo ev1 (E.stt.ext Md.ext) Md.tabs
  -- what is wanted of an error
  let W' : EW := fun e H2 => ∃ kd, kindOfErr e.cls = some kd ∧ ∀ (b : Addr) (H3 : Hp), (∀ x o, H2 x = some o → H3 x = some o) → H2 b = none → H3 b = some (.tup [.str kd]) → Q (.ref b) H3
  let Q' : VK := fun v H2 => ∀ b, H2 b = none → Q (.ref b) (upd H2 b (.tup [.str "told", v]))
  have back : ∀ {H2 : Hp} {st2 : Stt}, Evo w.p H1 H2 → ERep (gX X T) (w.lam (ownIx C.N scope)) H2 st2 → Evo w.p H H2 ∧ ERep (gX X T) w H2 st2 := fun {H2 st2} e2 E2 => ⟨ev1.tr e2, E1.evo e2 E2.stt E2.tabs⟩
  have hm : Post (gX X T) W' (w.lam (ownIx C.N scope)) (rpD (gX X T) (w.lam (ownIx C.N scope))) H1 (evE n (C.lamIn scope) body (wipeE w.ρ (ownIx C.N scope)) st) Q' := by
    have h : Post (gX X T) W w (rpD (gX X T) w) H (toldM (evE n (C.lamIn scope) body (wipeE w.ρ (ownIx C.N scope))) st) Q := h
    unfold toldM at h
    cases hr : evE n (C.lamIn scope) body (wipeE w.ρ (ownIx C.N scope)) st with
    | ok d st' =>
      rw [hr] at h
      intro v H2 e2 E2 r2 b hb
      obtain ⟨z1, z2⟩ := back e2 E2
      exact h (.ref b) _ (z1.tr (Evo.new hb)) (z2.new hb) (new_tuple z2 hb (.cons (Rp.str _) (.cons r2 .nil)))
    | err e st' =>
      rw [hr] at h
      intro H2 e2 E2
      obtain ⟨z1, z2⟩ := back e2 E2
      have h : Post (gX X T) W w (rpD (gX X T) w) H (match kindOfErr e.cls with
        | some k => R.ok (PyData.tuple [.str k]) st'
        | none => R.stuck) Q := h
      cases hk : kindOfErr e.cls with
      | none => rw [hk] at h; exact h.elim
      | some kd =>
        rw [hk] at h
        refine ⟨kd, hk, fun b H3 kp hb h3 => ?_⟩
        have nh : ¬ w.Hid b := fun z => z2.dom b z hb
        exact h (.ref b) H3 (z1.tr (Evo.of kp)) (z2.kp kp) (Rp.tup (SqT.of (in_hide h3 nh)) (.cons (Rp.str _) .nil))
    | stuck => rw [hr] at h; exact h
  -- the def that calls it
  have rc : codeAny (model X.prog X.w) X.A (.call (.ref gt) ⟨[.ref f], []⟩) (CR C8.CX0 X.stack X.prog X.w H1 s' Q C8.E0) s' := by
    refine run_ofS (N := toldN) (ps := ["call"]) (us := [.ref f]) (vs := [.ref f]) lk hcd SC.S hr2 I1.env0 (hbt s' [.ref f] I1.kIn rfl) (.cons rfl .nil) rfl fun hr' => ?_
    let Z : Cx := (cxOf C8.CX0 X.prog X.w X.K X.mg X.base toldN "_law_told" sg gt cdv X.A X.stack s' H1 C8.E0).nox
    obtain ⟨CS, hCS, hex⟩ := TF.C.err
    have suite : ∀ (a : Addr) (oe : Obj) (cls : Value) (d : Option Addr) (pn : List (Addr × Obj)), L2N.Zn cls d oe → (∃ vs, oe.data = .fields vs) → PSs (Z.suite a ((a, oe) :: pn)) [toldS1 q, toldS2 q csc, toldS3 q] (toldTs (He.ga X.K) a cls d) := fun a oe cls d pn hz hf =>
      suite_ok (X := Z) rfl rfl SC (fun _ => rfl) TF.C TF.bi hline hz hf
    have body' : ∀ (WW : WX) (pn : List (Addr × Obj)) (xe : Value → Shared → Prop), L2N.Takes (Z.tr pn xe) WW → PassesOwn (model Z.prog Z.w) Z.A Z.env xe → PSs (Z.tr pn xe) [toldTry q]
        (fun D σ H => (∀ cls d H', wx X W' cls d [] H' → WW cls d (L2.start toldN [V.ref f]) H') ∧ σ = L2.start toldN [V.ref f] ∧ σ[0]? = some (some (.ref f)) ∧ H c' = some (CodeO c' (X.env.qual ++ "<lambda>")) ∧ tD (gX X T) W' (rpD (gX X T)) (evE n (C.lamIn scope) body) (wipe w.σ (ownIx C.N scope)) H fun v H2 => ∀ b, H2 b = none → D.rt (.ref b) (upd H2 b (.tup [.str "told", v]))) := fun WW pn xe tk po => by
      refine ⟨fun pinsZ sZ σZ HZ D IZ hZ => ?_⟩
      obtain ⟨z1, z0, z2, z3, z4⟩ := hZ
      have act := pe_act3 (i := 0) (p1 := q 1) (p2 := q 2) (pn := pn) (xe := xe) (E := fun cls d H => wx X W' cls d [] H) (tb := tD (gX X T) W' (rpD (gX X T)) (evE n (C.lamIn scope) body)) (vs := ownIx C.N scope) (CXg := C8.CX0) (Eg := C8.E0) (Ng := toldN) (qg := "_law_told") (sg := sg) (g := gt) (cdg := cdv)
        I1 G.nd G.gd L LD Md (fun i y h1 h2 => own_all (by rw [← G.N]; exact G.nd) i y (by rw [← G.N]; exact h1) h2) (a := "call") tk z1 hr'
        (fun A outer s2 H2 hgd hr3 => ih.E (X := lamCxN X A outer s2 H2 (fun cls d H => wx X W' cls d [] H) scope f c') (C := C.lamIn scope) (k := k)
          ⟨G.N, rfl, G.nd, rfl, (L2N.takes_of rfl rfl rfl rfl), hgd, hr3, (fun z => absurd (show false = true from z) (by simp)), G.con, G.bi, G.fn⟩ body)
        rfl (.inl SC.call) (by decide) (by decide)
      have P := pss_one (ps_ret (pos := q 4) (pe_tup (x1 := 0) (pos := q 3) (pa_cons (pe_str (x := "told") (j := 0) (pos := q 0)) (pa_cons act pa_nil))))
      refine P.run pinsZ sZ σZ HZ D IZ ?_
      refine ⟨z0, z2, z3, ?_⟩
      obtain ⟨w4, st4, y1, y2, y3⟩ := z4
      exact ⟨w4, st4, y1, y2, y3.ends (rp' := rpD _ w4) fun d st5 v H5 e5 E5 r5 => .inr ⟨r5, fun y => ⟨sz2, fun b hb => y b hb⟩⟩⟩
    have try' := L2N.ps_try_as (X := Z) (i := 1) (np := q 5) (pos := q 66) (pos' := q 65) (n := "e") (x := "HandError") (c := .ref CS) (Wout := fun _ _ _ _ => False) rfl rfl (by show toldN.Nodup; decide) rfl SC.e ⟨SC.gl "HandError" (by simp), by decide, .inl hCS⟩
      (fun u s' ⟨_, _, _, _, _, _, _, _, _, _, _, _, _, _, _, _, z⟩ => z.elim) body' suite
    refine ⟨_, (pss_one try').nox, ?_⟩
    refine ⟨fun cls d H' hw => ?_, rfl, rfl, Md.code, w.lam (ownIx C.N scope), st, rfl, E1.lam _, hm⟩
    obtain ⟨e, rfl, rfl, kd, hk, hq⟩ := hw
    obtain ⟨i, hi1, hi2⟩ := kindOf_ix hk
    refine ⟨true, hex _ (kinds_mem hi1), fun _ a ha => ⟨e.cls, kd, i, hi1, hi2, rfl, rfl, rfl, rfl, fun p H3 kp hp h3 => hq p H3 kp hp h3⟩, fun z => by cases z⟩
  refine wpAny_call (codeAny_mono rc fun r s2 hq => ?_)
  match r, hq with
  | .error e, hq => exact (show False from hq).elim
  | .ok (.ret u), hq => exact I1.after hq
end
end DI
end
section
set_option linter.all false
set_option autoImplicit false
set_option maxRecDepth 100000
/-! D15: statements: what is wanted behind them; sharing; writes. -/
namespace DI
open PySem PySem.Spec L2
open PyProof.Rows hiding St
/-- how a def was entered -/
structure Bs where
  Hid : Addr → Prop
  p : Option Addr
  H : Hp
structure BOk (B : Bs) (w : Wd) (H : Hp) : Prop where
  sub : ∀ a, B.Hid a → w.Hid a
  dom : ∀ a, B.Hid a → B.H a ≠ none
  pp : w.p = B.p ∨ (B.p = none ∧ ∃ a, w.p = some a ∧ B.H a = none)
  ev : Evo B.p B.H H
  own : ∀ (i : Nat) (ds : List D) (a : Addr), w.ρ[i]? = some (some (.ow ds)) → w.σ[i]? = some (some (.ref a)) → B.H a = none
  pin : ∀ a, B.p = some a → B.Hid a
structure Stp (w : Wd) (H : Hp) (w' : Wd) (H' : Hp) : Prop where
  kp : Kp (hide w.Hid H) (hide w'.Hid H')
  dom : ∀ b, H b ≠ none → H' b ≠ none
theorem Stp.rfl' {w : Wd} {H : Hp} : Stp w H w H := ⟨Kp.rfl', fun _ h => h⟩
theorem Stp.tr {w w1 w2 : Wd} {H H1 H2 : Hp} (a : Stp w H w1 H1) (b : Stp w1 H1 w2 H2) : Stp w H w2 H2 := ⟨a.kp.tr b.kp, fun c h => b.dom c (a.dom c h)⟩
/-- what a def leaves -/
def Left (g : Gd) (B : Bs) (H : Hp) (st : Stt) : Prop := Evo B.p B.H H ∧ LamX.Tabs g.T H ∧ ∀ a, B.p = some a → StRep g.K B.Hid B.p H st
def PostS (g : Gd) (W : EW) (B : Bs) (w : Wd) (H : Hp) (r : R (Fl × DI.Env)) (D : Ends) : Prop := match r with
  | .ok (.nx, ρ') st' => ∀ w' H', w'.ρ = ρ' → BOk B w' H' → Stp w H w' H' → ERep g w' H' st' → D.nx w'.σ H'
  | .ok (.bk, ρ') st' => ∀ w' H', w'.ρ = ρ' → BOk B w' H' → Stp w H w' H' → ERep g w' H' st' → D.bk w'.σ H'
  | .ok (.ct, ρ') st' => ∀ w' H', w'.ρ = ρ' → BOk B w' H' → Stp w H w' H' → ERep g w' H' st' → D.ct w'.σ H'
  | .ok (.rt d, _) st' => ∀ v H', Left g B H' st' → Rp g.K (hide B.Hid H') v d → D.rt v H'
  | .err e st' => ∀ H', Left g B H' st' → W e H'
  | .stuck => False
section
variable {g : Gd} {W : EW} {B : Bs} {w w' : Wd} {H H' : Hp} {st st' : Stt} {D : Ends}
theorem PostS.later {r : R (Fl × DI.Env)} (h : PostS g W B w H r D) (s : Stp w H w' H') : PostS g W B w' H' r D := by
  match r, h with
  | .ok (.nx, ρ') st', h => exact fun w2 H2 a b c => h w2 H2 a b (s.tr c)
  | .ok (.bk, ρ') st', h => exact fun w2 H2 a b c => h w2 H2 a b (s.tr c)
  | .ok (.ct, ρ') st', h => exact fun w2 H2 a b c => h w2 H2 a b (s.tr c)
  | .ok (.rt d, _) st', h => exact h
  | .err e st', h => exact h
/-- an expression's step -/
theorem Stp.of (E : ERep g w H st) (e : Evo w.p H H') : Stp w H w H' := ⟨E.kph e, e.dom⟩
theorem BOk.evo (b : BOk B w H) (e : Evo w.p H H') : BOk B w H' := by
  refine ⟨b.sub, b.dom, b.pp, ⟨fun c o n h t => ?_, fun c h => e.dom c (b.ev.dom c h)⟩, b.own, b.pin⟩
  refine e.kp c o (fun z => ?_) (b.ev.kp c o n h t) t
  rcases b.pp with q | ⟨q, a, q1, q2⟩
  · exact n (q ▸ z)
  · rw [q1] at z
    cases z
    rw [q2] at h
    cases h
theorem BOk.left (b : BOk B w H) (E : ERep g w H st) : Left g B H st := by
  refine ⟨b.ev, E.tabs, fun a ha => ?_⟩
  have hp : w.p = B.p := by
    rcases b.pp with q | ⟨q, _⟩
    · exact q
    · rw [ha] at q; cases q
  have s := E.stt
  rw [hp] at s
  rw [ha] at s ⊢
  obtain ⟨h1, h2, vs, h3, h4⟩ := s
  exact ⟨b.pin a ha, h2, vs, h3, Kp.dps (fun c o h n => by obtain ⟨q1, q2⟩ := hide_in h; exact in_hide q1 fun z => q2 (b.sub c z)) st vs h4⟩
theorem BOk.val (b : BOk B w H) {v : V} {d : DI.D} (r : rpD g w H v d) : Rp g.K (hide B.Hid H) v d := Kp.dp (fun c o h n => by obtain ⟨q1, q2⟩ := hide_in h; exact in_hide q1 fun z => q2 (b.sub c z)) d v r
/-- an expression, then the rest -/
theorem PostS.bind {α β : Type} {r : R α} {f : α → M (Fl × DI.Env)} {rp : Hp → β → α → Prop} {Q : β → Hp → Prop} (h : PostS g W B w H (r.next f) D) (b : BOk B w H) (E : ERep g w H st)
    (k : ∀ a st1 x H1, Evo w.p H H1 → ERep g w H1 st1 → BOk B w H1 → rp H1 x a → PostS g W B w H1 (f a st1) D → Q x H1) : Post g W w rp H r Q := by
  cases r with
  | ok a st' => exact fun x H1 e1 E1 r1 => k a st' x H1 e1 E1 (b.evo e1) r1 (PostS.later h (Stp.of E e1))
  | err x st' => exact fun H1 e1 E1 => h H1 ((b.evo e1).left E1)
  | stuck => exact h
/-- .. told from where it began -/
theorem PostS.bind0 {α β : Type} {r : R α} {f : α → M (Fl × DI.Env)} {rp : Hp → β → α → Prop} {Q : β → Hp → Prop} (h : PostS g W B w H (r.next f) D) (b : BOk B w H) (E : ERep g w H st)
    (k : ∀ a st1 x H1, Evo w.p H H1 → ERep g w H1 st1 → BOk B w H1 → rp H1 x a → PostS g W B w H (f a st1) D → Q x H1) : Post g W w rp H r Q := by
  cases r with
  | ok a st' => exact fun x H1 e1 E1 r1 => k a st' x H1 e1 E1 (b.evo e1) r1 h
  | err x st' => exact fun H1 e1 E1 => h H1 ((b.evo e1).left E1)
  | stuck => exact h
theorem PostS.grd {c : Bool} {m : M (Fl × DI.Env)} (h : PostS g W B w H (guardM c m st) D) : c = true ∧ PostS g W B w H (m st) D := by
  unfold guardM at h
  split at h
  · exact ⟨by assumption, h⟩
  · exact h.elim
theorem PostS.opt {α : Type} {o : Option α} {f : α → M (Fl × DI.Env)} (h : PostS g W B w H (bnd (optM o) f st) D) : ∃ a, o = some a ∧ PostS g W B w H (f a st) D := by
  cases o with
  | none => exact h.elim
  | some a => exact ⟨a, rfl, h⟩
theorem PostS.nx' {ρ' : DI.Env} (h : PostS g W B w H (.ok (.nx, ρ') st') D) (e : w'.ρ = ρ') (b : BOk B w' H') (s : Stp w H w' H') (E : ERep g w' H' st') : D.nx w'.σ H' := h w' H' e b s E
end
/-- the reading of a statement -/
def tSD (g : Gd) (W : EW) (m : DI.Env → M (Fl × DI.Env)) : TS := fun D σ H => ∃ (B : Bs) (w : Wd) (st : Stt), w.σ = σ ∧ BOk B w H ∧ ERep g w H st ∧ PostS g W B w H (m w.ρ st) D
/-! ### sharing -/
section
variable {g : Gd} {B : Bs} {H : Hp} {st : Stt}
/-- a slot's value by its place, data as they were -/
def Wd.show' (w : Wd) (a : Addr) (ρ : DI.Env) : Wd := { w with Hid := fun b => w.Hid b ∧ b ≠ a, ρ := ρ }
theorem share_at {w : Wd} (E : ERep g w H st) (b : BOk B w H) (i : Nat) : ∃ w' : Wd, w'.σ = w.σ ∧ w'.ρ = shareAt w.ρ i ∧ ERep g w' H st ∧ BOk B w' H ∧ Stp w H w' H := by
  have same : shareAt w.ρ i = w.ρ → ∃ w' : Wd, w'.σ = w.σ ∧ w'.ρ = shareAt w.ρ i ∧ ERep g w' H st ∧ BOk B w' H ∧ Stp w H w' H := fun e => ⟨w, rfl, e.symm, E, b, Stp.rfl'⟩
  cases hs : w.ρ[i]? with
  | none => exact same (by unfold shareAt; rw [hs])
  | some o =>
    cases o with
    | none => exact same (by unfold shareAt; rw [hs])
    | some sv =>
      have set_same : ∀ sv', w.ρ[i]? = some (some sv') → w.ρ.set i (some sv') = w.ρ := fun sv' h => by
        refine List.ext_getElem? fun j => ?_
        rw [List.getElem?_set]
        split
        · rename_i e
          subst e
          obtain ⟨hl, _⟩ := List.getElem?_eq_some_iff.mp h
          rw [if_pos hl, h]
        · rfl
      cases sv with
      | sh d => exact same (by unfold shareAt; rw [hs]; exact set_same _ hs)
      | stt => exact same (by unfold shareAt; rw [hs]; exact set_same _ hs)
      | ow ds =>
        have e : shareAt w.ρ i = w.ρ.set i (some (.sh (.list ds))) := by unfold shareAt; rw [hs]; rfl
        obtain ⟨v, hv, a, vs, rfl, h2, h3, h4, h5⟩ := E.slot i _ hs
        have hB : B.H a = none := b.own i ds a hs hv
        have kp : Kp (hide w.Hid H) (hide (fun b => w.Hid b ∧ b ≠ a) H) := fun c o h n => by
          obtain ⟨q1, q2⟩ := hide_in h
          exact in_hide q1 fun z => q2 z.1
        have na : ∀ {c o}, hide w.Hid H c = some o → c ≠ a := fun {c o} h z => (hide_in h).2 (z ▸ h2)
        have here : Rp g.K (hide (fun b => w.Hid b ∧ b ≠ a) H) (.ref a) (.list ds) := .lst (.inl (in_hide h4 fun z => z.2 rfl)) (kp.dps ds vs h5)
        refine ⟨w.show' a (shareAt w.ρ i), rfl, rfl, ?_, ?_, ⟨kp, fun _ h => h⟩⟩
        · rw [e]
          refine ⟨by show (w.ρ.set i _).length = _; rw [List.length_set]; exact E.len, fun j sv h0 => ?_, fun j1 j2 ds1 ds2 a2 g1 g2 g3 g4 => ?_, ?_, E.tabs, fun c h => E.dom c h.1, E.old⟩
          · have h : (w.ρ.set i (some (.sh (.list ds))))[j]? = some (some sv) := h0
            show ∃ v, w.σ[j]? = _ ∧ _
            rw [List.getElem?_set] at h
            by_cases hij : i = j
            · subst hij
              rw [if_pos rfl] at h
              split at h
              · cases h
                exact ⟨_, hv, here⟩
              · cases h
            · rw [if_neg hij] at h
              obtain ⟨u, u1, u2⟩ := E.slot j sv h
              refine ⟨u, u1, ?_⟩
              cases sv with
              | sh d => exact kp.dp d u u2
              | stt => exact u2
              | ow es =>
                obtain ⟨a', us, rfl, q2, q3, q4, q5⟩ := u2
                exact ⟨a', us, rfl, ⟨q2, fun z => hij (E.own i j ds es a hs h hv (z ▸ u1))⟩, q3, q4, kp.dps es us q5⟩
          · have pick : ∀ {j : Nat} {ds' : List D}, (w.ρ.set i (some (SV.sh (.list ds))))[j]? = some (some (SV.ow ds')) → w.ρ[j]? = some (some (SV.ow ds')) := fun {j ds'} h => by
              rw [List.getElem?_set] at h
              split at h
              · split at h <;> cases h
              · exact h
            exact E.own j1 j2 ds1 ds2 a2 (pick g1) (pick g2) g3 g4
          · have s := E.stt
            show StRep g.K _ w.p H st
            cases hp : w.p with
            | none => rw [hp] at s; exact s
            | some q =>
              rw [hp] at s
              obtain ⟨q1, q2, us, q3, q4⟩ := s
              exact ⟨⟨q1, fun z => h3 (by rw [hp, z])⟩, q2, us, q3, kp.dps st us q4⟩
        · refine ⟨fun c h => ⟨b.sub c h, fun z => b.dom c h (z ▸ hB)⟩, b.dom, b.pp, b.ev, fun j es c h1 h2 => ?_, b.pin⟩
          refine b.own j es c ?_ h2
          have h : (shareAt w.ρ i)[j]? = some (some (.ow es)) := h1
          rw [e, List.getElem?_set] at h
          split at h
          · split at h <;> cases h
          · exact h
theorem share_ok (C : Ctx) : ∀ (xs : List Str) {w : Wd}, ERep g w H st → BOk B w H → ∃ w' : Wd, w'.σ = w.σ ∧ w'.ρ = share C xs w.ρ ∧ ERep g w' H st ∧ BOk B w' H ∧ Stp w H w' H
  | [], w, E, b => ⟨w, rfl, rfl, E, b, Stp.rfl'⟩
  | x :: xs, w, E, b => by
    have h1 : ∃ w1 : Wd, w1.σ = w.σ ∧ w1.ρ = (match ixOf C.N x with | some i => shareAt w.ρ i | none => w.ρ) ∧ ERep g w1 H st ∧ BOk B w1 H ∧ Stp w H w1 H := by
      cases ixOf C.N x with
      | none => exact ⟨w, rfl, rfl, E, b, Stp.rfl'⟩
      | some i => exact share_at E b i
    obtain ⟨w1, a1, a2, a3, a4, a5⟩ := h1
    obtain ⟨w2, c1, c2, c3, c4, c5⟩ := share_ok C xs a3 a4
    refine ⟨w2, c1.trans a1, ?_, c3, c4, a5.tr c5⟩
    rw [c2, a2]
    rfl
/-- sharing first -/
theorem tSD.share {W : EW} {m : DI.Env → M (Fl × DI.Env)} {C : Ctx} {xs : List Str} {D : Ends} {σ : L2.St} (h : tSD g W (fun ρ => m (DI.share C xs ρ)) D σ H) : tSD g W m D σ H := by
  obtain ⟨B, w, st, hσ, b, E, p⟩ := h
  obtain ⟨w', a1, a2, a3, a4, a5⟩ := share_ok C xs E b
  exact ⟨B, w', st, a1.trans hσ, a4, a3, by rw [a2]; exact p.later a5⟩
/-! ### writes -/
/-- an owned list is rewritten -/
theorem own_write {w : Wd} (E : ERep g w H st) (b : BOk B w H) {i : Nat} {a : Addr} {ds ds' : List D} {vs : List V} (hs : w.ρ[i]? = some (some (.ow ds))) (hv : w.σ[i]? = some (some (.ref a))) (r : RpAll g.K (hide w.Hid H) vs ds') :
    ERep g { w with ρ := w.ρ.set i (some (.ow ds')) } (upd H a (.lst vs)) st ∧ BOk B { w with ρ := w.ρ.set i (some (.ow ds')) } (upd H a (.lst vs)) ∧ Stp w H { w with ρ := w.ρ.set i (some (.ow ds')) } (upd H a (.lst vs)) := by
  obtain ⟨v, hv', a', us, rfl, h2, h3, h4, h5⟩ := E.slot i _ hs
  rw [hv] at hv'
  cases hv'
  have hB : B.H a = none := b.own i ds a hs hv
  have kp : Kp (hide w.Hid H) (hide w.Hid (upd H a (.lst vs))) := fun c o h n => by
    obtain ⟨q1, q2⟩ := hide_in h
    exact in_hide (by rw [upd_ne (show c ≠ a from fun z => q2 (z ▸ h2))]; exact q1) q2
  have pick : ∀ {j : Nat} {es : List D}, (w.ρ.set i (some (.ow ds')))[j]? = some (some (.ow es)) → ∃ es', w.ρ[j]? = some (some (.ow es')) := fun {j es} h => by
    rw [List.getElem?_set] at h
    split at h
    · rename_i e
      subst e
      exact ⟨ds, hs⟩
    · exact ⟨es, h⟩
  have ev : Evo B.p B.H (upd H a (.lst vs)) := ⟨fun c o n h t => by rw [upd_ne (show c ≠ a from fun z => by subst z; rw [hB] at h; cases h)]; exact b.ev.kp c o n h t, fun c h => by
    rw [upd_ne (show c ≠ a from fun z => h (z ▸ hB))]
    exact b.ev.dom c h⟩
  refine ⟨⟨by show (w.ρ.set i _).length = _; rw [List.length_set]; exact E.len, fun j sv h0 => ?_, fun j1 j2 ds1 ds2 a2 g1 g2 g3 g4 => ?_, ?_, ?_, fun c h => ?_, fun c h => ?_⟩, ⟨b.sub, b.dom, b.pp, ev, fun j es c h1 h2 => ?_, b.pin⟩, ⟨kp, fun c h => ?_⟩⟩
  · have h : (w.ρ.set i (some (.ow ds')))[j]? = some (some sv) := h0
    show ∃ v, w.σ[j]? = _ ∧ _
    rw [List.getElem?_set] at h
    by_cases hij : i = j
    · subst hij
      rw [if_pos rfl] at h
      split at h
      · cases h
        exact ⟨_, hv, a, vs, rfl, h2, h3, upd_same, kp.dps _ _ r⟩
      · cases h
    · rw [if_neg hij] at h
      obtain ⟨u, u1, u2⟩ := E.slot j sv h
      refine ⟨u, u1, ?_⟩
      cases sv with
      | sh d => exact kp.dp d u u2
      | stt => exact u2
      | ow es =>
        obtain ⟨a', us', rfl, q2, q3, q4, q5⟩ := u2
        have ne : a' ≠ a := fun z => hij (E.own i j ds es a hs h hv (z ▸ u1))
        exact ⟨a', us', rfl, q2, q3, by rw [upd_ne ne]; exact q4, kp.dps es us' q5⟩
  · obtain ⟨e1, p1⟩ := pick g1
    obtain ⟨e2, p2⟩ := pick g2
    exact E.own j1 j2 e1 e2 a2 p1 p2 g3 g4
  · have s := E.stt
    show StRep g.K _ w.p _ st
    cases hp : w.p with
    | none => rw [hp] at s; exact s
    | some q =>
      rw [hp] at s
      obtain ⟨q1, q2, us', q3, q4⟩ := s
      exact ⟨q1, q2, us', by rw [upd_ne (show q ≠ a from fun z => h3 (by rw [hp, z]))]; exact q3, kp.dps st us' q4⟩
  · intro p hp
    obtain ⟨ps, t1, t2, t3⟩ := E.tabs p hp
    refine ⟨ps, by rw [upd_ne (show p.1 ≠ a from fun z => by rw [z, h4] at t1; cases t1)]; exact t1, t2, fun pos cv hc => ?_⟩
    obtain ⟨c, e1, e2⟩ := t3 pos cv hc
    exact ⟨c, e1, by rw [upd_ne (show c ≠ a from fun z => by rw [z, h4] at e2; cases e2)]; exact e2⟩
  · by_cases z : c = a
    · subst z; rw [upd_same]; simp
    · rw [upd_ne z]; exact E.dom c h
  · by_cases z : c = a
    · subst z; rw [upd_same]; simp
    · rw [upd_ne z]; exact E.old c h
  · obtain ⟨es', p1⟩ := pick h1
    exact b.own j es' c p1 h2
  · by_cases z : c = a
    · subst z; rw [upd_same]; simp
    · rw [upd_ne z]; exact h
/-- the state is rewritten -/
theorem stt_write {w : Wd} (E : ERep g w H st) (b : BOk B w H) {p : Addr} (hp : w.p = some p) {vs : List V} {st' : Stt} (n : st' ≠ []) (r : RpAll g.K (hide w.Hid H) vs st') :
    ERep g w (upd H p (.lst vs)) st' ∧ BOk B w (upd H p (.lst vs)) ∧ Stp w H w (upd H p (.lst vs)) := by
  have s := E.stt
  rw [hp] at s
  obtain ⟨q1, q2, us, q3, q4⟩ := s
  have e : Evo w.p H (upd H p (.lst vs)) := ⟨fun c o n h t => by rw [upd_ne (show c ≠ p from fun z => n (by rw [hp, z]))]; exact h, fun c h => by
    by_cases z : c = p
    · subst z; rw [upd_same]; simp
    · rw [upd_ne z]; exact h⟩
  have kp := E.kph e
  refine ⟨E.evo e ?_ ?_, b.evo e, Stp.of E e⟩
  · rw [hp]
    exact ⟨q1, n, vs, upd_same, kp.dps _ _ r⟩
  · intro q hq
    obtain ⟨ps, t1, t2, t3⟩ := E.tabs q hq
    refine ⟨ps, by rw [upd_ne (show q.1 ≠ p from fun z => by rw [z, q3] at t1; cases t1)]; exact t1, t2, fun pos cv hc => ?_⟩
    obtain ⟨c, e1, e2⟩ := t3 pos cv hc
    exact ⟨c, e1, by rw [upd_ne (show c ≠ p from fun z => by rw [z, q3] at e2; cases e2)]; exact e2⟩
/-- a slot is set to shared data -/
theorem BOk.set {w : Wd} {σ' : L2.St} {ρ' : DI.Env} (b : BOk B w H) (o : OwnK w.ρ ρ' w.σ σ') : BOk B { w with σ := σ', ρ := ρ' } H :=
  ⟨b.sub, b.dom, b.pp, b.ev, fun i ds a h1 h2 => by
    obtain ⟨z1, z2⟩ := o i ds h1
    exact b.own i ds a z1 (by rw [← z2]; exact h2), b.pin⟩
/-- a new list is owned -/
theorem own_new {w : Wd} {H1 : Hp} {a : Addr} {vs : List V} {ds : List D} (E1 : ERep g w H1 st) (n : H1 a = none) (b : BOk B w H1) (r : RpAll g.K (hide w.Hid H1) vs ds) (i : Nat) :
    ERep g ⟨hid2 w.Hid a, w.p, w.σ.set i (some (.ref a)), w.ρ.set i (some (.ow ds)), w.H0⟩ (upd H1 a (.lst vs)) st ∧ BOk B ⟨hid2 w.Hid a, w.p, w.σ.set i (some (.ref a)), w.ρ.set i (some (.ow ds)), w.H0⟩ (upd H1 a (.lst vs)) ∧ Stp w H1 ⟨hid2 w.Hid a, w.p, w.σ.set i (some (.ref a)), w.ρ.set i (some (.ow ds)), w.H0⟩ (upd H1 a (.lst vs)) := by
  have nh : ¬ w.Hid a := fun z => E1.dom a z n
  have np : w.p ≠ some a := fun z => nh (E1.stt.hid a z)
  have E2 : ERep g (w.blk a []) (upd H1 a (.lst vs)) st := ERep.blk (by rw [ers_upd n]; exact E1) upd_same nh
  have hB : B.H a = none := by
    cases q : B.H a with
    | none => rfl
    | some o => exact absurd n (b.ev.dom a (by rw [q]; simp))
  have nown : ∀ (j : Nat) es, j ≠ i → w.ρ[j]? = some (some (.ow es)) → w.σ[j]? ≠ some (some (.ref a)) := fun j es _ h z => by
    obtain ⟨v, hv, a', us, e, q2, q3, q4, q5⟩ := E1.slot j _ h
    rw [z] at hv
    cases hv
    cases e
    exact nh q2
  have sv : SRep g.K (hid2 w.Hid a) w.p (upd H1 a (.lst vs)) (.ref a) (.ow ds) := ⟨a, vs, rfl, .inr rfl, np, upd_same, by rw [hide_ers, ers_upd n]; exact r⟩
  refine ⟨E2.set i sv fun a' ds' e e2 j es hj h => ?_, ⟨fun c h => .inl (b.sub c h), b.dom, b.pp, ?_, fun j es c h1 h2 => ?_, b.pin⟩, ⟨fun c o h _ => ?_, fun c h => ?_⟩⟩
  · cases e2
    exact nown j es hj h
  · exact ⟨fun c o nn h t => by rw [upd_ne (show c ≠ a from fun z => by subst z; rw [hB] at h; cases h)]; exact b.ev.kp c o nn h t, fun c h => by
      rw [upd_ne (show c ≠ a from fun z => h (z ▸ hB))]
      exact b.ev.dom c h⟩
  · have h1 : (w.ρ.set i (some (.ow ds)))[j]? = some (some (.ow es)) := h1
    have h2 : (w.σ.set i (some (.ref a)))[j]? = some (some (.ref c)) := h2
    rw [List.getElem?_set] at h1 h2
    by_cases hij : i = j
    · rw [if_pos hij] at h2
      split at h2
      · cases h2; exact hB
      · cases h2
    · rw [if_neg hij] at h1 h2
      exact b.own j es c h1 h2
  · obtain ⟨q1, q2⟩ := hide_in h
    have ne : c ≠ a := fun z => by subst z; rw [n] at q1; cases q1
    exact in_hide (by rw [upd_ne ne]; exact q1) fun z => z.elim q2 ne
  · by_cases z : c = a
    · subst z; rw [upd_same]; simp
    · rw [upd_ne z]; exact h
/-- the state is laid -/
theorem stt_new {w : Wd} {H1 : Hp} {a : Addr} {vs : List V} {ds : List D} (E1 : ERep g w H1 []) (n : H1 a = none) (b : BOk B w H1) (hd : ds ≠ []) (r : RpAll g.K (hide w.Hid H1) vs ds) (i : Nat) :
    ERep g ⟨hid2 w.Hid a, some a, w.σ.set i (some (.ref a)), w.ρ.set i (some .stt), w.H0⟩ (upd H1 a (.lst vs)) ds ∧ BOk B ⟨hid2 w.Hid a, some a, w.σ.set i (some (.ref a)), w.ρ.set i (some .stt), w.H0⟩ (upd H1 a (.lst vs)) ∧ Stp w H1 ⟨hid2 w.Hid a, some a, w.σ.set i (some (.ref a)), w.ρ.set i (some .stt), w.H0⟩ (upd H1 a (.lst vs)) := by
  have nh : ¬ w.Hid a := fun z => E1.dom a z n
  have np : w.p = none := by
    have s := E1.stt
    cases hp : w.p with
    | none => rfl
    | some q => rw [hp] at s; exact absurd rfl s.2.1
  have E2 : ERep g (w.blk a []) (upd H1 a (.lst vs)) [] := ERep.blk (by rw [ers_upd n]; exact E1) upd_same nh
  have hB : B.H a = none := by
    cases q : B.H a with
    | none => rfl
    | some o => exact absurd n (b.ev.dom a (by rw [q]; simp))
  have hbp : B.p = none := by
    rcases b.pp with q | ⟨q, _⟩
    · rw [← q]; exact np
    · exact q
  have E3 : ERep g ⟨hid2 w.Hid a, some a, w.σ, w.ρ, w.H0⟩ (upd H1 a (.lst vs)) ds := by
    refine ⟨E2.len, fun j sv h => ?_, E2.own, ⟨.inr rfl, hd, vs, upd_same, by rw [hide_ers, ers_upd n]; exact r⟩, E2.tabs, E2.dom, E2.old⟩
    obtain ⟨v, h1, h2⟩ := E2.slot j sv h
    refine ⟨v, h1, ?_⟩
    cases sv with
    | sh d => exact h2
    | stt =>
      obtain ⟨q, _, q2⟩ := h2
      have q2 : w.p = some q := q2
      rw [np] at q2
      cases q2
    | ow es =>
      obtain ⟨v', hv', a', us, e, z2, z3, z4, z5⟩ := E1.slot j _ h
      obtain ⟨a2, us2, e2, y2, y3, y4, y5⟩ := h2
      have hv2 : w.σ[j]? = some (some v) := h1
      rw [hv'] at hv2
      cases hv2
      rw [e] at e2
      cases e2
      refine ⟨a', us2, e, y2, fun q => ?_, y4, y5⟩
      cases q
      exact nh z2
  refine ⟨E3.set i ⟨a, rfl, rfl⟩ (fun a' ds' e => by cases e), ⟨fun c h => .inl (b.sub c h), b.dom, .inr ⟨hbp, a, rfl, hB⟩, ?_, fun j es c h1 h2 => ?_, b.pin⟩, ⟨fun c o h _ => ?_, fun c h => ?_⟩⟩
  · exact ⟨fun c o nn h t => by rw [upd_ne (show c ≠ a from fun z => by subst z; rw [hB] at h; cases h)]; exact b.ev.kp c o nn h t, fun c h => by
      rw [upd_ne (show c ≠ a from fun z => h (z ▸ hB))]
      exact b.ev.dom c h⟩
  · obtain ⟨z1, z2⟩ := (OwnK.set (ρ := w.ρ) (σ := w.σ) i (v := .ref a) (sv := .stt) (fun ds z => by cases z)) j es h1
    exact b.own j es c z1 (by rw [← z2]; exact h2)
  · obtain ⟨q1, q2⟩ := hide_in h
    have ne : c ≠ a := fun z => by subst z; rw [n] at q1; cases q1
    exact in_hide (by rw [upd_ne ne]; exact q1) fun z => z.elim q2 ne
  · by_cases z : c = a
    · subst z; rw [upd_same]; simp
    · rw [upd_ne z]; exact h
end
end DI
end
section
set_option linter.all false
set_option autoImplicit false
set_option maxRecDepth 100000
/-! D16: the evaluator of statements is sound. -/
namespace DI
open PySem PySem.Spec L2
open PyProof.Rows hiding St
/-! ### a value's datum is one -/
def DetH (K : PySem.W.Frag) (H : Hp) : Prop := ∀ v d d', Rp K H v d → Rp K H v d' → d = d'
theorem DetH.all {K : PySem.W.Frag} {H : Hp} (h : DetH K H) : ∀ {ds ds' : List D} {vs : List V}, RpAll K H vs ds → RpAll K H vs ds' → ds = ds'
  | [], _, _, a, b => by cases a; cases b; rfl
  | d :: ds, _, _, a, b => by
    cases a with
    | cons a1 a2 =>
      cases b with
      | cons b1 b2 => rw [h _ _ _ a1 b1, DetH.all h a2 b2]
section
variable {X : Cx} {pins : List (Addr × Obj)} {σ : L2.St} {H : Hp} {s : Shared}
theorem lt_apart (I : Inv X pins σ H s) {a : Addr} {xs ys : List V} (h : Rd H a (.lst xs)) (h' : SqT X.K H a ys) : False := by
  obtain ⟨its, r, ⟨o, n, e, c, _, d⟩, _⟩ := I.list (.inl h)
  obtain ⟨its', r', ⟨o', e', c', n', d'⟩, _⟩ := I.tuple h'
  rw [e] at e'; cases e'
  rw [c] at c'
  exact absurd c' (by simp)
mutual
theorem rp_det (I : Inv X pins σ H s) : ∀ (d : D) (v : V) (d' : D), Rp X.K H v d → Rp X.K H v d' → d = d'
  | .none, _, _, a, b => by cases a; cases b; rfl
  | .bool _, _, _, a, b => by cases a; cases b; rfl
  | .int _, _, _, a, b => by cases a; cases b; rfl
  | .str _, _, _, a, b => by cases a; cases b; rfl
  | .list ds, _, d', a, b => by
    cases a with
    | lst h1 h2 =>
      cases b with
      | lst g1 g2 =>
        have e := I.list_inj (.inl h1) (.inl g1)
        subst e
        rw [rps_det I ds _ _ h2 g2]
      | tup g1 g2 => exact (lt_apart I h1 g1).elim
  | .tuple ds, _, d', a, b => by
    cases a with
    | tup h1 h2 =>
      cases b with
      | lst g1 g2 => exact (lt_apart I g1 h1).elim
      | tup g1 g2 =>
        have e := I.tuple_inj h1 g1
        subst e
        rw [rps_det I ds _ _ h2 g2]
  | .dict _, _, _, a, _ => by cases a
theorem rps_det (I : Inv X pins σ H s) : ∀ (ds : List D) (vs : List V) (ds' : List D), RpAll X.K H vs ds → RpAll X.K H vs ds' → ds = ds'
  | [], _, _, a, b => by cases a; cases b; rfl
  | d :: ds, _, _, a, b => by
    cases a with
    | cons a1 a2 =>
      cases b with
      | cons b1 b2 => rw [rp_det I d _ _ a1 b1, rps_det I ds _ _ a2 b2]
end
theorem _root_.L2.PS.det {X : Cx} {st : Stmt} {t : TS} (h : PS X st t) : PS X st (fun D σ H => t { D with nx := fun σ H => DetH X.K H → D.nx σ H } σ H) := by
  refine ⟨fun pins s σ H D I q => ?_⟩
  refine thn (h.run pins s σ H _ I q) fun f s1 hs => ?_
  cases f with
  | next =>
    obtain ⟨σ', H', I', q⟩ := hs
    exact ⟨σ', H', I', q fun v d d' => rp_det I' d v d'⟩
  | brk => exact hs
  | cont => exact hs
  | ret u => exact hs
end
theorem _root_.L2.PS.monoS {X : Cx} {st : Stmt} {t t' : TS} (h : PS X st t) (k : ∀ D σ H, t' D σ H → t D σ H) : PS X st t' := ⟨fun pins s σ H D I q => h.run pins s σ H D I (k D σ H q)⟩
theorem _root_.L2.PSs.monoS {X : Cx} {st : List Stmt} {t t' : TS} (h : PSs X st t) (k : ∀ D σ H, t' D σ H → t D σ H) : PSs X st t' := ⟨fun pins s σ H D I q => h.run pins s σ H D I (k D σ H q)⟩
theorem PS.void {X : Cx} {st : Stmt} {t : TS} (h : ∀ D σ H, ¬ t D σ H) : PS X st t := ⟨fun _ _ σ H D _ q => (h D σ H q).elim⟩
theorem tSD.stuck {g : Gd} {W : EW} {m : DI.Env → M (Fl × DI.Env)} (h : ∀ ρ st, m ρ st = .stuck) (D : Ends) (σ : L2.St) (H : Hp) : ¬ tSD g W m D σ H := fun ⟨B, w, st, _, _, _, p⟩ => by
  rw [h] at p
  exact p
/-- a context that the statements' evaluator serves -/
structure GoodS (T : List (Addr × Str)) (W : EW) (X : Cx) (C : Ctx) (k : Nat) : Prop where
  G : Good T W X C k
  tg : TgOk X C.sc
  own : PassesOwn (model X.prog X.w) X.A X.env X.xe
  exc : ∀ c ∈ C.exc, ∀ (m : Str) (j : Nat) (p p2 pos : Pos), Gl X c → badName c = false → L2N.PMk X (.Call (.Name c p) [.Constant (.str m) j p2] [] pos) (fun _ H Q => Q (.ref (He.ga X.K c)) none H)
structure SndS (T : List (Addr × Str)) (n : Nat) : Prop where
  S : ∀ {W : EW} {X : Cx} {C : Ctx} {k : Nat}, GoodS T W X C k → ∀ s, PS X s (tSD (gX X T) W (evS n C s))
  Ss : ∀ {W : EW} {X : Cx} {C : Ctx} {k : Nat}, GoodS T W X C k → ∀ s, PSs X s (tSD (gX X T) W (evSs n C s))
section
variable {T : List (Addr × Str)} {W : EW} {X : Cx} {C : Ctx} {k n : Nat}
/-- sharing first, then m -/
theorem ps_share {s : Stmt} {m : DI.Env → M (Fl × DI.Env)} {xs : List Str} (h : PS X s (tSD (gX X T) W m)) : PS X s (tSD (gX X T) W fun ρ => m (share C xs ρ)) := h.monoS fun D σ H q => tSD.share q
theorem st_ret (ih : Snd T n) (G : GoodS T W X C k) (e : Expr) (pos : Pos) : PS X (.Return (some e) pos) (tSD (gX X T) W fun ρ => bnd (evE n C e ρ) fun d => ret (.rt d, ρ)) := by
  refine (ps_ret (ih.E G.G e)).monoS fun D σ H ⟨B, w, st, hσ, b, E, p⟩ => ?_
  subst hσ
  exact ⟨w, st, rfl, E, PostS.bind (rp := rpD _ w) p b E fun d st1 v H1 e1 E1 b1 r1 h1 => h1 v H1 (b1.left E1) (b1.val r1)⟩
theorem st_retN (pos : Pos) : PS X (.Return none pos) (tSD (gX X T) W fun ρ => ret (.rt .none, ρ)) := by
  refine ps_retN.monoS fun D σ H ⟨B, w, st, hσ, b, E, p⟩ => ?_
  exact p .non H (b.left E) Rp.non
theorem st_nx {s : Stmt} (h : PS X s tNext) : PS X s (tSD (gX X T) W fun ρ => ret (.nx, ρ)) := by
  refine h.monoS fun D σ H ⟨B, w, st, hσ, b, E, p⟩ => ?_
  subst hσ
  exact p w H rfl b Stp.rfl' E
theorem st_bk (pos : Pos) : PS X (.Break pos) (tSD (gX X T) W fun ρ => ret (.bk, ρ)) := by
  refine ps_break.monoS fun D σ H ⟨B, w, st, hσ, b, E, p⟩ => ?_
  subst hσ
  exact p w H rfl b Stp.rfl' E
theorem st_ct (pos : Pos) : PS X (.Continue pos) (tSD (gX X T) W fun ρ => ret (.ct, ρ)) := by
  refine ps_continue.monoS fun D σ H ⟨B, w, st, hσ, b, E, p⟩ => ?_
  subst hσ
  exact p w H rfl b Stp.rfl' E
theorem swaps_no {e : Expr} {tg : Option Expr} {l : Nat} {env : PySem.Env} (h : isComp e = false) : swapsWith e tg l env = pure false := by
  cases e <;> first | rfl | cases h
theorem swaps_some {e tg : Expr} {l : Nat} {env : PySem.Env} (h : ∀ x p, tg ≠ .Name x p) : swapsWith e (some tg) l env = pure false := by
  cases e <;> first | rfl | (cases tg <;> first | rfl | exact absurd rfl (h _ _))
theorem st_expr (ih : Snd T n) (G : GoodS T W X C k) (e : Expr) (pos : Pos) : PS X (.Expr e pos) (tSD (gX X T) W fun ρ => guardM (!isComp e) (bnd (evE n C e ρ) fun _ => ret (.nx, ρ))) := by
  by_cases hc : isComp e = true
  · refine PS.void (tSD.stuck fun ρ st => ?_)
    rw [hc]
    rfl
  refine (ps_expr (ih.E G.G e) (swaps_no (by simpa using hc))).monoS fun D σ H ⟨B, w, st, hσ, b, E, p⟩ => ?_
  subst hσ
  obtain ⟨_, p⟩ := PostS.grd p
  exact ⟨w, st, rfl, E, PostS.bind (rp := rpD _ w) p b E fun d st1 v H1 e1 E1 b1 r1 h1 => h1 w H1 rfl b1 Stp.rfl' E1⟩
theorem st_raise (G : GoodS T W X C k) (c m : Str) (j : Nat) (p p2 pos pos' : Pos) : PS X (.Raise (some (.Call (.Name c p) [.Constant (.str m) j p2] [] pos)) none pos') (tSD (gX X T) W fun ρ => guardM (gl C c && decide (c ∈ C.exc)) (throwM ⟨c⟩)) := by
  by_cases hc : (gl C c && decide (c ∈ C.exc)) = true
  case neg =>
    refine PS.void (tSD.stuck fun ρ st => ?_)
    unfold guardM
    rw [if_neg hc]
  obtain ⟨h1, h2⟩ := Bool.and_eq_true_iff.mp hc
  obtain ⟨g1, g2⟩ := G.G.gl h1
  refine (L2N.ps_raise G.G.calm G.G.tk (G.exc c (of_decide_eq_true h2) m j p p2 pos g1 g2)).monoS fun D σ H ⟨B, w, st, hσ, b, E, q⟩ => ?_
  obtain ⟨_, q⟩ := PostS.grd q
  exact ⟨⟨c⟩, rfl, rfl, q H (b.left E)⟩
theorem st_if (ih : Snd T n) (ihs : SndS T n) (G : GoodS T W X C k) (t : Expr) (a b : List Stmt) (pos : Pos) : PS X (.If t a b pos) (tSD (gX X T) W fun ρ => bnd (evT n C t ρ) fun c => if c = true then evSs n C a ρ else evSs n C b ρ) := by
  refine (ps_if (ih.Te G.G t) (ihs.Ss G a) (ihs.Ss G b)).monoS fun D σ H ⟨B, w, st, hσ, bo, E, p⟩ => ?_
  subst hσ
  refine ⟨w, st, rfl, E, PostS.bind (rp := rpT w) p bo E fun c st1 c' H1 e1 E1 b1 r1 h1 => ?_⟩
  have e : c' = c := r1
  subst e
  cases c' with
  | true => exact ⟨B, w, st1, rfl, b1, E1, h1⟩
  | false => exact ⟨B, w, st1, rfl, b1, E1, h1⟩
/-! ### names -/
theorem nm_ok {x : Str} (h : nmOk C x = true) : badName x = false ∧ locB C.sc x = true ∧ ∃ i, ixOf C.N x = some i ∧ ∀ sv ρ, asgName C x sv ρ = some (ρ.set i (some sv)) := by
  unfold nmOk at h
  simp only [Bool.and_eq_true, Bool.not_eq_true', Option.isSome_iff_exists] at h
  obtain ⟨⟨h1, h2⟩, i, h3⟩ := h
  refine ⟨h1, h2, i, h3, fun sv ρ => ?_⟩
  unfold asgName
  rw [if_pos ⟨h1, h2⟩, h3]
  rfl
/-- behind the value of a shared datum -/
theorem asg_sh {B : Bs} {w : Wd} {H : Hp} {st : Stt} {D : Ends} {v : V} {d : DI.D} {i : Nat} (p : PostS (gX X T) W B w H (.ok (.nx, w.ρ.set i (some (.sh d))) st) D) (b : BOk B w H) (E : ERep (gX X T) w H st) (r : rpD (gX X T) w H v d) : D.nx (w.σ.set i (some v)) H :=
  p { w with σ := w.σ.set i (some v), ρ := w.ρ.set i (some (.sh d)) } H rfl (b.set (OwnK.set i fun ds z => by cases z)) ⟨Kp.rfl', fun _ h => h⟩ (E.set i (sv := .sh d) r fun a ds z => by cases z)
/-- the same world, its heap before told -/
def Wd.now (w : Wd) (H : Hp) : Wd := { w with H0 := H }
theorem ERep.now {w : Wd} {H : Hp} {st : Stt} {g : Gd} (E : ERep g w H st) : ERep g (w.now H) H st := ⟨E.len, E.slot, E.own, E.stt, E.tabs, E.dom, fun _ h => h⟩
theorem BOk.now {B : Bs} {w : Wd} {H : Hp} (b : BOk B w H) (H0 : Hp) : BOk B (w.now H0) H := ⟨b.sub, b.dom, b.pp, b.ev, b.own, b.pin⟩
theorem PostS.now {B : Bs} {w : Wd} {H : Hp} {g : Gd} {r : R (Fl × DI.Env)} {D : Ends} (h : PostS g W B w H r D) (H0 : Hp) : PostS g W B (w.now H0) H r D := PostS.later h ⟨Kp.rfl', fun _ h => h⟩
/-- .. of a new list -/
theorem asg_ow {B : Bs} {w : Wd} {Hs H : Hp} {st st0 : Stt} {D : Ends} {v : V} {ds : List DI.D} {i : Nat} (p : PostS (gX X T) W B w Hs (.ok (.nx, w.ρ.set i (some (.ow ds))) st) D) (h0 : w.H0 = Hs) (b : BOk B w Hs) (e : Evo w.p Hs H) (Es : ERep (gX X T) w Hs st0) (E : ERep (gX X T) w H st) (r : rpF (gX X T) w H v ds) (det : DetH X.K H) : D.nx (w.σ.set i (some v)) H := by
  obtain ⟨a, vs, H1, st', rfl, n, rfl, E1, E2, rr⟩ := r
  have es : st' = st := by
    have s := E.stt
    have s' := E2.stt
    cases hp : w.p with
    | none => rw [hp] at s s'; exact (show st' = [] from s').trans (show st = [] from s).symm
    | some q =>
      rw [hp] at s s'
      obtain ⟨_, _, us, q3, q4⟩ := s
      obtain ⟨_, _, us', q3', q4'⟩ := s'
      rw [q3] at q3'
      cases q3'
      exact DetH.all det (kp_hide.dps _ _ q4') (kp_hide.dps _ _ q4)
  subst es
  have nS : Hs a = none := by
    cases q : Hs a with
    | none => rfl
    | some o => exact absurd n (E1.old a (by rw [h0, q]; simp))
  have e1 : Evo w.p Hs H1 := ⟨fun c o hn h t => by
    have ne : c ≠ a := fun z => by subst z; rw [nS] at h; cases h
    have z := e.kp c o hn h t
    rw [upd_ne ne] at z
    exact z, fun c h => by
    have ne : c ≠ a := fun z => h (z ▸ nS)
    have z := e.dom c h
    rw [upd_ne ne] at z
    exact z⟩
  obtain ⟨z1, z2, z3⟩ := own_new E1 n (b.evo e1) rr i
  exact p _ _ rfl z2 ((Stp.of Es e1).tr z3) z1
end
end DI
end
section
set_option linter.all false
set_option autoImplicit false
set_option maxRecDepth 100000
/-! D17: assignments, append, loops; the step of the statements. -/
namespace DI
open PySem PySem.Spec L2
open PyProof.Rows hiding St
section
variable {T : List (Addr × Str)} {W : EW} {X : Cx} {C : Ctx} {k n : Nat}
/-! ### name = e -/
theorem evV_next {e : Expr} {ρ : DI.Env} {f : SV → M (Fl × DI.Env)} (h : isFresh e = false) : bnd (evV n C e ρ) f = bnd (evE n C e ρ) fun d => f (.sh d) := by
  funext st
  unfold evV
  rw [if_neg (by rw [h]; simp)]
  exact next_next _ _ _
theorem evV_next' {e : Expr} {ρ : DI.Env} {f : SV → M (Fl × DI.Env)} (h : isFresh e = true) : bnd (evV n C e ρ) f = bnd (evF n C e ρ) fun ds => f (.ow ds) := by
  funext st
  unfold evV
  rw [if_pos h]
  exact next_next _ _ _
theorem asg_name {x : Str} (h : nmOk C x = true) {i : Nat} (hi : ixOf C.N x = some i) (sv : SV) (ρ : DI.Env) : asgName C x sv ρ = some (ρ.set i (some sv)) := by
  obtain ⟨_, _, j, hj, h4⟩ := nm_ok h
  rw [hi] at hj
  cases hj
  exact h4 sv ρ
theorem st_name (ihs : ∀ m, m ≤ n → Snd T m) (G : GoodS T W X C k) (x : Str) (py : Pos) (e : Expr) (pos : Pos) (hm : C.mkst ≠ some x) :
    PS X (.Assign [.Name x py] e pos) (tSD (gX X T) W fun ρ => guardM (nmOk C x) (bnd (evV n C e ρ) fun sv => bnd (optM (asgName C x sv ρ)) fun ρ' => ret (.nx, ρ'))) := by
  have ih := ihs n (Nat.le_refl n)
  by_cases hx : nmOk C x = true
  case neg =>
    refine PS.void (tSD.stuck fun ρ st => ?_)
    unfold guardM
    rw [if_neg hx]
  obtain ⟨h1, h2, i, hi, h4⟩ := nm_ok hx
  have hN : X.N[i]? = some x := by rw [G.G.N]; exact ixOf_get hi
  by_cases hf : isFresh e = true
  case neg =>
    have hf : isFresh e = false := by simpa using hf
    by_cases hc : isComp e = true
    · refine PS.void (tSD.stuck fun ρ st => ?_)
      unfold guardM
      rw [if_pos hx, evV_next hf]
      cases n with
      | zero => rfl
      | succ m => cases e <;> first | (cases hc; done) | (cases hf; done) | (cases m <;> rfl)
    refine (ps_set G.G.nd hN (G.tg x h2).1 (ih.E G.G e) (swaps_no (by simpa using hc)) (G.tg x h2).2).monoS fun D σ H ⟨B, w, st, hσ, b, E, p⟩ => ?_
    subst hσ
    obtain ⟨_, p⟩ := PostS.grd p
    rw [evV_next hf] at p
    refine ⟨w, st, rfl, E, PostS.bind (rp := rpD _ w) p b E fun d st1 v H1 e1 E1 b1 r1 p1 => ?_⟩
    rw [asg_name hx hi] at p1
    exact asg_sh p1 b1 E1 r1
  have fin : ∀ {D : Ends} {σ : L2.St} {H : Hp}, tSD (gX X T) W (fun ρ => guardM (nmOk C x) (bnd (evV n C e ρ) fun sv => bnd (optM (asgName C x sv ρ)) fun ρ' => ret (.nx, ρ'))) D σ H →
      tD (gX X T) W (rpF (gX X T)) (evF n C e) σ H fun v H1 => DetH X.K H1 → D.nx (σ.set i (some v)) H1 := fun {D σ H} ⟨B, w, st, hσ, b, E, p⟩ => by
    subst hσ
    obtain ⟨_, p⟩ := PostS.grd p
    rw [evV_next' hf] at p
    refine ⟨w.now H, st, rfl, E.now, PostS.bind0 (rp := rpF _ (w.now H)) (p.now H) (b.now H) E.now fun ds st1 v H1 e1 E1 b1 r1 p1 det => ?_⟩
    rw [asg_name hx hi] at p1
    exact asg_ow (w := w.now H) p1 rfl (b.now H) e1 E.now E1 r1 det
  by_cases hl : ∃ elt tg iter ifs scope p2, e = .ListComp elt [⟨tg, iter, ifs, 0⟩] scope p2
  · obtain ⟨elt, tg, iter, ifs, scope, p2, rfl⟩ := hl
    cases n with
    | zero =>
      refine PS.void (tSD.stuck fun ρ st => ?_)
      unfold guardM
      rw [if_pos hx, evV_next' hf]
      rfl
    | succ m => exact ((set_comp (ihs m (Nat.le_succ m)) G.G G.tg elt tg iter ifs scope p2 pos py x i hi h2).det).monoS fun D σ H h => fin h
  · by_cases hc : isComp e = true
    · refine PS.void (tSD.stuck fun ρ st => ?_)
      unfold guardM
      rw [if_pos hx, evV_next' hf]
      cases e with
      | ListComp elt gs scope p2 =>
        cases n with
        | zero => rfl
        | succ m =>
          cases gs with
          | nil => rfl
          | cons g gs =>
            obtain ⟨tg, iter, ifs, a⟩ := g
            cases gs with
            | nil =>
              cases a with
              | ofNat a =>
                cases a with
                | zero => exact absurd ⟨_, _, _, _, _, _, rfl⟩ hl
                | succ a => rfl
              | negSucc a => rfl
            | cons _ _ =>
              cases a with
              | ofNat a => cases a <;> rfl
              | negSucc a => rfl
      | _ => first | (cases hc; done) | (cases hf; done)
    exact ((ps_set G.G.nd hN (G.tg x h2).1 (ih.F G.G e) (swaps_no (by simpa using hc)) (G.tg x h2).2).det).monoS fun D σ H h => fin h
/-! ### the state is made -/
theorem st_mk (ih : Snd T n) (G : GoodS T W X C k) (x : Str) (py : Pos) (es : List Expr) (p2 pos : Pos) :
    PS X (.Assign [.Name x py] (.List es p2) pos) (tSD (gX X T) W fun ρ => guardM (nmOk C x) (fun st => (match st with
            | [] => (bnd (evEs n C es ρ) fun ds => guardM (fits ds.length && !ds.isEmpty) fun _ => (match asgName C x .stt ρ with
              | some ρ' => R.ok (Fl.nx, ρ') ds
              | none => R.stuck)) []
            | _ => R.stuck))) := by
  by_cases hx : nmOk C x = true
  case neg =>
    refine PS.void (tSD.stuck fun ρ st => ?_)
    unfold guardM
    rw [if_neg hx]
  obtain ⟨h1, h2, i, hi, h4⟩ := nm_ok hx
  have hN : X.N[i]? = some x := by rw [G.G.N]; exact ixOf_get hi
  refine (ps_set G.G.nd hN (G.tg x h2).1 (pe_lst (ih.Es G.G es)) (swaps_no rfl) (G.tg x h2).2).monoS fun D σ H ⟨B, w, st, hσ, b, E, p⟩ => ?_
  subst hσ
  obtain ⟨_, p⟩ := PostS.grd p
  cases st with
  | cons _ _ => exact p.elim
  | nil =>
    have p : PostS (gX X T) W B w H (R.next (evEs n C es w.ρ []) fun ds => guardM (fits ds.length && !ds.isEmpty) fun _ => (match asgName C x .stt w.ρ with
              | some ρ' => R.ok (Fl.nx, ρ') ds
              | none => R.stuck)) D := p
    refine ⟨w, [], rfl, E, PostS.bind (rp := rpDs _ w) p b E fun ds st1 vs H1 e1 E1 b1 r1 p1 => ?_⟩
    obtain ⟨hb, p2⟩ := PostS.grd p1
    clear p1
    obtain ⟨hb1, hb2⟩ := Bool.and_eq_true_iff.mp hb
    rw [asg_name hx hi] at p2
    have hst : st1 = [] := by
      have s := E.stt
      have s1 := E1.stt
      cases hp : w.p with
      | none => rw [hp] at s1; exact s1
      | some q => rw [hp] at s; exact absurd rfl s.2.1
    subst hst
    refine ⟨by rw [RpAll.len r1]; exact fits_le hb1, fun a ha => ?_⟩
    obtain ⟨z1, z2, z3⟩ := stt_new E1 ha b1 (by intro e; subst e; simp at hb2) r1 i
    exact p2 _ _ rfl z2 z3 z1
theorem sole_tup {e : Expr} {es : List Expr} {j : Nat} {p : Pos} {l : Nat} {env : PySem.Env} : swapsWithSole [.Tuple es j p] e l env = pure false := swaps_some (tg := .Tuple es j p) (l := l) (env := env) fun _ _ => by simp
theorem sole_sub {e a i : Expr} {p : Pos} {l : Nat} {env : PySem.Env} : swapsWithSole [.Subscript a i p] e l env = pure false := swaps_some (tg := .Subscript a i p) (l := l) (env := env) fun _ _ => by simp
theorem sub_asg {o i : Expr} {pos : Pos} {env : PySem.Env} (h : isSl i = false) : ∀ v, assign (.Subscript o i pos) env v = (do
      let ov ← holding [v] (eval o env)
      let iv ← holding [v, ov] (eval i env)
      standAt pos
      holding [v, ov, iv] (setItem ov iv v)
      release [v, ov, iv] []) := fun v => by
  cases i <;> first | rfl | cases h
/-! ### a tuple of names -/
theorem st_tup (ih : Snd T n) (G : GoodS T W X C k) (es : List Expr) (j : Nat) (pt : Pos) (e : Expr) (pos : Pos) (he : ∀ vs j p, e ≠ .Tuple vs j p) :
    PS X (.Assign [.Tuple es j pt] e pos) (tSD (gX X T) W fun ρ => bnd (evE n C e ρ) fun d => bnd (optM (asg n C (.Tuple es j pt) d ρ)) fun ρ' => ret (.nx, ρ')) := by
  refine (ps_asg (ih.E G.G e) ((asg_ok (T := T) G.G.calm G.G.N.symm G.G.nd G.tg n).1 (.Tuple es j pt)) sole_tup ?_ rfl).monoS fun D σ H ⟨B, w, st, hσ, b, E, p⟩ => ?_
  · cases e <;> first | rfl | exact absurd rfl (he _ _ _)
  subst hσ
  refine ⟨w, st, rfl, E, PostS.bind (rp := rpD _ w) p b E fun d st1 v H1 e1 E1 b1 r1 p1 => ?_⟩
  obtain ⟨ρ', ha, p1⟩ := PostS.opt p1
  exact ⟨w, st1, d, ρ', rfl, E1, r1, ha, fun σ' E2 _ ow => p1 { w with σ := σ', ρ := ρ' } H1 rfl (b1.set ow) ⟨Kp.rfl', fun _ h => h⟩ E2⟩
/-! ### xs[i] = e, xs.append(e) -/
/-- a name's value, whatever it is -/
theorem pe_slot (G : GoodS T W X C k) (x : Str) (p : Pos) : PE X (.Name x p) (fun σ H Q => ∃ i v, ixOf C.N x = some i ∧ badName x = false ∧ visB C.sc x = true ∧ σ[i]? = some (some v) ∧ Q v H) := by
  by_cases h : badName x = false ∧ visB C.sc x = true ∧ ∃ i, ixOf C.N x = some i
  · obtain ⟨hb, hv, i, hi⟩ := h
    obtain ⟨b1, b2, b3⟩ := bad_no hb
    refine (pe_var (i := i) (by rw [G.G.N]; exact ixOf_get hi) (G.G.vis hv) b1 b2).mono fun σ H Q ⟨j, v, hj, _, _, h1, h2⟩ => ?_
    rw [hi] at hj
    cases hj
    exact ⟨v, h1, h2⟩
  · exact PE.void fun σ H Q ⟨i, v, h1, h2, h3, _⟩ => h ⟨h2, h3, i, h1⟩
theorem setD_ok {K : PySem.W.Frag} {H : Hp} {vs : List V} {ds ds' : List D} {v : V} {d j : D} (h : setD ds j d = some ds') (r : RpAll K H vs ds) (rv : Rp K H v d) : ∃ i m, j = .int i ∧ ixN vs.length i = some m ∧ RpAll K H (vs.set m v) ds' ∧ ds'.length = ds.length := by
  cases j with
  | int i =>
    unfold setD at h
    simp only [Option.map_eq_some_iff] at h
    obtain ⟨m, h1, rfl⟩ := h
    exact ⟨i, m, rfl, by rw [RpAll.len r]; exact h1, RpAll.set rv m r, by simp⟩
  | _ => cases h
theorem st_sub (ih : Snd T n) (G : GoodS T W X C k) (x : Str) (px : Pos) (i : Expr) (psb : Pos) (e : Expr) (pos : Pos) :
    PS X (.Assign [.Subscript (.Name x px) i psb] e pos) (tSD (gX X T) W fun ρ => guardM (!isSl i) <| bnd (evE n C e ρ) fun d => (match slotOf C ρ x, ixOf C.N x with
        | some (.ow ds), some k => bnd (evE n C i ρ) fun j => bnd (optM (setD ds j d)) fun ds' => ret (.nx, ρ.set k (some (.ow ds')))
        | some .stt, _ => bnd (evE n C i ρ) fun j => fun st => (match setD st j d with
          | some st' => R.ok (Fl.nx, ρ) st'
          | none => R.stuck)
        | _, _ => stuckM)) := by
  by_cases hsl : isSl i = true
  · refine PS.void (tSD.stuck fun ρ st => ?_)
    rw [hsl]
    rfl
  have hsl : isSl i = false := by simpa using hsl
  refine (ps_asg (ih.E G.G e) (pg_sub (pe_slot G x px) (ih.E G.G i) set_list (sub_asg hsl)) sole_sub rfl rfl).monoS fun D σ H ⟨B, w, st, hσ, b, E, p⟩ => ?_
  subst hσ
  obtain ⟨_, p⟩ := PostS.grd p
  refine ⟨w, st, rfl, E, PostS.bind (rp := rpD _ w) p b E fun d st1 v H1 e1 E1 b1 r1 p1 => ?_⟩
  cases hs : slotOf C w.ρ x with
  | none => rw [hs] at p1; exact p1.elim
  | some sv =>
    obtain ⟨hb, hv, m, hm, hρ⟩ := slotOf_some hs
    obtain ⟨u, hu, su⟩ := E1.slot m sv hρ
    rw [hs, hm] at p1
    cases sv with
    | sh d => exact p1.elim
    | ow ds =>
      obtain ⟨a, vs, rfl, q2, q3, q4, q5⟩ := su
      refine ⟨m, _, hm, hb, hv, hu, w, st1, rfl, E1, PostS.bind (rp := rpD _ w) p1 b1 E1 fun j st2 y H2 e2 E2 b2 r2 p2 => ?_⟩
      obtain ⟨ds', hd, p3⟩ := PostS.opt p2
      clear p2
      have q4' := e2.kp a _ q3 q4 (by intro ps z; cases z)
      obtain ⟨jj, mm, rfl, hix, rr, _⟩ := setD_ok hd ((E1.kph e2).dps ds vs q5) ((E1.kph e2).dp d v r1)
      have ey := rpD.int r2
      subst ey
      obtain ⟨z1, z2, z3⟩ := own_write E2 b2 hρ hu rr
      exact ⟨a, vs, jj, mm, rfl, rfl, q4', hix, p3 { w with ρ := w.ρ.set m (some (.ow ds')) } _ rfl z2 z3 z1⟩
    | stt =>
      obtain ⟨a, rfl, hp⟩ := su
      refine ⟨m, _, hm, hb, hv, hu, w, st1, rfl, E1, PostS.bind (rp := rpD _ w) p1 b1 E1 fun j st2 y H2 e2 E2 b2 r2 p2 => ?_⟩
      have s := E2.stt
      rw [hp] at s
      obtain ⟨q1, q2, vs, q3, q4⟩ := s
      cases hd : setD st2 j d with
      | none => rw [hd] at p2; exact p2.elim
      | some st3 =>
        rw [hd] at p2
        obtain ⟨jj, mm, rfl, hix, rr, hl⟩ := setD_ok hd q4 ((E1.kph e2).dp d v r1)
        have ey := rpD.int r2
        subst ey
        obtain ⟨z1, z2, z3⟩ := stt_write E2 b2 hp (by intro z; rw [z] at hl; exact q2 (List.eq_nil_of_length_eq_zero hl.symm)) rr
        exact ⟨a, vs, jj, mm, rfl, rfl, q3, hix, p2 w _ rfl z2 z3 z1⟩
theorem st_app (ih : Snd T n) (G : GoodS T W X C k) (x m : Str) (px ap cp pos : Pos) (a : Expr) :
    PS X (.Expr (.Call (.Attribute (.Name x px) m ap) [a] [] cp) pos) (tSD (gX X T) W fun ρ => (match slotOf C ρ x, ixOf C.N x with
        | some (.ow ds), some i => guardM (decide (m = "append") && !isStar a && visB C.sc x && (ap.endLine == cp.line)) (bnd (evE n C a ρ) fun d => guardM (fits (ds.length + 1)) (ret (.nx, ρ.set i (some (.ow (ds ++ [d]))))))
        | _, _ => stuckM)) := by
  by_cases hg : (decide (m = "append") && !isStar a && visB C.sc x && (ap.endLine == cp.line)) = true
  case neg =>
    refine PS.void (tSD.stuck fun ρ st => ?_)
    cases slotOf C ρ x with
    | none => rfl
    | some sv =>
      cases ixOf C.N x with
      | none => cases sv <;> rfl
      | some i =>
        cases sv with
        | ow ds =>
          show guardM _ _ _ = _
          unfold guardM
          rw [if_neg hg]
        | _ => rfl
  obtain ⟨hg1, hg4⟩ := Bool.and_eq_true_iff.mp hg
  obtain ⟨hg2, hg3⟩ := Bool.and_eq_true_iff.mp hg1
  obtain ⟨hg0, hg5⟩ := Bool.and_eq_true_iff.mp hg2
  have hm := of_decide_eq_true hg0
  subst hm
  have hs : isStar a = false := by simpa using hg5
  have hst := star_no (env := X.env) (es := []) hs
  refine (ps_expr (pe_bm PySem.F.plainAttrs_list PySem.F.slot_list_append PySem.F.type_list_append mt_append (pe_slot G x px) (pa_cons (ih.E G.G a) pa_nil hst) rfl (by rw [hst]; rfl) hg4 hst rfl) rfl).monoS fun D σ H ⟨B, w, st, hσ, b, E, p⟩ => ?_
  subst hσ
  cases hs : slotOf C w.ρ x with
  | none =>
    exfalso
    have p : PostS (gX X T) W B w H ((match slotOf C w.ρ x, ixOf C.N x with
        | some (.ow ds), some i => guardM (decide ((("append" : Str)) = "append") && !isStar a && visB C.sc x && (ap.endLine == cp.line)) (bnd (evE n C a w.ρ) fun d => guardM (fits (ds.length + 1)) (ret (Fl.nx, w.ρ.set i (some (.ow (ds ++ [d]))))))
        | _, _ => stuckM) st) D := p
    rw [hs] at p
    exact p.elim
  | some sv =>
    obtain ⟨hb, hv, m, hm, hρ⟩ := slotOf_some hs
    obtain ⟨u, hu, su⟩ := E.slot m sv hρ
    have p : PostS (gX X T) W B w H ((match slotOf C w.ρ x, ixOf C.N x with
        | some (.ow ds), some i => guardM (decide ((("append" : Str)) = "append") && !isStar a && visB C.sc x && (ap.endLine == cp.line)) (bnd (evE n C a w.ρ) fun d => guardM (fits (ds.length + 1)) (ret (Fl.nx, w.ρ.set i (some (.ow (ds ++ [d]))))))
        | _, _ => stuckM) st) D := p
    rw [hs, hm] at p
    cases sv with
    | sh d => exact p.elim
    | stt => exact p.elim
    | ow ds =>
      obtain ⟨_, p⟩ := PostS.grd p
      obtain ⟨l, vs, rfl, q2, q3, q4, q5⟩ := su
      refine ⟨m, _, hm, hb, hv, hu, .inl ⟨rfl, vs, .inl (.inl q4)⟩, w, st, rfl, E, PostS.bind (rp := rpD _ w) p b E fun d st1 y H1 e1 E1 b1 r1 p1 => ?_⟩
      obtain ⟨hf, p2⟩ := PostS.grd p1
      clear p1
      have hf := fits_le hf
      have q5' := (E.kph e1).dps ds vs q5
      obtain ⟨z1, z2, z3⟩ := own_write E1 b1 hρ hu (RpAll.app q5' (.cons r1 .nil))
      exact ⟨l, vs, y, rfl, rfl, e1.kp l _ q3 q4 (by intro ps z; cases z), by rw [RpAll.len q5]; omega, p2 { w with ρ := w.ρ.set m (some (.ow (ds ++ [d]))) } _ rfl z2 z3 z1⟩
end
end DI
end
section
set_option linter.all false
set_option autoImplicit false
set_option maxRecDepth 100000
/-! D18: loops; statements one behind another; the step. -/
namespace DI
open PySem PySem.Spec L2
open PyProof.Rows hiding St
section
variable {T : List (Addr × Str)} {W : EW} {X : Cx} {C : Ctx} {k n : Nat}
/-- a turn's end, then the rest -/
theorem PostS.turn {g : Gd} {B : Bs} {w : Wd} {H : Hp} {D : Ends} {r : R (Fl × DI.Env)} {rest : DI.Env → M (Fl × DI.Env)} {N : L2.St → Hp → Prop}
    (h : PostS g W B w H (r.next fun q => match q.1 with
      | .nx => rest q.2
      | .ct => rest q.2
      | .bk => ret (.nx, q.2)
      | .rt d => ret (.rt d, q.2)) D)
    (hN : ∀ w' H' st', BOk B w' H' → Stp w H w' H' → ERep g w' H' st' → PostS g W B w' H' (rest w'.ρ st') D → N w'.σ H') : PostS g W B w H r { D with nx := N, ct := N, bk := D.nx } := by
  match r, h with
  | .ok (.nx, ρ') st', h => exact fun w2 H2 e b s E => hN w2 H2 st' b s E (by subst e; exact PostS.later h s)
  | .ok (.ct, ρ') st', h => exact fun w2 H2 e b s E => hN w2 H2 st' b s E (by subst e; exact PostS.later h s)
  | .ok (.bk, ρ') st', h => exact h
  | .ok (.rt d, ρ') st', h => exact h
  | .err e st', h => exact h
theorem st_for (ih : Snd T n) (ihs : SndS T n) (G : GoodS T W X C k) (tg iter : Expr) (body : List Stmt) (pos : Pos) :
    PS X (.For tg iter body [] pos) (tSD (gX X T) W fun ρ => guardM (!isSetE iter) (bnd (evI n C false (isTup tg) iter ρ) fun xs => loopM (fun x ρ => bnd (optM (asg n C tg x ρ)) fun ρ' => evSs n C body ρ') xs ρ)) := by
  by_cases hset : isSetE iter = true
  · refine PS.void (tSD.stuck fun ρ st => ?_)
    rw [hset]
    rfl
  refine (ps_for G.own G.G.calm (ih.I G.G false tg iter) ((asg_ok (T := T) G.G.calm G.G.N.symm G.G.nd G.tg n).1 tg) (ihs.Ss G body) (folded_no (by simpa using hset))).monoS fun D σ H ⟨B, w, st, hσ, b, E, p⟩ => ?_
  subst hσ
  obtain ⟨_, p⟩ := PostS.grd p
  refine ⟨w, st, rfl, E, PostS.bind (rp := rpI _ _ w) p b E fun xs st1 J H1 e1 E1 b1 r1 p1 => ?_⟩
  refine ⟨fun i m σ H => m = xs.length - i ∧ i ≤ xs.length ∧ ∃ (w2 : Wd) (st2 : Stt), w2.σ = σ ∧ BOk B w2 H ∧ Stp w H1 w2 H ∧ ERep (gX X T) w2 H st2 ∧ PostS (gX X T) W B w2 H (loopM (fun x ρ => bnd (optM (asg n C tg x ρ)) fun ρ' => evSs n C body ρ') (xs.drop i) w2.ρ st2) D,
    ⟨xs.length, by simp, Nat.zero_le _, w, st1, rfl, b1, Stp.rfl', E1, by rw [List.drop_zero]; exact p1⟩, ?_⟩
  rintro i m σ2 H2 ⟨rfl, hi, w2, st2, rfl, b2, s2, E2, p2⟩
  have hw : ∀ a, hd false w a ↔ w.Hid a := fun a => by unfold hd; simp
  have kp0 : Kp (hide (hd false w) H1) H2 := fun c o h n => by
    obtain ⟨q1, q2⟩ := hide_in h
    exact (hide_in (s2.kp c o (in_hide q1 fun z => q2 ((hw c).mpr z)) n)).1
  obtain ⟨go, stop⟩ := r1 H2 kp0 i
  by_cases hlt : i < xs.length
  · obtain ⟨jg, jy⟩ := go hlt
    refine .inr ⟨jg, _, fun σ' H' p' => ⟨xs.length - (i + 1), by omega, rfl, hlt, p'⟩, fun x H3 y => ?_⟩
    obtain ⟨kx, d, hd, rx⟩ := jy x H3 y
    have e3 : Evo w2.p H2 H3 := Evo.of kx
    have E3 := E2.kp kx
    have b3 := b2.evo e3
    have s3 : Stp w2 H2 w2 H3 := Stp.of E2 e3
    have rd : rpD (gX X T) w2 H3 x d := rx w2.Hid E2.dom (s2.tr s3).kp
    have hdrop : xs.drop i = d :: xs.drop (i + 1) := by
      obtain ⟨hlt', e⟩ := List.getElem?_eq_some_iff.mp hd
      rw [List.drop_eq_getElem_cons hlt', e]
    rw [hdrop] at p2
    have p3 : PostS (gX X T) W B w2 H2 (R.next (R.next (optM (asg n C tg d w2.ρ) st2) fun ρ' => evSs n C body ρ') fun q => match q.1 with
      | .nx => loopM (fun x ρ => bnd (optM (asg n C tg x ρ)) fun ρ' => evSs n C body ρ') (xs.drop (i + 1)) q.2
      | .ct => loopM (fun x ρ => bnd (optM (asg n C tg x ρ)) fun ρ' => evSs n C body ρ') (xs.drop (i + 1)) q.2
      | .bk => ret (.nx, q.2)
      | .rt d => ret (.rt d, q.2)) D := p2
    cases ha : asg n C tg d w2.ρ with
    | none => rw [ha] at p3; exact p3.elim
    | some ρ' =>
      rw [ha] at p3
      refine ⟨w2, st2, d, ρ', rfl, E3, rd, ha, fun σ' E4 _ ow => ⟨B, { w2 with σ := σ', ρ := ρ' }, st2, rfl, b3.set ow, E4, ?_⟩⟩
      have s4 : Stp w2 H2 { w2 with σ := σ', ρ := ρ' } H3 := ⟨s3.kp, s3.dom⟩
      exact PostS.turn (PostS.later p3 s4) fun w5 H5 st5 b5 s5 E5 p5 => ⟨w5, st5, rfl, b5, s2.tr (s4.tr s5), E5, p5⟩
  · have e : i = xs.length := by omega
    subst e
    refine .inl ⟨stop (Nat.le_refl _), ?_⟩
    rw [List.drop_length] at p2
    exact p2 w2 H2 rfl b2 Stp.rfl' E2
theorem st_while (ih : Snd T n) (ihs : SndS T n) (G : GoodS T W X C k) (t : Expr) (body : List Stmt) (pos : Pos) (N : Nat) (xs : List Str) :
    PS X (.While t body [] pos) (tSD (gX X T) W fun ρ => whileM (fun ρ => bnd (evT n C t (share C xs ρ)) fun c => ret (c, share C xs ρ)) (fun ρ => evSs n C body ρ) N ρ) := by
  refine (ps_while G.own (ih.Te G.G t) (ihs.Ss G body)).monoS fun D σ H ⟨B, w, st, hσ, b, E, p⟩ => ?_
  refine ⟨fun m σ H => ∃ (w2 : Wd) (st2 : Stt), w2.σ = σ ∧ BOk B w2 H ∧ ERep (gX X T) w2 H st2 ∧ PostS (gX X T) W B w2 H (whileM (fun ρ => bnd (evT n C t (share C xs ρ)) fun c => ret (c, share C xs ρ)) (fun ρ => evSs n C body ρ) m w2.ρ st2) D, ⟨N, w, st, hσ, b, E, p⟩, ?_⟩
  rintro m σ2 H2 ⟨w2, st2, rfl, b2, E2, p2⟩
  cases m with
  | zero => exact p2.elim
  | succ m =>
    obtain ⟨w3, a1, a2, E3, b3, s3⟩ := share_ok C xs E2 b2
    have p3 : PostS (gX X T) W B w3 H2 (R.next (R.next (evT n C t (share C xs w2.ρ) st2) fun c => ret (c, share C xs w2.ρ)) fun c => if c.1 = true then bnd (evSs n C body c.2) fun q => (match q.1 with
      | .nx => whileM (fun ρ => bnd (evT n C t (share C xs ρ)) fun c => ret (c, share C xs ρ)) (fun ρ => evSs n C body ρ) m q.2
      | .ct => whileM (fun ρ => bnd (evT n C t (share C xs ρ)) fun c => ret (c, share C xs ρ)) (fun ρ => evSs n C body ρ) m q.2
      | .bk => ret (.nx, q.2)
      | .rt d => ret (.rt d, q.2)) else ret (.nx, c.2)) D := PostS.later p2 s3
    rw [next_next, ← a2] at p3
    refine ⟨w3, st2, a1, E3, PostS.bind (rp := rpT w3) p3 b3 E3 fun c st4 c' H4 e4 E4 b4 r4 p4 => ?_⟩
    have e : c' = c := r4
    subst e
    cases c' with
    | false =>
      rw [← a1]
      exact p4 w3 H4 rfl b4 Stp.rfl' E4
    | true =>
      rw [if_pos rfl]
      refine ⟨_, fun σ' H' h => ⟨m, Nat.lt_succ_self m, h⟩, B, w3, st4, a1, b4, E4, ?_⟩
      exact PostS.turn p4 fun w5 H5 st5 b5 s5 E5 p5 => ⟨w5, st5, rfl, b5, E5, p5⟩
/-! ### one behind another -/
theorem st_nil : PSs X [] (tSD (gX X T) W fun ρ => ret (.nx, ρ)) := by
  refine pss_nil.monoS fun D σ H ⟨B, w, st, hσ, b, E, p⟩ => ?_
  subst hσ
  exact p w H rfl b Stp.rfl' E
theorem st_cons (ihs : SndS T n) (G : GoodS T W X C k) (s : Stmt) (r : List Stmt) : PSs X (s :: r) (tSD (gX X T) W fun ρ => bnd (evS n C s ρ) fun q => (match q.1 with
    | .nx => evSs n C r q.2
    | f => ret (f, q.2))) := by
  refine (pss_cons (ihs.S G s) (ihs.Ss G r)).monoS fun D σ H ⟨B, w, st, hσ, b, E, p⟩ => ?_
  subst hσ
  refine ⟨B, w, st, rfl, b, E, ?_⟩
  have p : PostS (gX X T) W B w H (R.next (evS n C s w.ρ st) fun q => (match q.1 with
    | .nx => evSs n C r q.2
    | f => ret (f, q.2))) D := p
  match hr : evS n C s w.ρ st with
  | .ok (.nx, ρ') st' =>
    rw [hr] at p
    exact fun w2 H2 e b2 s2 E2 => ⟨B, w2, st', rfl, b2, E2, by rw [e]; exact PostS.later p s2⟩
  | .ok (.bk, ρ') st' => rw [hr] at p; exact p
  | .ok (.ct, ρ') st' => rw [hr] at p; exact p
  | .ok (.rt d, ρ') st' => rw [hr] at p; exact p
  | .err e st' => rw [hr] at p; exact p
  | .stuck => rw [hr] at p; exact p
/-! ### the step -/
theorem s_S (ihe : ∀ m, m ≤ n → Snd T m) (ihs : SndS T n) (G : GoodS T W X C k) (s : Stmt) : PS X s (tSD (gX X T) W (evS (n + 1) C s)) := by
  have ih := ihe n (Nat.le_refl n)
  cases s with
  | Pass pos => exact st_nx ps_pass
  | Break pos => exact st_bk pos
  | Continue pos => exact st_ct pos
  | Return v pos =>
    cases v with
    | none => exact st_retN pos
    | some e => exact ps_share (C := C) (xs := esc n e) (st_ret ih G e pos)
  | If t a b pos => exact ps_share (C := C) (xs := escB n t) (st_if ih ihs G t a b pos)
  | For tg iter body orelse pos =>
    cases orelse with
    | nil => exact ps_share (C := C) (xs := esc n iter ++ escsAll iter) (st_for ih ihs G tg iter body pos)
    | cons _ _ => exact PS.void (tSD.stuck fun _ _ => rfl)
  | While t body orelse pos =>
    cases orelse with
    | nil => exact st_while ih ihs G t body pos C.turns (escB n t)
    | cons _ _ => exact PS.void (tSD.stuck fun _ _ => rfl)
  | Raise exc cause pos =>
    cases exc with
    | none => exact PS.void (tSD.stuck fun _ _ => rfl)
    | some e =>
      cases cause with
      | some c =>
        refine PS.void (tSD.stuck fun ρ st => ?_)
        cases e with
        | Call f args kws p2 =>
          cases f with
          | Name c p =>
            cases args with
            | nil => rfl
            | cons a r =>
              cases r with
              | cons _ _ => cases a with
                | Constant c2 j p3 => cases c2 <;> rfl
                | _ => rfl
              | nil =>
                cases a with
                | Constant c2 j p3 =>
                  cases c2 with
                  | str m => cases kws <;> rfl
                  | _ => rfl
                | _ => rfl
          | _ => rfl
        | _ => rfl
      | none =>
        by_cases he : ∃ c p m j p2 pos', e = .Call (.Name c p) [.Constant (.str m) j p2] [] pos'
        · obtain ⟨c, p, m, j, p2, pos', rfl⟩ := he
          exact st_raise G c m j p p2 pos' pos
        · refine PS.void (tSD.stuck fun ρ st => ?_)
          cases e with
          | Call f args kws p2 =>
            cases f with
            | Name c p =>
              cases args with
              | nil => rfl
              | cons a r =>
                cases r with
                | cons _ _ => cases a with
                  | Constant c2 j p3 => cases c2 <;> rfl
                  | _ => rfl
                | nil =>
                  cases a with
                  | Constant c2 j p3 =>
                    cases c2 with
                    | str m =>
                      cases kws with
                      | nil => exact absurd ⟨_, _, _, _, _, _, rfl⟩ he
                      | cons _ _ => rfl
                    | _ => rfl
                  | _ => rfl
            | _ => rfl
          | _ => rfl
  | Expr e pos =>
    by_cases h1 : ∃ m j p, e = .Constant (.str m) j p
    · obtain ⟨m, j, p, rfl⟩ := h1
      exact st_nx ps_doc
    by_cases h2 : ∃ x px m ap a cp, e = .Call (.Attribute (.Name x px) m ap) [a] [] cp
    · obtain ⟨x, px, m, ap, a, cp, rfl⟩ := h2
      exact ps_share (C := C) (xs := esc n a) (st_app ih G x m px ap cp pos a)
    refine (ps_share (C := C) (xs := esc n e) (st_expr ih G e pos)).monoS fun D σ H h => ?_
    have z : evS (n + 1) C (.Expr e pos) = fun ρ => guardM (!isComp e) (bnd (evE n C e (share C (esc n e) ρ)) fun _ => ret (Fl.nx, share C (esc n e) ρ)) := by
      funext ρ
      cases e with
      | Constant c j p => cases c <;> first | rfl | exact absurd ⟨_, _, _, rfl⟩ h1
      | Call f args kws p2 =>
        cases f with
        | Attribute o m ap =>
          cases o with
          | Name x px =>
            cases args with
            | nil => rfl
            | cons a r =>
              cases r with
              | cons _ _ => rfl
              | nil =>
                cases kws with
                | nil => exact absurd ⟨_, _, _, _, _, _, rfl⟩ h2
                | cons _ _ => rfl
          | _ => rfl
        | _ => rfl
      | _ => rfl
    rw [z] at h
    exact h
  | Assign tgs e pos =>
    cases tgs with
    | nil => exact PS.void (tSD.stuck fun _ _ => rfl)
    | cons tg r =>
      cases r with
      | cons _ _ => exact PS.void (tSD.stuck fun _ _ => by
          cases tg with
          | Subscript a i p => cases a <;> rfl
          | _ => rfl)
      | nil =>
        by_cases h1 : ∃ x px, tg = .Name x px
        · obtain ⟨x, px, rfl⟩ := h1
          by_cases hm : C.mkst = some x
          · by_cases hl : ∃ es p2, e = .List es p2
            · obtain ⟨es, p2, rfl⟩ := hl
              refine (ps_share (C := C) (xs := esc n (.List es p2)) (st_mk ih G x px es p2 pos)).monoS fun D σ H h => ?_
              have z : evS (n + 1) C (.Assign [.Name x px] (.List es p2) pos) = fun ρ0 => (fun ρ => guardM (nmOk C x) (fun st => (match st with
            | [] => (bnd (evEs n C es ρ) fun ds => guardM (fits ds.length && !ds.isEmpty) fun _ => (match asgName C x .stt ρ with
              | some ρ' => R.ok (Fl.nx, ρ') ds
              | none => R.stuck)) []
            | _ => R.stuck))) (share C (esc n (.List es p2)) ρ0) := by
                funext ρ
                show guardM (nmOk C x) (if C.mkst = some x then _ else _) = _
                rw [if_pos hm]
                all_goals rfl
              rw [z] at h
              exact h
            · refine PS.void (tSD.stuck fun ρ st => ?_)
              show guardM (nmOk C x) (if C.mkst = some x then _ else _) st = _
              rw [if_pos hm]
              unfold guardM
              split
              · cases e <;> first | rfl | exact absurd ⟨_, _, rfl⟩ hl
              · rfl
          · refine (ps_share (C := C) (xs := esc n e) (st_name ihe G x px e pos hm)).monoS fun D σ H h => ?_
            have z : evS (n + 1) C (.Assign [.Name x px] e pos) = fun ρ0 => (fun ρ => guardM (nmOk C x) (bnd (evV n C e ρ) fun sv => bnd (optM (asgName C x sv ρ)) fun ρ' => ret (Fl.nx, ρ'))) (share C (esc n e) ρ0) := by
              funext ρ
              show guardM (nmOk C x) (if C.mkst = some x then _ else _) = _
              rw [if_neg hm]
            rw [z] at h
            exact h
        by_cases h2 : ∃ x px i psb, tg = .Subscript (.Name x px) i psb
        · obtain ⟨x, px, i, psb, rfl⟩ := h2
          exact ps_share (C := C) (xs := esc n e ++ esc n i) (st_sub ih G x px i psb e pos)
        by_cases h3 : ∃ es j pt, tg = .Tuple es j pt
        · obtain ⟨es, j, pt, rfl⟩ := h3
          by_cases h4 : ∃ vs j2 p2, e = .Tuple vs j2 p2
          · obtain ⟨vs, j2, p2, rfl⟩ := h4
            exact PS.void (tSD.stuck fun _ _ => rfl)
          · have h4' : ∀ vs j p, e ≠ .Tuple vs j p := fun vs j p z => h4 ⟨_, _, _, z⟩
            refine (ps_share (C := C) (xs := esc n e) (st_tup ih G es j pt e pos h4')).monoS fun D σ H h => ?_
            have z : evS (n + 1) C (.Assign [.Tuple es j pt] e pos) = fun ρ => bnd (evE n C e (share C (esc n e) ρ)) fun d => bnd (optM (asg n C (.Tuple es j pt) d (share C (esc n e) ρ))) fun ρ' => ret (Fl.nx, ρ') := by
              funext ρ
              cases e <;> first | rfl | exact absurd rfl (h4' _ _ _)
            rw [z] at h
            exact h
        refine PS.void (tSD.stuck fun ρ st => ?_)
        cases tg with
        | Name x px => exact absurd ⟨_, _, rfl⟩ h1
        | Tuple es j pt => exact absurd ⟨_, _, _, rfl⟩ h3
        | Subscript a i psb => cases a <;> first | rfl | exact absurd ⟨_, _, _, _, rfl⟩ h2
        | _ => rfl
  | _ => exact PS.void (tSD.stuck fun _ _ => rfl)
theorem s_Ss (ihs : SndS T n) (G : GoodS T W X C k) (s : List Stmt) : PSs X s (tSD (gX X T) W (evSs (n + 1) C s)) := by
  cases s with
  | nil => exact st_nil
  | cons s r => exact st_cons ihs G s r
theorem PSs.void {st : List Stmt} {t : TS} (h : ∀ D σ H, ¬ t D σ H) : PSs X st t := ⟨fun _ _ σ H D _ q => (h D σ H q).elim⟩
end
theorem sndS_all {T : List (Addr × Str)} : ∀ n, (∀ m, m < n → Snd T m) → SndS T n
  | 0, _ => ⟨fun G s => PS.void (tSD.stuck fun _ _ => rfl), fun G s => PSs.void (tSD.stuck fun _ _ => rfl)⟩
  | n + 1, h => ⟨fun G s => s_S (fun m hm => h m (by omega)) (sndS_all n fun m hm => h m (by omega)) G s, fun G s => s_Ss (sndS_all n fun m hm => h m (by omega)) G s⟩
end DI
end
section
set_option linter.all false
set_option autoImplicit false
set_option maxRecDepth 100000
set_option maxHeartbeats 2000000
/-! D24: everything is sound at every fuel; defs by their bodies. -/
namespace DI
open PySem PySem.Spec L2
open PyProof.Rows hiding St
theorem snd_all {T : List (Addr × Str)} : ∀ n, Snd T n
  | 0 => snd_zero
  | n + 1 => snd_step (snd_all n) (told_ok (snd_all n))
theorem sndS {T : List (Addr × Str)} (n : Nat) : SndS T n := sndS_all n fun m _ => snd_all m
/-- the slots at the start -/
def startE (N : List Str) (st : Bool) (ds : List D) : DI.Env := ((if st = true then [some SV.stt] else []) ++ ds.map fun d => some (SV.sh d)) ++ List.replicate (N.length - ((if st = true then 1 else 0) + ds.length)) none
def outM (r : R (Fl × DI.Env)) : R D := match r with
  | .ok (.rt d, _) s => .ok d s
  | .ok (.nx, _) s => .ok .none s
  | .err e s => .err e s
  | _ => .stuck
/-- what a def does -/
def runB (n : Nat) (C : Ctx) (body : List Stmt) (st : Bool) (ds : List D) : M D := fun s => outM (evSs n C body (startE C.N st ds) s)
theorem rp_slots {K : PySem.W.Frag} {H : Hp} : ∀ {ds : List D} {vs : List V} (pre : Nat), RpAll K H vs ds → ∀ (i : Nat) (sv : SV), ((ds.map fun d => some (SV.sh d)) ++ List.replicate pre none)[i]? = some (some sv) → ∃ v d, sv = .sh d ∧ ((vs.map some) ++ List.replicate pre none)[i]? = some (some v) ∧ Rp K H v d
  | [], _, pre, h, i, sv, e => by
    rw [List.map_nil, List.nil_append, List.getElem?_replicate] at e
    split at e <;> cases e
  | d :: ds, _, pre, h, i, sv, e => by
    cases h with
    | cons h1 h2 =>
      cases i with
      | zero => simp at e; subst e; exact ⟨_, d, rfl, rfl, h1⟩
      | succ i => exact rp_slots pre h2 i sv (by simpa using e)
section
variable {T : List (Addr × Str)} {P : Program} {w : World} {K : PySem.W.Frag} {mg : Str → Option Value} {base : Heap}
/-- the errors that a call wishes -/
def wOf (K : PySem.W.Frag) (E : XK) : EW := fun e H => E (.ref (He.ga K e.cls)) none H
theorem post_out {g : Gd} {E : XK} {B : Bs} {wd : Wd} {H : Hp} {r : R (Fl × DI.Env)} {Q : VK} (hg : g.K = K)
    (h : match outM r with
      | .ok d st' => ∀ v H', Left g B H' st' → Rp K (hide B.Hid H') v d → Q v H'
      | .err e st' => ∀ H', Left g B H' st' → E (.ref (He.ga K e.cls)) none H'
      | .stuck => False) : PostS g (wOf K E) B wd H r { nx := fun _ H' => Q .non H', rt := Q } := by
  subst hg
  match r, h with
  | .ok (.nx, ρ) st', h => exact fun w2 H2 e b s E2 => h .non H2 (b.left E2) Rp.non
  | .ok (.rt d, ρ) st', h => exact h
  | .err e st', h => exact h
theorem fn_sound {x : Str} {params : Arguments} {body : List Stmt} {sc : Scope} {f : Addr} {fd : FuncData} {N ps : List Str} {k kc n : Nat} {C : Ctx} {st : Bool} {ar : Nat} (F : FunD K x x params body sc [] [] f fd) (S : FnScope N ps sc) (hN : C.N = N) (hl : ps.length = (if st = true then ar + 1 else ar))
    (G : ∀ (cdv : Value) (A : Around) (outer : List PySem.Env) (s : Shared) (H : Hp) (E : XK), PySem.W.codeIn K cdv x = true → fd.code = cdv → (A.deeper (envOfC x sc s.heap.objs.size f cdv)).guards = some [] → Room k (A.deeper (envOfC x sc s.heap.objs.size f cdv)) →
      GoodS T (wOf K E) (cxOf (L2N.CX P w) P w K mg base N x sc f cdv A outer s H E) C kc) :
    FnOkG P w K mg base (L2N.CX P w) (k + 1) f fd ps (spF K T ⟨ar, st, runB n C body st⟩) := by
  have hpl : ps.length ≤ N.length := by have := congrArg List.length S.pre; rw [List.length_take] at this; omega
  cases st with
  | false =>
    have hl : ps.length = ar := hl
    show FnOkG P w K mg base (L2N.CX P w) (k + 1) f fd ps (spP K T ar (runB n C body false))
    refine fn_ofG F S (fun vs H Q E h => by rw [h.1, hl]) fun cdv A outer s H vs Q E hcd hco hgd hr h => ?_
    obtain ⟨hv, Hid, ds, hdom, hT, hrp, hsem⟩ := h
    refine ⟨_, (sndS (T := T) n).Ss (G cdv A outer s H E hcd hco hgd hr) body, ⟨Hid, none, H⟩, ⟨Hid, none, L2.start N vs, startE C.N false ds, H⟩, [], rfl, ⟨fun _ h => h, hdom, .inl rfl, Evo.rfl', fun i ds' a h1 h2 => ?_, fun a z => by cases z⟩, ⟨?_, fun i sv h => ?_, fun i j ds1 ds2 a h1 h2 h3 h4 => ?_, rfl, hT, hdom, fun _ h => h⟩, ?_⟩
    · have h1 : (startE C.N false ds)[i]? = _ := h1
      unfold startE at h1
      obtain ⟨v, d, e, _⟩ := rp_slots _ hrp i _ (by simpa using h1)
      cases e
    · show (startE C.N false ds).length = (L2.start N vs).length
      have := RpAll.len hrp
      unfold startE L2.start
      simp
      rw [hN]
      omega
    · have h : (startE C.N false ds)[i]? = _ := h
      unfold startE at h
      obtain ⟨v, d, e, h2, h3⟩ := rp_slots _ hrp i sv (by simpa using h)
      subst e
      refine ⟨v, ?_, h3⟩
      show (L2.start N vs)[i]? = _
      unfold L2.start
      rw [RpAll.len hrp, ← hN]
      exact h2
    · have h1 : (startE C.N false ds)[i]? = _ := h1
      unfold startE at h1
      obtain ⟨v, d, e, _⟩ := rp_slots _ hrp i _ (by simpa using h1)
      cases e
    · refine post_out rfl ?_
      have hsem : match outM (evSs n C body (startE C.N false ds) []) with
        | .ok d _ => ∀ v H', Evo none H H' → LamX.Tabs T H' → Rp K (hide Hid H') v d → Q v H'
        | .err e _ => ∀ H', Evo none H H' → LamX.Tabs T H' → E (.ref (He.ga K e.cls)) none H'
        | .stuck => False := hsem
      show match outM (evSs n C body (startE C.N false ds) []) with
        | .ok d st' => _
        | .err e st' => _
        | .stuck => False
      split at hsem
      · rename_i d st' hr
        exact fun v H' l rv => hsem v H' l.1 l.2.1 rv
      · rename_i e st' hr
        exact fun H' l => hsem H' l.1 l.2.1
      · exact hsem.elim
  | true =>
    have hl : ps.length = ar + 1 := hl
    show FnOkG P w K mg base (L2N.CX P w) (k + 1) f fd ps (spS K T ar (runB n C body true))
    refine fn_ofG F S (fun vs H Q E h => by rw [h.1, hl]) fun cdv A outer s H vs Q E hcd hco hgd hr h => ?_
    obtain ⟨hv, Hid, a, us, ds, st, rfl, hdom, hT, hst, hrp, hsem⟩ := h
    have hHa : Hid a := hst.1
    have slot0 : ∀ (i : Nat) (sv : SV), (startE C.N true ds)[i]? = some (some sv) → (i = 0 ∧ sv = .stt) ∨ ∃ j v d, i = j + 1 ∧ sv = .sh d ∧ (L2.start N (.ref a :: us))[i]? = some (some v) ∧ Rp K (hide Hid H) v d := fun i sv h => by
      unfold startE at h
      cases i with
      | zero => simp at h; exact .inl ⟨rfl, h.symm⟩
      | succ i =>
        obtain ⟨v, d, e, h2, h3⟩ := rp_slots (C.N.length - (1 + ds.length)) hrp i sv (by simpa using h)
        refine .inr ⟨i, v, d, rfl, e, ?_, h3⟩
        unfold L2.start
        have e2 : N.length - (V.ref a :: us).length = C.N.length - (1 + ds.length) := by
          rw [List.length_cons, RpAll.len hrp, hN]
          omega
        rw [e2]
        simpa using h2
    refine ⟨_, (sndS (T := T) n).Ss (G cdv A outer s H E hcd hco hgd hr) body, ⟨Hid, some a, H⟩, ⟨Hid, some a, L2.start N (.ref a :: us), startE C.N true ds, H⟩, st, rfl, ⟨fun _ h => h, hdom, .inl rfl, Evo.rfl', fun i ds' b h1 h2 => ?_, fun b z => by cases z; exact hHa⟩, ⟨?_, fun i sv h => ?_, fun i j ds1 ds2 b h1 h2 h3 h4 => ?_, hst, hT, hdom, fun _ h => h⟩, ?_⟩
    · rcases slot0 i _ h1 with ⟨_, e⟩ | ⟨_, _, _, _, e, _⟩ <;> cases e
    · show (startE C.N true ds).length = (L2.start N (.ref a :: us)).length
      have := RpAll.len hrp
      unfold startE L2.start
      simp
      rw [hN]
      simp at hv
      omega
    · rcases slot0 i sv h with ⟨rfl, rfl⟩ | ⟨j, v, d, rfl, rfl, h2, h3⟩
      · exact ⟨.ref a, rfl, a, rfl, rfl⟩
      · exact ⟨v, h2, h3⟩
    · rcases slot0 i _ h1 with ⟨_, e⟩ | ⟨_, _, _, _, e, _⟩ <;> cases e
    · refine post_out rfl ?_
      have hsem : match outM (evSs n C body (startE C.N true ds) st) with
        | .ok d st' => ∀ v H', Evo (some a) H H' → LamX.Tabs T H' → StRep K Hid (some a) H' st' → Rp K (hide Hid H') v d → Q v H'
        | .err e st' => ∀ H', Evo (some a) H H' → LamX.Tabs T H' → StRep K Hid (some a) H' st' → E (.ref (He.ga K e.cls)) none H'
        | .stuck => False := hsem
      show match outM (evSs n C body (startE C.N true ds) st) with
        | .ok d st' => _
        | .err e st' => _
        | .stuck => False
      split at hsem
      · rename_i d st' hr
        exact fun v H' l rv => hsem v H' l.1 l.2.1 (l.2.2 a rfl) rv
      · rename_i e st' hr
        exact fun H' l => hsem H' l.1 l.2.1 (l.2.2 a rfl)
      · exact hsem.elim
end
end DI
end
section
set_option linter.all false
set_option autoImplicit false
set_option maxRecDepth 100000
set_option maxHeartbeats 2000000
/-! D25: a law's end: tables of code objects, no guard around. -/
namespace DI
open PySem PySem.Spec L2
open PyProof.Rows hiding St
open LamX
theorem law_callG {P : Program} {w : World} {K : PySem.W.Frag} {mg mb : Str → Option Value} {CX : CXT} {k : Nat} {fa a : Addr} {cs : List (Addr × Addr)} {fd : FuncData} {x : Str} {sp : Sp} {s₁ : Shared} {vs : List Value} {ns : List Int}
    (KX : K.In s₁.heap) (hns : s₁.heap.Ns mainGlobals mg) (hb : s₁.heap.Ns builtinsNs mb) (hbb : ∀ x : Str, x ≠ "__name__" → mb x = bootBuiltins x) (hlim : s₁.heap.NoLimit) (hg : s₁.gens = #[])
    (hT : ∀ p ∈ cs, s₁.heap.get? p.2 = some { cls := .none, data := .fields #[] }) (nT : ∀ p ∈ cs, K.lookup p.2 = none) (C : ∀ p ∈ cs, PySem.W.CodeHd s₁.heap p.1 p.2)
    (hbm : ∃ (bm : Addr) (ob : Obj), mg "__builtins__" = some (.ref bm) ∧ bm ≠ builtinsNs ∧ s₁.heap.get? bm = some ob ∧ ob.cls = .type "module" ∧ ob.dict = some builtinsNs ∧ ob.data = .plain)
    (ha : s₁.heap.get? a = some { cls := .type "list", data := .seq vs.toArray }) (hi : IntsAre vs ns) (hl : ns.length ≤ sizeLine) (hr : Room k callerA) (nK : K.lookup a = none)
    (F : ∀ base : Heap, K.In base → base.Ns mainGlobals mg → (∀ p ∈ cs, TabB base mg p.1 p.2) → FnOkG P w K mg base CX k fa fd [x] sp) (hbind : ∀ (s : Shared) (u : Value), BindsTo s fd ⟨[u], []⟩ [(x, u)])
    (hsp : ∀ H : Hp, (∀ p ∈ cs, H p.2 = some (.tbl #[])) → Rd H a (.lst (ns.map V.int)) → sp [.ref a] H (fun v _ => v = .bl true) fun _ _ _ => False)
    (hCX : ∀ H e s', CX [] H s₁ (fun _ _ _ => False) e s' → False) :
    codeAny (model P w) callerA (.call (.ref fa) ⟨[.ref a], []⟩) (fun r s' => r = .ok (.ret (.bool true)) ∧ OldK s₁.heap s'.heap ∧ s'.os = s₁.os ∧ AllBare s'.gens) s₁ := by
  have rv := vals_ints hi
  have isT : ∀ b : Addr, b ∈ cs.map (·.2) → s₁.heap.get? b = some { cls := .none, data := .fields #[] } := fun b hb => by
    obtain ⟨p, hp, e⟩ := List.mem_map.mp hb
    rw [← e]
    exact hT p hp
  have aT : a ∉ cs.map (·.2) := fun z => by
    have q := isT a z
    rw [ha] at q
    have z' : Data.seq vs.toArray _ = Data.fields #[] := congrArg Obj.data (Option.some.inj q)
    cases z'
  have memT : ∀ p ∈ cs, p.2 ∈ cs.map (·.2) := fun p hp => List.mem_map.mpr ⟨p, hp, rfl⟩
  -- what is tracked: the script (never changed), the tables
  obtain ⟨H, hHa, hHt, hHn⟩ : ∃ H : Hp, H a = some (.frz { cls := .type "list", data := .seq vs.toArray } (.lst (ns.map V.int))) ∧ (∀ b ∈ cs.map (·.2), H b = some (.tbl #[])) ∧ ∀ b, b ≠ a → b ∉ cs.map (·.2) → H b = none :=
    ⟨fun b => if b = a then some (.frz { cls := .type "list", data := .seq vs.toArray } (.lst (ns.map V.int))) else if b ∈ cs.map (·.2) then some (.tbl #[]) else none, if_pos rfl,
      fun b hb => (if_neg (fun z : b = a => aT (z ▸ hb))).trans (if_pos hb), fun b h1 h2 => (if_neg h1).trans (if_neg h2)⟩
  have only : ∀ b, H b ≠ none → b = a ∨ b ∈ cs.map (·.2) := fun b hb => by
    by_cases e1 : b = a
    · exact .inl e1
    · by_cases e2 : b ∈ cs.map (·.2)
      · exact .inr e2
      · exact absurd (hHn b e1 e2) hb
  have hok : HOk P w H s₁.heap := fun b u z => by
    rcases only b (by rw [z]; simp) with rfl | e
    · rw [hHa] at z
      cases z
      exact ⟨ha, by rw [List.length_map]; exact hl, vs, _, rv, ha⟩
    · rw [hHt b e] at z
      cases z
      exact isT b e
  have noD : ∀ {b : Addr} {o : Obj}, s₁.heap.get? b = some o → (∀ vs n, o.data ≠ .seq vs n) → o.data ≠ .fields #[] → H b = none := fun {b o} e h1 h2 => by
    refine Classical.byContradiction fun hn => ?_
    rcases only b hn with rfl | e'
    · rw [ha] at e
      cases e
      exact h1 _ _ rfl
    · rw [isT b e'] at e
      cases e
      exact h2 rfl
  have base_of : ∀ {b : Addr} {o : Obj}, s₁.heap.get? b = some o → H b = none → (hidT s₁.heap H).get? b = some o := fun e n => hidT_get e n
  have nsK : ∀ {b : Addr} {m : Str → Option Value}, s₁.heap.Ns b m → (hidT s₁.heap H).Ns b m := fun {b m} ⟨o, es, ep, e, d, r⟩ =>
    ⟨o, es, ep, base_of e (noD e (fun vs n z => by rw [d] at z; cases z) fun z => by rw [d] at z; cases z), d, r⟩
  have hKb : K.In (hidT s₁.heap H) := fun b o e => base_of (KX b o e) (Classical.byContradiction fun hn => by
    rcases only b hn with rfl | e'
    · rw [nK] at e
      cases e
    · obtain ⟨p, hp, ep⟩ := List.mem_map.mp e'
      rw [← ep, nT p hp] at e
      cases e)
  have hM : L2.Mod K mg (hidT s₁.heap H) := ⟨hKb, nsK hns, ⟨mb, nsK hb, hbb⟩, let ⟨mc, h1, h2⟩ := hlim; ⟨mc, nsK h1, h2⟩⟩
  have TB : ∀ p ∈ cs, TabB (hidT s₁.heap H) mg p.1 p.2 := fun p hp => by
    have hTp := hT p hp
    refine ⟨?_, ?_, fun z => ?_⟩
    · obtain ⟨o, us, file, tf, flags, tg, inF, text, tt, e1, r1, r2, r3, r4, r5, r6, r7, r8, hne⟩ := C p hp
      exact ⟨o, us, file, tf, flags, tg, inF, text, tt, base_of e1 (noD e1 (fun vs n z => by rw [r2] at z; cases z) fun z => by rw [r2] at z; cases z; simp at r3), r1, r2, r3, r4, r5, r6, r7, r8, hne⟩
    · obtain ⟨bm, ob, b1, b2, b3, b4, b5, b6⟩ := hbm
      have nG : bm ≠ mainGlobals := fun q => by
        obtain ⟨o, es, ep, e, hd, _⟩ := hns
        rw [q, e] at b3
        cases b3
        rw [hd] at b6
        cases b6
      have nP : bm ≠ p.2 := fun q => by
        rw [q, hTp] at b3
        cases b3
        cases b6
      exact ⟨bm, ob, b1, b2, nG, nP, base_of b3 (noD b3 (fun vs n z => by rw [b6] at z; cases z) fun z => by rw [b6] at z; cases z), b4, b5, b6⟩
    · obtain ⟨o, es, ep, e, hd, _⟩ := hns
      rw [z, hTp] at e
      cases e
      cases hd
  have e0 : Env0 P w K mg (hidT s₁.heap H) callerA [] s₁ H := ⟨rfl, hM, fun b o e => of_hidT e, Nat.le_of_eq (hidT_size _ _), trivial, fun b hb => absurd (show b ∈ ([] : List Addr) from hb) (by simp), hok, .of_eq hg⟩
  refine codeAny_mono ((F _ hKb (nsK hns) TB).run callerA [] s₁ H ⟨[.ref a], []⟩ [.ref a] [.ref a] _ _ rfl hr e0 (hbind s₁ (.ref a)) (.cons rfl .nil) (hsp H (fun p hp => hHt _ (memT p hp)) (.inr ⟨_, hHa⟩))) fun r s' h => ?_
  match r, h with
  | .error e, h => exact (hCX H e s' h).elim
  | .ok (.ret u), h =>
    obtain ⟨v, H', os, bare, un, hok', r', q⟩ := h
    have q' : v = .bl true := q
    subst q'
    obtain rfl : u = Value.bool true := r'
    have key : ∀ b o, b ∉ cs.map (·.2) → s₁.heap.get? b = some o → s'.heap.get? b = some o := fun b o nb e => by
      by_cases eb : b = a
      · subst eb
        obtain ⟨e1, _⟩ := hok b _ hHa
        obtain ⟨e2, _⟩ := hok' b _ (un.frzs b _ _ hHa)
        rw [e] at e1; cases e1
        exact e2
      · exact un.keep b o e (hHn b eb nb) (by intro z; exact absurd (show b ∈ ([] : List Addr) from z) (by simp)) (by simp)
    have grown : ∀ p ∈ cs, ∃ more : Array Value, s'.heap.get? p.2 = some { cls := .none, data := .fields more } := fun p hp => by
      obtain ⟨more, z⟩ := un.tbls p.2 #[] (hHt _ (memT p hp))
      exact ⟨_, hok' p.2 _ z⟩
    refine ⟨rfl, ⟨fun b o e => ?_, fun b o e => ?_⟩, os, bare⟩
    · by_cases hb : b ∈ cs.map (·.2)
      · obtain ⟨p, hp, ep⟩ := List.mem_map.mp hb
        obtain ⟨more, hm⟩ := grown p hp
        rw [← ep] at e ⊢
        rw [hT p hp] at e
        cases e
        exact .inr (.inl ⟨((C p hp).tab (hT p hp)).isCodeTable, rfl, #[], more, rfl, by rw [Array.empty_append]; exact hm⟩)
      · exact .inl (key b o hb e)
    · by_cases hb : b ∈ cs.map (·.2)
      · obtain ⟨p, hp, ep⟩ := List.mem_map.mp hb
        obtain ⟨more, hm⟩ := grown p hp
        rw [← ep]
        exact ⟨_, hm⟩
      · exact ⟨o, key b o hb e⟩
/-- the law's promise at the head's heap -/
def LawAtG (l : PySem.W.OpenLaw) (w : World) (K : PySem.W.Frag) (CX : CXT) (k n : Nat) (x : Str) (mg : Str → Option Value) (fa : Addr) (h : Heap) : Prop :=
  ∃ (fd : FuncData) (cs : List (Addr × Addr)) (sp : Sp), (∀ b o, K.lookup b = some o → o.cls ≠ .type "list") ∧ (∀ p ∈ cs, h.get? p.2 = some { cls := .none, data := .fields #[] }) ∧ (∀ p ∈ cs, K.lookup p.2 = none) ∧ (∀ p ∈ cs, PySem.W.CodeHd h p.1 p.2) ∧ (∀ (s : Shared) (u : Value), BindsTo s fd ⟨[u], []⟩ [(x, u)]) ∧
    (∀ (H : Hp) (a : Addr) (ns : List Int), ns.length ≤ n → (∀ z ∈ ns, Builtin.Int.intBits z ≤ 1048576) → (∀ p ∈ cs, H p.2 = some (.tbl #[])) → Rd H a (.lst (ns.map V.int)) → sp [.ref a] H (fun v _ => v = .bl true) fun _ _ _ => False) ∧
    ∀ base : Heap, K.In base → base.Ns mainGlobals mg → (∀ p ∈ cs, TabB base mg p.1 p.2) → FnOkG l.prog w K mg base CX k fa fd [x] sp
theorem walk_G {l : PySem.W.OpenLaw} {n k : Nat} {q : Program} {loose : List Str} {XP : (Str → Option Value) → Heap → Prop} {YP : World → Heap → Prop} {d : DefRec} {CX : World → CXT} {x : Str}
    (hn : l.most = some n) (hn2 : n ≤ sizeLine) (hdf : d.params.defaults = []) (hr : Room k callerA)
    (F : ∀ (w : World) (mg : Str → Option Value) (fa : Addr) (h : Heap), YP w h → h.Ns mainGlobals mg → mg d.name = some (.ref fa) → ∃ K : PySem.W.Frag, K.In h ∧ LawAtG l w K (CX w) k n x mg fa h)
    (hCX : ∀ (w : World) (H : Hp) (s : Shared) (e : Value) (s' : Shared), CX w [] H s (fun _ _ _ => False) e s' → False) :
    PySem.W.WalkO q loose XP YP l.row.toRowW d [] (fun f vs => PySem.call f vs) := by
  refine Att.attach_callB hn hdf fun w s₀ s₁ mg mb fa o pm cd doc a vs ns G Y ho hd hcd hmg hobj hints hlen hbits hg => ?_
  obtain ⟨K, KX, fd, cs, sp, hno, hT, nT, C, hb, hsp, hF⟩ := F w mg fa _ Y G.T.g hmg
  have nK : K.lookup a = none := by
    cases z : K.lookup a with
    | none => rfl
    | some o =>
      have e := KX a o z
      rw [hobj] at e
      cases e
      exact absurd rfl (hno a _ z)
  exact law_callG KX G.T.g G.T.b G.T.builtins G.T.nolimit hg hT nT C G.T.bmain hobj hints (Nat.le_trans hlen hn2) hr nK hF hb (fun H hH hS => hsp H a ns hlen hbits hH hS) fun H e s' => hCX w H s₁ e s'
end DI
end
section
set_option linter.all false
set_option autoImplicit false
set_option maxRecDepth 100000
set_option maxHeartbeats 2000000
/-! D26: all defs of a row, one above another; the law. -/
namespace DI
open PySem PySem.Spec L2
open PyProof.Rows hiding St
open LamX
/-- a def of the row -/
structure FdT where
  name : Str
  ps : List Str
  N : List Str
  st : Bool
  lam : Bool
  mkst : Option Str
  turns : Nat
  params : Arguments
  body : List Stmt
  sc : Scope
  /-- what it does, as a plain function -/
  sem : List D → M D
def FdT.ar (d : FdT) : Nat := d.ps.length - (if d.st = true then 1 else 0)
/-- the row: constants, classes of errors, fuel -/
structure Wl where
  con : Str → Option D
  exc : List Str
  fuel : Nat
def ctxOf (W : Wl) (tab : List (Str × FnI)) (d : FdT) : Ctx := ⟨d.N, d.sc, W.con, fun x => tab.lookup x, d.lam, d.mkst, W.exc, d.turns⟩
def fnTab : List FdT → List (Str × FnI)
  | [] => []
  | d :: r => (d.name, ⟨d.ar, d.st, d.sem⟩) :: fnTab r
/-- the plain function is what the text does, wherever it says anything -/
def RefD (W : Wl) (d : FdT) (r : List FdT) : Prop := ∀ (ds : List D) (s : Stt), d.sem ds s = .stuck ∨ runB W.fuel (ctxOf W (fnTab r) d) d.body d.st ds s = d.sem ds s
def RefAll (W : Wl) : List FdT → Prop
  | [] => True
  | d :: r => RefD W d r ∧ RefAll W r
def lv : List FdT → Nat
  | [] => 0
  | d :: r => (if d.lam = true then lv r + 2 else lv r) + 1
def AllD (p : FdT → Prop) : List FdT → Prop
  | [] => True
  | d :: r => p d ∧ AllD p r
section
variable {P : Program} {w : World} {K : PySem.W.Frag} {mg : Str → Option Value} {base : Heap} {T : List (Addr × Str)} {W : Wl}
def lamQ (x : Str) : Str := x ++ ".<locals>." ++ "<lambda>"
/-- a def as it stands -/
structure Fits (K : PySem.W.Frag) (mg : Str → Option Value) (base : Heap) (T : List (Addr × Str)) (d : FdT) : Prop where
  S : FnScope d.N d.ps d.sc
  hl : d.ps.length = (if d.st = true then d.ar + 1 else d.ar)
  fn : ∃ fd, FunD K d.name d.name d.params d.body d.sc [] [] (He.ga K d.name) fd ∧ L2.Binds K fd d.ps []
  glo : mg d.name = some (.ref (He.ga K d.name))
  home : d.lam = true → TabB base mg (He.cT K (d.name, none)).1 (He.cT K (d.name, none)).2 ∧ ((He.cT K (d.name, none)).2, lamQ d.name) ∈ T ∧ ∀ p ∈ T, p.1 = (He.cT K (d.name, none)).2 → p.2 = lamQ d.name
/-- what holds of the row as a whole -/
structure Whole (K : PySem.W.Frag) (mg : Str → Option Value) (W : Wl) : Prop where
  con : ∀ x d, W.con x = some d → ∃ v u, mg x = some u ∧ RelV v u ∧ ∀ H, Rp K H v d
  bi : ∀ x ∈ biNames, mg x = none
  exc : ∀ c ∈ W.exc, mg c = some (.ref (He.ga K c)) ∧ PySem.W.excIn K (He.ga K c) He.veBase "ValueError.__new__" = true ∧ PySem.W.keepIn K (.ref (He.ga K c)) = true ∧ PySem.W.subIn K (.ref (He.ga K c)) (.type "BaseException") = some true ∧ PySem.W.typeIn K (.ref (He.ga K c)) = some (.type "type")
  told : ToldFn K mg (He.ga K)
def FnG' (P : Program) (w : World) (K : PySem.W.Frag) (mg : Str → Option Value) (base : Heap) (T : List (Addr × Str)) (k : Nat) (f : Str) (fi : FnI) : Prop := ∃ (a : Addr) (fd : FuncData) (ps : List Str), FnOkG P w K mg base (L2N.CX P w) k a fd ps (spF K T fi) ∧ mg f = some (.ref a) ∧ PySem.W.keepIn K (.ref a) = true ∧ L2.Binds K fd ps []
theorem spF_ref {ar : Nat} {st : Bool} {sem sem0 : List D → M D} (h : ∀ ds s, sem ds s = .stuck ∨ sem0 ds s = sem ds s) : ∀ vs H Q E, spF K T ⟨ar, st, sem⟩ vs H Q E → spF K T ⟨ar, st, sem0⟩ vs H Q E := fun vs H Q E q => by
  cases st with
  | false =>
    have q : spP K T ar sem vs H Q E := q
    show spP K T ar sem0 vs H Q E
    obtain ⟨h1, Hid, ds, h2, h3, h4, h5⟩ := q
    refine ⟨h1, Hid, ds, h2, h3, h4, ?_⟩
    rcases h ds [] with z | z
    · rw [z] at h5; exact h5.elim
    · rw [z]; exact h5
  | true =>
    have q : spS K T ar sem vs H Q E := q
    show spS K T ar sem0 vs H Q E
    obtain ⟨h1, Hid, a, us, ds, s, h2, h3, h4, h5, h6, h7⟩ := q
    refine ⟨h1, Hid, a, us, ds, s, h2, h3, h4, h5, h6, ?_⟩
    rcases h ds s with z | z
    · rw [z] at h7; exact h7.elim
    · rw [z]; exact h7
theorem FnOkG.imp {P : Program} {w : World} {K : PySem.W.Frag} {mg : Str → Option Value} {base : Heap} {CX : CXT} {k : Nat} {f : Addr} {fd : FuncData} {ps : List Str} {sp sp' : Sp} (F : FnOkG P w K mg base CX k f fd ps sp) (h : ∀ vs H Q E, sp' vs H Q E → sp vs H Q E) : FnOkG P w K mg base CX k f fd ps sp' :=
  ⟨fun vs H Q E q => F.len vs H Q E (h _ _ _ _ q), fun A outer s H args us vs Q E hg hr he hb hv hs => F.run A outer s H args us vs Q E hg hr he hb hv (h _ _ _ _ hs)⟩
theorem head_ok (Wh : Whole K mg W) {d : FdT} {r : List FdT} (rf : RefD W d r) (Fd : Fits K mg base T d) (hr : ∀ f fi, (fnTab r).lookup f = some fi → FnG' P w K mg base T (lv r) f fi) :
    ∃ fd, FunD K d.name d.name d.params d.body d.sc [] [] (He.ga K d.name) fd ∧ FnOkG P w K mg base (L2N.CX P w) (lv (d :: r)) (He.ga K d.name) fd d.ps (spF K T ⟨d.ar, d.st, d.sem⟩) ∧ L2.Binds K fd d.ps [] := by
  obtain ⟨fd, F, hb⟩ := Fd.fn
  refine ⟨fd, F, ?_, hb⟩
  show FnOkG P w K mg base (L2N.CX P w) ((if d.lam = true then lv r + 2 else lv r) + 1) _ _ _ _
  refine FnOkG.imp ?_ (spF_ref rf)
  refine fn_sound (kc := lv r) (C := ctxOf W (fnTab r) d) F Fd.S rfl Fd.hl fun cdv A outer s H E hcd hco hgd hroom => ?_
  have G : Good T (wOf K E) (cxOf (L2N.CX P w) P w K mg base d.N d.name d.sc (He.ga K d.name) cdv A outer s H E) (ctxOf W (fnTab r) d) (lv r) := by
    refine ⟨rfl, rfl, Fd.S.nd, rfl, ?_, hgd, hroom, fun hl => ?_, Wh.con, fun x _ _ hx => Wh.bi x hx, hr⟩
    · exact (L2N.takes_of (X := cxOf (L2N.CX P w) P w K mg base d.N d.name d.sc (He.ga K d.name) cdv A outer s H E) rfl rfl rfl rfl).imp fun c dd σ H ⟨e, h1, h2, h3⟩ => by
        subst h1 h2
        exact h3
    · obtain ⟨tb, hm, hu⟩ := Fd.home hl
      obtain ⟨c, rfl⟩ := He.codeIn_ref hcd
      obtain ⟨oc, od, dV, kV, doc, pm, an, cdv', ct, osl, _, lk, _, _, _⟩ := F.ex
      have hc : He.codeOf K (d.name, none) = c := He.codeOf_eq (p := (d.name, none)) lk hco
      have e1 : (He.cT K (d.name, none)).1 = c := hc
      exact ⟨⟨c, (He.cT K (d.name, none)).2, rfl, by rw [e1] at tb; exact tb, hm, hu⟩, Wh.told⟩
  refine ⟨G, fun x hx => ⟨locB_ok hx, .inl rfl⟩, passes_of (X := cxOf (L2N.CX P w) P w K mg base d.N d.name d.sc (He.ga K d.name) cdv A outer s H E) rfl, fun c hc m j p p2 pos hg hbad => ?_⟩
  obtain ⟨e1, e2, e3, e4, e5⟩ := Wh.exc c hc
  exact L2N.pmk_own PySem.F.excBase_ValueError e2 e1 e3 (raises_own e4 e5) hg (bad_no hbad).1
theorem tab_ok (Wh : Whole K mg W) : ∀ L : List FdT, RefAll W L → AllD (Fits K mg base T) L → ∀ f fi, (fnTab L).lookup f = some fi → FnG' P w K mg base T (lv L) f fi
  | [], _, _, f, fi, h => by cases h
  | d :: r, hR, hL, f, fi, h => by
    have ih := tab_ok Wh r hR.2 hL.2
    have up : lv r ≤ lv (d :: r) := by
      show lv r ≤ (if d.lam = true then lv r + 2 else lv r) + 1
      split <;> omega
    have h : (match f == d.name with | true => some _ | false => (fnTab r).lookup f) = some fi := h
    cases e : f == d.name with
    | false =>
      rw [e] at h
      obtain ⟨a, fd, ps, h1, h2, h3, h4⟩ := ih f fi h
      exact ⟨a, fd, ps, h1.mono up, h2, h3, h4⟩
    | true =>
      rw [e] at h
      cases h
      have e2 : f = d.name := by simpa using e
      subst e2
      obtain ⟨fd, F, h1, h2⟩ := head_ok (P := P) (w := w) Wh hR.1 hL.1 ih
      exact ⟨_, fd, d.ps, h1, hL.1.glo, F.kp, h2⟩
end
end DI
end
section
set_option linter.all false
set_option autoImplicit false
set_option maxRecDepth 100000
set_option maxHeartbeats 2000000
/-! D27: a row by its data. -/
namespace DI
open PySem PySem.Spec L2
open PyProof.Rows hiding St
open LamX
/-- classes without an __init__ of their own -/
def plainKinds : List Str := ["NotAllowed", "TooLarge", "Missing"]
structure RowD where
  law : FdT
  L : List FdT
  nums : List (Str × Int)
  fuel : Nat
  tp : Nat → Pos
  tparams : Arguments
  tsg : Scope
  tcsc : Scope
namespace RowD
variable (R : RowD)
def all : List FdT := R.law :: R.L
def W : Wl := ⟨fun x => (R.nums.lookup x).map PyData.int, plainKinds, R.fuel⟩
def toldD : He.DefD := ⟨("_law_told", none), "_law_told", "_law_told", R.tparams, toldBody R.tp R.tcsc, R.tsg, [], []⟩
def dOf (d : FdT) : He.DefD := ⟨(d.name, none), d.name, d.name, d.params, d.body, d.sc, [], []⟩
def fn : List He.DefD := R.toldD :: R.all.map dOf
def fa : List He.Fa := R.all.map (fun d => He.Fa.glo d.name) ++ (He.Fa.glo "HandError" :: He.Fa.glo "_law_told" :: toldKinds.map He.Fa.glo) ++ plainKinds.map He.Fa.exc ++ toldKinds.map (fun c => He.Fa.exm c "HandError" true) ++ biNames.map He.Fa.free ++ R.nums.map fun q => He.Fa.int q.1 q.2
def tf : List He.Defn := (R.all.filter fun d => d.lam).map fun d => (d.name, none)
def excB (K : PySem.W.Frag) (D : Addr) : Bool :=
  He.eqO (PySem.W.findIn K (.ref D) "__getattribute__") (some (some (.builtin "BaseException.__getattribute__"))) && (He.eqO (PySem.W.findIn K (.ref D) "__getattr__") (some none) && (decide (PySem.W.subIn K (.ref D) (.type "BaseException") = some true) && (PySem.W.hasDictIn K D && (He.eqO (PySem.W.findIn K (.ref D) "__class__") (some (some (.builtin "object.__class__"))) &&
    (He.eqO (PySem.W.specialIn K (.builtin "object.__class__") "__get__") (some (some (.builtin "getset_descriptor.__get__"))) && (decide (PySem.W.takesIn K (.builtin "object.__class__") = some true) && decide (PySem.W.mroIn K D (.type "object") = some true)))))))
def isListO (o : Obj) : Bool := match o.cls with
  | .type c => decide (c = "list")
  | _ => false
def ex (K : PySem.W.Frag) : Bool := (K.all fun q => !isListO q.2) && ((toldKinds.all fun c => excB K (He.ga K c)) && ((toldKinds.all fun c => toldKinds.all fun d => decide (PySem.W.kitOne K (.ref (He.ga K c)) (.ref (He.ga K d)) = some (decide (c = d)))) &&
  (R.tf.all fun p => R.tf.all fun p' => !decide ((He.cT K p).2 = (He.cT K p').2) || decide (p.1 = p'.1))))
abbrev hk (n : Nat) : PySem.W.Hook := He.hookX n R.fa R.fn [] R.tf R.ex
end RowD
theorem excB_ok {K : PySem.W.Frag} {D : Addr} (h : RowD.excB K D = true) : ExcC K D := by
  obtain ⟨h1, h⟩ := He.ba h
  obtain ⟨h2, h⟩ := He.ba h
  obtain ⟨h3, h⟩ := He.ba h
  obtain ⟨h4, h⟩ := He.ba h
  obtain ⟨h5, h⟩ := He.ba h
  obtain ⟨h6, h⟩ := He.ba h
  obtain ⟨h7, h8⟩ := He.ba h
  exact ⟨He.eqO_ok h1, He.eqO_ok h2, of_decide_eq_true h3, h4, He.eqO_ok h5, He.eqO_ok h6, of_decide_eq_true h7, of_decide_eq_true h8⟩
/-- what is plain to see of a def -/
structure Static (d : FdT) : Prop where
  S : FnScope d.N d.ps d.sc
  hl : d.ps.length = (if d.st = true then d.ar + 1 else d.ar)
  bind : ∀ (kV doc pm : Value) (an : Option Addr) (cdv ct : Value) (us : List Value), us.length = d.ps.length → bindArgs (PySem.W.fnOf d.name d.name d.params d.body d.sc .none kV doc pm an cdv ct) ⟨us, []⟩ = pure (d.ps.zip us)
theorem AllD.at_ {p : FdT → Prop} : ∀ {L : List FdT}, AllD p L → ∀ d ∈ L, p d
  | [], _, _, h => by cases h
  | _ :: _, h, _, hd => (List.mem_cons.mp hd).elim (fun e => e ▸ h.1) fun e => AllD.at_ h.2 _ e
theorem AllD.of {p : FdT → Prop} : ∀ {L : List FdT}, (∀ d ∈ L, p d) → AllD p L
  | [], _ => trivial
  | d :: r, h => ⟨h d List.mem_cons_self, AllD.of fun e he => h e (List.mem_cons_of_mem _ he)⟩
theorem rp_ints {K : PySem.W.Frag} {H : Hp} : ∀ ns : List Int, RpAll K H (ns.map V.int) (ns.map PyData.int)
  | [] => .nil
  | n :: ns => .cons (.int n) (rp_ints ns)
/-- the law as it is computed -/
def RowD.sem (Z : RowD) (ns : List Int) : R D := Z.law.sem [.list (ns.map PyData.int)] []
theorem row_law {l : PySem.W.OpenLaw} {w : World} {K : PySem.W.Frag} {h : Heap} {mg : Str → Option Value} {fa : Addr} {n : Nat} (R : RowD) (KX : K.In h) (G : h.Ns mainGlobals mg) (c : He.SaysX R.fa R.fn [] R.tf R.ex w h K) (hS : AllD Static R.all) (hR : RefAll R.W R.all) (hst : R.law.st = false) (hps : R.law.ps = (["script"] : List Str))
    (TS : ToldSc R.tsg R.tcsc) (hline : (R.tp 29).line = (R.tp 45).line)
    (tbind : ∀ (kV doc pm : Value) (an : Option Addr) (cdv ct : Value) (us : List Value), us.length = (["call"] : List Str).length → bindArgs (PySem.W.fnOf "_law_told" "_law_told" R.tparams (toldBody R.tp R.tcsc) R.tsg .none kV doc pm an cdv ct) ⟨us, []⟩ = pure ((["call"] : List Str).zip us))
    (hfa : mg R.law.name = some (.ref fa)) (hpure : ∀ ns : List Int, ns.length ≤ n → (∀ z ∈ ns, Builtin.Int.intBits z ≤ 1048576) → ∃ st, R.sem ns = .ok (.bool true) st) :
    LawAtG l w K (L2N.CX l.prog w) (lv R.all) n "script" mg fa h := by
  have cd := c.t.d
  have glo : ∀ x, He.Fa.glo x ∈ R.fa → mg x = some (.ref (He.ga K x)) := fun x hx => He.glo_ok KX G (cd.facts hx)
  have mA : ∀ d ∈ R.all, He.Fa.glo d.name ∈ R.fa := fun d hd => by
    unfold RowD.fa
    simp only [List.mem_append, List.mem_map]
    exact .inl (.inl (.inl (.inl (.inl ⟨d, hd, rfl⟩))))
  have mC : ∀ x ∈ toldKinds, He.Fa.glo x ∈ R.fa := fun x hx => by
    unfold RowD.fa
    simp only [List.mem_append, List.mem_cons, List.mem_map]
    exact .inl (.inl (.inl (.inl (.inr (.inr (.inr ⟨x, hx, rfl⟩))))))
  have mE : He.Fa.glo "HandError" ∈ R.fa := by
    unfold RowD.fa
    simp only [List.mem_append, List.mem_cons]
    exact .inl (.inl (.inl (.inl (.inr (.inl True.intro)))))
  have mT : He.Fa.glo "_law_told" ∈ R.fa := by
    unfold RowD.fa
    simp only [List.mem_append, List.mem_cons]
    exact .inl (.inl (.inl (.inl (.inr (.inr (.inl True.intro))))))
  have mX : ∀ x ∈ plainKinds, He.Fa.exc x ∈ R.fa := fun x hx => by
    unfold RowD.fa
    simp only [List.mem_append, List.mem_map]
    exact .inl (.inl (.inl (.inr ⟨x, hx, rfl⟩)))
  have mM : ∀ x ∈ toldKinds, He.Fa.exm x "HandError" true ∈ R.fa := fun x hx => by
    unfold RowD.fa
    simp only [List.mem_append, List.mem_map]
    exact .inl (.inl (.inr ⟨x, hx, rfl⟩))
  have mF : ∀ x ∈ biNames, He.Fa.free x ∈ R.fa := fun x hx => by
    unfold RowD.fa
    simp only [List.mem_append, List.mem_map]
    exact .inl (.inr ⟨x, hx, rfl⟩)
  have mI : ∀ q ∈ R.nums, He.Fa.int q.1 q.2 ∈ R.fa := fun q hq => by
    unfold RowD.fa
    simp only [List.mem_append, List.mem_map]
    exact .inr ⟨q, hq, rfl⟩
  have bi : ∀ x ∈ biNames, mg x = none := fun x hx => He.free_ok KX G (cd.facts (mF x hx))
  obtain ⟨x1, x⟩ := He.ba c.more
  obtain ⟨x2, x⟩ := He.ba x
  obtain ⟨x3, x4⟩ := He.ba x
  have told : ToldFn K mg (He.ga K) := by
    refine ⟨⟨⟨_, glo _ mE, fun c' hc => He.exm_ok (cd.facts (mM c' hc))⟩, fun c' hc => glo _ (mC c' hc), fun c' hc => excB_ok (List.all_eq_true.mp x2 c' hc), fun c' hc d hd => of_decide_eq_true (List.all_eq_true.mp (List.all_eq_true.mp x3 c' hc) d hd)⟩, fun x hx => bi x (by
      simp only [List.mem_cons, List.not_mem_nil, or_false] at hx
      rcases hx with rfl | rfl | rfl | rfl <;> decide), ?_⟩
    obtain ⟨fd, F⟩ := cd.defs (d := R.toldD) List.mem_cons_self
    exact ⟨_, fd, R.tparams, R.tp, R.tsg, R.tcsc, TS, hline, glo _ mT, F.kp, F, FunD.bindsN F tbind⟩
  have Wh : Whole K mg R.W := by
    refine ⟨fun x d hx => ?_, bi, fun c' hc => ?_, told⟩
    · have hx : (R.nums.lookup x).map PyData.int = some d := hx
      simp only [Option.map_eq_some_iff] at hx
      obtain ⟨i, h1, rfl⟩ := hx
      obtain ⟨t, ht⟩ := He.int_ok KX G (cd.facts (mI (x, i) (PySem.mem_of_lookup h1)))
      exact ⟨.int i, .int i t, ht, ⟨t, rfl⟩, fun H => .int i⟩
    · obtain ⟨e1, e2, e3, e4⟩ := He.exc_ok (cd.facts (mX c' hc))
      have hc2 : c' ∈ plainKinds := hc
      exact ⟨glo _ (mC c' (by
        simp only [plainKinds, List.mem_cons, List.not_mem_nil, or_false] at hc2
        rcases hc2 with rfl | rfl | rfl <;> decide)), e1, e2, e3, e4⟩
  let T : List (Addr × Str) := R.tf.map fun p => ((He.cT K p).2, lamQ p.1)
  have fits : ∀ base : Heap, (∀ p ∈ R.tf.map (He.cT K), TabB base mg p.1 p.2) → ∀ d ∈ R.all, Fits K mg base T d := fun base hTB d hd => by
    have hs := AllD.at_ hS d hd
    obtain ⟨fd, F⟩ := cd.defs (d := RowD.dOf d) (List.mem_cons_of_mem _ (List.mem_map.mpr ⟨d, hd, rfl⟩))
    refine ⟨hs.S, hs.hl, ⟨fd, F, FunD.bindsN F hs.bind⟩, glo _ (mA d hd), fun hl => ?_⟩
    have hm : (d.name, none) ∈ R.tf := List.mem_map.mpr ⟨d, List.mem_filter.mpr ⟨hd, hl⟩, rfl⟩
    refine ⟨hTB _ (List.mem_map.mpr ⟨_, hm, rfl⟩), List.mem_map.mpr ⟨_, hm, rfl⟩, fun p hp e => ?_⟩
    obtain ⟨p', hp', rfl⟩ := List.mem_map.mp hp
    have z := List.all_eq_true.mp (List.all_eq_true.mp x4 p' hp') _ hm
    have e : (He.cT K p').2 = (He.cT K (d.name, none)).2 := e
    simp only [e, decide_true, Bool.not_true, Bool.false_or, decide_eq_true_eq] at z
    show lamQ p'.1 = lamQ d.name
    rw [z]
  have hfa' : fa = He.ga K R.law.name := by
    have z := hfa.symm.trans (glo _ (mA R.law List.mem_cons_self))
    cases z
    rfl
  subst hfa'
  have hlaw := AllD.at_ hS R.law List.mem_cons_self
  obtain ⟨fd0, F0⟩ := cd.defs (d := RowD.dOf R.law) (List.mem_cons_of_mem _ (List.mem_map.mpr ⟨R.law, List.mem_cons_self, rfl⟩))
  refine ⟨fd0, R.tf.map (He.cT K), spF K T ⟨R.law.ar, R.law.st, R.law.sem⟩, fun b o hb => ?_, fun p hp => ?_, fun p hp => ?_, fun p hp => ?_, fun s u => ?_, fun H a ns h1 h2 h3 h4 => ?_, fun base hK _ hTB => ?_⟩
  · have z := List.all_eq_true.mp x1 (b, o) (He.lookup_mem hb)
    intro e
    have z : (!RowD.isListO o) = true := z
    unfold RowD.isListO at z
    rw [e] at z
    simp at z
  · obtain ⟨q, hq, rfl⟩ := List.mem_map.mp hp
    exact c.empty q hq
  · obtain ⟨q, hq, rfl⟩ := List.mem_map.mp hp
    exact c.out q hq
  · obtain ⟨q, hq, rfl⟩ := List.mem_map.mp hp
    exact PySem.W.codeHd_of_K KX (c.hd q hq)
  · have z := FunD.bindsA (ps := R.law.ps) F0 hlaw.bind s [u] (by rw [hps]; rfl)
    rw [hps] at z
    exact z
  · unfold spF
    rw [hst]
    rw [if_neg (by simp)]
    obtain ⟨st, hr⟩ := hpure ns h1 h2
    have har : R.law.ar = 1 := by
      have := hlaw.hl
      rw [hst, hps] at this
      simpa using this.symm
    refine ⟨by rw [har]; rfl, fun _ => False, [.list (ns.map PyData.int)], fun _ z => z.elim, fun p hp => ?_, .cons (.lst ?_ (rp_ints ns)) .nil, ?_⟩
    · obtain ⟨q, hq, rfl⟩ := List.mem_map.mp hp
      exact TabS.nil (h3 _ (List.mem_map.mpr ⟨q, hq, rfl⟩))
    · rcases h4 with z | ⟨o, z⟩
      · exact .inl (in_hide z fun z => z)
      · exact .inr ⟨o, in_hide z fun z => z⟩
    · have hr : R.law.sem [.list (ns.map PyData.int)] [] = .ok (.bool true) st := hr
      show (match R.law.sem [.list (ns.map PyData.int)] [] with
        | .ok d _ => _
        | .err e _ => _
        | .stuck => False)
      rw [hr]
      intro v H' _ _ rv
      cases rv
      rfl
  · have fs := fits base hTB
    obtain ⟨fd, F, h1, h2⟩ := head_ok (P := l.prog) (w := w) (r := R.L) Wh hR.1 (fs R.law List.mem_cons_self) (tab_ok (P := l.prog) (w := w) (base := base) (T := T) Wh R.L hR.2 (AllD.of fun d hd => fs d (List.mem_cons_of_mem _ hd)))
    have e : fd = fd0 := by
      obtain ⟨_, _, _, _, _, _, _, _, _, _, _, lk, _⟩ := F.ex
      obtain ⟨_, _, _, _, _, _, _, _, _, _, _, lk0, _⟩ := F0.ex
      have lk0 : K.lookup (He.ga K R.law.name) = _ := lk0
      rw [lk] at lk0
      injection lk0 with z
      injection z with _ _ z _
      injection z
    subst e
    rw [hps] at h1
    exact h1
end DI
end
section
set_option linter.all false
set_option autoImplicit false
set_option maxRecDepth 100000
/-! D28: statements with what comes behind them: the kernel then turns a def's body into plain operations. -/
namespace DI
open PySem L2
/-- what one statement leaves, told at once -/
def asgK {β : Type} (C : Ctx) (x : Str) (sv : SV) (ρ : Env) (k : Fl → Env → M β) : M β := match asgName C x sv ρ with
  | some ρ' => k .nx ρ'
  | none => stuckM
def asgT {β : Type} (n : Nat) (C : Ctx) (tg : Expr) (d : D) (ρ : Env) (k : Fl → Env → M β) : M β := match asg n C tg d ρ with
  | some ρ' => k .nx ρ'
  | none => stuckM
def endK {β : Type} (k : Fl → Env → M β) (q : Fl × Env) : M β := k q.1 q.2
def forTg : Stmt → Expr
  | .For tg _ _ _ _ => tg
  | _ => .Constant .none 0 ⟨0, 0, 0, 0⟩
def forIt : Stmt → Expr
  | .For _ it _ _ _ => it
  | _ => .Constant .none 0 ⟨0, 0, 0, 0⟩
def forBody : Stmt → List Stmt
  | .For _ _ b _ _ => b
  | _ => []
def ifA : Stmt → List Stmt
  | .If _ a _ _ => a
  | _ => []
def ifB : Stmt → List Stmt
  | .If _ _ b _ => b
  | _ => []
def retF (f : Fl) (ρ : Env) : M (Fl × Env) := ret (f, ρ)
/-- a turn of the loop -/
def turnF (n : Nat) (C : Ctx) (s : Stmt) : D → Env → M (Fl × Env) := fun x ρ => bnd (optM (asg n C (forTg s) x ρ)) fun ρ' => evSs n C (forBody s) ρ'
mutual
def kS {β : Type} : Nat → Ctx → Stmt → Env → (Fl → Env → M β) → M β
  | 0, _, _, _, _ => stuckM
  | n + 1, C, s, ρ, k => match s with
    | .Return (some e) _ => let ρ := share C (esc n e) ρ
        bnd (evE n C e ρ) fun d => k (.rt d) ρ
    | .If t a b _ => let ρ := share C (escB n t) ρ
        bnd (evT n C t ρ) fun c => if c = true then kSs n C a ρ k else kSs n C b ρ k
    | .Assign [.Name x p] e q => if C.mkst = some x then (let ρ := share C (esc n e) ρ
          guardM (nmOk C x) (match e with
          | .List es _ => fun st => (match st with
            | [] => (bnd (evEs n C es ρ) fun ds => guardM (fits ds.length && !ds.isEmpty) fun _ => (match asgName C x .stt ρ with
              | some ρ' => k .nx ρ' ds
              | none => R.stuck)) []
            | _ => R.stuck)
          | _ => stuckM))
        else (let ρ := share C (esc n e) ρ
          guardM (nmOk C x) (if isFresh e = true then bnd (evF n C e ρ) fun ds => asgK C x (.ow ds) ρ k else bnd (evE n C e ρ) fun d => asgK C x (.sh d) ρ k))
    | .Assign [.Tuple es j p] e _ => let ρ := share C (esc n e) ρ
        guardM (!isTup e) (bnd (evE n C e ρ) fun d => asgT n C (.Tuple es j p) d ρ k)
    | .Assign [.Subscript (.Name x _) i _] e _ => let ρ := share C (esc n e ++ esc n i) ρ
        guardM (!isSl i) <| bnd (evE n C e ρ) fun d => (match slotOf C ρ x, ixOf C.N x with
        | some (.ow ds), some m => bnd (evE n C i ρ) fun j => bnd (optM (setD ds j d)) fun ds' => k .nx (ρ.set m (some (.ow ds')))
        | some .stt, _ => bnd (evE n C i ρ) fun j => fun st => (match setD st j d with
          | some st' => k .nx ρ st'
          | none => R.stuck)
        | _, _ => stuckM)
    | .Expr (.Call (.Attribute (.Name x _) m ap) [a] [] cp) _ => let ρ := share C (esc n a) ρ
        (match slotOf C ρ x, ixOf C.N x with
        | some (.ow ds), some i => guardM (decide (m = "append") && !isStar a && visB C.sc x && (ap.endLine == cp.line)) (bnd (evE n C a ρ) fun d => guardM (fits (ds.length + 1)) (k .nx (ρ.set i (some (.ow (ds ++ [d]))))))
        | _, _ => stuckM)
    | .For tg it body [] p => let ρ := share C (esc n it ++ escsAll it) ρ
        guardM (!isSetE it) <| bnd (evI n C false (isTup tg) it ρ) fun xs => bnd (loopM (turnF n C (.For tg it body [] p)) xs ρ) (endK k)
    | .Expr (.Call (.Name f q) args kws p) _ => let ρ := share C (esc n (.Call (.Name f q) args kws p)) ρ
        bnd (evE n C (.Call (.Name f q) args kws p) ρ) fun _ => k .nx ρ
    | s => bnd (evS (n + 1) C s ρ) (endK k)
def kSs {β : Type} : Nat → Ctx → List Stmt → Env → (Fl → Env → M β) → M β
  | 0, _, _, _, _ => stuckM
  | _ + 1, _, [], ρ, k => k .nx ρ
  | n + 1, C, s :: r, ρ, k => kS n C s ρ fun f ρ' => (match f with
    | .nx => kSs n C r ρ' k
    | f => k f ρ')
end
def seqK {β : Type} (n : Nat) (C : Ctx) (r : List Stmt) (k : Fl → Env → M β) : Fl → Env → M β := fun f ρ' => (match f with
    | .nx => kSs n C r ρ' k
    | f => k f ρ')
theorem grd_next {α β : Type} {b : Bool} {m : M α} {f : α → M β} {st : Stt} : (guardM b m st).next f = guardM b (bnd m f) st := by
  unfold guardM
  split <;> rfl
theorem asgK_eq {β : Type} (C : Ctx) (x : Str) (sv : SV) (ρ : Env) (k : Fl → Env → M β) : asgK C x sv ρ k = bnd (bnd (optM (asgName C x sv ρ)) fun ρ' => ret (Fl.nx, ρ')) (endK k) := by
  unfold asgK
  cases asgName C x sv ρ <;> rfl
theorem bnd_bnd {α β γ : Type} (m : M α) (f : α → M β) (g : β → M γ) : bnd (bnd m f) g = bnd m fun x => bnd (f x) g := by
  funext st
  exact next_next _ _ _
theorem bnd_grd {α β : Type} (b : Bool) (m : M α) (f : α → M β) : bnd (guardM b m) f = guardM b (bnd m f) := by
  funext st
  exact grd_next
theorem ite_bnd {α β : Type} (b : Bool) (m m' : M α) (f : α → M β) : bnd (if b = true then m else m') f = if b = true then bnd m f else bnd m' f := by
  split <;> rfl
mutual
theorem kS_eq {β : Type} : ∀ (n : Nat) (C : Ctx) (s : Stmt) (ρ : Env) (k : Fl → Env → M β), kS n C s ρ k = bnd (evS n C s ρ) (endK k)
  | 0, _, _, _, _ => rfl
  | n + 1, C, s, ρ, k => by
    by_cases h1 : ∃ e p, s = .Return (some e) p
    · obtain ⟨e, p, rfl⟩ := h1
      show (bnd (evE n C e _) fun d => k (.rt d) _) = bnd (bnd (evE n C e _) fun d => ret (Fl.rt d, _)) (endK k)
      rw [bnd_bnd]
      rfl
    by_cases h2 : ∃ t a b p, s = .If t a b p
    · obtain ⟨t, a, b, p, rfl⟩ := h2
      show (bnd (evT n C t _) fun c => if c = true then kSs n C a _ k else kSs n C b _ k) = bnd (bnd (evT n C t _) fun c => if c = true then evSs n C a _ else evSs n C b _) (endK k)
      rw [bnd_bnd]
      congr 1
      funext c
      rw [ite_bnd, kSs_eq n C a, kSs_eq n C b]
    by_cases h3 : ∃ x p e q, s = .Assign [.Name x p] e q
    · obtain ⟨x, p, e, q, rfl⟩ := h3
      by_cases hm : C.mkst = some x
      · show (if C.mkst = some x then _ else _) = bnd (guardM (nmOk C x) (if C.mkst = some x then _ else _)) (endK k)
        rw [if_pos hm, if_pos hm, bnd_grd]
        congr 1
        cases e with
        | List es q2 =>
          funext st
          cases st with
          | cons _ _ => rfl
          | nil =>
            show R.next (evEs n C es _ []) _ = R.next (R.next (evEs n C es _ []) _) _
            rw [next_next]
            congr 1
            funext ds st1
            show guardM _ _ _ = R.next (guardM _ _ _) _
            unfold guardM
            by_cases hb : (fits ds.length && !ds.isEmpty) = true
            · rw [if_pos hb, if_pos hb]
              cases asgName C x .stt (share C (esc n (Expr.List es q2)) ρ) <;> rfl
            · rw [if_neg hb, if_neg hb]
              rfl
        | _ => rfl
      · show (if C.mkst = some x then _ else _) = bnd (guardM (nmOk C x) (if C.mkst = some x then _ else _)) (endK k)
        rw [if_neg hm, if_neg hm, bnd_grd, bnd_bnd]
        by_cases hf : isFresh e = true
        · have h4 : ∀ (ρ : Env) (f : SV → M β), bnd (evV n C e ρ) f = bnd (evF n C e ρ) fun ds => f (.ow ds) := fun ρ f => by
            unfold evV
            rw [if_pos hf, bnd_bnd]
            rfl
          rw [h4]
          show guardM _ (if isFresh e = true then _ else _) = _
          rw [if_pos hf]
          congr 2
          funext ds
          exact asgK_eq _ _ _ _ _
        · have h4 : ∀ (ρ : Env) (f : SV → M β), bnd (evV n C e ρ) f = bnd (evE n C e ρ) fun d => f (.sh d) := fun ρ f => by
            unfold evV
            rw [if_neg hf, bnd_bnd]
            rfl
          rw [h4]
          show guardM _ (if isFresh e = true then _ else _) = _
          rw [if_neg hf]
          congr 2
          funext ds
          exact asgK_eq _ _ _ _ _
    by_cases h4 : ∃ es j p e q, s = .Assign [.Tuple es j p] e q
    · obtain ⟨es, j, p, e, q, rfl⟩ := h4
      show guardM _ _ = bnd (guardM _ (bnd _ _)) (endK k)
      rw [bnd_grd, bnd_bnd]
      congr 1
      · cases e <;> rfl
      congr 1
      funext d
      show (match asg n C _ d _ with | some ρ' => _ | none => _) = bnd (bnd (optM (asg n C _ d _)) _) _
      cases asg n C (Expr.Tuple es j p) d (share C (esc n e) ρ) <;> rfl
    by_cases h5 : ∃ x q i p e r, s = .Assign [.Subscript (.Name x q) i p] e r
    · obtain ⟨x, q, i, p, e, r, rfl⟩ := h5
      show guardM _ _ = bnd (guardM _ (bnd _ _)) (endK k)
      rw [bnd_grd, bnd_bnd]
      congr 2
      funext d
      cases slotOf C (share C (esc n e ++ esc n i) ρ) x with
      | none => rfl
      | some sv =>
        cases sv with
        | sh d => rfl
        | ow ds =>
          cases ixOf C.N x with
          | none => rfl
          | some m =>
            show (bnd _ _) = bnd (bnd _ _) _
            rw [bnd_bnd]
            congr 1
            funext j
            rw [bnd_bnd]
            rfl
        | stt =>
          funext s0
          show R.next (evE n C i (share C (esc n e ++ esc n i) ρ) s0) _ = R.next (R.next (evE n C i (share C (esc n e ++ esc n i) ρ) s0) _) _
          generalize (evE n C i (share C (esc n e ++ esc n i) ρ) s0 : R D) = r0
          cases r0 with
          | ok j st =>
            show (match setD st j d with | some st' => _ | none => _) = R.next (match setD st j d with | some st' => _ | none => _) _
            cases setD st j d <;> rfl
          | err _ _ => rfl
          | stuck => rfl
    by_cases h6 : ∃ x q m ap a cp r, s = .Expr (.Call (.Attribute (.Name x q) m ap) [a] [] cp) r
    · obtain ⟨x, q, m, ap, a, cp, r, rfl⟩ := h6
      show (match slotOf C _ x, ixOf C.N x with | some (.ow ds), some i => _ | _, _ => _) = bnd (match slotOf C _ x, ixOf C.N x with | some (.ow ds), some i => _ | _, _ => _) _
      cases slotOf C (share C (esc n a) ρ) x with
      | none => rfl
      | some sv =>
        cases sv with
        | ow ds =>
          cases ixOf C.N x with
          | none => rfl
          | some i =>
            show guardM _ _ = bnd (guardM _ _) _
            rw [bnd_grd, bnd_bnd]
            congr 2
            funext d
            rw [bnd_grd]
            rfl
        | _ => rfl
    by_cases h8 : ∃ tg it body p, s = .For tg it body [] p
    · obtain ⟨tg, it, body, p, rfl⟩ := h8
      show guardM _ _ = bnd (guardM _ (bnd _ _)) _
      rw [bnd_grd, bnd_bnd]
      rfl
    by_cases h7 : ∃ f q args kws p r, s = .Expr (.Call (.Name f q) args kws p) r
    · obtain ⟨f, q, args, kws, p, r, rfl⟩ := h7
      show (bnd _ _) = bnd (guardM (!isComp _) (bnd _ _)) _
      rw [bnd_grd, bnd_bnd]
      rfl
    cases s with
    | Expr e r =>
      cases e with
      | Call f args kws p =>
        cases f with
        | Name f q => exact absurd ⟨_, _, _, _, _, _, rfl⟩ h7
        | Attribute o m ap =>
          cases o with
          | Name x q =>
            cases args with
            | nil => rfl
            | cons a as =>
              cases as with
              | cons _ _ => rfl
              | nil =>
                cases kws with
                | nil => exact absurd ⟨_, _, _, _, _, _, _, rfl⟩ h6
                | cons _ _ => rfl
          | _ => rfl
        | _ => rfl
      | _ => rfl
    | For tg it body els p =>
      cases els with
      | nil => exact absurd ⟨_, _, _, _, rfl⟩ h8
      | cons _ _ => rfl
    | Return v p =>
      cases v with
      | none => rfl
      | some e => exact absurd ⟨_, _, rfl⟩ h1
    | If t a b p => exact absurd ⟨_, _, _, _, rfl⟩ h2
    | Assign tgs e q =>
      cases tgs with
      | nil => rfl
      | cons t r =>
        cases r with
        | cons _ _ =>
          cases t with
          | Subscript a i p => cases a <;> rfl
          | _ => rfl
        | nil =>
          cases t with
          | Name x p => exact absurd ⟨_, _, _, _, rfl⟩ h3
          | Tuple es j p => exact absurd ⟨_, _, _, _, _, rfl⟩ h4
          | Subscript a i p => cases a <;> first | rfl | exact absurd ⟨_, _, _, _, _, _, rfl⟩ h5
          | _ => rfl
    | _ => rfl
theorem kSs_eq {β : Type} : ∀ (n : Nat) (C : Ctx) (s : List Stmt) (ρ : Env) (k : Fl → Env → M β), kSs n C s ρ k = bnd (evSs n C s ρ) (endK k)
  | 0, _, _, _, _ => rfl
  | _ + 1, _, [], _, _ => rfl
  | n + 1, C, s :: r, ρ, k => by
    show kS n C s ρ _ = bnd (bnd (evS n C s ρ) _) (endK k)
    rw [kS_eq n C s, bnd_bnd]
    congr 1
    funext q
    obtain ⟨f, ρ'⟩ := q
    cases f with
    | nx => exact kSs_eq n C r ρ' k
    | bk => rfl
    | ct => rfl
    | rt d => rfl
end
/-- a def's end -/
def outK (f : Fl) (_ : Env) : M D := match f with
  | .rt d => ret d
  | .nx => ret .none
  | _ => stuckM
theorem runB_eq (n : Nat) (C : Ctx) (body : List Stmt) (st : Bool) (ds : List D) : runB n C body st ds = kSs n C body (startE C.N st ds) outK := by
  rw [kSs_eq]
  funext s
  show outM (evSs n C body _ s) = R.next (evSs n C body _ s) _
  cases evSs n C body (startE C.N st ds) s with
  | ok q s' =>
    obtain ⟨f, ρ⟩ := q
    cases f <;> rfl
  | err e s' => rfl
  | stuck => rfl
/-- a turn by what comes behind each statement -/
theorem turnF_eq (n : Nat) (C : Ctx) (s : Stmt) (x : D) (ρ : Env) : turnF n C s x ρ = bnd (optM (asg n C (forTg s) x ρ)) fun ρ' => kSs n C (forBody s) ρ' retF := by
  unfold turnF
  congr 1
  funext ρ'
  rw [kSs_eq]
  funext st
  show _ = R.next (evSs n C (forBody s) ρ' st) _
  cases evSs n C (forBody s) ρ' st with
  | ok q st' => rfl
  | err _ _ => rfl
  | stuck => rfl
end DI
end
section
set_option linter.all false
set_option autoImplicit false
set_option maxRecDepth 100000
/-! PRE: what the defs do that every law brings along. -/
namespace DI
open PySem L2
def m_law_same : List D → M D
  | [a, b] => bnd (biM .repr [.list [a]]) fun x => bnd (biM .repr [.list [b]]) fun y => bnd (cmpM .Eq x y) fun c => ret (.bool c)
  | _ => stuckM
/-- one more number of the stream: state = [numbers, k] -/
def nextF (ds : List D) (st : Stt) : R D := match ds, st with
  | [.int m], [.list ns, .int k] => (match intsOf ns with
      | some is => if decide (0 < is.length ∧ is.length < 1073741824 ∧ 0 ≤ k ∧ k < 1000000 ∧ 0 < m) = true then
          R.ok (.int ((((is.getD ((k + 1) % is.length).toNat 0) + (k + 1) / is.length * 389) + (k + 1) * ((k + 1) / is.length) * 17) % m)) [.list ns, .int (k + 1)]
        else .stuck
      | none => .stuck)
  | _, _ => .stuck
def m_law_next (ds : List D) : M D := fun st => nextF ds st
end DI
namespace DI
open PySem L2
theorem ints_map : ∀ {ds : List D} {is : List Int}, intsOf ds = some is → ds = is.map PyData.int
  | [], _, h => by cases h; rfl
  | d :: ds, is, h => by
    cases d with
    | int i =>
      simp only [intsOf, Option.map_eq_some_iff] at h
      obtain ⟨js, h1, rfl⟩ := h
      rw [ints_map h1]
      rfl
    | _ => cases h
theorem ints_of : ∀ is : List Int, intsOf (is.map PyData.int) = some is
  | [] => rfl
  | i :: is => by simp [intsOf, ints_of is]
theorem atI_int {is : List Int} {i : Int} (h0 : 0 ≤ i) (h1 : i < is.length) : atI (is.map PyData.int) i = some (.int (is.getD i.toNat 0)) := by
  unfold atI ixN
  rw [List.length_map, if_pos h0, if_pos h1]
  have hj : i.toNat < is.length := by omega
  show (is.map PyData.int)[i.toNat]? = _
  rw [List.getElem?_map, List.getElem?_eq_getElem hj]
  simp [List.getD, hj]
theorem mulOk_r {i j : Int} (h : -(2 ^ 64) < j ∧ j < 2 ^ 64) : mulOk i j = true := decide_eq_true (.inr h)
theorem mulOk_l {i j : Int} (h : -(2 ^ 64) < i ∧ i < 2 ^ 64) : mulOk i j = true := decide_eq_true (.inl h)
theorem mul_at {i j : Int} (h : mulOk i j = true) : binM .Mult (.int i) (.int j) = ret (.int (i * j)) := by
  show guardM (mulOk i j) _ = _
  rw [h]
  rfl
theorem mod_at {i j : Int} (h : 0 < j) : binM .Mod (.int i) (.int j) = ret (.int (i % j)) := by
  show guardM (decide (0 < j)) _ = _
  rw [decide_eq_true h]
  rfl
theorem fdiv_at {i j : Int} (h : 0 < j ∧ j < 1073741824) : binM .FloorDiv (.int i) (.int j) = ret (.int (i / j)) := by
  show guardM (decide (0 < j ∧ j < 1073741824)) _ = _
  rw [decide_eq_true h]
  rfl
theorem bnd_ret_l {α β : Type} (a : α) (f : α → M β) : bnd (ret a) f = f a := rfl
def rdS (i : Int) : M D := fun st => ixM (.list st) (.int i) st
def lenS : M D := bnd (bnd (rdS 0) fun d => ret [d]) fun ds => biM .len ds
def nextE (m t : D) : M D := bnd (bnd (bnd (bnd (bnd (bnd (rdS 0) fun l => bnd (bnd (rdS 1) fun x => bnd lenS fun y => binM .Mod x y) fun y => ixM l y) fun x => bnd (binM .Mult t (.int 389)) fun y => binM .Add x y) fun z => bnd (bnd (bnd (rdS 1) fun x => binM .Mult x t) fun u => binM .Mult u (.int 17)) fun v => binM .Add z v) fun d => ret [d]) fun ds => biM .int ds) fun x => binM .Mod x m
/-- _law_next as its text says it -/
def nextR (m : D) : M D := bnd (bnd (rdS 1) fun x => binM .Add x (.int 1)) fun d st => (match setD st (.int 1) d with
      | some st' => bnd (bnd (rdS 1) fun x => bnd lenS fun y => binM .FloorDiv x y) (fun t => bnd (nextE m t) fun d => ret d) st'
      | none => .stuck)
theorem next_ok' {m k : Int} {is : List Int} (hL : 0 < is.length ∧ is.length < 1073741824) (hk : 0 ≤ k ∧ k < 1000000) (hm : 0 < m) :
    nextR (.int m) [.list (is.map PyData.int), .int k] = R.ok (.int ((((is.getD ((k + 1) % is.length).toNat 0) + (k + 1) / is.length * 389) + (k + 1) * ((k + 1) / is.length) * 17) % m)) [.list (is.map PyData.int), .int (k + 1)] := by
  have hL' : (0 : Int) < ((is.map PyData.int).length : Int) ∧ ((is.map PyData.int).length : Int) < 1073741824 := by rw [List.length_map]; omega
  have e0 : ∀ k : Int, rdS 0 [.list (is.map PyData.int), .int k] = R.ok (.list (is.map PyData.int)) [.list (is.map PyData.int), .int k] := fun _ => rfl
  have e1 : ∀ k : Int, rdS 1 [.list (is.map PyData.int), .int k] = R.ok (.int k) [.list (is.map PyData.int), .int k] := fun _ => rfl
  have e2 : ∀ k : Int, lenS [.list (is.map PyData.int), .int k] = R.ok (.int (is.map PyData.int).length) [.list (is.map PyData.int), .int k] := fun _ => rfl
  have s2 : nextR (.int m) [.list (is.map PyData.int), .int k] = (bnd (bnd (rdS 1) fun x => bnd lenS fun y => binM .FloorDiv x y) fun t => bnd (nextE (.int m) t) fun d => ret d) [.list (is.map PyData.int), .int (k + 1)] := rfl
  rw [s2]
  clear s2
  have n_ok : ∀ {α β : Type} (a : α) (st : Stt) (f : α → M β), R.next (.ok a st) f = f a st := fun _ _ _ => rfl
  have r_at : ∀ {α : Type} (a : α) (st : Stt), (ret a : M α) st = .ok a st := fun _ _ => rfl
  have b_at : ∀ {α β : Type} (m : M α) (f : α → M β) (st : Stt), bnd m f st = (m st).next f := fun _ _ _ => rfl
  have hx : 0 ≤ (k + 1) % (is.length : Int) := Int.emod_nonneg _ (by omega)
  have hx2 : (k + 1) % (is.length : Int) < is.length := Int.emod_lt_of_pos _ (by omega)
  have hix : ∀ st, ixM (.list (is.map PyData.int)) (.int ((k + 1) % (is.length : Int))) st = R.ok (.int (is.getD ((k + 1) % is.length).toNat 0)) st := fun st => by
    show optM (atI (is.map PyData.int) ((k + 1) % (is.length : Int))) st = _
    rw [atI_int hx hx2]
    rfl
  have hadd : ∀ i j : Int, binM .Add (.int i) (.int j) = ret (.int (i + j)) := fun _ _ => rfl
  have hint : ∀ i : Int, biM .int [.int i] = ret (.int i) := fun _ => rfl
  simp only [b_at, e1, n_ok, e2, fdiv_at hL', r_at]
  generalize hq : (k + 1) / (((is.map PyData.int).length : Nat) : Int) = q
  simp only [nextE, b_at, e0, e1, e2, n_ok, r_at, mod_at hL'.1]
  rw [List.length_map, hix]
  simp only [n_ok, b_at, e1, r_at, hadd, hint, mul_at (mulOk_r (i := q) (j := 389) (by omega)), mul_at (mulOk_l (i := k + 1) (j := q) (by omega)), mul_at (mulOk_r (i := (k + 1) * q) (j := 17) (by omega)), mod_at hm]
  rw [← hq, List.length_map]
theorem next_ref (ds : List D) (s : Stt) (f : D → M D) (hf : ∀ m, f m = nextR m) (g : List D → M D) (hg : ∀ m, g [m] = f m) : m_law_next ds s = .stuck ∨ g ds s = m_law_next ds s := by
  by_cases h : m_law_next ds s = .stuck
  · exact .inl h
  refine .inr ?_
  have h' : nextF ds s ≠ .stuck := h
  unfold nextF at h'
  split at h'
  · rename_i m ns k
    split at h'
    · rename_i is hi
      split at h'
      · rename_i hc
        have hc' := of_decide_eq_true hc
        obtain ⟨h1, h2, h3, h4, h5⟩ := hc'
        rw [hg, hf, ints_map hi, next_ok' ⟨h1, h2⟩ ⟨h3, h4⟩ h5]
        show _ = (match intsOf (is.map PyData.int) with
            | some is' => _
            | none => _)
        rw [ints_of]
        exact (if_pos hc).symm
      · exact absurd rfl h'
    · exact absurd rfl h'
  · exact absurd rfl h'
end DI
end
section
set_option linter.all false
set_option autoImplicit false
set_option maxRecDepth 100000
/-! STR: the stream of numbers that each law makes of its script (_law_stream). -/
namespace DI
open PySem L2
def absI (v : Int) : Int := if v < 0 then -v else v
def digs : Nat → Int → List Int
  | 0, _ => []
  | n + 1, r => (r % 1009) :: (if (r / 1009 == 0) = true then [] else digs n (r / 1009))
def stir (k s : Int) : Int := (s * 48271 + 7 * k + 11) % 2147483647
def stirs : Nat → Int → Int → List Int
  | 0, _, _ => []
  | n + 1, k, s => ((stir k s * 69621 + k) % 2147483629 % 1009) :: stirs n (k + 1) (stir k s)
def cellN (v : Int) : List Int := if decide (10 ^ 18 ≤ absI v) = true then digs 60 (absI v) else stirs 10 0 (absI v % 2147483647)
def strm (ns : List Int) : List Int := if (ns.take 63).flatMap cellN = [] then [0] else (ns.take 63).flatMap cellN
def m_law_stream : List D → M D
  | [.list xs] => (match intsOf xs with
    | some ns => ret (.list ((strm ns).map PyData.int))
    | none => stuckM)
  | _ => stuckM
theorem digs_len : ∀ n r, (digs n r).length ≤ n
  | 0, _ => Nat.le_refl _
  | n + 1, r => by
    unfold digs
    split
    · simp
    · have := digs_len n (r / 1009); simp; omega
theorem stirs_len : ∀ n k s, (stirs n k s).length = n
  | 0, _, _ => rfl
  | n + 1, k, s => by simp [stirs, stirs_len n]
theorem cell_len (v : Int) : (cellN v).length ≤ 60 := by
  unfold cellN
  split
  · exact digs_len _ _
  · rw [stirs_len]; omega
theorem cells_len : ∀ ns : List Int, (ns.flatMap cellN).length ≤ 60 * ns.length
  | [] => by simp
  | n :: ns => by
    have h1 := cell_len n
    have h2 := cells_len ns
    simp only [List.flatMap_cons, List.length_append, List.length_cons]
    omega
theorem strm_len (ns : List Int) : 0 < (strm ns).length ∧ (strm ns).length ≤ 3781 := by
  unfold strm
  split
  · simp
  · rename_i h
    have h1 := cells_len (ns.take 63)
    have h2 : (ns.take 63).length ≤ 63 := by rw [List.length_take]; omega
    exact ⟨List.length_pos_iff.mpr h, by omega⟩
/-- its slots: script, numbers, cell, rest, k, stirred -/
def ev (s : D) (ns : List D) (c r k t : Option SV) : Env := [some (.sh s), some (.ow ns), c, r, k, t]
def mulR (a b : D) : M D := binM .Mult a b
def stirR (t y : Int) : M D := bnd (bnd (bnd (bnd (bnd (binM .Mult (.int t) (.int 48271)) fun u => bnd (binM .Mult (.int 7) (.int y)) fun v => binM .Add u v) fun z => binM .Add z (.int 11)) fun d => ret [d]) fun ds => biM .int ds) fun w => binM .Mod w (.int 2147483647)
def itemR (d : D) (y : Int) : M D := bnd (bnd (bnd (bnd (bnd (binM .Mult d (.int 69621)) fun u => binM .Add u (.int y)) fun d => ret [d]) fun ds => biM .int ds) fun w => binM .Mod w (.int 2147483629)) fun w => binM .Mod w (.int 1009)
theorem stirR_eq (t y : Int) (h : -(2 ^ 64) < y ∧ y < 2 ^ 64) : stirR t y = ret (.int (stir y t)) := by
  unfold stirR
  rw [mul_at (mulOk_r (by omega)), mul_at (mulOk_l (by omega))]
  rfl
theorem itemR_eq (t y : Int) : itemR (.int t) y = ret (.int ((t * 69621 + y) % 2147483629 % 1009)) := by
  unfold itemR
  rw [mul_at (mulOk_r (by omega))]
  rfl
section
variable {F F1 F2 : D → Env → M (Fl × Env)} {K1 K2 K0 : Fl × Env → M (Fl × Env)}
theorem fits_small {n : Nat} (h : n ≤ 10000) : fits n = true := decide_eq_true (Nat.le_trans h (by decide +kernel))
theorem rangeD_cons (i j : Int) (h : i < j) : rangeD i j = .int i :: rangeD (i + 1) j := by
  unfold rangeD
  have e : (j - i).toNat = (j - (i + 1)).toNat + 1 := by omega
  rw [e, List.range_succ_eq_map, List.map_cons, List.map_map]
  congr 1
  · simp
  · refine List.map_congr_left fun k _ => ?_
    simp
    omega
theorem rangeD_nil (i j : Int) (h : j ≤ i) : rangeD i j = [] := by
  unfold rangeD
  have e : (j - i).toNat = 0 := by omega
  rw [e]
  rfl
theorem loop_cons (f : D → Env → M (Fl × Env)) (x : D) (xs : List D) (ρ : Env) : loopM f (x :: xs) ρ = bnd (f x ρ) fun q => match q.1 with
    | .nx => loopM f xs q.2
    | .ct => loopM f xs q.2
    | .bk => ret (.nx, q.2)
    | .rt d => ret (.rt d, q.2) := rfl
theorem loop1 (h1 : ∀ s ns c r k t (y : Int), F1 (.int y) (ev s ns c (some (.sh (.int r))) k t) = guardM (fits (ns.length + 1)) (if (r / 1009 == 0) = true then ret (.bk, ev s (ns ++ [.int (r % 1009)]) c (some (.sh (.int (r / 1009)))) (some (.sh (.int y))) t) else ret (.nx, ev s (ns ++ [.int (r % 1009)]) c (some (.sh (.int (r / 1009)))) (some (.sh (.int y))) t))) :
    ∀ (n : Nat) (i : Int) s ns c r k t, ns.length + n ≤ 10000 → ∃ r' k', loopM F1 (rangeD i (i + n)) (ev s ns c (some (.sh (.int r))) k t) = ret (.nx, ev s (ns ++ (digs n r).map PyData.int) c r' k' t)
  | 0, i, s, ns, c, r, k, t, _ => by
    rw [rangeD_nil _ _ (by omega)]
    exact ⟨_, _, by simp [digs]; rfl⟩
  | n + 1, i, s, ns, c, r, k, t, hn => by
    rw [rangeD_cons i _ (by omega), loop_cons, h1, fits_small (by omega)]
    by_cases h : (r / 1009 == 0) = true
    · refine ⟨some (.sh (.int (r / 1009))), some (.sh (.int i)), ?_⟩
      unfold digs
      rw [if_pos h, if_pos h]
      rfl
    · obtain ⟨r', k', e⟩ := loop1 h1 n (i + 1) s (ns ++ [.int (r % 1009)]) c (r / 1009) (some (.sh (.int i))) t (by simp; omega)
      refine ⟨r', k', ?_⟩
      unfold digs
      rw [if_neg h, if_neg h]
      have e2 : i + ((n + 1 : Nat) : Int) = i + 1 + (n : Int) := by omega
      rw [e2]
      show loopM F1 _ _ = _
      rw [e]
      simp
theorem loop2 (h2 : ∀ s ns c r k (t y : Int), F2 (.int y) (ev s ns c r k (some (.sh (.int t)))) = bnd (stirR t y) fun d => bnd (itemR d y) fun e => guardM (fits (ns.length + 1)) (ret (.nx, ev s (ns ++ [e]) c r (some (.sh (.int y))) (some (.sh d))))) :
    ∀ (n : Nat) (i : Int) s ns c r k (t : Int), 0 ≤ i → i + n ≤ 100 → ns.length + n ≤ 10000 → ∃ k' t', loopM F2 (rangeD i (i + n)) (ev s ns c r k (some (.sh (.int t)))) = ret (.nx, ev s (ns ++ (stirs n i t).map PyData.int) c r k' t')
  | 0, i, s, ns, c, r, k, t, _, _, _ => by
    rw [rangeD_nil _ _ (by omega)]
    exact ⟨_, _, by simp [stirs]; rfl⟩
  | n + 1, i, s, ns, c, r, k, t, hi, hi2, hn => by
    obtain ⟨k', t', e⟩ := loop2 h2 n (i + 1) s (ns ++ [.int ((stir i t * 69621 + i) % 2147483629 % 1009)]) c r (some (.sh (.int i))) (stir i t) (by omega) (by omega) (by simp; omega)
    refine ⟨k', t', ?_⟩
    rw [rangeD_cons i _ (by omega), loop_cons, h2, stirR_eq t i (by omega)]
    have e2 : i + ((n + 1 : Nat) : Int) = i + 1 + (n : Int) := by omega
    rw [e2]
    show bnd (bnd (itemR (.int (stir i t)) i) _) _ = _
    rw [itemR_eq]
    show bnd (guardM (fits (ns.length + 1)) _) _ = _
    rw [fits_small (by omega)]
    show loopM F2 _ _ = _
    rw [e]
    simp [stirs]
theorem loop0 (h0 : ∀ s ns c r k t (v : Int), F (.int v) (ev s ns c r k t) = if decide (10 ^ 18 ≤ absI v) = true then bnd (loopM F1 (rangeD 0 60) (ev s ns (some (.sh (.int v))) (some (.sh (.int (absI v)))) k t)) K1
      else bnd (loopM F2 (rangeD 0 10) (ev s ns (some (.sh (.int v))) (some (.sh (.int (absI v)))) k (some (.sh (.int (absI v % 2147483647)))))) K2)
    (hK1 : ∀ ρ, K1 (.nx, ρ) = ret (.nx, ρ)) (hK2 : ∀ ρ, K2 (.nx, ρ) = ret (.nx, ρ))
    (h1 : ∀ s ns c r k t (y : Int), F1 (.int y) (ev s ns c (some (.sh (.int r))) k t) = guardM (fits (ns.length + 1)) (if (r / 1009 == 0) = true then ret (.bk, ev s (ns ++ [.int (r % 1009)]) c (some (.sh (.int (r / 1009)))) (some (.sh (.int y))) t) else ret (.nx, ev s (ns ++ [.int (r % 1009)]) c (some (.sh (.int (r / 1009)))) (some (.sh (.int y))) t)))
    (h2 : ∀ s ns c r k (t y : Int), F2 (.int y) (ev s ns c r k (some (.sh (.int t)))) = bnd (stirR t y) fun d => bnd (itemR d y) fun e => guardM (fits (ns.length + 1)) (ret (.nx, ev s (ns ++ [e]) c r (some (.sh (.int y))) (some (.sh d))))) :
    ∀ (vs : List Int) s ns c r k t, ns.length + 60 * vs.length ≤ 9000 → ∃ c' r' k' t', loopM F (vs.map PyData.int) (ev s ns c r k t) = ret (.nx, ev s (ns ++ (vs.flatMap cellN).map PyData.int) c' r' k' t')
  | [], s, ns, c, r, k, t, _ => ⟨_, _, _, _, by simp; rfl⟩
  | v :: vs, s, ns, c, r, k, t, hn => by
    have hn : ns.length + 60 * (vs.length + 1) ≤ 9000 := by simpa using hn
    have hc := cell_len v
    have step : ∃ c1 r1 k1 t1, F (.int v) (ev s ns c r k t) = ret (.nx, ev s (ns ++ (cellN v).map PyData.int) c1 r1 k1 t1) := by
      rw [h0]
      by_cases h : decide (10 ^ 18 ≤ absI v) = true
      · obtain ⟨r', k', e⟩ := loop1 h1 60 0 s ns (some (.sh (.int v))) (absI v) k t (by omega)
        refine ⟨some (.sh (.int v)), r', k', t, ?_⟩
        unfold cellN
        rw [if_pos h, if_pos h]
        have e0 : (0 : Int) + ((60 : Nat) : Int) = 60 := rfl
        rw [e0] at e
        rw [e]
        exact hK1 _
      · obtain ⟨k', t', e⟩ := loop2 h2 10 0 s ns (some (.sh (.int v))) (some (.sh (.int (absI v)))) k (absI v % 2147483647) (by omega) (by omega) (by omega)
        refine ⟨some (.sh (.int v)), some (.sh (.int (absI v))), k', t', ?_⟩
        unfold cellN
        rw [if_neg h, if_neg h]
        have e0 : (0 : Int) + ((10 : Nat) : Int) = 10 := rfl
        rw [e0] at e
        rw [e]
        exact hK2 _
    obtain ⟨c1, r1, k1, t1, e1⟩ := step
    obtain ⟨c2, r2, k2, t2, e2⟩ := loop0 h0 hK1 hK2 h1 h2 vs s (ns ++ (cellN v).map PyData.int) c1 r1 k1 t1 (by simp; omega)
    refine ⟨c2, r2, k2, t2, ?_⟩
    rw [List.map_cons, loop_cons, e1]
    show loopM F _ _ = _
    rw [e2]
    simp
end
/-- _law_stream, from what its text does -/
theorem stream_ref {g : List D → M D} {F F1 F2 : D → Env → M (Fl × Env)} {K1 K2 : Fl × Env → M (Fl × Env)} {K0 : Fl × Env → M D}
    (hg : ∀ xs : List D, g [.list xs] = bnd (loopM F (cutD xs none (some 63)) (ev (.list xs) [] none none none none)) K0)
    (hK0 : ∀ s ns c r k t, K0 (.nx, ev s ns c r k t) = if ((ns.length : Int) == 0) = true then guardM (fits (ns.length + 1)) (ret (.list (ns ++ [.int 0]))) else ret (.list ns))
    (h0 : ∀ s ns c r k t (v : Int), F (.int v) (ev s ns c r k t) = if decide (10 ^ 18 ≤ absI v) = true then bnd (loopM F1 (rangeD 0 60) (ev s ns (some (.sh (.int v))) (some (.sh (.int (absI v)))) k t)) K1
      else bnd (loopM F2 (rangeD 0 10) (ev s ns (some (.sh (.int v))) (some (.sh (.int (absI v)))) k (some (.sh (.int (absI v % 2147483647)))))) K2)
    (hK1 : ∀ ρ, K1 (.nx, ρ) = ret (.nx, ρ)) (hK2 : ∀ ρ, K2 (.nx, ρ) = ret (.nx, ρ))
    (h1 : ∀ s ns c r k t (y : Int), F1 (.int y) (ev s ns c (some (.sh (.int r))) k t) = guardM (fits (ns.length + 1)) (if (r / 1009 == 0) = true then ret (.bk, ev s (ns ++ [.int (r % 1009)]) c (some (.sh (.int (r / 1009)))) (some (.sh (.int y))) t) else ret (.nx, ev s (ns ++ [.int (r % 1009)]) c (some (.sh (.int (r / 1009)))) (some (.sh (.int y))) t)))
    (h2 : ∀ s ns c r k (t y : Int), F2 (.int y) (ev s ns c r k (some (.sh (.int t)))) = bnd (stirR t y) fun d => bnd (itemR d y) fun e => guardM (fits (ns.length + 1)) (ret (.nx, ev s (ns ++ [e]) c r (some (.sh (.int y))) (some (.sh d)))))
    (ds : List D) (st : Stt) : m_law_stream ds st = .stuck ∨ g ds st = m_law_stream ds st := by
  unfold m_law_stream
  split
  · rename_i xs
    cases hi : intsOf xs with
    | none => exact .inl rfl
    | some ns =>
      right
      have hx := ints_map hi
      subst hx
      have hcut : cutD (ns.map PyData.int) none (some 63) = (ns.take 63).map PyData.int := by
        unfold cutD
        have e1 : HT.sIx (ns.map PyData.int).length 0 none = 0 := rfl
        have e2 : HT.sIx (ns.map PyData.int).length (ns.map PyData.int).length (some 63) = min 63 (ns.map PyData.int).length := HT.sIx_nat _ _ 63
        rw [e1, e2, List.drop_zero, Nat.sub_zero, List.map_take]
        rw [List.take_eq_take_iff]
        simp
      obtain ⟨c, r, k, t, e⟩ := loop0 (F := F) h0 hK1 hK2 h1 h2 (ns.take 63) (.list (ns.map PyData.int)) [] none none none none (by rw [List.length_take]; simp; omega)
      rw [hg, hcut, e]
      show K0 (.nx, _) st = _
      rw [hK0]
      simp only [List.nil_append, List.length_map]
      have hl := cells_len (ns.take 63)
      have hl2 : (ns.take 63).length ≤ 63 := by rw [List.length_take]; omega
      unfold strm
      by_cases h : (ns.take 63).flatMap cellN = []
      · rw [if_pos h, h]
        show guardM (fits 1) _ st = _
        rw [fits_small (by omega)]
        rfl
      · rw [if_neg h, if_neg (by
          have := List.length_pos_iff.mpr h
          simp only [beq_iff_eq]
          omega)]
  · exact .inl rfl
end DI
end
section
set_option linter.all false
set_option autoImplicit false
set_option maxRecDepth 100000
/-! SHOW: data whose repr is short; _law_same of the same data. -/
namespace DI
open PySem L2
mutual
def smallD : D → Bool
  | .none | .bool _ => true
  | .int i => decide (i.natAbs < 10 ^ 12)
  | .str x => (x.cps.toList.all fun c => decide (c < 16 ^ 8)) && (reprText x).cps.toList.all fun c => decide (c < 0x110000)
  | .list xs | .tuple xs => smallAll xs
  | .dict _ => false
def smallAll : List D → Bool
  | [] => true
  | x :: xs => smallD x && smallAll xs
end
mutual
def wtD : D → Nat
  | .str x => x.cps.size
  | .list xs | .tuple xs => wtAll xs
  | .int _ => 41
  | _ => 0
def wtAll : List D → Nat
  | [] => 0
  | x :: xs => wtD x + 1 + wtAll xs
end
theorem log_le {i : Int} (h : i.natAbs < 10 ^ 12) : i.natAbs.log2 + 1 ≤ 41 := by
  by_cases h0 : i.natAbs = 0
  · rw [h0]; decide
  · have : i.natAbs.log2 < 40 := (Nat.log2_lt h0).mpr (Nat.lt_trans h (by decide))
    omega
mutual
theorem small_ok : ∀ d : D, smallD d = true → d.leavesShort 13 = true ∧ d.showable = true ∧ d.hasDict = false ∧ d.weight ≤ wtD d
  | .none, _ => ⟨rfl, rfl, rfl, Nat.le_refl _⟩
  | .bool _, _ => ⟨rfl, rfl, rfl, Nat.le_refl _⟩
  | .int i, h => by
    have h : i.natAbs < 10 ^ 12 := of_decide_eq_true h
    have hl := log_le h
    refine ⟨?_, ?_, rfl, ?_⟩
    · simp only [PyData.leavesShort, decide_eq_true_eq]
      exact PyData.shown_int_le h
    · simp only [PyData.showable, decide_eq_true_eq]
      omega
    · simp only [PyData.weight, wtD]
      split <;> omega
  | .str x, h => ⟨by
      simp only [smallD, Bool.and_eq_true] at h
      simpa only [PyData.leavesShort] using h.1, rfl, rfl, by simp only [PyData.weight, wtD]; omega⟩
  | .list xs, h => by
    obtain ⟨h1, h2, h3, h4⟩ := smallAll_ok xs (by simpa only [smallD] using h)
    exact ⟨by simpa only [PyData.leavesShort] using h1, by simpa only [PyData.showable] using h2, by simpa only [PyData.hasDict] using h3, by simpa only [PyData.weight, wtD] using h4⟩
  | .tuple xs, h => by
    obtain ⟨h1, h2, h3, h4⟩ := smallAll_ok xs (by simpa only [smallD] using h)
    exact ⟨by simpa only [PyData.leavesShort] using h1, by simpa only [PyData.showable] using h2, by simpa only [PyData.hasDict] using h3, by simpa only [PyData.weight, wtD] using h4⟩
  | .dict _, h => by simp only [smallD] at h; exact nomatch h
theorem smallAll_ok : ∀ xs : List D, smallAll xs = true → PyData.leavesShortAll 13 xs = true ∧ PyData.showableAll xs = true ∧ PyData.hasDictAll xs = false ∧ PyData.weightAll xs ≤ wtAll xs
  | [], _ => ⟨rfl, rfl, rfl, Nat.le_refl _⟩
  | x :: xs, h => by
    have h' : smallD x = true ∧ smallAll xs = true := by simpa only [smallAll, Bool.and_eq_true] using h
    obtain ⟨a1, a2, a3, a4⟩ := small_ok x h'.1
    obtain ⟨b1, b2, b3, b4⟩ := smallAll_ok xs h'.2
    refine ⟨by simp only [PyData.leavesShortAll, a1, b1, Bool.and_self], by simp only [PyData.showableAll, a2, b2, Bool.and_self], by simp only [PyData.hasDictAll, a3, b3, Bool.or_self], ?_⟩
    simp only [PyData.weightAll, wtAll]
    omega
end
def okS (x : Str) : Prop := ∀ c ∈ x.cps.toList, c < 0x110000
theorem okS_app {a b : Str} (ha : okS a) (hb : okS b) : okS (a ++ b) := fun c hc => by
  have e : (a ++ b).cps.toList = a.cps.toList ++ b.cps.toList := by
    show (a.cps ++ b.cps).toList = _
    simp
  rw [e, List.mem_append] at hc
  exact hc.elim (ha c) (hb c)
theorem okS_lit {x : Str} (h : (x.cps.toList.all fun c => decide (c < 0x110000)) = true) : okS x := fun c hc => of_decide_eq_true (List.all_eq_true.mp h c hc)
theorem okS_strOk {x : Str} (h : okS x) : PyData.strOk x = true := by
  unfold PyData.strOk
  rw [Array.all_eq_true_iff_forall_mem]
  intro c hc
  exact decide_eq_true (h c (Array.mem_toList_iff.mpr hc))
theorem okS_sep : okS (", " : String) := okS_lit (by decide)
theorem okS_from : ∀ (ts : List Str) (k : Nat) (acc : Str), okS acc → (∀ t ∈ ts, okS t) → okS (textFrom k acc ts)
  | [], _, _, h, _ => h
  | t :: ts, k, acc, h, ht => by
    show okS (textFrom (k + 1) (acc ++ (if k > 0 then ", " else "" : String) ++ t) ts)
    refine okS_from ts _ _ (okS_app (okS_app h ?_) (ht t List.mem_cons_self)) fun x hx => ht x (List.mem_cons_of_mem _ hx)
    split
    · exact okS_sep
    · exact okS_lit (by decide)
theorem okS_join : ∀ ts : List Str, (∀ t ∈ ts, okS t) → okS (Str.join ", " ts)
  | [], _ => fun c hc => by
    have : (Str.empty).cps.toList = [] := rfl
    have hc : c ∈ (Str.empty).cps.toList := hc
    rw [this] at hc
    cases hc
  | [x], h => h x List.mem_cons_self
  | x :: y :: r, h => by
    show okS (x ++ ", " ++ Str.join ", " (y :: r))
    exact okS_app (okS_app (h x List.mem_cons_self) okS_sep) (okS_join (y :: r) fun t ht => h t (List.mem_cons_of_mem _ ht))
mutual
theorem okS_shown : ∀ d : D, smallD d = true → okS d.shown
  | .none, _ => okS_lit (by decide)
  | .bool b, _ => by cases b <;> exact okS_lit (by decide)
  | .int i, _ => by
    show okS (Str.ofString (toString i))
    rw [Str.ofString_eq_toList]
    intro c hc
    have hc : c ∈ (toString i).toList.map Char.toNat := by simpa using hc
    obtain ⟨ch, h1, rfl⟩ := List.mem_map.mp hc
    exact Nat.lt_trans (int_ascii i ch h1) (by decide)
  | .str x, h => by
    simp only [smallD, Bool.and_eq_true] at h
    exact okS_lit h.2
  | .list xs, h => by
    have hs := okS_shownAll xs (by simpa only [smallD] using h)
    simp only [PyData.shown]
    exact okS_app (okS_from _ _ _ (okS_lit (by decide)) hs) (okS_lit (by decide))
  | .tuple xs, h => by
    have hs := okS_shownAll xs (by simpa only [smallD] using h)
    simp only [PyData.shown]
    refine okS_app (okS_app (okS_lit (by decide)) (okS_join _ hs)) ?_
    split <;> exact okS_lit (by decide)
  | .dict _, h => by simp only [smallD] at h; exact nomatch h
theorem okS_shownAll : ∀ xs : List D, smallAll xs = true → ∀ t ∈ PyData.shownAll xs, okS t
  | [], _, t, ht => by simp only [PyData.shownAll] at ht; cases ht
  | x :: xs, h, t, ht => by
    have h' : smallD x = true ∧ smallAll xs = true := by simpa only [smallAll, Bool.and_eq_true] using h
    simp only [PyData.shownAll, List.mem_cons] at ht
    rcases ht with rfl | ht
    · exact okS_shown x h'.1
    · exact okS_shownAll xs h'.2 t ht
end
def okD (d : D) : Bool := smallD d && (decide (wtD d ≤ 524288) && decide (d.depth ≤ 98))
theorem repr_at {d : D} (h : okD d = true) : biM .repr [.list [d]] = ret (.str (PyData.list [d]).shown) := by
  unfold okD at h
  simp only [Bool.and_eq_true, decide_eq_true_eq] at h
  obtain ⟨h1, h2, h3⟩ := h
  obtain ⟨a1, a2, a3, a4⟩ := small_ok (.list [d]) (by simp only [smallD, smallAll, h1, Bool.and_self])
  have hw : (PyData.list [d]).weight ≤ 2 ^ 20 := by
    have e : wtD (.list [d]) = wtD d + 1 := by simp only [wtD, wtAll]
    have : (2 : Nat) ^ 20 = 1048576 := by decide
    omega
  have hs := PyData.shown_fits (by decide) (by decide) a1 hw
  have hd : (PyData.list [d]).depth ≤ 100 := by
    simp only [PyData.depth, PyData.depthAll]
    omega
  show guardM ((PyData.list [d]).showable && !(PyData.list [d]).hasDict && decide ((PyData.list [d]).depth ≤ 100) && fits (PyData.list [d]).shown.length) _ = _
  have hf : fits (PyData.list [d]).shown.length = true := decide_eq_true hs
  rw [a2, a3, decide_eq_true hd, hf]
  rfl
theorem same_true {d : D} (h : okD d = true) : m_law_same [d, d] = ret (PyData.bool true) := by
  show bnd (biM .repr [.list [d]]) (fun x => bnd (biM .repr [.list [d]]) fun y => bnd (cmpM .Eq x y) fun c => ret (PyData.bool c)) = _
  rw [repr_at h]
  have hk : okS (PyData.list [d]).shown := okS_shown (.list [d]) (by
    unfold okD at h
    simp only [Bool.and_eq_true] at h
    simp only [smallD, smallAll, h.1, Bool.and_self])
  generalize (PyData.list [d]).shown = x at hk
  have e : cmpM .Eq (PyData.str x) (PyData.str x) = ret true := by
    show guardM (SeqAt.shaped (PyData.str x) && SeqAt.shaped (PyData.str x)) (ret (PyData.eqv (PyData.str x) (PyData.str x))) = _
    have h1 : SeqAt.shaped (PyData.str x) = true := by
      unfold SeqAt.shaped
      have h0 : (PyData.str x).canLay0 = true := by simpa only [PyData.canLay0] using okS_strOk hk
      rw [h0]
      rfl
    have h2 : PyData.eqv (PyData.str x) (PyData.str x) = true := by simp only [PyData.eqv]; exact decide_eq_true rfl
    rw [h1, h2]
    rfl
  show bnd (cmpM .Eq (PyData.str x) (PyData.str x)) _ = _
  rw [e]
  rfl
end DI
end
section
set_option linter.all false
set_option autoImplicit false
set_option maxRecDepth 100000
/-! ACC: parts of a text by their place; comprehensions over ints. -/
namespace DI
open PySem L2
def asgVal : Stmt → Expr
  | .Assign _ e _ => e
  | .Return (some e) _ => e
  | .Expr e _ => e
  | .If t _ _ _ => t
  | _ => .Constant .none 0 ⟨0, 0, 0, 0⟩
def arg (i : Nat) : Expr → Expr
  | .Call _ as _ _ => as.getD i (.Constant .none 0 ⟨0, 0, 0, 0⟩)
  | .List es _ => es.getD i (.Constant .none 0 ⟨0, 0, 0, 0⟩)
  | .Tuple es _ _ => es.getD i (.Constant .none 0 ⟨0, 0, 0, 0⟩)
  | .BoolOp _ es _ => es.getD i (.Constant .none 0 ⟨0, 0, 0, 0⟩)
  | .UnaryOp _ e _ => e
  | .BinOp a _ b _ => if i = 0 then a else b
  | .Subscript a b _ => if i = 0 then a else b
  | .Compare a _ bs _ => if i = 0 then a else bs.getD (i - 1) (.Constant .none 0 ⟨0, 0, 0, 0⟩)
  | .Lambda _ b _ _ => b
  | .ListComp e gs _ _ => if i = 0 then e else (match gs with
    | [⟨tg, it, ifs, _⟩] => if i = 1 then tg else if i = 2 then it else ifs.getD (i - 3) (.Constant .none 0 ⟨0, 0, 0, 0⟩)
    | _ => .Constant .none 0 ⟨0, 0, 0, 0⟩)
  | _ => .Constant .none 0 ⟨0, 0, 0, 0⟩
/-- the turn of a comprehension -/
def cF (n : Nat) (C : DI.Ctx) (e : Expr) (ρ : DI.Env) : D → M (Option D) := match e with
  | .ListComp elt [⟨tg, _, ifs, _⟩] sc _ => compF n C tg elt ifs sc ρ
  | _ => fun _ => stuckM
theorem comp_map {f : D → M (Option D)} {g : Int → D} (h : ∀ n : Int, f (.int n) = ret (some (g n))) : ∀ ns : List Int, compM f (ns.map PyData.int) = ret (ns.map g)
  | [] => rfl
  | n :: ns => by
    show bnd (f (.int n)) (fun o => bnd (compM f (ns.map PyData.int)) _) = _
    rw [h, comp_map h ns]
    rfl
theorem comp_filter {f : D → M (Option D)} {p : Int → Bool} (h : ∀ n : Int, f (.int n) = ret (if p n = true then some (.int n) else none)) : ∀ ns : List Int, compM f (ns.map PyData.int) = ret ((ns.filter p).map PyData.int)
  | [] => rfl
  | n :: ns => by
    show bnd (f (.int n)) (fun o => bnd (compM f (ns.map PyData.int)) _) = _
    rw [h, comp_filter h ns]
    by_cases c : p n = true
    · rw [if_pos c, List.filter_cons_of_pos c]
      rfl
    · rw [if_neg c, List.filter_cons_of_neg c]
      rfl
theorem bools_of : ∀ bs : List Bool, boolsOf (bs.map PyData.bool) = some bs
  | [] => rfl
  | b :: bs => by simp [boolsOf, bools_of bs]
theorem all_at (bs : List Bool) : biM .all [.list (bs.map PyData.bool)] = ret (.bool (bs.all id)) := by
  show bnd (optM (boolsOf (bs.map PyData.bool))) _ = _
  rw [bools_of]
  rfl
def noErrM {α : Type} (m : M α) : M α := fun st => (m st).noErr
theorem noErr_ret {α : Type} (a : α) : noErrM (ret a) = ret a := rfl
theorem bnd_ret_r {α : Type} (m : M α) : bnd m (fun d => ret d) = m := by
  funext st
  show R.next (m st) _ = _
  cases m st <;> rfl
end DI
end
section
set_option linter.all false
set_option autoImplicit false
namespace K22
open PySem DI
def inR (n : Int) : Bool := decide (0 ≤ n) && decide (n ≤ 65535)
def refused : M D := throwM ⟨"NotAllowed"⟩
def missing : M D := throwM ⟨"Missing"⟩
def m_ahead_by : List D → M D
  | [.int i, .int j] => ret (.int ((i - j) % 65536))
  | _ => stuckM
def m_is_whole : List D → M D
  | [.int v, .int lo, .int hi] => ret (.bool (decide (lo ≤ v) && decide (v ≤ hi)))
  | _ => stuckM
def m_check_number : List D → M D
  | [.int n] => if inR n = true then ret .none else refused
  | _ => stuckM
def newer (a b : Int) : Bool := decide (0 < (a - b) % 65536) && decide ((a - b) % 65536 < 32768)
def m_is_newer : List D → M D
  | [.int a, .int b] => if (inR a && inR b) = true then ret (.bool (newer a b)) else refused
  | _ => stuckM
def m_is_open : List D → M D
  | [.int a, .int b] => if (inR a && inR b) = true then ret (.bool (decide ((a - b) % 65536 = 32768))) else refused
  | _ => stuckM
def m_after : List D → M D
  | [.int n, .int m] => if (inR n && (decide (0 ≤ m) && decide (m ≤ 32767))) = true then ret (.int ((n + m) % 65536)) else refused
  | _ => stuckM
def m_steps_to : List D → M D
  | [.int n, .int o] => if (inR n && inR o) = true then (if decide (32768 ≤ (o - n) % 65536) = true then missing else ret (.int ((o - n) % 65536))) else refused
  | _ => stuckM
def m_path_to : List D → M D
  | [.int n, .int g] => if (inR n && inR g) = true then
      (if decide ((g - n) % 65536 = 0) = true then ret (.tuple [])
       else if decide ((g - n) % 65536 < 32768) = true then ret (.tuple [.int g])
       else if decide ((g - n) % 65536 < 65535) = true then ret (.tuple [.int ((n + (g - n) % 65536 - 32768 + 1) % 65536), .int g])
       else ret (.tuple [.int ((n + 1) % 65536), .int ((n + 32768) % 65536), .int g])) else refused
  | _ => stuckM
def best (ns : List Int) : List Int := ns.filter fun a => ns.all fun b => decide (a = b) || newer a b
def m_newest : List D → M D
  | [.tuple xs] => match intsOf xs with
    | some ns => guardM (fits ns.length) (if ns.all inR = true then (match best ns with
      | [] => missing
      | a :: _ => ret (.int a)) else refused)
    | none => stuckM
  | _ => stuckM
def asc : List Int → Bool
  | a :: b :: r => newer b a && asc (b :: r)
  | _ => true
def m_ascends : List D → M D
  | [.tuple xs] => match intsOf xs with
    | some ns => guardM (fits ns.length) (if ns.all inR = true then ret (.bool (asc ns)) else refused)
    | none => stuckM
  | _ => stuckM
def m_law_ahead : List D → M D
  | [.int i, .int j] => ret (.int ((i - j) % 65536))
  | _ => stuckM
def m_law_newer : List D → M D
  | [.int a, .int b] => ret (.bool (decide (1 ≤ (a - b) % 65536) && decide ((a - b) % 65536 ≤ 32767)))
  | _ => stuckM
def nx (m : Int) : M D := m_law_next [.int m]
def consM (i : Int) (m : M (List D)) : M (List D) := bnd m fun ds => ret (.int i :: ds)
/-- int(x) % 65536 of what m leaves -/
def roundM (m : M D) : M D := bnd (bnd (bnd m fun d => ret [d]) fun ds => biM .int ds) fun w => binM .Mod w (.int 65536)
def pickM (m : M (List D)) (k : Int) : M D := bnd (bnd (bnd m fun ds => guardM (fits ds.length) (ret ds)) fun ds => ret (.list ds)) fun x => bnd (nx k) fun y => ixM x y
def anyL : M (List D) := consM 0 (consM 1 (consM 32767 (consM 32768 (consM 65535 (consM 32769 (bnd (bnd (nx 1009) fun x => binM .Mult x (.int 64)) fun d => bnd (bnd (nx 65536) fun d => ret [d]) fun ds => ret (d :: ds)))))))
def otherL : M (List D) := consM 0 (consM 1 (consM 2 (consM 32766 (consM 32767 (consM 32768 (consM 32769 (consM 65535 (consM 65534 (bnd (bnd (nx 1009) fun x => binM .Mult x (.int 61)) fun d => ret [d])))))))))
def m_law_any : List D → M D
  | [] => bnd (pickM anyL 8) fun base => roundM (bnd (nx 3) fun y => binM .Add base y)
  | _ => stuckM
def m_law_other : List D → M D
  | [.int i] => bnd (pickM otherL 10) fun step => roundM (binM .Add (.int i) step)
  | _ => stuckM
def m_law_refuses : List D → M D
  | [] => ret (.bool true)
  | _ => stuckM
end K22
end
section
set_option Elab.async false
set_option linter.all false
set_option maxRecDepth 100000
set_option maxHeartbeats 0
namespace K22
open PySem PySem.Spec PyProof.Rows L2 DI
def top (i : Nat) : Stmt := PySem.Challenge.pw_handeddown_k22_whole_numbers_that_go_rou.main.body.getD i (.Pass ⟨0, 0, 0, 0⟩)
def d_law0 : FdT := ⟨"law", ["script"], ["script", "state", "turn", "one", "two", "step", "far", "due", "told", "path", "rows", "many", "row", "best", "top", "each", "a", "b", "c", "k", "other"], false, true, some "state", 0, defArgs (top 32), defBody (top 32), defScope (top 32), fun _ => stuckM⟩
def d_law_same : FdT := ⟨"_law_same", ["told", "due"], ["told", "due"], false, false, none, 0, defArgs (top 23), defBody (top 23), defScope (top 23), m_law_same⟩
def d_law_stream : FdT := ⟨"_law_stream", ["script"], ["script", "numbers", "cell", "rest", "k", "stirred"], false, false, none, 0, defArgs (top 24), defBody (top 24), defScope (top 24), m_law_stream⟩
def d_law_newer : FdT := ⟨"_law_newer", ["one", "other"], ["one", "other"], false, false, none, 0, defArgs (top 28), defBody (top 28), defScope (top 28), m_law_newer⟩
def d_law_ahead : FdT := ⟨"_law_ahead", ["one", "other"], ["one", "other"], false, false, none, 0, defArgs (top 27), defBody (top 27), defScope (top 27), m_law_ahead⟩
def d_law_any : FdT := ⟨"_law_any", ["state"], ["state", "base"], true, false, none, 0, defArgs (top 29), defBody (top 29), defScope (top 29), m_law_any⟩
def d_law_other : FdT := ⟨"_law_other", ["state", "one"], ["state", "one", "step"], true, false, none, 0, defArgs (top 30), defBody (top 30), defScope (top 30), m_law_other⟩
def d_law_next : FdT := ⟨"_law_next", ["state", "many"], ["state", "many", "turn"], true, false, none, 0, defArgs (top 25), defBody (top 25), defScope (top 25), m_law_next⟩
def d_law_refuses : FdT := ⟨"_law_refuses", [], ["odd", "bad", "a", "b", "c", "d", "e"], false, true, none, 0, defArgs (top 31), defBody (top 31), defScope (top 31), m_law_refuses⟩
def d_is_newer : FdT := ⟨"is_newer", ["one", "other"], ["one", "other"], false, false, none, 0, defArgs (top 15), defBody (top 15), defScope (top 15), m_is_newer⟩
def d_is_open : FdT := ⟨"is_open", ["one", "other"], ["one", "other"], false, false, none, 0, defArgs (top 16), defBody (top 16), defScope (top 16), m_is_open⟩
def d_after : FdT := ⟨"after", ["number", "many"], ["number", "many"], false, false, none, 0, defArgs (top 17), defBody (top 17), defScope (top 17), m_after⟩
def d_steps_to : FdT := ⟨"steps_to", ["number", "other"], ["number", "other", "found"], false, false, none, 0, defArgs (top 18), defBody (top 18), defScope (top 18), m_steps_to⟩
def d_newest : FdT := ⟨"newest", ["numbers"], ["numbers", "number", "found", "one", "other"], false, false, none, 0, defArgs (top 19), defBody (top 19), defScope (top 19), m_newest⟩
def d_path_to : FdT := ⟨"path_to", ["number", "goal"], ["number", "goal", "far"], false, false, none, 0, defArgs (top 20), defBody (top 20), defScope (top 20), m_path_to⟩
def d_ascends : FdT := ⟨"ascends", ["numbers"], ["numbers", "number", "one", "other"], false, false, none, 0, defArgs (top 21), defBody (top 21), defScope (top 21), m_ascends⟩
def d_check_number : FdT := ⟨"check_number", ["number"], ["number"], false, false, none, 0, defArgs (top 13), defBody (top 13), defScope (top 13), m_check_number⟩
def d_is_whole : FdT := ⟨"is_whole", ["value", "low", "high"], ["value", "low", "high"], false, false, none, 0, defArgs (top 9), defBody (top 9), defScope (top 9), m_is_whole⟩
def d_ahead_by : FdT := ⟨"ahead_by", ["one", "other"], ["one", "other"], false, false, none, 0, defArgs (top 14), defBody (top 14), defScope (top 14), m_ahead_by⟩
def fL : List FdT := [d_law_same, d_law_stream, d_law_newer, d_law_ahead, d_law_any, d_law_other, d_law_next, d_law_refuses, d_is_newer, d_is_open, d_after, d_steps_to, d_newest, d_path_to, d_ascends, d_check_number, d_is_whole, d_ahead_by]
def fW : Wl := ⟨fun x => (([("MAX_NUMBER", 65535), ("ROUND", 65536), ("HALF", 32768)] : List (Str × Int)).lookup x).map PyData.int, plainKinds, 100⟩
def m_law (ds : List D) : M D := runB 100 (ctxOf fW (fnTab fL) d_law0) d_law0.body false ds
def d_law : FdT := ⟨"law", ["script"], ["script", "state", "turn", "one", "two", "step", "far", "due", "told", "path", "rows", "many", "row", "best", "top", "each", "a", "b", "c", "k", "other"], false, true, some "state", 0, defArgs (top 32), defBody (top 32), defScope (top 32), m_law⟩
def tps : List Pos := [⟨101, 16, 101, 22⟩, ⟨101, 24, 101, 28⟩, ⟨101, 24, 101, 30⟩, ⟨101, 15, 101, 31⟩, ⟨101, 8, 101, 31⟩, ⟨102, 11, 102, 20⟩, ⟨103, 8, 103, 13⟩, ⟨103, 17, 103, 27⟩, ⟨103, 28, 103, 29⟩, ⟨103, 31, 103, 41⟩, ⟨103, 17, 103, 42⟩, ⟨103, 44, 103, 54⟩, ⟨103, 55, 103, 56⟩, ⟨103, 58, 103, 66⟩, ⟨103, 44, 103, 67⟩, ⟨103, 69, 103, 79⟩, ⟨103, 80, 103, 81⟩, ⟨103, 83, 103, 90⟩, ⟨103, 69, 103, 91⟩, ⟨103, 93, 103, 103⟩, ⟨103, 104, 103, 105⟩, ⟨103, 107, 103, 114⟩, ⟨103, 93, 103, 115⟩, ⟨103, 117, 103, 127⟩, ⟨103, 128, 103, 129⟩, ⟨103, 131, 103, 137⟩, ⟨103, 117, 103, 138⟩, ⟨103, 16, 103, 139⟩, ⟨103, 8, 103, 139⟩, ⟨104, 8, 104, 13⟩, ⟨104, 18, 104, 27⟩, ⟨104, 29, 104, 36⟩, ⟨104, 38, 104, 47⟩, ⟨104, 49, 104, 55⟩, ⟨104, 57, 104, 65⟩, ⟨104, 17, 104, 66⟩, ⟨104, 67, 104, 68⟩, ⟨104, 17, 104, 69⟩, ⟨104, 74, 104, 75⟩, ⟨104, 79, 104, 84⟩, ⟨104, 85, 104, 86⟩, ⟨104, 79, 104, 87⟩, ⟨104, 91, 104, 96⟩, ⟨104, 97, 104, 98⟩, ⟨104, 91, 104, 99⟩, ⟨104, 16, 104, 100⟩, ⟨104, 8, 104, 100⟩, ⟨105, 17, 105, 22⟩, ⟨105, 25, 105, 30⟩, ⟨105, 34, 105, 36⟩, ⟨105, 33, 105, 37⟩, ⟨105, 25, 105, 37⟩, ⟨105, 39, 105, 40⟩, ⟨105, 24, 105, 41⟩, ⟨105, 16, 105, 42⟩, ⟨105, 43, 105, 46⟩, ⟨105, 47, 105, 50⟩, ⟨105, 51, 105, 56⟩, ⟨105, 47, 105, 57⟩, ⟨105, 61, 105, 62⟩, ⟨105, 47, 105, 62⟩, ⟨105, 43, 105, 63⟩, ⟨105, 16, 105, 64⟩, ⟨105, 15, 105, 66⟩, ⟨105, 8, 105, 66⟩, ⟨102, 4, 105, 66⟩, ⟨100, 4, 105, 66⟩]
def told : Stmt := top 26
def csc : Scope := match defBody told with
  | [.Try _ [.ExceptHandler _ _ [_, .Assign _ (.ListComp _ _ sc _) _, _] _] _ _ _] => sc
  | _ => defScope told
def Z : RowD := ⟨d_law, [d_law_same, d_law_stream, d_law_newer, d_law_ahead, d_law_any, d_law_other, d_law_next, d_law_refuses, d_is_newer, d_is_open, d_after, d_steps_to, d_newest, d_path_to, d_ascends, d_check_number, d_is_whole, d_ahead_by], [("MAX_NUMBER", 65535), ("ROUND", 65536), ("HALF", 32768)], 100, fun i => tps.getD i ⟨0, 0, 0, 0⟩, defArgs told, defScope told, csc⟩
def names : List Str := ["HandError", "NotAllowed", "TooLarge", "Missing", "BadForm", "Broken", "MAX_NUMBER", "is_whole", "ROUND", "HALF", "check_number", "ahead_by", "is_newer", "is_open", "after", "steps_to", "newest", "path_to", "ascends", "_law_same", "_law_stream", "_law_next", "_law_told", "_law_ahead", "_law_newer", "_law_any", "_law_other", "_law_refuses"]
abbrev R : PySem.W.OpenRow := PySem.W.OpenLaw.row PySem.Challenge.rw_handeddown_k22_whole_numbers_that_go_rou
def ob (s : PySem.W.SharedT) : He.AlX := He.obsX 4 Z.fa Z.fn [] Z.tf Z.ex (HandSHeadRun.getT s)
theorem ob_eq (s : PySem.W.SharedT) : ob s = (Z.hk 4).obs s.abs := He.obsX_eq (HandSHeadRun.getT_eq s)
theorem told_ok : defBody told = toldBody Z.tp csc := by kernel_rfl
theorem run (w : World) : HandSHeadRun.RunEq R (PySem.W.view R.prog [32]) (Z.hk 4) ob 4000 names w := by
  intro os
  kernel_rfl
theorem s_law : Static d_law := ⟨⟨rfl, rfl, rfl, by decide +kernel, rfl, by decide +kernel, by decide +kernel⟩, rfl, fun _ _ _ _ _ _ us hl => match us, hl with | [_], _ => rfl⟩
theorem s_law_same : Static d_law_same := ⟨⟨rfl, rfl, rfl, by decide +kernel, rfl, by decide +kernel, by decide +kernel⟩, rfl, fun _ _ _ _ _ _ us hl => match us, hl with | [_, _], _ => rfl⟩
theorem s_law_stream : Static d_law_stream := ⟨⟨rfl, rfl, rfl, by decide +kernel, rfl, by decide +kernel, by decide +kernel⟩, rfl, fun _ _ _ _ _ _ us hl => match us, hl with | [_], _ => rfl⟩
theorem s_law_newer : Static d_law_newer := ⟨⟨rfl, rfl, rfl, by decide +kernel, rfl, by decide +kernel, by decide +kernel⟩, rfl, fun _ _ _ _ _ _ us hl => match us, hl with | [_, _], _ => rfl⟩
theorem s_law_ahead : Static d_law_ahead := ⟨⟨rfl, rfl, rfl, by decide +kernel, rfl, by decide +kernel, by decide +kernel⟩, rfl, fun _ _ _ _ _ _ us hl => match us, hl with | [_, _], _ => rfl⟩
theorem s_law_any : Static d_law_any := ⟨⟨rfl, rfl, rfl, by decide +kernel, rfl, by decide +kernel, by decide +kernel⟩, rfl, fun _ _ _ _ _ _ us hl => match us, hl with | [_], _ => rfl⟩
theorem s_law_other : Static d_law_other := ⟨⟨rfl, rfl, rfl, by decide +kernel, rfl, by decide +kernel, by decide +kernel⟩, rfl, fun _ _ _ _ _ _ us hl => match us, hl with | [_, _], _ => rfl⟩
theorem s_law_next : Static d_law_next := ⟨⟨rfl, rfl, rfl, by decide +kernel, rfl, by decide +kernel, by decide +kernel⟩, rfl, fun _ _ _ _ _ _ us hl => match us, hl with | [_, _], _ => rfl⟩
theorem s_law_refuses : Static d_law_refuses := ⟨⟨rfl, rfl, rfl, by decide +kernel, rfl, by decide +kernel, by decide +kernel⟩, rfl, fun _ _ _ _ _ _ us hl => match us, hl with | [], _ => rfl⟩
theorem s_is_newer : Static d_is_newer := ⟨⟨rfl, rfl, rfl, by decide +kernel, rfl, by decide +kernel, by decide +kernel⟩, rfl, fun _ _ _ _ _ _ us hl => match us, hl with | [_, _], _ => rfl⟩
theorem s_is_open : Static d_is_open := ⟨⟨rfl, rfl, rfl, by decide +kernel, rfl, by decide +kernel, by decide +kernel⟩, rfl, fun _ _ _ _ _ _ us hl => match us, hl with | [_, _], _ => rfl⟩
theorem s_after : Static d_after := ⟨⟨rfl, rfl, rfl, by decide +kernel, rfl, by decide +kernel, by decide +kernel⟩, rfl, fun _ _ _ _ _ _ us hl => match us, hl with | [_, _], _ => rfl⟩
theorem s_steps_to : Static d_steps_to := ⟨⟨rfl, rfl, rfl, by decide +kernel, rfl, by decide +kernel, by decide +kernel⟩, rfl, fun _ _ _ _ _ _ us hl => match us, hl with | [_, _], _ => rfl⟩
theorem s_newest : Static d_newest := ⟨⟨rfl, rfl, rfl, by decide +kernel, rfl, by decide +kernel, by decide +kernel⟩, rfl, fun _ _ _ _ _ _ us hl => match us, hl with | [_], _ => rfl⟩
theorem s_path_to : Static d_path_to := ⟨⟨rfl, rfl, rfl, by decide +kernel, rfl, by decide +kernel, by decide +kernel⟩, rfl, fun _ _ _ _ _ _ us hl => match us, hl with | [_, _], _ => rfl⟩
theorem s_ascends : Static d_ascends := ⟨⟨rfl, rfl, rfl, by decide +kernel, rfl, by decide +kernel, by decide +kernel⟩, rfl, fun _ _ _ _ _ _ us hl => match us, hl with | [_], _ => rfl⟩
theorem s_check_number : Static d_check_number := ⟨⟨rfl, rfl, rfl, by decide +kernel, rfl, by decide +kernel, by decide +kernel⟩, rfl, fun _ _ _ _ _ _ us hl => match us, hl with | [_], _ => rfl⟩
theorem s_is_whole : Static d_is_whole := ⟨⟨rfl, rfl, rfl, by decide +kernel, rfl, by decide +kernel, by decide +kernel⟩, rfl, fun _ _ _ _ _ _ us hl => match us, hl with | [_, _, _], _ => rfl⟩
theorem s_ahead_by : Static d_ahead_by := ⟨⟨rfl, rfl, rfl, by decide +kernel, rfl, by decide +kernel, by decide +kernel⟩, rfl, fun _ _ _ _ _ _ us hl => match us, hl with | [_, _], _ => rfl⟩
theorem statics : AllD Static Z.all := ⟨s_law, s_law_same, s_law_stream, s_law_newer, s_law_ahead, s_law_any, s_law_other, s_law_next, s_law_refuses, s_is_newer, s_is_open, s_after, s_steps_to, s_newest, s_path_to, s_ascends, s_check_number, s_is_whole, s_ahead_by, trivial⟩
end K22
end
section
set_option Elab.async false
set_option linter.all false
set_option maxRecDepth 100000
set_option maxHeartbeats 0
namespace K22
open PySem DI
abbrev rn (d : FdT) (r : List FdT) (ds : List D) : M D := kSs 100 (ctxOf Z.W (fnTab r) d) d.body (startE d.N d.st ds) outK
theorem rd {d : FdT} {r : List FdT} (h : ∀ ds s, d.sem ds s = .stuck ∨ rn d r ds s = d.sem ds s) : RefD Z.W d r := fun ds s => by
  show _ ∨ runB 100 _ _ _ _ _ = _
  rw [runB_eq]
  exact h ds s
theorem r_ahead_by : RefD Z.W d_ahead_by [] := rd fun ds s => by
  show m_ahead_by ds s = _ ∨ _
  unfold m_ahead_by
  split
  · right; kernel_rfl
  · left; rfl
theorem r_is_whole : RefD Z.W d_is_whole [d_ahead_by] := rd fun ds s => by
  show m_is_whole ds s = _ ∨ _ = m_is_whole ds s
  unfold m_is_whole
  split
  · rename_i v lo hi
    right
    have h : rn d_is_whole [d_ahead_by] [.int v, .int lo, .int hi] = bnd (if decide (lo ≤ v) = true then ret (.bool (decide (v ≤ hi))) else ret (.bool false)) fun d => ret d := by kernel_rfl
    rw [h]
    by_cases c : lo ≤ v <;> simp [c, bnd, R.next]
  · left; rfl
theorem r_check : RefD Z.W d_check_number [d_is_whole, d_ahead_by] := rd fun ds s => by
  show m_check_number ds s = _ ∨ _ = m_check_number ds s
  unfold m_check_number
  split
  · rename_i n
    right
    have h : rn d_check_number [d_is_whole, d_ahead_by] [.int n] = if (!(decide (0 ≤ n) && decide (n ≤ 65535))) = true then refused else ret .none := by kernel_rfl
    rw [h]
    unfold inR
    cases (decide (0 ≤ n) && decide (n ≤ 65535)) <;> rfl
  · left; rfl

abbrev L0 : List FdT := [d_is_whole, d_ahead_by]
abbrev L1 : List FdT := d_check_number :: L0
abbrev L2 : List FdT := d_ascends :: L1
abbrev L3 : List FdT := d_path_to :: L2
abbrev L4 : List FdT := d_newest :: L3
abbrev L5 : List FdT := d_steps_to :: L4
abbrev L6 : List FdT := d_after :: L5
abbrev L7 : List FdT := d_is_open :: L6
abbrev L8 : List FdT := d_is_newer :: L7
abbrev L9 : List FdT := d_law_refuses :: L8
abbrev L10 : List FdT := d_law_next :: L9
abbrev L11 : List FdT := d_law_other :: L10
abbrev L12 : List FdT := d_law_any :: L11
abbrev L13 : List FdT := d_law_ahead :: L12
abbrev L14 : List FdT := d_law_newer :: L13
abbrev L15 : List FdT := d_law_stream :: L14
abbrev L16 : List FdT := d_law_same :: L15
example : Z.L = L16 := rfl
abbrev chk (n : Int) (m : M D) : M D := if inR n = true then m else refused
theorem chk_def (n : Int) : m_check_number [.int n] = if inR n = true then (DI.ret .none : M D) else refused := rfl
/-- a check as it is called -/
theorem pure_chk (n : Int) (k : D → M D) : bnd (purely (m_check_number [.int n])) k = if inR n = true then k .none else refused := by
  rw [chk_def]
  cases inR n <;> rfl
theorem r_is_newer : RefD Z.W d_is_newer L7 := rd fun ds s => by
  show m_is_newer ds s = _ ∨ _ = m_is_newer ds s
  unfold m_is_newer
  split
  · rename_i a b
    right
    have h : rn d_is_newer L7 [.int a, .int b] = bnd (purely (m_check_number [.int a])) fun _ => bnd (purely (m_check_number [.int b])) fun _ => bnd (if decide (0 < (a - b) % 65536) = true then ret (.bool (decide ((a - b) % 65536 < 32768))) else ret (.bool false)) fun d => ret d := by kernel_rfl
    rw [h, pure_chk]
    simp only [pure_chk]
    unfold newer
    cases inR a <;> cases inR b <;> cases decide (0 < (a - b) % 65536) <;> rfl
  · left; rfl
theorem r_is_open : RefD Z.W d_is_open L6 := rd fun ds s => by
  show m_is_open ds s = _ ∨ _ = m_is_open ds s
  unfold m_is_open
  split
  · rename_i a b
    right
    have h : rn d_is_open L6 [.int a, .int b] = bnd (purely (m_check_number [.int a])) fun _ => bnd (purely (m_check_number [.int b])) fun _ => ret (.bool ((a - b) % 65536 == 32768)) := by kernel_rfl
    rw [h, pure_chk]
    simp only [pure_chk]
    cases inR a <;> cases inR b <;> first | rfl | (simp; rfl)
  · left; rfl
theorem r_after : RefD Z.W d_after L5 := rd fun ds s => by
  show m_after ds s = _ ∨ _ = m_after ds s
  unfold m_after
  split
  · rename_i a b
    right
    have h : rn d_after L5 [.int a, .int b] = bnd (purely (m_check_number [.int a])) fun _ => if (!(decide (0 ≤ b) && decide (b ≤ 32768 - 1))) = true then refused else ret (.int ((a + b) % 65536)) := by kernel_rfl
    rw [h, pure_chk]
    show (if inR a = true then (if (!(decide (0 ≤ b) && decide (b ≤ 32767))) = true then refused else ret (.int ((a + b) % 65536))) else refused) s = _
    cases inR a <;> cases (decide (0 ≤ b) && decide (b ≤ 32767)) <;> rfl
  · left; rfl
theorem r_steps : RefD Z.W d_steps_to L4 := rd fun ds s => by
  show m_steps_to ds s = _ ∨ _ = m_steps_to ds s
  unfold m_steps_to
  split
  · rename_i a b
    right
    have h : rn d_steps_to L4 [.int a, .int b] = bnd (purely (m_check_number [.int a])) fun _ => bnd (purely (m_check_number [.int b])) fun _ => if decide (32768 ≤ (b - a) % 65536) = true then missing else ret (.int ((b - a) % 65536)) := by kernel_rfl
    rw [h, pure_chk]
    simp only [pure_chk]
    cases inR a <;> cases inR b <;> rfl
  · left; rfl
theorem r_path : RefD Z.W d_path_to L2 := rd fun ds s => by
  show m_path_to ds s = _ ∨ _ = m_path_to ds s
  unfold m_path_to
  split
  · rename_i a b
    right
    have h : rn d_path_to L2 [.int a, .int b] = bnd (purely (m_check_number [.int a])) fun _ => bnd (purely (m_check_number [.int b])) fun _ => (if ((b - a) % 65536 == 0) = true then ret (.tuple [])
       else if decide ((b - a) % 65536 < 32768) = true then ret (.tuple [.int b])
       else if decide ((b - a) % 65536 < 65536 - 1) = true then ret (.tuple [.int ((a + (b - a) % 65536 - 32768 + 1) % 65536), .int b])
       else ret (.tuple [.int ((a + 1) % 65536), .int ((a + 32768) % 65536), .int b])) := by kernel_rfl
    rw [h, pure_chk]
    simp only [pure_chk]
    show _ = (if (inR a && inR b) = true then _ else _ : M D) s
    cases inR a <;> cases inR b <;> first | rfl | (simp; rfl)
  · left; rfl
theorem r_law_ahead : RefD Z.W d_law_ahead L12 := rd fun ds s => by
  show m_law_ahead ds s = _ ∨ _
  unfold m_law_ahead
  split
  · right; kernel_rfl
  · left; rfl
theorem r_law_newer : RefD Z.W d_law_newer L13 := rd fun ds s => by
  show m_law_newer ds s = _ ∨ _ = m_law_newer ds s
  unfold m_law_newer
  split
  · rename_i a b
    right
    have h : rn d_law_newer L13 [.int a, .int b] = bnd (if decide (1 ≤ (a - b) % 65536) = true then ret (.bool (decide ((a - b) % 65536 ≤ 32767))) else ret (.bool false)) fun d => ret d := by kernel_rfl
    rw [h]
    cases decide (1 ≤ (a - b) % 65536) <;> rfl
  · left; rfl
theorem bnd_ret {α : Type} (m : M α) : bnd m (fun d => DI.ret d) = m := by
  funext st
  show R.next (m st) _ = _
  cases m st <;> rfl
theorem r_law_same : RefD Z.W d_law_same L15 := rd fun ds s => by
  show m_law_same ds s = _ ∨ _ = m_law_same ds s
  unfold m_law_same
  split
  · rename_i a b
    right
    have h : rn d_law_same L15 [a, b] = bnd (m_law_same [a, b]) fun d => DI.ret d := by kernel_rfl
    rw [h, bnd_ret]
    rfl
  · left; rfl
end K22
end
section
set_option Elab.async false
set_option linter.all false
set_option maxRecDepth 100000
set_option maxHeartbeats 0
namespace K22
open PySem DI
theorem r_law_next : RefD Z.W d_law_next L9 := rd fun ds s => next_ref ds s nextR (fun _ => rfl) (rn d_law_next L9) (fun m => by kernel_rfl)
def C2 : DI.Ctx := ctxOf Z.W (fnTab L14) d_law_stream
def sF : Stmt := d_law_stream.body.getD 1 (.Pass ⟨0, 0, 0, 0⟩)
def sI : Stmt := (forBody sF).getD 1 (.Pass ⟨0, 0, 0, 0⟩)
def sF1 : Stmt := (ifA sI).getD 0 (.Pass ⟨0, 0, 0, 0⟩)
def sF2 : Stmt := (ifB sI).getD 1 (.Pass ⟨0, 0, 0, 0⟩)
def FF := turnF 97 C2 sF
def FF1 := turnF 92 C2 sF1
def FF2 := turnF 91 C2 sF2
theorem h1 : ∀ s ns c r k t (y : Int), FF1 (.int y) (ev s ns c (some (.sh (.int r))) k t) = guardM (fits (ns.length + 1)) (if (r / 1009 == 0) = true then DI.ret (Fl.bk, ev s (ns ++ [.int (r % 1009)]) c (some (.sh (.int (r / 1009)))) (some (.sh (.int y))) t) else DI.ret (Fl.nx, ev s (ns ++ [.int (r % 1009)]) c (some (.sh (.int (r / 1009)))) (some (.sh (.int y))) t)) := fun s ns c r k t y => by
  unfold FF1
  rw [turnF_eq]
  kernel_rfl
theorem h2 : ∀ s ns c r k (t y : Int), FF2 (.int y) (ev s ns c r k (some (.sh (.int t)))) = bnd (stirR t y) fun d => bnd (itemR d y) fun e => guardM (fits (ns.length + 1)) (DI.ret (Fl.nx, ev s (ns ++ [e]) c r (some (.sh (.int y))) (some (.sh d)))) := fun s ns c r k t y => by
  unfold FF2
  rw [turnF_eq]
  kernel_rfl
theorem h0 : ∀ s ns c r k t (v : Int), FF (.int v) (ev s ns c r k t) = if decide (10 ^ 18 ≤ absI v) = true then bnd (loopM FF1 (rangeD 0 60) (ev s ns (some (.sh (.int v))) (some (.sh (.int (absI v)))) k t)) (endK (seqK 93 C2 [] (seqK 95 C2 [] retF)))
      else bnd (loopM FF2 (rangeD 0 10) (ev s ns (some (.sh (.int v))) (some (.sh (.int (absI v)))) k (some (.sh (.int (absI v % 2147483647)))))) (endK (seqK 92 C2 [] (seqK 95 C2 [] retF))) := fun s ns c r k t v => by
  unfold FF
  rw [turnF_eq]
  kernel_rfl
theorem hg : ∀ xs : List D, rn d_law_stream L14 [.list xs] = bnd (loopM FF (cutD xs none (some 63)) (ev (.list xs) [] none none none none)) (endK (seqK 98 C2 (d_law_stream.body.drop 2) outK)) := fun xs => by kernel_rfl
theorem hK0 : ∀ s ns c r k t, endK (seqK 98 C2 (d_law_stream.body.drop 2) outK) (.nx, ev s ns c r k t) = if ((ns.length : Int) == 0) = true then guardM (fits (ns.length + 1)) (DI.ret (.list (ns ++ [.int 0]))) else DI.ret (.list ns) := fun s ns c r k t => by kernel_rfl
theorem r_law_stream : RefD Z.W d_law_stream L14 := rd (stream_ref (K1 := endK (seqK 93 C2 [] (seqK 95 C2 [] retF))) (K2 := endK (seqK 92 C2 [] (seqK 95 C2 [] retF))) hg hK0 h0 (fun _ => rfl) (fun _ => rfl) h1 h2)
end K22
end
section
set_option Elab.async false
set_option linter.all false
set_option maxRecDepth 100000
set_option maxHeartbeats 0
namespace K22
open PySem DI
/-! newest, ascends -/
def Cn : DI.Ctx := ctxOf Z.W (fnTab L3) d_newest
def Ca : DI.Ctx := ctxOf Z.W (fnTab L1) d_ascends
def nF : Stmt := d_newest.body.getD 0 (.Pass ⟨0, 0, 0, 0⟩)
def nV : Expr := asgVal (d_newest.body.getD 1 (.Pass ⟨0, 0, 0, 0⟩))
def nI : Expr := arg 0 (arg 3 nV)
def aF : Stmt := d_ascends.body.getD 0 (.Pass ⟨0, 0, 0, 0⟩)
def aV : Expr := arg 0 (asgVal (d_ascends.body.getD 1 (.Pass ⟨0, 0, 0, 0⟩)))
theorem n_turn (x : D) (a b c d e : Option SV) : turnF 98 Cn nF x [a, b, c, d, e] = bnd (purely (m_check_number [x])) fun _ => DI.ret (Fl.nx, [a, some (.sh x), c, d, e]) := by
  rw [turnF_eq]
  kernel_rfl
theorem n_raw (xs : List D) : rn d_newest L3 [.tuple xs] = bnd (loopM (turnF 98 Cn nF) xs [some (.sh (.tuple xs)), none, none, none, none]) (endK (seqK 99 Cn (d_newest.body.drop 1) outK)) := by kernel_rfl
theorem n_rest (xs : List D) (b : Option SV) : endK (seqK 99 Cn (d_newest.body.drop 1) outK) (.nx, [some (.sh (.tuple xs)), b, none, none, none]) =
    bnd (bnd (DI.ret xs) fun xs' => guardM (fits xs'.length) (compM (cF 96 Cn nV [some (.sh (.tuple xs)), b, none, none, none]) xs')) fun ds => (if ((ds.length : Int) == 0) = true then missing else bnd (ixM (.list ds) (.int 0)) fun d => DI.ret d) := by kernel_rfl
end K22
end
section
set_option Elab.async false
set_option linter.all false
set_option maxRecDepth 100000
set_option maxHeartbeats 0
namespace K22
open PySem DI
/-- all are looked at first -/
theorem chk_loop {F : D → DI.Env → M (Fl × DI.Env)} {a c d e : Option SV} (h : ∀ x b, F x [a, b, c, d, e] = bnd (purely (m_check_number [x])) fun _ => DI.ret (Fl.nx, [a, some (.sh x), c, d, e])) :
    ∀ (ns : List Int) b, ∃ b', loopM F (ns.map PyData.int) [a, b, c, d, e] = if ns.all inR = true then DI.ret (Fl.nx, [a, b', c, d, e]) else throwM ⟨"NotAllowed"⟩
  | [], b => ⟨b, rfl⟩
  | n :: ns, b => by
    obtain ⟨b', ih⟩ := chk_loop h ns (some (.sh (.int n)))
    refine ⟨b', ?_⟩
    rw [List.map_cons, loop_cons, h, chk_def, List.all_cons]
    cases hn : inR n
    · rfl
    · show loopM F _ _ = _
      rw [ih]
      rfl
theorem chk_loop4 {F : D → DI.Env → M (Fl × DI.Env)} {a d e : Option SV} (h : ∀ x b, F x [a, b, d, e] = bnd (purely (m_check_number [x])) fun _ => DI.ret (Fl.nx, [a, some (.sh x), d, e])) :
    ∀ (ns : List Int) b, ∃ b', loopM F (ns.map PyData.int) [a, b, d, e] = if ns.all inR = true then DI.ret (Fl.nx, [a, b', d, e]) else throwM ⟨"NotAllowed"⟩
  | [], b => ⟨b, rfl⟩
  | n :: ns, b => by
    obtain ⟨b', ih⟩ := chk_loop4 h ns (some (.sh (.int n)))
    refine ⟨b', ?_⟩
    rw [List.map_cons, loop_cons, h, chk_def, List.all_cons]
    cases hn : inR n
    · rfl
    · show loopM F _ _ = _
      rw [ih]
      rfl
def lcSc : Expr → Scope
  | .ListComp _ _ sc _ => sc
  | _ => L2.defScope (top 0)
def Cn1 : DI.Ctx := Cn.into (relSc (lcSc nV) Cn.sc)
theorem n_cF (xs : List D) (b : Option SV) (x : D) : cF 96 Cn nV [some (.sh (.tuple xs)), b, none, none, none] x =
    noErrM (bnd (bnd (bnd (bnd (bnd (bnd (DI.ret xs) fun xs' => guardM (fits xs'.length) (compM (cF 92 Cn1 nI [some (.sh (.tuple xs)), b, none, some (.sh x), none]) xs')) fun ds => DI.ret (PyData.list ds)) fun d => DI.ret [d]) fun ds => biM .all ds) truthM) fun c => if c = true then DI.ret (some x) else DI.ret none) := by kernel_rfl
theorem n_cI (xs : List D) (b : Option SV) (x y : Int) : cF 92 Cn1 nI [some (.sh (.tuple xs)), b, none, some (.sh (.int x)), none] (.int y) =
    noErrM (bnd (if (x == y) = true then DI.ret (.bool (x == y)) else if decide (0 < (x - y) % 65536) = true then DI.ret (.bool (decide ((x - y) % 65536 < 32768))) else DI.ret (.bool false)) fun d => DI.ret (some d)) := by kernel_rfl
theorem n_cI' (xs : List D) (b : Option SV) (x y : Int) : cF 92 Cn1 nI [some (.sh (.tuple xs)), b, none, some (.sh (.int x)), none] (.int y) = DI.ret (some (.bool (decide (x = y) || newer x y))) := by
  rw [n_cI]
  unfold newer
  by_cases h : x = y
  · subst h
    simp
    rfl
  · have h2 : (x == y) = false := by simpa using h
    rw [h2]
    by_cases c : 0 < (x - y) % 65536 <;> simp [h, c] <;> rfl
theorem r_newest : RefD Z.W d_newest L3 := rd fun ds s => by
  show m_newest ds s = _ ∨ _ = m_newest ds s
  unfold m_newest
  split
  · rename_i xs
    cases hi : intsOf xs with
    | none => exact .inl rfl
    | some ns =>
      have hx := ints_map hi
      subst hx
      dsimp only
      cases hf : fits ns.length with
      | false => exact .inl rfl
      | true =>
        right
        obtain ⟨b', e⟩ := chk_loop (fun x b => n_turn x (some (.sh (.tuple (ns.map PyData.int)))) b none none none) ns none
        rw [n_raw, e]
        cases hc : ns.all inR with
        | false => rfl
        | true =>
          rw [if_pos rfl, if_pos rfl]
          show endK (seqK 99 Cn (d_newest.body.drop 1) outK) (Fl.nx, [some (.sh (.tuple (ns.map PyData.int))), b', none, none, none]) s = _
          rw [n_rest]
          show (bnd (bnd (DI.ret (ns.map PyData.int)) fun xs' => guardM (fits xs'.length) (compM _ xs')) _) s = _
          have hl : (ns.map PyData.int).length = ns.length := List.length_map _
          have g : ∀ (α : Type) (m : M α), guardM (fits (ns.map PyData.int).length) m = m := fun α m => by rw [hl, hf]; rfl
          have inner : ∀ x : Int, compM (cF 92 Cn1 nI [some (.sh (.tuple (ns.map PyData.int))), b', none, some (.sh (.int x)), none]) (ns.map PyData.int) = DI.ret (ns.map fun y => .bool (decide (x = y) || newer x y)) := fun x => comp_map (fun y => n_cI' _ _ x y) ns
          have outer : compM (cF 96 Cn nV [some (.sh (.tuple (ns.map PyData.int))), b', none, none, none]) (ns.map PyData.int) = DI.ret ((best ns).map PyData.int) := by
            refine comp_filter (p := fun a => ns.all fun b => decide (a = b) || newer a b) (fun x => ?_) ns
            rw [n_cF]
            show noErrM (bnd (bnd (bnd (bnd (bnd (guardM (fits (ns.map PyData.int).length) _) _) _) _) _) _) = _
            rw [g, inner]
            have e3 : (ns.map fun y => PyData.bool (decide (x = y) || newer x y)) = (ns.map fun y => (decide (x = y) || newer x y)).map PyData.bool := by rw [List.map_map]; rfl
            rw [e3]
            show noErrM (bnd (bnd (biM .all [.list _]) _) _) = _
            rw [all_at]
            have e4 : (ns.map fun y => (decide (x = y) || newer x y)).all id = ns.all fun b => decide (x = b) || newer x b := by rw [List.all_map]; rfl
            rw [e4]
            cases ns.all fun b => decide (x = b) || newer x b <;> rfl
          show (bnd (guardM (fits (ns.map PyData.int).length) (compM _ _)) _) s = _
          rw [g, outer]
          show _ = (match best ns with | [] => missing | a :: _ => DI.ret (.int a)) s
          cases best ns with
          | nil => rfl
          | cons a r =>
            show (if ((((a :: r).map PyData.int).length : Int) == 0) = true then missing else _) s = _
            rw [if_neg (by simp; omega)]
            have : L2.atI (((a :: r).map PyData.int)) 0 = some (.int a) := by
              have := atI_int (is := a :: r) (i := 0) (by omega) (by simp)
              rw [this]
              rfl
            show (bnd (optM (L2.atI ((a :: r).map PyData.int) 0)) _) s = _
            rw [this]
            rfl
  · left; rfl
end K22
end
section
set_option Elab.async false
set_option linter.all false
set_option maxRecDepth 100000
set_option maxHeartbeats 0
namespace K22
open PySem DI
theorem a_turn (x : D) (a b c d : Option SV) : turnF 98 Ca aF x [a, b, c, d] = bnd (purely (m_check_number [x])) fun _ => DI.ret (Fl.nx, [a, some (.sh x), c, d]) := by
  rw [turnF_eq]
  kernel_rfl
theorem a_raw (xs : List D) : rn d_ascends L1 [.tuple xs] = bnd (loopM (turnF 98 Ca aF) xs [some (.sh (.tuple xs)), none, none, none]) (endK (seqK 99 Ca (d_ascends.body.drop 1) outK)) := by kernel_rfl
theorem a_rest (xs : List D) (b : Option SV) : endK (seqK 99 Ca (d_ascends.body.drop 1) outK) (.nx, [some (.sh (.tuple xs)), b, none, none]) =
    bnd (bnd (bnd (bnd (bnd (DI.ret (zipD xs (cutD xs (some 1) none))) fun xs' => guardM (fits xs'.length) (compM (cF 91 Ca aV [some (.sh (.tuple xs)), b, none, none]) xs')) fun ds => DI.ret (PyData.list ds)) fun d => DI.ret [d]) fun ds => biM .all ds) fun d => DI.ret d := by kernel_rfl
theorem a_cF (xs : List D) (b : Option SV) (x y : Int) : cF 91 Ca aV [some (.sh (.tuple xs)), b, none, none] (.tuple [.int x, .int y]) =
    noErrM (bnd (if decide (0 < (y - x) % 65536) = true then DI.ret (.bool (decide ((y - x) % 65536 < 32768))) else DI.ret (.bool false)) fun d => DI.ret (some d)) := by kernel_rfl
theorem a_cF' (xs : List D) (b : Option SV) (p : Int × Int) : cF 91 Ca aV [some (.sh (.tuple xs)), b, none, none] (.tuple [.int p.1, .int p.2]) = DI.ret (some (.bool (newer p.2 p.1))) := by
  rw [a_cF]
  unfold newer
  by_cases c : 0 < (p.2 - p.1) % 65536 <;> simp [c] <;> rfl
theorem comp_mapG {α : Type} {f : D → M (Option D)} {mk g : α → D} (h : ∀ a, f (mk a) = DI.ret (some (g a))) : ∀ as : List α, compM f (as.map mk) = DI.ret (as.map g)
  | [] => rfl
  | n :: ns => by
    show bnd (f (mk n)) (fun o => bnd (compM f (ns.map mk)) _) = _
    rw [h, comp_mapG h ns]
    rfl
theorem cut1 (ns : List Int) : cutD (ns.map PyData.int) (some 1) none = (ns.drop 1).map PyData.int := by
  unfold cutD
  have e1 : HT.sIx (ns.map PyData.int).length 0 (some 1) = min 1 (ns.map PyData.int).length := HT.sIx_nat _ _ 1
  have e2 : HT.sIx (ns.map PyData.int).length (ns.map PyData.int).length none = (ns.map PyData.int).length := rfl
  rw [e1, e2]
  cases ns with
  | nil => rfl
  | cons a r =>
    have : min 1 ((a :: r).map PyData.int).length = 1 := by simp
    rw [this]
    simp
    exact List.take_of_length_le (by simp)
theorem zip_ints (as bs : List Int) : zipD (as.map PyData.int) (bs.map PyData.int) = (as.zip bs).map fun p => .tuple [.int p.1, .int p.2] := by
  unfold zipD
  rw [List.zip_map, List.map_map]
  rfl
theorem asc_zip : ∀ ns : List Int, ((ns.zip (ns.drop 1)).all fun p => newer p.2 p.1) = asc ns
  | [] => rfl
  | [_] => rfl
  | a :: b :: r => by
    have ih := asc_zip (b :: r)
    show (newer b a && (((b :: r).zip ((b :: r).drop 1)).all fun p => newer p.2 p.1)) = (newer b a && asc (b :: r))
    rw [ih]
theorem r_ascends : RefD Z.W d_ascends L1 := rd fun ds s => by
  show m_ascends ds s = _ ∨ _ = m_ascends ds s
  unfold m_ascends
  split
  · rename_i xs
    cases hi : intsOf xs with
    | none => exact .inl rfl
    | some ns =>
      have hx := ints_map hi
      subst hx
      dsimp only
      cases hf : fits ns.length with
      | false => exact .inl rfl
      | true =>
        right
        obtain ⟨b', e⟩ := chk_loop4 (fun x b => a_turn x (some (.sh (.tuple (ns.map PyData.int)))) b none none) ns none
        rw [a_raw, e]
        cases hc : ns.all inR with
        | false => rfl
        | true =>
          rw [if_pos rfl, if_pos rfl]
          show endK (seqK 99 Ca (d_ascends.body.drop 1) outK) (Fl.nx, [some (.sh (.tuple (ns.map PyData.int))), b', none, none]) s = _
          rw [a_rest, cut1, zip_ints]
          have hl : ((ns.zip (ns.drop 1)).map fun p => PyData.tuple [.int p.1, .int p.2]).length ≤ ns.length := by simp
          have hf2 : fits ((ns.zip (ns.drop 1)).map fun p => PyData.tuple [.int p.1, .int p.2]).length = true := decide_eq_true (Nat.le_trans hl (of_decide_eq_true hf))
          show bnd (bnd (bnd (bnd (guardM (fits ((ns.zip (ns.drop 1)).map fun p => PyData.tuple [.int p.1, .int p.2]).length) (compM _ _)) _) _) _) _ s = _
          rw [hf2]
          show bnd (bnd (bnd (bnd (compM _ _) _) _) _) _ s = _
          rw [comp_mapG (fun p => a_cF' _ _ p)]
          have e3 : ((ns.zip (ns.drop 1)).map fun p => PyData.bool (newer p.2 p.1)) = ((ns.zip (ns.drop 1)).map fun p => newer p.2 p.1).map PyData.bool := by rw [List.map_map]; rfl
          show bnd (biM .all [.list ((ns.zip (ns.drop 1)).map fun p => PyData.bool (newer p.2 p.1))]) _ s = _
          rw [e3, all_at]
          have e4 : ((ns.zip (ns.drop 1)).map fun p => newer p.2 p.1).all id = asc ns := by rw [List.all_map]; exact asc_zip ns
          rw [e4]
          rfl
  · left; rfl
end K22
end
section
set_option Elab.async false
set_option linter.all false
set_option maxRecDepth 100000
set_option maxHeartbeats 0
namespace K22
open PySem DI
theorem any_raw : rn d_law_any L11 [] = bnd (pickM anyL 8) fun base => bnd (roundM (bnd (nx 3) fun y => binM .Add base y)) fun d => DI.ret d := by kernel_rfl
theorem other_raw (i : Int) : rn d_law_other L10 [.int i] = bnd (pickM otherL 10) fun step => bnd (roundM (binM .Add (.int i) step)) fun d => DI.ret d := by kernel_rfl
theorem refuses_raw : rn d_law_refuses L8 [] = DI.ret (PyData.bool true) := by kernel_rfl
theorem r_law_any : RefD Z.W d_law_any L11 := rd fun ds s => by
  cases ds with
  | nil => right; rw [any_raw]; simp only [bnd_ret]; rfl
  | cons _ _ => left; rfl
theorem r_law_other : RefD Z.W d_law_other L10 := rd fun ds s => by
  show m_law_other ds s = _ ∨ _ = m_law_other ds s
  unfold m_law_other
  split
  · rename_i i
    right
    rw [other_raw]
    simp only [bnd_ret]
  · left; rfl
theorem r_law_refuses : RefD Z.W d_law_refuses L8 := rd fun ds s => by
  cases ds with
  | nil => right; rw [refuses_raw]; rfl
  | cons _ _ => left; rfl
theorem r_law : RefD Z.W d_law L16 := fun ds s => .inr rfl
theorem refs : RefAll Z.W Z.all := ⟨r_law, r_law_same, r_law_stream, r_law_newer, r_law_ahead, r_law_any, r_law_other, r_law_next, r_law_refuses, r_is_newer, r_is_open, r_after, r_steps, r_newest, r_path, r_ascends, r_check, r_is_whole, r_ahead_by, trivial⟩
end K22
end
section
set_option Elab.async false
set_option linter.all false
set_option maxRecDepth 100000
set_option maxHeartbeats 0
namespace K22
open PySem DI
/-! the law: its text, step by step -/
def CL : DI.Ctx := ctxOf Z.W (fnTab L16) d_law
def lF : Stmt := d_law.body.getD 2 (.Pass ⟨0, 0, 0, 0⟩)
def B : List Stmt := forBody lF
def le (s : D) (os : List (Option SV)) : DI.Env := some (.sh s) :: some .stt :: os
abbrev sh (d : D) : Option SV := some (.sh d)
abbrev si (i : Int) : Option SV := some (.sh (.int i))
theorem law_raw (xs : List D) : m_law [.list xs] [] = R.next (R.next (purely (m_law_stream [.list xs]) []) (fun d => DI.ret [d, .int 0])) (fun ds _ => guardM (fits ds.length && !ds.isEmpty) (fun _ => kSs 99 CL (d_law.body.drop 1) (le (.list xs) [none, none, none, none, none, none, none, none, none, none, none, none, none, none, none, none, none, none, none]) outK ds) []) := by
  unfold m_law
  rw [runB_eq]
  kernel_rfl
theorem law1 (s : D) (os : List (Option SV)) : kSs 99 CL (d_law.body.drop 1) (le s os) outK = bnd (loopM (turnF 97 CL lF) (rangeD 0 12) (le s os)) (endK (seqK 97 CL (d_law.body.drop 3) outK)) := by kernel_rfl
theorem law2 (s : D) (os : List (Option SV)) : endK (seqK 97 CL (d_law.body.drop 3) outK) (.nx, le s os) = DI.ret (PyData.bool true) := by kernel_rfl
theorem t0 (s x : D) (o2 o3 : Option SV) (os : List (Option SV)) : turnF 97 CL lF x (le s (o2 :: o3 :: os)) = bnd (m_law_any []) fun d => kSs 96 CL (B.drop 1) (le s (sh x :: sh d :: os)) retF := by
  rw [turnF_eq]
  kernel_rfl
theorem t1 (s : D) (t a : Int) (o4 : Option SV) (os : List (Option SV)) : kSs 96 CL (B.drop 1) (le s (si t :: si a :: o4 :: os)) retF = bnd (m_law_other [.int a]) fun d => kSs 95 CL (B.drop 2) (le s (si t :: si a :: sh d :: os)) retF := by kernel_rfl
def stepL : M (List D) := consM 0 (consM 1 (consM 32767 (bnd (nx 32768) fun d => DI.ret [d])))
theorem t2 (s : D) (t a b : Int) (o5 : Option SV) (os : List (Option SV)) : kSs 95 CL (B.drop 2) (le s (si t :: si a :: si b :: o5 :: os)) retF = bnd (pickM stepL 4) fun d => kSs 94 CL (B.drop 3) (le s (si t :: si a :: si b :: sh d :: os)) retF := by kernel_rfl
def dueT (a b : Int) : D := if decide ((b - a) % 65536 < 32768) = true then .tuple [.str "told", .int ((b - a) % 65536)] else .tuple [.str "missing"]
theorem t3 (s : D) (t a b c : Int) (o6 o7 : Option SV) (os : List (Option SV)) : kSs 94 CL (B.drop 3) (le s (si t :: si a :: si b :: si c :: o6 :: o7 :: os)) retF = if decide ((b - a) % 65536 < 32768) = true then kSs 91 CL (B.drop 6) (le s (si t :: si a :: si b :: si c :: si ((b - a) % 65536) :: sh (.tuple [.str "told", .int ((b - a) % 65536)]) :: os)) retF else kSs 91 CL (B.drop 6) (le s (si t :: si a :: si b :: si c :: si ((b - a) % 65536) :: sh (.tuple [.str "missing"]) :: os)) retF := by kernel_rfl
def toldL (a b c : Int) : M (List D) := bnd (toldM (purely (m_is_newer [.int b, .int a]))) fun d1 => bnd (bnd (toldM (purely (m_is_open [.int b, .int a]))) fun d2 => bnd (bnd (toldM (purely (m_after [.int a, .int c]))) fun d3 => bnd (bnd (toldM (purely (m_steps_to [.int a, .int b]))) fun d4 => DI.ret [d4]) fun ds => DI.ret (d3 :: ds)) fun ds => DI.ret (d2 :: ds)) fun ds => DI.ret (d1 :: ds)
theorem t6 (s : D) (t a b c : Int) (o6 o7 o8 : Option SV) (os : List (Option SV)) : kSs 91 CL (B.drop 6) (le s (si t :: si a :: si b :: si c :: o6 :: o7 :: o8 :: os)) retF = bnd (bnd (toldL a b c) fun ds => guardM (fits ds.length) (DI.ret ds)) fun ds => kSs 90 CL (B.drop 7) (le s (si t :: si a :: si b :: si c :: o6 :: o7 :: some (.ow ds) :: os)) retF := by kernel_rfl
def newB (a b : Int) : Bool := decide (1 ≤ (a - b) % 65536) && decide ((a - b) % 65536 ≤ 32767)
def tld (d : D) : D := .tuple [.str "told", d]
theorem t7 (s : D) (t a b c f : Int) (e : D) (ds : List D) (os : List (Option SV)) : kSs 90 CL (B.drop 7) (le s (si t :: si a :: si b :: si c :: si f :: sh e :: some (.ow ds) :: os)) retF = bnd (bnd (bnd (purely (m_law_same [.list ds, .list [tld (.bool (newB b a)), tld (.bool (f == 32768)), tld (.int ((a + c) % 65536)), e]])) truthM) fun x => DI.ret (!x)) fun x => if x = true then DI.ret (Fl.rt (.bool false), le s (si t :: si a :: si b :: si c :: si f :: sh e :: sh (.list ds) :: os)) else kSs 89 CL (B.drop 8) (le s (si t :: si a :: si b :: si c :: si f :: sh e :: sh (.list ds) :: os)) retF := by kernel_rfl
end K22
end
section
set_option Elab.async false
set_option linter.all false
set_option maxRecDepth 100000
set_option maxHeartbeats 0
namespace K22
open PySem DI
theorem t8 (s : D) (t a b c f : Int) (e u : D) (o9 : Option SV) (os : List (Option SV)) : kSs 89 CL (B.drop 8) (le s (si t :: si a :: si b :: si c :: si f :: sh e :: sh u :: o9 :: os)) retF = bnd (toldM (purely (m_path_to [.int a, .int b]))) fun d => kSs 88 CL (B.drop 9) (le s (si t :: si a :: si b :: si c :: si f :: sh e :: sh u :: sh d :: os)) retF := by kernel_rfl
def manyM (f : Int) : M (List D) := bnd (bnd (bnd (bnd (bnd (bnd (bnd (bnd (ixM (.list [.int 2, .int 3]) (.int (if (f == 65535) = true then 1 else 0))) fun d => DI.ret [d]) fun ds => DI.ret (PyData.int 1 :: ds)) fun ds => guardM (fits ds.length) (DI.ret ds)) fun ds => DI.ret (PyData.list ds)) fun x => ixM x (.int (if decide (32767 < f) = true then 1 else 0))) fun d => DI.ret [d]) fun ds => DI.ret (PyData.int 0 :: ds)) fun ds => guardM (fits ds.length) (DI.ret ds)
def manyN (f : Int) : M D := bnd (bnd (manyM f) fun ds => DI.ret (PyData.list ds)) fun x => ixM x (.int (if decide (0 < f) = true then 1 else 0))
end K22
namespace K22
open PySem DI
theorem t9 (s : D) (t a b c f : Int) (e u : D) (P : List D) (o10 o11 : Option SV) (os : List (Option SV)) : kSs 88 CL (B.drop 9) (le s (si t :: si a :: si b :: si c :: si f :: sh e :: sh u :: sh (tld (.tuple P)) :: o10 :: o11 :: os)) retF = bnd (binM .Add (.tuple [.int a]) (.tuple P)) fun d => bnd (manyN f) fun m => kSs 86 CL (B.drop 11) (le s (si t :: si a :: si b :: si c :: si f :: sh e :: sh u :: sh (tld (.tuple P)) :: sh d :: sh m :: os)) retF := by kernel_rfl
/-- after the path was looked at: paths of each length -/
def le1 (s : D) (t a b c f : Int) (e u : D) (P : List D) (m : Int) (os : List (Option SV)) : DI.Env := le s (si t :: si a :: si b :: si c :: si f :: sh e :: sh u :: sh (tld (.tuple P)) :: sh (.tuple (.int a :: P)) :: si m :: os)
end K22
end
section
set_option Elab.async false
set_option linter.all false
set_option maxRecDepth 100000
set_option maxHeartbeats 0
namespace K22
open PySem DI
abbrev KT := Fl → DI.Env → M (Fl × DI.Env)
def Sx (i : Nat) : Stmt := B.getD i (.Pass ⟨0, 0, 0, 0⟩)
theorem c11 (ρ : DI.Env) (k : KT) : kSs 86 CL (B.drop 11) ρ k = kS 85 CL (Sx 11) ρ (seqK 85 CL (B.drop 12) k) := by kernel_rfl
theorem c12 (ρ : DI.Env) (k : KT) : kSs 85 CL (B.drop 12) ρ k = kS 84 CL (Sx 12) ρ (seqK 84 CL (B.drop 13) k) := by kernel_rfl
theorem c13 (ρ : DI.Env) (k : KT) : kSs 84 CL (B.drop 13) ρ k = kS 83 CL (Sx 13) ρ (seqK 83 CL (B.drop 14) k) := by kernel_rfl
section
variable (s : D) (t a b c f v w : Int) (e u : D) (o12 o13 o14 : Option SV) (k : KT)
theorem p0_11 : kS 85 CL (Sx 11) (le1 s t a b c f e u [] 0 [o12, o13, o14, none, none, none, none, none, none]) k = bnd (if (!(a == b)) = true then DI.ret true else DI.ret false) fun x => if x = true then k (.rt (.bool false)) (le1 s t a b c f e u [] 0 [o12, o13, o14, none, none, none, none, none, none]) else k .nx (le1 s t a b c f e u [] 0 [o12, o13, o14, none, none, none, none, none, none]) := by kernel_rfl
theorem p0_12 : kS 84 CL (Sx 12) (le1 s t a b c f e u [] 0 [o12, o13, o14, none, none, none, none, none, none]) k = k .nx (le1 s t a b c f e u [] 0 [o12, o13, o14, none, none, none, none, none, none]) := by kernel_rfl
theorem p0_13 : kS 83 CL (Sx 13) (le1 s t a b c f e u [] 0 [o12, o13, o14, none, none, none, none, none, none]) k = k .nx (le1 s t a b c f e u [] 0 [o12, o13, o14, none, none, none, none, none, none]) := by kernel_rfl
theorem p1_11 : kS 85 CL (Sx 11) (le1 s t a b c f e u [.int b] 1 [o12, o13, o14, none, none, none, none, none, none]) k = bnd (if (!(b == b)) = true then DI.ret true else DI.ret (!([newB b a].all id))) fun x => if x = true then k (.rt (.bool false)) (le1 s t a b c f e u [.int b] 1 [o12, o13, o14, none, none, none, none, none, none]) else k .nx (le1 s t a b c f e u [.int b] 1 [o12, o13, o14, none, none, none, none, none, none]) := by kernel_rfl
theorem p1_12 : kS 84 CL (Sx 12) (le1 s t a b c f e u [.int b] 1 [o12, o13, o14, none, none, none, none, none, none]) k = k .nx (le1 s t a b c f e u [.int b] 1 [o12, o13, o14, none, none, none, none, none, none]) := by kernel_rfl
theorem p1_13 : kS 83 CL (Sx 13) (le1 s t a b c f e u [.int b] 1 [o12, o13, o14, none, none, none, none, none, none]) k = k .nx (le1 s t a b c f e u [.int b] 1 [o12, o13, o14, none, none, none, none, none, none]) := by kernel_rfl
theorem p2_11 : kS 85 CL (Sx 11) (le1 s t a b c f e u [.int v, .int b] 2 [o12, o13, o14, none, none, none, none, none, none]) k = bnd (if (!(b == b)) = true then DI.ret true else DI.ret (!([newB v a, newB b v].all id))) fun x => if x = true then k (.rt (.bool false)) (le1 s t a b c f e u [.int v, .int b] 2 [o12, o13, o14, none, none, none, none, none, none]) else k .nx (le1 s t a b c f e u [.int v, .int b] 2 [o12, o13, o14, none, none, none, none, none, none]) := by kernel_rfl
theorem p2_12 : kS 84 CL (Sx 12) (le1 s t a b c f e u [.int v, .int b] 2 [o12, o13, o14, none, none, none, none, none, none]) k = bnd (if newB b ((v - 1) % 65536) = true then DI.ret (!(v == (a + 1) % 65536)) else DI.ret false) fun x => if x = true then k (.rt (.bool false)) (le1 s t a b c f e u [.int v, .int b] 2 [o12, o13, o14, none, none, none, none, none, none]) else k .nx (le1 s t a b c f e u [.int v, .int b] 2 [o12, o13, o14, none, none, none, none, none, none]) := by kernel_rfl
theorem p2_13 : kS 83 CL (Sx 13) (le1 s t a b c f e u [.int v, .int b] 2 [o12, o13, o14, none, none, none, none, none, none]) k = k .nx (le1 s t a b c f e u [.int v, .int b] 2 [o12, o13, o14, none, none, none, none, none, none]) := by kernel_rfl
theorem p3_11 : kS 85 CL (Sx 11) (le1 s t a b c f e u [.int v, .int w, .int b] 3 [o12, o13, o14, none, none, none, none, none, none]) k = bnd (if (!(b == b)) = true then DI.ret true else DI.ret (!([newB v a, newB w v, newB b w].all id))) fun x => if x = true then k (.rt (.bool false)) (le1 s t a b c f e u [.int v, .int w, .int b] 3 [o12, o13, o14, none, none, none, none, none, none]) else k .nx (le1 s t a b c f e u [.int v, .int w, .int b] 3 [o12, o13, o14, none, none, none, none, none, none]) := by kernel_rfl
theorem p3_12 : kS 84 CL (Sx 12) (le1 s t a b c f e u [.int v, .int w, .int b] 3 [o12, o13, o14, none, none, none, none, none, none]) k = k .nx (le1 s t a b c f e u [.int v, .int w, .int b] 3 [o12, o13, o14, none, none, none, none, none, none]) := by kernel_rfl
theorem p3_13 : kS 83 CL (Sx 13) (le1 s t a b c f e u [.int v, .int w, .int b] 3 [o12, o13, o14, none, none, none, none, none, none]) k = if (!(PyData.eqv (.tuple [.int v, .int w]) (.tuple [.int ((a + 1) % 65536), .int ((a + 32768) % 65536)]))) = true then k (.rt (.bool false)) (le1 s t a b c f e u [.int v, .int w, .int b] 3 [o12, o13, o14, none, none, none, none, none, none]) else k .nx (le1 s t a b c f e u [.int v, .int w, .int b] 3 [o12, o13, o14, none, none, none, none, none, none]) := by kernel_rfl
end
end K22
end
section
set_option Elab.async false
set_option linter.all false
set_option maxRecDepth 100000
set_option maxHeartbeats 0
namespace K22
open PySem DI
def rowM (a : Int) : M D := bnd (bnd (bnd (bnd (bnd (bnd (nx 4) fun y => binM .Add (.int 1) y) fun d => bnd (intM d) fun j => guardM (rgOk 0 j) (DI.ret (rangeD 0 j))) fun xs => guardM (fits xs.length) (compM (fun _ => noErrM (bnd (m_law_other [.int a]) fun y => DI.ret (some y))) xs)) fun ds => DI.ret (PyData.list ds)) fun d => DI.ret [d]) fun ds => biM .tuple ds
def bV : Expr := asgVal (Sx 15)
def bI : Expr := arg 0 (arg 3 bV)
def CL1 : DI.Ctx := CL.into (relSc (lcSc bV) CL.sc)
def misD : D := .tuple [.str "missing"]
def le2 (s : D) (t a b c f : Int) (e u pd rd : D) (m : Int) (o12 o13 o14 o15 o20 : Option SV) : DI.Env := le s [si t, si a, si b, si c, si f, sh e, sh u, sh pd, sh rd, si m, o12, o13, o14, o15, none, none, none, none, o20]
def toldR (xs : List D) : M D := bnd (bnd (bnd (toldM (purely (m_newest [.tuple xs]))) fun d1 => bnd (bnd (toldM (purely (m_ascends [.tuple xs]))) fun d2 => DI.ret [d2]) fun ds => DI.ret (d1 :: ds)) fun ds => guardM (fits ds.length) (DI.ret ds)) fun ds => DI.ret (PyData.list ds)
def endM (xs : List D) (l2 : D) : M Bool := bnd (bnd (bnd (bnd (toldR xs) fun d => DI.ret [d, l2]) fun ds => guardM (decide (ds.length = 2)) (purely (m_law_same ds))) truthM) fun x => DI.ret (!x)
section
variable (s : D) (t a b c f m : Int) (e u pd rd : D) (o12 o13 o14 : Option SV) (k : KT)
theorem s14 : kS 82 CL (Sx 14) (le2 s t a b c f e u pd rd m (o12) (o13) (o14) (none) (none)) k = bnd (rowM a) fun d => k .nx (le2 s t a b c f e u pd rd m (sh d) (o13) (o14) (none) (none)) := by kernel_rfl
theorem s15 (xs : List D) : kS 81 CL (Sx 15) (le2 s t a b c f e u pd rd m (sh (.tuple xs)) (o13) (o14) (none) (none)) k = bnd (bnd (DI.ret xs) fun xs' => guardM (fits xs'.length) (compM (cF 79 CL bV (le2 s t a b c f e u pd rd m (sh (.tuple xs)) (o13) (o14) (none) (none))) xs')) fun ds => k .nx (le2 s t a b c f e u pd rd m (sh (.tuple xs)) (some (.ow ds)) (o14) (none) (none)) := by kernel_rfl
theorem b_cF (xs : List D) (x : D) : cF 79 CL bV (le2 s t a b c f e u pd rd m (sh (.tuple xs)) (o13) (o14) (none) (none)) x = noErrM (bnd (bnd (bnd (bnd (bnd (bnd (DI.ret xs) fun xs' => guardM (fits xs'.length) (compM (cF 74 CL1 bI (le2 s t a b c f e u pd rd m (sh (.tuple xs)) (o13) (o14) (sh x) (none))) xs')) fun ds => DI.ret (PyData.list ds)) fun d => DI.ret [d]) fun ds => biM .all ds) truthM) fun c => if c = true then DI.ret (some x) else DI.ret none) := by kernel_rfl
theorem b_cI (xs : List D) (x y : Int) : cF 74 CL1 bI (le2 s t a b c f e u pd rd m (sh (.tuple xs)) (o13) (o14) (si x) (none)) (.int y) = noErrM (bnd (if (x == y) = true then DI.ret (.bool (x == y)) else DI.ret (.bool (newB x y))) fun d => DI.ret (some d)) := by kernel_rfl
theorem s16 (ds : List D) : kS 80 CL (Sx 16) (le2 s t a b c f e u pd rd m (o12) (some (.ow ds)) (o14) (none) (none)) k = k .nx (le2 s t a b c f e u pd rd m (o12) (some (.ow ds)) (sh misD) (none) (none)) := by kernel_rfl
theorem s17 (ds : List D) (o : D) : kS 79 CL (Sx 17) (le2 s t a b c f e u pd rd m (o12) (some (.ow ds)) (sh o) (none) (none)) k = bnd (DI.notM (eqM (.list ds) (.list []))) fun x => if x = true then bnd (bnd (bnd (bnd (ixM (.list ds) (.int 0)) fun d => DI.ret [d]) fun ds => DI.ret (PyData.str "told" :: ds)) fun ds => guardM (fits ds.length) (DI.ret (.tuple ds))) fun d => k .nx (le2 s t a b c f e u pd rd m (o12) (some (.ow ds)) (sh d) (none) (none)) else k .nx (le2 s t a b c f e u pd rd m (o12) (some (.ow ds)) (sh o) (none) (none)) := by kernel_rfl
theorem s18_1 (r0 : Int) (ds : List D) (o : D) : kS 78 CL (Sx 18) (le2 s t a b c f e u pd rd m (sh (.tuple [.int r0])) (some (.ow ds)) (sh o) (none) (none)) k = bnd (endM [.int r0] (.list [o, tld (.bool (([] : List Bool).all id))])) fun x => if x = true then k (.rt (.bool false)) (le2 s t a b c f e u pd rd m (sh (.tuple [.int r0])) (some (.ow ds)) (sh o) (none) (none)) else k .nx (le2 s t a b c f e u pd rd m (sh (.tuple [.int r0])) (some (.ow ds)) (sh o) (none) (none)) := by kernel_rfl
theorem s18_2 (r0 r1 : Int) (ds : List D) (o : D) : kS 78 CL (Sx 18) (le2 s t a b c f e u pd rd m (sh (.tuple [.int r0, .int r1])) (some (.ow ds)) (sh o) (none) (none)) k = bnd (endM [.int r0, .int r1] (.list [o, tld (.bool (([newB r1 r0] : List Bool).all id))])) fun x => if x = true then k (.rt (.bool false)) (le2 s t a b c f e u pd rd m (sh (.tuple [.int r0, .int r1])) (some (.ow ds)) (sh o) (none) (none)) else k .nx (le2 s t a b c f e u pd rd m (sh (.tuple [.int r0, .int r1])) (some (.ow ds)) (sh o) (none) (none)) := by kernel_rfl
theorem s18_3 (r0 r1 r2 : Int) (ds : List D) (o : D) : kS 78 CL (Sx 18) (le2 s t a b c f e u pd rd m (sh (.tuple [.int r0, .int r1, .int r2])) (some (.ow ds)) (sh o) (none) (none)) k = bnd (endM [.int r0, .int r1, .int r2] (.list [o, tld (.bool (([newB r1 r0, newB r2 r1] : List Bool).all id))])) fun x => if x = true then k (.rt (.bool false)) (le2 s t a b c f e u pd rd m (sh (.tuple [.int r0, .int r1, .int r2])) (some (.ow ds)) (sh o) (none) (none)) else k .nx (le2 s t a b c f e u pd rd m (sh (.tuple [.int r0, .int r1, .int r2])) (some (.ow ds)) (sh o) (none) (none)) := by kernel_rfl
theorem s18_4 (r0 r1 r2 r3 : Int) (ds : List D) (o : D) : kS 78 CL (Sx 18) (le2 s t a b c f e u pd rd m (sh (.tuple [.int r0, .int r1, .int r2, .int r3])) (some (.ow ds)) (sh o) (none) (none)) k = bnd (endM [.int r0, .int r1, .int r2, .int r3] (.list [o, tld (.bool (([newB r1 r0, newB r2 r1, newB r3 r2] : List Bool).all id))])) fun x => if x = true then k (.rt (.bool false)) (le2 s t a b c f e u pd rd m (sh (.tuple [.int r0, .int r1, .int r2, .int r3])) (some (.ow ds)) (sh o) (none) (none)) else k .nx (le2 s t a b c f e u pd rd m (sh (.tuple [.int r0, .int r1, .int r2, .int r3])) (some (.ow ds)) (sh o) (none) (none)) := by kernel_rfl
end
end K22
end
section
set_option Elab.async false
set_option linter.all false
set_option maxRecDepth 100000
set_option maxHeartbeats 0
namespace K22
open PySem DI
/-! the plain law -/
def St (is : List Int) (k : Int) : Stt := [PyData.list (is.map PyData.int), PyData.int k]
theorem bnd_ok {α β : Type} {m : M α} {f : α → M β} {st st' : Stt} {a : α} (h : m st = .ok a st') : bnd m f st = f a st' := by
  show R.next (m st) f = _
  rw [h]
  rfl
section
variable {is : List Int} (hL : 0 < is.length ∧ is.length < 1073741824)
include hL
theorem nx_at {k m : Int} (hk : 0 ≤ k ∧ k < 1000000) (hm : 0 < m) : ∃ v, nx m (St is k) = .ok (.int v) (St is (k + 1)) ∧ 0 ≤ v ∧ v < m := by
  refine ⟨_, ?_, Int.emod_nonneg _ (by omega), Int.emod_lt_of_pos (((is.getD ((k + 1) % is.length).toNat 0) + (k + 1) / is.length * 389) + (k + 1) * ((k + 1) / is.length) * 17) hm⟩
  show (match intsOf (is.map PyData.int) with
      | some is' => _
      | none => _) = _
  rw [ints_of]
  exact if_pos (decide_eq_true ⟨hL.1, hL.2, hk.1, hk.2, hm⟩)
theorem pick_at {m : M (List D)} {js : List Int} {k k1 K : Int} (h : m (St is k) = .ok (js.map PyData.int) (St is k1)) (hK : (js.length : Int) = K) (h0 : 0 < K) (h9 : K ≤ 100) (hk1 : 0 ≤ k1 ∧ k1 < 1000000) : ∃ v, pickM m K (St is k) = .ok (.int v) (St is (k1 + 1)) ∧ v ∈ js := by
  obtain ⟨y, e, y0, y1⟩ := nx_at hL hk1 h0
  have hy : y.toNat < js.length := by omega
  refine ⟨js.getD y.toNat 0, ?_, ?_⟩
  · unfold pickM
    have hf : fits (js.map PyData.int).length = true := fits_small (by rw [List.length_map]; omega)
    have e1 : bnd m (fun ds => guardM (fits ds.length) (DI.ret ds)) (St is k) = .ok (js.map PyData.int) (St is k1) := by
      rw [bnd_ok h, hf]
      rfl
    have e2 : bnd (bnd m fun ds => guardM (fits ds.length) (DI.ret ds)) (fun ds => DI.ret (PyData.list ds)) (St is k) = .ok (.list (js.map PyData.int)) (St is k1) := by
      rw [bnd_ok e1]
    rw [bnd_ok e2, bnd_ok e]
    show optM (L2.atI (js.map PyData.int) y) _ = _
    rw [atI_int y0 (by omega)]
    rfl
  · rw [List.getD_eq_getElem?_getD, List.getElem?_eq_getElem hy]
    exact List.getElem_mem hy
end
theorem cons_at {m : M (List D)} {i : Int} {js : List Int} {st st' : Stt} (h : m st = .ok (js.map PyData.int) st') : consM i m st = .ok ((i :: js).map PyData.int) st' := by
  unfold consM
  rw [bnd_ok h]
  rfl
theorem round_at {m : M D} {v : Int} {st st' : Stt} (h : m st = .ok (.int v) st') : roundM m st = .ok (.int (v % 65536)) st' := by
  unfold roundM
  have e1 : bnd m (fun d => DI.ret [d]) st = .ok [.int v] st' := by rw [bnd_ok h]
  have e2 : bnd (bnd m fun d => DI.ret [d]) (fun ds => biM .int ds) st = .ok (.int v) st' := by rw [bnd_ok e1]; rfl
  rw [bnd_ok e2]
  rfl
theorem mod_inR (v : Int) : inR (v % 65536) = true := by
  unfold inR
  have h1 := Int.emod_nonneg v (show (65536 : Int) ≠ 0 by decide)
  have h2 := Int.emod_lt_of_pos v (show (0 : Int) < 65536 by decide)
  rw [decide_eq_true h1, decide_eq_true (show v % 65536 ≤ 65535 by omega)]
  rfl
section
variable {is : List Int} (hL : 0 < is.length ∧ is.length < 1073741824)
include hL
theorem any_at {k : Int} (hk : 0 ≤ k ∧ k + 10 < 1000000) : ∃ v, m_law_any [] (St is k) = .ok (.int v) (St is (k + 4)) ∧ inR v = true := by
  obtain ⟨v1, e1, _, _⟩ := nx_at hL (k := k) (m := 1009) (by omega) (by omega)
  obtain ⟨v2, e2, _, _⟩ := nx_at hL (k := k + 1) (m := 65536) (by omega) (by omega)
  have hl : anyL (St is k) = .ok (([0, 1, 32767, 32768, 65535, 32769, v1 * 64, v2] : List Int).map PyData.int) (St is (k + 1 + 1)) := by
    unfold anyL
    refine cons_at (cons_at (cons_at (cons_at (cons_at (cons_at ?_)))))
    have a1 : bnd (nx 1009) (fun x => binM .Mult x (.int 64)) (St is k) = .ok (.int (v1 * 64)) (St is (k + 1)) := by
      rw [bnd_ok e1, mul_at (mulOk_r (by omega))]
    have a2 : bnd (nx 65536) (fun d => DI.ret [d]) (St is (k + 1)) = .ok [.int v2] (St is (k + 1 + 1)) := by rw [bnd_ok e2]
    rw [bnd_ok a1, bnd_ok a2]
    rfl
  obtain ⟨b, e3, _⟩ := pick_at hL hl (K := 8) rfl (by omega) (by omega) (by omega)
  obtain ⟨v4, e4, _, _⟩ := nx_at hL (k := k + 1 + 1 + 1) (m := 3) (by omega) (by omega)
  refine ⟨(b + v4) % 65536, ?_, mod_inR _⟩
  show bnd (pickM anyL 8) _ (St is k) = _
  rw [bnd_ok e3]
  have hk4 : k + 4 = k + 1 + 1 + 1 + 1 := by omega
  rw [hk4]
  refine round_at ?_
  rw [bnd_ok e4]
  rfl
theorem other_at {k : Int} (i : Int) (hk : 0 ≤ k ∧ k + 10 < 1000000) : ∃ v, m_law_other [.int i] (St is k) = .ok (.int v) (St is (k + 2)) ∧ inR v = true := by
  obtain ⟨v1, e1, _, _⟩ := nx_at hL (k := k) (m := 1009) (by omega) (by omega)
  have hl : otherL (St is k) = .ok (([0, 1, 2, 32766, 32767, 32768, 32769, 65535, 65534, v1 * 61] : List Int).map PyData.int) (St is (k + 1)) := by
    unfold otherL
    refine cons_at (cons_at (cons_at (cons_at (cons_at (cons_at (cons_at (cons_at (cons_at ?_))))))))
    have a1 : bnd (nx 1009) (fun x => binM .Mult x (.int 61)) (St is k) = .ok (.int (v1 * 61)) (St is (k + 1)) := by
      rw [bnd_ok e1, mul_at (mulOk_r (by omega))]
    rw [bnd_ok a1]
    rfl
  obtain ⟨b, e3, _⟩ := pick_at hL hl (K := 10) rfl (by omega) (by omega) (by omega)
  refine ⟨(i + b) % 65536, ?_, mod_inR _⟩
  show bnd (pickM otherL 10) _ (St is k) = _
  rw [bnd_ok e3]
  have hk4 : k + 2 = k + 1 + 1 := by omega
  rw [hk4]
  exact round_at rfl
theorem step_at {k : Int} (hk : 0 ≤ k ∧ k + 10 < 1000000) : ∃ v, pickM stepL 4 (St is k) = .ok (.int v) (St is (k + 2)) ∧ 0 ≤ v ∧ v ≤ 32767 := by
  obtain ⟨v1, e1, h1, h2⟩ := nx_at hL (k := k) (m := 32768) (by omega) (by omega)
  have hl : stepL (St is k) = .ok (([0, 1, 32767, v1] : List Int).map PyData.int) (St is (k + 1)) := by
    unfold stepL
    refine cons_at (cons_at (cons_at ?_))
    rw [bnd_ok e1]
    rfl
  obtain ⟨b, e3, hb⟩ := pick_at hL hl (K := 4) rfl (by omega) (by omega) (by omega)
  have hk4 : k + 2 = k + 1 + 1 := by omega
  rw [hk4]
  refine ⟨b, e3, ?_⟩
  simp only [List.mem_cons, List.not_mem_nil, or_false] at hb
  omega
theorem comp_other (i : Int) : ∀ (xs : List D) (k : Int), 0 ≤ k → k + 10 * xs.length + 20 < 1000000 → ∃ (rs : List Int) (k' : Int), compM (fun _ => noErrM (bnd (m_law_other [.int i]) fun y => DI.ret (some y))) xs (St is k) = .ok (rs.map PyData.int) (St is k') ∧ rs.length = xs.length ∧ (∀ r ∈ rs, inR r = true) ∧ k ≤ k' ∧ k' ≤ k + 10 * xs.length
  | [], k, _, _ => ⟨[], k, rfl, rfl, (fun _ h => by cases h), by omega, by simp⟩
  | x :: xs, k, h0, h1 => by
    have h1 : k + 10 * ((xs.length : Int) + 1) + 20 < 1000000 := by simpa using h1
    obtain ⟨v, e, hv⟩ := other_at hL (k := k) i (by omega)
    obtain ⟨rs, k', e2, e3, e4, e5, e6⟩ := comp_other i xs (k + 2) (by omega) (by omega)
    refine ⟨v :: rs, k', ?_, by simp [e3], ?_, by omega, by simp; omega⟩
    · have a1 : noErrM (bnd (m_law_other [.int i]) fun y => DI.ret (some y)) (St is k) = .ok (some (.int v)) (St is (k + 2)) := by
        show R.noErr (bnd (m_law_other [.int i]) _ (St is k)) = _
        rw [bnd_ok e]
        rfl
      show bnd (noErrM (bnd (m_law_other [.int i]) fun y => DI.ret (some y))) (fun o => bnd (compM _ xs) _) (St is k) = _
      rw [bnd_ok a1, bnd_ok e2]
      rfl
    · intro r hr
      rcases List.mem_cons.mp hr with rfl | hr
      · exact hv
      · exact e4 r hr
theorem row_at {k : Int} (i : Int) (hk : 0 ≤ k ∧ k + 100 < 1000000) : ∃ (rs : List Int) (k' : Int), rowM i (St is k) = .ok (.tuple (rs.map PyData.int)) (St is k') ∧ 1 ≤ rs.length ∧ rs.length ≤ 4 ∧ (∀ r ∈ rs, inR r = true) ∧ k ≤ k' ∧ k' ≤ k + 50 := by
  obtain ⟨v, e1, h1, h2⟩ := nx_at hL (k := k) (m := 4) (by omega) (by omega)
  have hlen : (rangeD 0 (1 + v)).length = (1 + v).toNat := by
    unfold rangeD
    simp
  obtain ⟨rs, k', e2, e3, e4, e5, e6⟩ := comp_other hL i (rangeD 0 (1 + v)) (k + 1) (by omega) (by omega)
  refine ⟨rs, k', ?_, by omega, by omega, e4, by omega, by omega⟩
  unfold rowM
  have a1 : bnd (nx 4) (fun y => binM .Add (.int 1) y) (St is k) = .ok (.int (1 + v)) (St is (k + 1)) := by rw [bnd_ok e1]; rfl
  have hr : rgOk 0 (1 + v) = true := decide_eq_true (by omega)
  have a2 : bnd (bnd (nx 4) fun y => binM .Add (.int 1) y) (fun d => bnd (intM d) fun j => guardM (rgOk 0 j) (DI.ret (rangeD 0 j))) (St is k) = .ok (rangeD 0 (1 + v)) (St is (k + 1)) := by
    rw [bnd_ok a1]
    show guardM (rgOk 0 (1 + v)) (DI.ret (rangeD 0 (1 + v))) _ = _
    rw [hr]
    rfl
  have hf : fits (rangeD 0 (1 + v)).length = true := fits_small (by omega)
  have a3 : bnd (bnd (bnd (nx 4) fun y => binM .Add (.int 1) y) fun d => bnd (intM d) fun j => guardM (rgOk 0 j) (DI.ret (rangeD 0 j))) (fun xs => guardM (fits xs.length) (compM (fun _ => noErrM (bnd (m_law_other [.int i]) fun y => DI.ret (some y))) xs)) (St is k) = .ok (rs.map PyData.int) (St is k') := by
    rw [bnd_ok a2, hf]
    exact e2
  have a4 : bnd (bnd (bnd (bnd (nx 4) fun y => binM .Add (.int 1) y) fun d => bnd (intM d) fun j => guardM (rgOk 0 j) (DI.ret (rangeD 0 j))) fun xs => guardM (fits xs.length) (compM (fun _ => noErrM (bnd (m_law_other [.int i]) fun y => DI.ret (some y))) xs)) (fun ds => DI.ret (PyData.list ds)) (St is k) = .ok (.list (rs.map PyData.int)) (St is k') := by rw [bnd_ok a3]
  have a5 : bnd (bnd (bnd (bnd (bnd (nx 4) fun y => binM .Add (.int 1) y) fun d => bnd (intM d) fun j => guardM (rgOk 0 j) (DI.ret (rangeD 0 j))) fun xs => guardM (fits xs.length) (compM (fun _ => noErrM (bnd (m_law_other [.int i]) fun y => DI.ret (some y))) xs)) fun ds => DI.ret (PyData.list ds)) (fun d => DI.ret [d]) (St is k) = .ok [.list (rs.map PyData.int)] (St is k') := by rw [bnd_ok a4]
  rw [bnd_ok a5]
  rfl
end
end K22
end
section
set_option Elab.async false
set_option linter.all false
set_option maxRecDepth 100000
set_option maxHeartbeats 0
namespace K22
open PySem DI
theorem newer_newB (a b : Int) : newB a b = newer a b := by
  unfold newB newer
  congr 1
  exact decide_eq_decide.mpr ⟨fun h => by omega, fun h => by omega⟩
theorem c14 (ρ : DI.Env) (k : KT) : kSs 83 CL (B.drop 14) ρ k = kS 82 CL (Sx 14) ρ (seqK 82 CL (B.drop 15) k) := by kernel_rfl
theorem c15 (ρ : DI.Env) (k : KT) : kSs 82 CL (B.drop 15) ρ k = kS 81 CL (Sx 15) ρ (seqK 81 CL (B.drop 16) k) := by kernel_rfl
theorem c16 (ρ : DI.Env) (k : KT) : kSs 81 CL (B.drop 16) ρ k = kS 80 CL (Sx 16) ρ (seqK 80 CL (B.drop 17) k) := by kernel_rfl
theorem c17 (ρ : DI.Env) (k : KT) : kSs 80 CL (B.drop 17) ρ k = kS 79 CL (Sx 17) ρ (seqK 79 CL (B.drop 18) k) := by kernel_rfl
theorem c18 (ρ : DI.Env) (k : KT) : kSs 79 CL (B.drop 18) ρ k = kS 78 CL (Sx 18) ρ (seqK 78 CL (B.drop 19) k) := by kernel_rfl
theorem c19 (ρ : DI.Env) (k : KT) : kSs 78 CL (B.drop 19) ρ k = k .nx ρ := by kernel_rfl
theorem q_told : smallD (.str "told") = true := by decide +kernel
theorem q_miss : smallD (.str "missing") = true := by decide +kernel
theorem small_tld {d : D} (h : smallD d = true) : smallD (tld d) = true := by
  show (smallD (.str "told") && (smallD d && true)) = true
  rw [q_told, h]
  rfl
theorem small_mis : smallD misD = true := by decide +kernel
theorem small_int {i : Int} (h : inR i = true) : smallD (.int i) = true := by
  unfold inR at h
  simp only [Bool.and_eq_true, decide_eq_true_eq] at h
  exact decide_eq_true (by omega)
theorem small2 {x y : D} (h1 : smallD x = true) (h2 : smallD y = true) : smallD (.list [x, y]) = true := by
  simp only [smallD, smallAll, h1, h2, Bool.and_self]
theorem small4 {x y z w : D} (h1 : smallD x = true) (h2 : smallD y = true) (h3 : smallD z = true) (h4 : smallD w = true) : smallD (.list [x, y, z, w]) = true := by
  simp only [smallD, smallAll, h1, h2, h3, h4, Bool.and_self]
theorem ok_of {d : D} (h : smallD d = true) (h2 : (decide (wtD d ≤ 524288) && decide (d.depth ≤ 98)) = true) : okD d = true := by
  unfold okD
  rw [h, h2]
  rfl
/-- the best of the row, as it is told -/
def topD (rs : List Int) : D := match best rs with
  | [] => misD
  | x :: _ => tld (.int x)
theorem best_mem {rs : List Int} (h : ∀ r ∈ rs, inR r = true) : ∀ x ∈ best rs, inR x = true := fun x hx => h x (List.mem_filter.mp hx).1
theorem small_top {rs : List Int} (h : ∀ r ∈ rs, inR r = true) : smallD (topD rs) = true := by
  unfold topD
  split
  · exact small_mis
  · rename_i x r e
    exact small_tld (small_int (best_mem h x (by rw [e]; exact List.mem_cons_self)))
theorem toldR_at {rs : List Int} (h : ∀ r ∈ rs, inR r = true) (hl : rs.length ≤ 4) : toldR (rs.map PyData.int) = DI.ret (PyData.list [topD rs, tld (.bool (asc rs))]) := by
  have hall : rs.all inR = true := List.all_eq_true.mpr h
  have hf : fits rs.length = true := fits_small (by omega)
  have e1 : toldM (purely (m_newest [.tuple (rs.map PyData.int)])) = DI.ret (topD rs) := by
    funext st
    show (match (purely (m_newest [.tuple (rs.map PyData.int)])) st with
      | .ok d st' => _
      | .err e st' => _
      | .stuck => _) = _
    have : m_newest [.tuple (rs.map PyData.int)] = (match best rs with | [] => missing | a :: _ => DI.ret (.int a)) := by
      show (match intsOf (rs.map PyData.int) with
        | some ns => _
        | none => _) = _
      rw [ints_of]
      show guardM (fits rs.length) (if rs.all inR = true then _ else _) = _
      rw [hf, hall]
      rfl
    rw [this]
    unfold topD
    cases best rs <;> rfl
  have e2 : toldM (purely (m_ascends [.tuple (rs.map PyData.int)])) = DI.ret (tld (.bool (asc rs))) := by
    funext st
    have : m_ascends [.tuple (rs.map PyData.int)] = DI.ret (.bool (asc rs)) := by
      show (match intsOf (rs.map PyData.int) with
        | some ns => _
        | none => _) = _
      rw [ints_of]
      show guardM (fits rs.length) (if rs.all inR = true then _ else _) = _
      rw [hf, hall]
      rfl
    rw [this]
    rfl
  unfold toldR
  rw [e1, e2]
  rfl
theorem endM_at {rs : List Int} (h : ∀ r ∈ rs, inR r = true) (hl : rs.length ≤ 4) : endM (rs.map PyData.int) (.list [topD rs, tld (.bool (asc rs))]) = DI.ret false := by
  unfold endM
  rw [toldR_at h hl]
  show bnd (bnd (purely (m_law_same [PyData.list [topD rs, tld (.bool (asc rs))], PyData.list [topD rs, tld (.bool (asc rs))]])) truthM) _ = _
  have ho : okD (.list [topD rs, tld (.bool (asc rs))]) = true := by
    refine ok_of (small2 (small_top h) (small_tld rfl)) ?_
    unfold topD
    split <;> rfl
  rw [same_true ho]
  rfl
theorem all_map_ints (rs : List Int) (h4 : rs.length ≤ 4) (h1 : 1 ≤ rs.length) : (∃ r0, rs = [r0]) ∨ (∃ r0 r1, rs = [r0, r1]) ∨ (∃ r0 r1 r2, rs = [r0, r1, r2]) ∨ ∃ r0 r1 r2 r3, rs = [r0, r1, r2, r3] := by
  match rs, h1, h4 with
  | [a], _, _ => exact .inl ⟨a, rfl⟩
  | [a, b], _, _ => exact .inr (.inl ⟨a, b, rfl⟩)
  | [a, b, c], _, _ => exact .inr (.inr (.inl ⟨a, b, c, rfl⟩))
  | [a, b, c, d], _, _ => exact .inr (.inr (.inr ⟨a, b, c, d, rfl⟩))
  | _ :: _ :: _ :: _ :: _ :: _, _, h => simp at h
section
variable (s : D) (t a b c f m : Int) (e u pd rd : D) (k : KT)
theorem s18_at {rs : List Int} (ds : List D) (h1 : 1 ≤ rs.length) (h4 : rs.length ≤ 4) (h : ∀ r ∈ rs, inR r = true) : kS 78 CL (Sx 18) (le2 s t a b c f e u pd rd m (sh (.tuple (rs.map PyData.int))) (some (.ow ds)) (sh (topD rs)) none none) k = k .nx (le2 s t a b c f e u pd rd m (sh (.tuple (rs.map PyData.int))) (some (.ow ds)) (sh (topD rs)) none none) := by
  have hE := endM_at h h4
  rcases all_map_ints rs h4 h1 with ⟨r0, rfl⟩ | ⟨r0, r1, rfl⟩ | ⟨r0, r1, r2, rfl⟩ | ⟨r0, r1, r2, r3, rfl⟩
  · have z := s18_1 s t a b c f m e u pd rd k r0 ds (topD [r0])
    have hE : endM [.int r0] (.list [topD [r0], tld (.bool (([] : List Bool).all id))]) = DI.ret false := hE
    rw [hE] at z
    exact z
  · have z := s18_2 s t a b c f m e u pd rd k r0 r1 ds (topD [r0, r1])
    have hE : endM [.int r0, .int r1] (.list [topD [r0, r1], tld (.bool (([newB r1 r0] : List Bool).all id))]) = DI.ret false := by
      rw [newer_newB]
      exact hE
    rw [hE] at z
    exact z
  · have z := s18_3 s t a b c f m e u pd rd k r0 r1 r2 ds (topD [r0, r1, r2])
    have hE : endM [.int r0, .int r1, .int r2] (.list [topD [r0, r1, r2], tld (.bool (([newB r1 r0, newB r2 r1] : List Bool).all id))]) = DI.ret false := by
      rw [newer_newB, newer_newB]
      exact hE
    rw [hE] at z
    exact z
  · have z := s18_4 s t a b c f m e u pd rd k r0 r1 r2 r3 ds (topD [r0, r1, r2, r3])
    have hE : endM [.int r0, .int r1, .int r2, .int r3] (.list [topD [r0, r1, r2, r3], tld (.bool (([newB r1 r0, newB r2 r1, newB r3 r2] : List Bool).all id))]) = DI.ret false := by
      rw [newer_newB, newer_newB, newer_newB]
      exact hE
    rw [hE] at z
    exact z
theorem s17_at (o12 : Option SV) (rs : List Int) : kS 79 CL (Sx 17) (le2 s t a b c f e u pd rd m o12 (some (.ow ((best rs).map PyData.int))) (sh misD) none none) k = k .nx (le2 s t a b c f e u pd rd m o12 (some (.ow ((best rs).map PyData.int))) (sh (topD rs)) none none) := by
  rw [s17]
  unfold topD
  cases best rs with
  | nil => rfl
  | cons x r =>
    have hs : ∀ r : List Int, SeqAt.shaped (.list (r.map PyData.int)) = true := fun r => by
      have h1 : ∀ r : List Int, PyData.canLayAll0 (r.map PyData.int) = true ∧ PyData.depthAll (r.map PyData.int) = 0 := fun r => by
        induction r with
        | nil => exact ⟨rfl, rfl⟩
        | cons x r ih => simp [PyData.canLayAll0, PyData.canLay0, PyData.depthAll, PyData.depth, ih.1, ih.2]
      unfold SeqAt.shaped
      simp only [PyData.canLay0, PyData.depth, (h1 r).1, (h1 r).2]
      rfl
    have e1 : DI.notM (eqM (.list ((x :: r).map PyData.int)) (.list [])) = DI.ret true := by
      show bnd (guardM (SeqAt.shaped (.list ((x :: r).map PyData.int)) && SeqAt.shaped (.list [])) _) _ = _
      rw [hs]
      rfl
    have e2 : ixM (.list ((x :: r).map PyData.int)) (.int 0) = DI.ret (.int x) := by
      show optM (L2.atI ((x :: r).map PyData.int) 0) = _
      rw [atI_int (by omega) (by simp)]
      rfl
    rw [e1, e2]
    rfl
theorem s15_at (o13 o14 : Option SV) {rs : List Int} (h4 : rs.length ≤ 4) : kS 81 CL (Sx 15) (le2 s t a b c f e u pd rd m (sh (.tuple (rs.map PyData.int))) o13 o14 none none) k = k .nx (le2 s t a b c f e u pd rd m (sh (.tuple (rs.map PyData.int))) (some (.ow ((best rs).map PyData.int))) o14 none none) := by
  rw [s15]
  have hf : fits (rs.map PyData.int).length = true := fits_small (by rw [List.length_map]; omega)
  have inner : ∀ x : Int, compM (cF 74 CL1 bI (le2 s t a b c f e u pd rd m (sh (.tuple (rs.map PyData.int))) o13 o14 (sh (.int x)) none)) (rs.map PyData.int) = DI.ret (rs.map fun y => .bool (decide (x = y) || newer x y)) := fun x => comp_map (fun y => by
    have z := b_cI s t a b c f m e u pd rd o13 o14 (rs.map PyData.int) x y
    refine Eq.trans z ?_
    rw [newer_newB]
    by_cases h : x = y
    · subst h
      simp
      rfl
    · have h2 : (x == y) = false := by simpa using h
      rw [h2]
      simp [h]
      rfl) rs
  have outer : compM (cF 79 CL bV (le2 s t a b c f e u pd rd m (sh (.tuple (rs.map PyData.int))) o13 o14 none none)) (rs.map PyData.int) = DI.ret ((best rs).map PyData.int) := by
    refine comp_filter (p := fun a => rs.all fun b => decide (a = b) || newer a b) (fun x => ?_) rs
    rw [b_cF]
    show noErrM (bnd (bnd (bnd (bnd (bnd (guardM (fits (rs.map PyData.int).length) _) _) _) _) _) _) = _
    rw [hf, inner]
    have e3 : (rs.map fun y => PyData.bool (decide (x = y) || newer x y)) = (rs.map fun y => (decide (x = y) || newer x y)).map PyData.bool := by rw [List.map_map]; rfl
    rw [e3]
    show noErrM (bnd (bnd (biM .all [.list _]) _) _) = _
    rw [all_at]
    have e4 : (rs.map fun y => (decide (x = y) || newer x y)).all id = rs.all fun b => decide (x = b) || newer x b := by rw [List.all_map]; rfl
    rw [e4]
    cases rs.all fun b => decide (x = b) || newer x b <;> rfl
  show bnd (guardM (fits (rs.map PyData.int).length) (compM _ _)) _ = _
  rw [hf, outer]
  rfl
end
end K22
end
section
set_option Elab.async false
set_option linter.all false
set_option maxRecDepth 100000
set_option maxHeartbeats 0
namespace K22
open PySem DI
theorem manyN_at {f : Int} {x1 x2 x3 : Bool} (h1 : (f == 65535) = x1) (h2 : decide (32767 < f) = x2) (h3 : decide (0 < f) = x3) : manyN f = DI.ret (.int (if x3 = true then (if x2 = true then (if x1 = true then 3 else 2) else 1) else 0)) := by
  unfold manyN manyM
  rw [h1, h2, h3]
  cases x1 <;> cases x2 <;> cases x3 <;> rfl
theorem beqI {a b : Int} (h : a = b) : (a == b) = true := by rw [h]; exact beq_self_eq_true b
theorem bneI {a b : Int} (h : a ≠ b) : (a == b) = false := by simpa using h
theorem newB_true {a b : Int} (h : 1 ≤ (a - b) % 65536 ∧ (a - b) % 65536 ≤ 32767) : newB a b = true := by
  unfold newB
  rw [decide_eq_true h.1, decide_eq_true h.2]
  rfl
theorem newB_false {a b : Int} (h : 32767 < (a - b) % 65536) : newB a b = false := by
  unfold newB
  rw [decide_eq_false (show ¬(a - b) % 65536 ≤ 32767 by omega), Bool.and_false]
theorem inR_le {a : Int} (h : inR a = true) : 0 ≤ a ∧ a ≤ 65535 := by
  unfold inR at h
  simpa only [Bool.and_eq_true, decide_eq_true_eq] using h
def Sh (s : D) (ρ : DI.Env) : Prop := ∃ o2 o3 o4 o5 o6 o7 o8 o9 o10 o11 o12 o13 o14 : Option SV, ρ = le s [o2, o3, o4, o5, o6, o7, o8, o9, o10, o11, o12, o13, o14, none, none, none, none, none, none]
section
variable (s : D) (t a b c f : Int) (e u : D) (o9 o10 o11 o12 o13 o14 : Option SV)
theorem path_go {P : List D} {m : Int} (hp : m_path_to [.int a, .int b] = DI.ret (.tuple P)) (hP : binM .Add (.tuple [.int a]) (.tuple P) = DI.ret (.tuple (.int a :: P))) (hm : manyN f = DI.ret (.int m)) :
    kSs 89 CL (B.drop 8) (le s [si t, si a, si b, si c, si f, sh e, sh u, o9, o10, o11, o12, o13, o14, none, none, none, none, none, none]) retF = kSs 86 CL (B.drop 11) (le1 s t a b c f e u P m [o12, o13, o14, none, none, none, none, none, none]) retF := by
  rw [t8, hp]
  show kSs 88 CL (B.drop 9) (le s (si t :: si a :: si b :: si c :: si f :: sh e :: sh u :: sh (tld (.tuple P)) :: o10 :: o11 :: [o12, o13, o14, none, none, none, none, none, none])) retF = _
  rw [t9, hP, hm]
  rfl
theorem path_eq (hf : (b - a) % 65536 = f) (ha : inR a = true) (hb : inR b = true) :
    ∃ (m : Int) (pd rd : D), kSs 89 CL (B.drop 8) (le s [si t, si a, si b, si c, si f, sh e, sh u, o9, o10, o11, o12, o13, o14, none, none, none, none, none, none]) retF = kSs 83 CL (B.drop 14) (le2 s t a b c f e u pd rd m o12 o13 o14 none none) retF := by
  have ha' := inR_le ha
  have hb' := inR_le hb
  have hp : m_path_to [.int a, .int b] = (if decide (f = 0) = true then DI.ret (.tuple [])
       else if decide (f < 32768) = true then DI.ret (.tuple [.int b])
       else if decide (f < 65535) = true then DI.ret (.tuple [.int ((a + f - 32768 + 1) % 65536), .int b])
       else DI.ret (.tuple [.int ((a + 1) % 65536), .int ((a + 32768) % 65536), .int b])) := by
    show (if (inR a && inR b) = true then _ else refused) = _
    rw [ha, hb, hf]
    rfl
  by_cases f0 : f = 0
  · rw [decide_eq_true f0] at hp
    refine ⟨0, tld (.tuple []), .tuple [.int a], ?_⟩
    rw [path_go s t a b c f e u o9 o10 o11 o12 o13 o14 (P := []) (m := 0) hp rfl (manyN_at (bneI (by omega)) (decide_eq_false (by omega)) (decide_eq_false (by omega)))]
    rw [c11, p0_11, beqI (show a = b by omega)]
    show kSs 85 CL (B.drop 12) (le1 s t a b c f e u [] 0 [o12, o13, o14, none, none, none, none, none, none]) retF = _
    rw [c12, p0_12]
    show kSs 84 CL (B.drop 13) (le1 s t a b c f e u [] 0 [o12, o13, o14, none, none, none, none, none, none]) retF = _
    rw [c13, p0_13]
    rfl
  rw [decide_eq_false f0] at hp
  by_cases f1 : f < 32768
  · rw [decide_eq_true f1] at hp
    refine ⟨1, tld (.tuple [.int b]), .tuple [.int a, .int b], ?_⟩
    rw [path_go s t a b c f e u o9 o10 o11 o12 o13 o14 (P := [.int b]) (m := 1) hp rfl (manyN_at (bneI (by omega)) (decide_eq_false (by omega)) (decide_eq_true (by omega)))]
    rw [c11, p1_11, beqI (show b = b from rfl), newB_true (a := b) (b := a) (by omega)]
    show kSs 85 CL (B.drop 12) (le1 s t a b c f e u [.int b] 1 [o12, o13, o14, none, none, none, none, none, none]) retF = _
    rw [c12, p1_12]
    show kSs 84 CL (B.drop 13) (le1 s t a b c f e u [.int b] 1 [o12, o13, o14, none, none, none, none, none, none]) retF = _
    rw [c13, p1_13]
    rfl
  rw [decide_eq_false f1] at hp
  by_cases f2 : f < 65535
  · rw [decide_eq_true f2] at hp
    generalize hv : (a + f - 32768 + 1) % 65536 = v at hp
    refine ⟨2, tld (.tuple [.int v, .int b]), .tuple [.int a, .int v, .int b], ?_⟩
    rw [path_go s t a b c f e u o9 o10 o11 o12 o13 o14 (P := [.int v, .int b]) (m := 2) hp rfl (manyN_at (bneI (by omega)) (decide_eq_true (by omega)) (decide_eq_true (by omega)))]
    rw [c11, p2_11, beqI (show b = b from rfl), newB_true (a := v) (b := a) (by omega), newB_true (a := b) (b := v) (by omega)]
    show kSs 85 CL (B.drop 12) (le1 s t a b c f e u [.int v, .int b] 2 [o12, o13, o14, none, none, none, none, none, none]) retF = _
    rw [c12, p2_12, newB_false (a := b) (b := (v - 1) % 65536) (by omega)]
    show kSs 84 CL (B.drop 13) (le1 s t a b c f e u [.int v, .int b] 2 [o12, o13, o14, none, none, none, none, none, none]) retF = _
    rw [c13, p2_13]
    rfl
  rw [decide_eq_false f2] at hp
  have f3 : f = 65535 := by omega
  generalize hv : (a + 1) % 65536 = v at hp
  generalize hw : (a + 32768) % 65536 = w at hp
  refine ⟨3, tld (.tuple [.int v, .int w, .int b]), .tuple [.int a, .int v, .int w, .int b], ?_⟩
  rw [path_go s t a b c f e u o9 o10 o11 o12 o13 o14 (P := [.int v, .int w, .int b]) (m := 3) hp rfl (manyN_at (beqI f3) (decide_eq_true (by omega)) (decide_eq_true (by omega)))]
  rw [c11, p3_11, beqI (show b = b from rfl), newB_true (a := v) (b := a) (by omega), newB_true (a := w) (b := v) (by omega), newB_true (a := b) (b := w) (by omega)]
  show kSs 85 CL (B.drop 12) (le1 s t a b c f e u [.int v, .int w, .int b] 3 [o12, o13, o14, none, none, none, none, none, none]) retF = _
  rw [c12, p3_12]
  show kSs 84 CL (B.drop 13) (le1 s t a b c f e u [.int v, .int w, .int b] 3 [o12, o13, o14, none, none, none, none, none, none]) retF = _
  rw [c13, p3_13, hv, hw]
  have he : PyData.eqv (.tuple [.int v, .int w]) (.tuple [.int v, .int w]) = true := by simp [PyData.eqv, PyData.eqvAll]
  rw [he]
  rfl
end
section
variable {is : List Int} (hL : 0 < is.length ∧ is.length < 1073741824) (s : D) (t a b c : Int) (e u : D)
include hL
theorem tail_at {k f m : Int} (pd rd : D) (hk : 0 ≤ k ∧ k + 100 < 1000000) (o12 o13 o14 : Option SV) : ∃ (k' : Int) (ρ' : DI.Env), kSs 83 CL (B.drop 14) (le2 s t a b c f e u pd rd m o12 o13 o14 none none) retF (St is k) = .ok (.nx, ρ') (St is k') ∧ Sh s ρ' ∧ k ≤ k' ∧ k' ≤ k + 50 := by
  obtain ⟨rs, k', e1, h1, h4, hr, hk1, hk2⟩ := row_at hL a hk
  refine ⟨k', le2 s t a b c f e u pd rd m (sh (.tuple (rs.map PyData.int))) (some (.ow ((best rs).map PyData.int))) (sh (topD rs)) none none, ?_, ⟨_, _, _, _, _, _, _, _, _, _, _, _, _, rfl⟩, hk1, hk2⟩
  rw [c14, s14, bnd_ok e1]
  show kSs 82 CL (B.drop 15) (le2 s t a b c f e u pd rd m (sh (.tuple (rs.map PyData.int))) o13 o14 none none) retF (St is k') = _
  rw [c15, s15_at s t a b c f m e u pd rd _ o13 o14 h4]
  show kSs 81 CL (B.drop 16) (le2 s t a b c f e u pd rd m (sh (.tuple (rs.map PyData.int))) (some (.ow ((best rs).map PyData.int))) o14 none none) retF (St is k') = _
  rw [c16, s16]
  show kSs 80 CL (B.drop 17) (le2 s t a b c f e u pd rd m (sh (.tuple (rs.map PyData.int))) (some (.ow ((best rs).map PyData.int))) (sh misD) none none) retF (St is k') = _
  rw [c17, s17_at]
  show kSs 79 CL (B.drop 18) (le2 s t a b c f e u pd rd m (sh (.tuple (rs.map PyData.int))) (some (.ow ((best rs).map PyData.int))) (sh (topD rs)) none none) retF (St is k') = _
  rw [c18, s18_at s t a b c f m e u pd rd _ _ h1 h4 hr]
  show kSs 78 CL (B.drop 19) (le2 s t a b c f e u pd rd m (sh (.tuple (rs.map PyData.int))) (some (.ow ((best rs).map PyData.int))) (sh (topD rs)) none none) retF (St is k') = _
  rw [c19]
  rfl
theorem path_at {k f : Int} (hf : (b - a) % 65536 = f) (ha : inR a = true) (hb : inR b = true) (hk : 0 ≤ k ∧ k + 100 < 1000000) (o9 o10 o11 o12 o13 o14 : Option SV) :
    ∃ (k' : Int) (ρ' : DI.Env), kSs 89 CL (B.drop 8) (le s [si t, si a, si b, si c, si f, sh e, sh u, o9, o10, o11, o12, o13, o14, none, none, none, none, none, none]) retF (St is k) = .ok (.nx, ρ') (St is k') ∧ Sh s ρ' ∧ k ≤ k' ∧ k' ≤ k + 50 := by
  obtain ⟨m, pd, rd, e1⟩ := path_eq s t a b c f e u o9 o10 o11 o12 o13 o14 hf ha hb
  rw [e1]
  exact tail_at hL s t a b c e u pd rd hk o12 o13 o14
end
end K22
end
section
set_option Elab.async false
set_option linter.all false
set_option maxRecDepth 100000
set_option maxHeartbeats 0
namespace K22
open PySem DI
section
variable (s : D) (t a b c f : Int)
theorem toldL_at (hf : (b - a) % 65536 = f) (ha : inR a = true) (hb : inR b = true) (hc : 0 ≤ c ∧ c ≤ 32767) : toldL a b c = DI.ret [tld (.bool (newB b a)), tld (.bool (f == 32768)), tld (.int ((a + c) % 65536)), if decide (32768 ≤ f) = true then misD else tld (.int f)] := by
  have e1 : m_is_newer [.int b, .int a] = DI.ret (.bool (newB b a)) := by
    show (if (inR b && inR a) = true then _ else refused) = _
    rw [ha, hb, newer_newB]
    rfl
  have e2 : m_is_open [.int b, .int a] = DI.ret (.bool (f == 32768)) := by
    show (if (inR b && inR a) = true then _ else refused) = _
    rw [ha, hb, hf]
    rfl
  have e3 : m_after [.int a, .int c] = DI.ret (.int ((a + c) % 65536)) := by
    show (if (inR a && (decide (0 ≤ c) && decide (c ≤ 32767))) = true then _ else refused) = _
    rw [ha, decide_eq_true hc.1, decide_eq_true hc.2]
    rfl
  have e4 : m_steps_to [.int a, .int b] = if decide (32768 ≤ f) = true then missing else DI.ret (.int f) := by
    show (if (inR a && inR b) = true then _ else refused) = _
    rw [ha, hb, hf]
    rfl
  unfold toldL
  rw [e1, e2, e3, e4]
  cases decide (32768 ≤ f) <;> rfl
theorem mid_at {e : D} (hf : (b - a) % 65536 = f) (ha : inR a = true) (hb : inR b = true) (hc : 0 ≤ c ∧ c ≤ 32767) (he : (if decide (32768 ≤ f) = true then misD else tld (.int f)) = e) (hs : okD (.list [tld (.bool (newB b a)), tld (.bool (f == 32768)), tld (.int ((a + c) % 65536)), e]) = true) (o6 : Option SV) (o8 : Option SV) (os : List (Option SV)) :
    kSs 91 CL (B.drop 6) (le s (si t :: si a :: si b :: si c :: si f :: sh e :: o8 :: os)) retF = kSs 89 CL (B.drop 8) (le s (si t :: si a :: si b :: si c :: si f :: sh e :: sh (.list [tld (.bool (newB b a)), tld (.bool (f == 32768)), tld (.int ((a + c) % 65536)), e]) :: os)) retF := by
  rw [t6, toldL_at a b c f hf ha hb hc, he]
  show kSs 90 CL (B.drop 7) (le s (si t :: si a :: si b :: si c :: si f :: sh e :: some (.ow [tld (.bool (newB b a)), tld (.bool (f == 32768)), tld (.int ((a + c) % 65536)), e]) :: os)) retF = _
  rw [t7, same_true hs]
  rfl
end
section
variable {is : List Int} (hL : 0 < is.length ∧ is.length < 1073741824) (s : D)
include hL
theorem turn_at {k t : Int} (hk : 0 ≤ k ∧ k + 200 < 1000000) {ρ : DI.Env} (hρ : Sh s ρ) : ∃ (k' : Int) (ρ' : DI.Env), turnF 97 CL lF (.int t) ρ (St is k) = .ok (.nx, ρ') (St is k') ∧ Sh s ρ' ∧ k ≤ k' ∧ k' ≤ k + 100 := by
  obtain ⟨o2, o3, o4, o5, o6, o7, o8, o9, o10, o11, o12, o13, o14, rfl⟩ := hρ
  obtain ⟨a, e1, ha⟩ := any_at hL (k := k) (by omega)
  obtain ⟨b, e2, hb⟩ := other_at hL (k := k + 4) a (by omega)
  obtain ⟨c, e3, hc⟩ := step_at hL (k := k + 4 + 2) (by omega)
  rw [t0, bnd_ok e1]
  show ∃ (k' : Int) (ρ' : DI.Env), kSs 96 CL (B.drop 1) (le s (si t :: si a :: o4 :: [o5, o6, o7, o8, o9, o10, o11, o12, o13, o14, none, none, none, none, none, none])) retF (St is (k + 4)) = _ ∧ _
  rw [t1, bnd_ok e2]
  show ∃ (k' : Int) (ρ' : DI.Env), kSs 95 CL (B.drop 2) (le s (si t :: si a :: si b :: o5 :: [o6, o7, o8, o9, o10, o11, o12, o13, o14, none, none, none, none, none, none])) retF (St is (k + 4 + 2)) = _ ∧ _
  rw [t2, bnd_ok e3]
  show ∃ (k' : Int) (ρ' : DI.Env), kSs 94 CL (B.drop 3) (le s (si t :: si a :: si b :: si c :: o6 :: o7 :: o8 :: [o9, o10, o11, o12, o13, o14, none, none, none, none, none, none])) retF (St is (k + 4 + 2 + 2)) = _ ∧ _
  rw [t3]
  have hr := mod_inR (a + c)
  have hfr := mod_inR (b - a)
  by_cases c1 : (b - a) % 65536 < 32768
  · rw [if_pos (decide_eq_true c1)]
    have z := mid_at s t a b c ((b - a) % 65536) (e := tld (.int ((b - a) % 65536))) rfl ha hb hc (by rw [decide_eq_false (by omega)]; rfl)
      (ok_of (small4 (small_tld rfl) (small_tld rfl) (small_tld (small_int hr)) (small_tld (small_int hfr))) rfl) none o8 [o9, o10, o11, o12, o13, o14, none, none, none, none, none, none]
    have z : kSs 91 CL (B.drop 6) (le s (si t :: si a :: si b :: si c :: si ((b - a) % 65536) :: sh (.tuple [.str "told", .int ((b - a) % 65536)]) :: o8 :: [o9, o10, o11, o12, o13, o14, none, none, none, none, none, none])) retF = _ := z
    rw [z]
    obtain ⟨k', ρ', p1, p2, p3, p4⟩ := path_at hL s t a b c (tld (.int ((b - a) % 65536))) (.list [tld (.bool (newB b a)), tld (.bool ((b - a) % 65536 == 32768)), tld (.int ((a + c) % 65536)), tld (.int ((b - a) % 65536))]) (k := k + 4 + 2 + 2) rfl ha hb (by omega) o9 o10 o11 o12 o13 o14
    exact ⟨k', ρ', p1, p2, by omega, by omega⟩
  · rw [if_neg (by rw [decide_eq_false c1]; decide)]
    have z := mid_at s t a b c ((b - a) % 65536) (e := misD) rfl ha hb hc (by rw [decide_eq_true (by omega)]; rfl)
      (ok_of (small4 (small_tld rfl) (small_tld rfl) (small_tld (small_int hr)) small_mis) rfl) none o8 [o9, o10, o11, o12, o13, o14, none, none, none, none, none, none]
    have z : kSs 91 CL (B.drop 6) (le s (si t :: si a :: si b :: si c :: si ((b - a) % 65536) :: sh (.tuple [.str "missing"]) :: o8 :: [o9, o10, o11, o12, o13, o14, none, none, none, none, none, none])) retF = _ := z
    rw [z]
    obtain ⟨k', ρ', p1, p2, p3, p4⟩ := path_at hL s t a b c misD (.list [tld (.bool (newB b a)), tld (.bool ((b - a) % 65536 == 32768)), tld (.int ((a + c) % 65536)), misD]) (k := k + 4 + 2 + 2) rfl ha hb (by omega) o9 o10 o11 o12 o13 o14
    exact ⟨k', ρ', p1, p2, by omega, by omega⟩
theorem loop_at : ∀ (n : Nat) (i k : Int) (ρ : DI.Env), 0 ≤ k → k + 200 * n < 1000000 → Sh s ρ → ∃ (k' : Int) (ρ' : DI.Env), loopM (turnF 97 CL lF) (rangeD i (i + n)) ρ (St is k) = .ok (.nx, ρ') (St is k') ∧ Sh s ρ'
  | 0, i, k, ρ, _, _, h => ⟨k, ρ, by rw [rangeD_nil _ _ (by omega)]; rfl, h⟩
  | n + 1, i, k, ρ, h0, h1, h => by
    obtain ⟨k1, ρ1, e1, s1, p1, p2⟩ := turn_at hL s (k := k) (t := i) (by omega) h
    obtain ⟨k2, ρ2, e2, s2⟩ := loop_at n (i + 1) k1 ρ1 (by omega) (by omega) s1
    refine ⟨k2, ρ2, ?_, s2⟩
    rw [rangeD_cons i _ (by omega), loop_cons, bnd_ok e1]
    have e3 : i + ((n + 1 : Nat) : Int) = i + 1 + (n : Int) := by omega
    rw [e3]
    exact e2
end
theorem pure_law (ns : List Int) : ∃ st, Z.sem ns = .ok (.bool true) st := by
  have hl := strm_len ns
  have hL : 0 < (strm ns).length ∧ (strm ns).length < 1073741824 := by omega
  have e0 : purely (m_law_stream [.list (ns.map PyData.int)]) [] = .ok (.list ((strm ns).map PyData.int)) [] := by
    have : m_law_stream [.list (ns.map PyData.int)] = DI.ret (.list ((strm ns).map PyData.int)) := by
      show (match intsOf (ns.map PyData.int) with
        | some ns => _
        | none => _) = _
      rw [ints_of]
    rw [this]
    rfl
  show ∃ st, m_law [.list (ns.map PyData.int)] [] = .ok (.bool true) st
  rw [law_raw, e0]
  show ∃ st, kSs 99 CL (d_law.body.drop 1) (le (.list (ns.map PyData.int)) [none, none, none, none, none, none, none, none, none, none, none, none, none, none, none, none, none, none, none]) outK (St (strm ns) 0) = _
  rw [law1]
  obtain ⟨k', ρ', e1, o2, o3, o4, o5, o6, o7, o8, o9, o10, o11, o12, o13, o14, rfl⟩ := loop_at hL (.list (ns.map PyData.int)) 12 0 0 (le (.list (ns.map PyData.int)) [none, none, none, none, none, none, none, none, none, none, none, none, none, none, none, none, none, none, none]) (by omega) (by omega) ⟨_, _, _, _, _, _, _, _, _, _, _, _, _, rfl⟩
  have e1 : loopM (turnF 97 CL lF) (rangeD 0 12) _ _ = _ := e1
  rw [bnd_ok e1, law2]
  exact ⟨_, rfl⟩
end K22
end
section
set_option Elab.async false
set_option linter.all false
set_option maxRecDepth 100000
set_option maxHeartbeats 0
namespace K22
open PySem DI
theorem told_sc : ToldSc Z.tsg Z.tcsc := ⟨⟨rfl, rfl, rfl, by decide +kernel, rfl, by decide +kernel, by decide +kernel⟩, by decide +kernel, by decide +kernel, by decide +kernel, by decide +kernel, by decide +kernel, by decide +kernel, by decide +kernel, by decide +kernel, by decide +kernel, .inr (.inl (by decide +kernel)), by decide +kernel⟩
theorem law_at {w : World} {K : PySem.W.Frag} {h : Heap} {mg : Str → Option Value} {fa : Addr} (KX : K.In h) (G : h.Ns mainGlobals mg) (c : He.SaysX Z.fa Z.fn [] Z.tf Z.ex w h K) (hfa : mg ("law" : Str) = some (.ref fa)) :
    LawAtG PySem.Challenge.rw_handeddown_k22_whole_numbers_that_go_rou w K (L2N.CX PySem.Challenge.rw_handeddown_k22_whole_numbers_that_go_rou.prog w) (lv Z.all) 63 "script" mg fa h :=
  row_law Z KX G c statics refs rfl rfl told_sc rfl (fun _ _ _ _ _ _ us hl => match us, hl with | [_], _ => rfl) hfa fun ns _ _ => pure_law ns
end K22
open PySem PySem.W PyProof.Rows
theorem PySem.Challenge.cw_handeddown_k22_whole_numbers_that_go_rou_holds : PySem.Challenge.rw_handeddown_k22_whole_numbers_that_go_rou.Holds := by
  w_on; o_law
  refine HandSHeadRun.head_any (r := OpenLaw.row PySem.Challenge.rw_handeddown_k22_whole_numbers_that_go_rou) (q := view (OpenLaw.row PySem.Challenge.rw_handeddown_k22_whole_numbers_that_go_rou).prog [32]) (H := K22.Z.hk 4) (ob := K22.ob) (M := 4000) (loose := K22.names) (d := HandSHeadRun.topDef (OpenLaw.row PySem.Challenge.rw_handeddown_k22_whole_numbers_that_go_rou).prog 32) (kwd := []) K22.ob_eq
    (by kernel_rfl) (fun s => by kernel_rfl) K22.run (by kernel_rfl) (by kernel_rfl) (by kernel_rfl) (by rfl) (by first | assumption | decide +kernel) (by decide +kernel) ⟨rfl, rfl, rfl, rfl, rfl, by decide +kernel⟩ ?hw ?hc
  case hw => w_witness2
  case hc =>
    refine DI.walk_G (l := PySem.Challenge.rw_handeddown_k22_whole_numbers_that_go_rou) (n := 63) (k := DI.lv K22.Z.all) (x := "script") (CX := fun w => L2N.CX PySem.Challenge.rw_handeddown_k22_whole_numbers_that_go_rou.prog w) rfl (by decide) (by kernel_rfl) ⟨rfl, by decide, by decide⟩ ?F ?X
    case X =>
      intro w H s e s' z
      obtain ⟨_, _, _, _, _, _, _, _, _, _, _, _, z⟩ := z
      exact z
    case F =>
      intro w mg fa h Y G hmg0
      obtain ⟨K, KX, c⟩ := Y
      have hmg : mg ("law" : PySem.Str) = some (.ref fa) := by
        have e : (HandSHeadRun.topDef (OpenLaw.row PySem.Challenge.rw_handeddown_k22_whole_numbers_that_go_rou).prog 32).name = ("law" : PySem.Str) := by kernel_rfl
        rw [← e]
        exact hmg0
      exact ⟨K, KX, K22.law_at KX G c hmg⟩
end
